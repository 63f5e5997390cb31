import PyProof.Rows.All
import Wide.All
import OpenK.AllK
import Wide.FinOn
import PySem.Challenge.RW_sa0549_01
open PySem PySem.W PyProof.Rows
set_option Elab.async false
set_option genSizeOfSpec false
namespace Mine
theorem dropL {p : Prop} (x : p) (_ : x = x) : p := x
section
local macro_rules | `(tactic| o_head $_) => `(tactic| skip)
set_option Elab.async true in
set_option maxRecDepth 100000 in
set_option maxHeartbeats 8000000 in
theorem hx : True := by
  refine (?f : PySem.Challenge.rw_sa0549_01.Holds → True) ?h
  case f => exact fun _ => trivial
  case h =>
    w_on
    refine holds_law ?p fun said => ?q
    case q =>
      k_head
      apply_rules (newGoals := .nonDependentOnly) (maxDepth := 1) only [dropL]
      all_goals rfl
    case p =>
      apply_rules (newGoals := .nonDependentOnly) (maxDepth := 1) only [dropL]
      all_goals rfl
end
open PySem.Calls
set_option maxRecDepth 100000
set_option maxHeartbeats 4000000
section
inductive E1 {α : Sort _} (P : α → Prop) : Prop
  | mk (a : α) (h : P a) : E1 P
inductive E2 {α : Sort _} {β : Sort _} (P : α → β → Prop) : Prop
  | mk (a : α) (b : β) (h : P a b) : E2 P
inductive E3 {α : Sort _} {β : Sort _} {γ : Sort _} (P : α → β → γ → Prop) : Prop
  | mk (a : α) (b : β) (c : γ) (h : P a b c) : E3 P
inductive E4 {α : Sort _} {β : Sort _} {γ : Sort _} {δ : Sort _} (P : α → β → γ → δ → Prop) : Prop
  | mk (a : α) (b : β) (c : γ) (d : δ) (h : P a b c d) : E4 P
inductive E5 {α : Sort _} {β : Sort _} {γ : Sort _} {δ : Sort _} {ε : Sort _} (P : α → β → γ → δ → ε → Prop) : Prop
  | mk (a : α) (b : β) (c : γ) (d : δ) (e : ε) (h : P a b c d e) : E5 P
inductive A2 (P1 P2 : Prop) : Prop
  | mk (h1 : P1) (h2 : P2) : A2 P1 P2
inductive A3 (P1 P2 P3 : Prop) : Prop
  | mk (h1 : P1) (h2 : P2) (h3 : P3) : A3 P1 P2 P3
inductive A4 (P1 P2 P3 P4 : Prop) : Prop
  | mk (h1 : P1) (h2 : P2) (h3 : P3) (h4 : P4) : A4 P1 P2 P3 P4
inductive A5 (P1 P2 P3 P4 P5 : Prop) : Prop
  | mk (h1 : P1) (h2 : P2) (h3 : P3) (h4 : P4) (h5 : P5) : A5 P1 P2 P3 P4 P5
inductive A6 (P1 P2 P3 P4 P5 P6 : Prop) : Prop
  | mk (h1 : P1) (h2 : P2) (h3 : P3) (h4 : P4) (h5 : P5) (h6 : P6) : A6 P1 P2 P3 P4 P5 P6
inductive A7 (P1 P2 P3 P4 P5 P6 P7 : Prop) : Prop
  | mk (h1 : P1) (h2 : P2) (h3 : P3) (h4 : P4) (h5 : P5) (h6 : P6) (h7 : P7) : A7 P1 P2 P3 P4 P5 P6 P7
inductive A8 (P1 P2 P3 P4 P5 P6 P7 P8 : Prop) : Prop
  | mk (h1 : P1) (h2 : P2) (h3 : P3) (h4 : P4) (h5 : P5) (h6 : P6) (h7 : P7) (h8 : P8) : A8 P1 P2 P3 P4 P5 P6 P7 P8
inductive A9 (P1 P2 P3 P4 P5 P6 P7 P8 P9 : Prop) : Prop
  | mk (h1 : P1) (h2 : P2) (h3 : P3) (h4 : P4) (h5 : P5) (h6 : P6) (h7 : P7) (h8 : P8) (h9 : P9) : A9 P1 P2 P3 P4 P5 P6 P7 P8 P9
/-- a value less its token -/
inductive PV where
  | none | bool (b : Bool) | int (i : Int) | str (s : List Nat) | bytes (b : List UInt8) | ref (a : Addr) | raw (v : Value)
noncomputable def er : Value → PV
  | .none => .none
  | .bool b => .bool b
  | .int i _ => .int i
  | .str s _ => .str s.cps.toList
  | .bytes b _ => .bytes b.toList
  | .ref a => .ref a
  | v => .raw v
theorem er_int {a : Value} {i : Int} (h : er a = .int i) : ∃ t, a = .int i t := by
  cases a <;> simp [er] at h; subst h; exact ⟨_, rfl⟩
theorem er_bool {a : Value} {b : Bool} (h : er a = .bool b) : a = .bool b := by
  cases a <;> simp [er] at h; subst h; rfl
theorem er_none {a : Value} (h : er a = .none) : a = .none := by
  cases a <;> simp [er] at h; rfl
theorem er_ref {a : Value} {r : Addr} (h : er a = .ref r) : a = .ref r := by
  cases a <;> simp [er] at h; subst h; rfl
theorem er_bytes {a : Value} {b : List UInt8} (h : er a = .bytes b) : ∃ t, a = .bytes b.toArray t := by
  cases a with
  | bytes b t => simp [er] at h; subst h; exact ⟨t, by simp⟩
  | _ => simp [er] at h
theorem er_str {a : Value} {x : List Nat} (h : er a = .str x) : ∃ t, a = .str ⟨x.toArray⟩ t := by
  cases a with
  | str s t => simp [er] at h; subst h; exact ⟨t, by simp⟩
  | _ => simp [er] at h
theorem er_raw {a v : Value} (h : er a = .raw v) : a = v := by
  cases a <;> simp [er] at h <;> exact h
theorem len1 {α : Type} {l : List α} (h : l.length = 1) : ∃ a, l = [a] := List.length_eq_one_iff.mp h
theorem len2 {α : Type} {l : List α} (h : l.length = 2) : ∃ a b, l = [a, b] := by
  obtain ⟨a, r, rfl⟩ := List.exists_cons_of_length_eq_add_one h
  obtain ⟨b, rfl⟩ := len1 (Nat.succ.inj h)
  exact ⟨a, b, rfl⟩
theorem len3 {α : Type} {l : List α} (h : l.length = 3) : (E3 fun a b d => l = [a, b, d]) := by
  obtain ⟨a, r, rfl⟩ := List.exists_cons_of_length_eq_add_one h
  obtain ⟨b, d, rfl⟩ := len2 (Nat.succ.inj h)
  exact ⟨a, b, d, rfl⟩
theorem len4 {α : Type} {l : List α} (h : l.length = 4) : (E4 fun a b d e => l = [a, b, d, e]) := by
  obtain ⟨a, r, rfl⟩ := List.exists_cons_of_length_eq_add_one h
  obtain ⟨b, d, e, rfl⟩ := len3 (Nat.succ.inj h)
  exact ⟨a, b, d, e, rfl⟩
theorem map1 {vals : List Value} {p : PV} (h : vals.map er = [p]) : ∃ v, vals = [v] ∧ er v = p := by
  obtain ⟨v, r, rfl, e, h⟩ := List.map_eq_cons_iff.mp h
  exact ⟨v, by rw [List.map_eq_nil_iff.mp h], e⟩
theorem map2 {vals : List Value} {p q : PV} (h : vals.map er = [p, q]) : (E2 fun v u => A3 (vals = [v, u]) (er v = p) (er u = q)) := by
  obtain ⟨v, r, rfl, e, h⟩ := List.map_eq_cons_iff.mp h
  obtain ⟨u, rfl, e'⟩ := map1 h
  exact ⟨v, u, rfl, e, e'⟩
theorem map3 {vals : List Value} {p q r : PV} (h : vals.map er = [p, q, r]) : (E3 fun v u t => A4 (vals = [v, u, t]) (er v = p) (er u = q) (er t = r)) := by
  obtain ⟨v, r, rfl, e, h⟩ := List.map_eq_cons_iff.mp h
  obtain ⟨u, t, rfl, e1, e2⟩ := map2 h
  exact ⟨v, u, t, rfl, e, e1, e2⟩
/-- a made object -/
inductive PO where
  | list (vs : List PV) | tuple (vs : List PV) | dict (f : Int → Option PV) (n : Nat) | range (a b c : Int) | cell (v : Option PV) | fault (t : Addr) (dx : Option Addr) | attrs (ns : List Str)
noncomputable abbrev PG : Program := PySem.Challenge.pw_sa0549_01
noncomputable abbrev MD (w : World) : Model := model PG w
noncomputable abbrev KF (w : World) : Frag := Mine.hx.heap_1_1 w.params
noncomputable def OR (w : World) (o : Obj) : PO → Prop
  | .list vs => (E2 fun xs n => A2 (o = { cls := .type "list", data := .seq xs n }) (xs.toList.map er = vs))
  | .tuple vs => (E2 fun xs n => A2 (o = { cls := .type "tuple", data := .seq xs n }) (xs.toList.map er = vs))
  | .dict f n => (E1 fun ks => A4 (o.IsDictOf (intKind PG w) ks) (o.isFreed = false) (ks.length ≤ n) (∀ k, (valueAt ks k).map er = f k))
  | .range a b c => (E3 fun t u v => o = { cls := .type "range", data := .fields #[.int a t, .int b u, .int c v] })
  | .cell v => ∃ x, o.data = .cell x ∧ x.map er = v
  | .fault t dx => o.cls = .ref 52 ∧ o.data = .fields #[.ref t, .none, .none, .none, .bool false, .none] ∧ o.dict = dx
  | .attrs ns => (E3 fun mA es ep => A5 (o.data = .dict es ep) (StrKeys es) (UniqKeys es) ((∀ name, nsFind es name = mA name)) (Within mA ns))
noncomputable abbrev Vars := List (Str × PV)
noncomputable abbrev Led := List (Addr × PO)
structure VOk (cm : Option (Str → Option Value)) (m : Str → Option Value) (vars : Vars) : Prop where
  nodup : (vars.map (·.1)).Nodup
  at_ : ∀ p ∈ vars, ∃ v, m p.1 = some v ∧ er v = p.2
  same : ∀ mm, cm = some mm → m = mm
/-- the ledger; `fr` is what lies beside it and stays -/
inductive LOk (w : World) (fr : List (Addr × Obj)) : List (Addr × Obj) → Led → Prop
  | nil : LOk w fr fr []
  | cons {a o po r r'} : (∀ q ∈ r, q.1 ≠ a) → OR w o po → LOk w fr r r' → LOk w fr ((a, o) :: r) ((a, po) :: r')
set_option genInjectivity false in
set_option genSizeOfSpec false in
structure Cx where
  w : World
  A : Around
  A₀ : Around
  cn : Str
  cs : Scope
  a : Addr
  cd : Value
  L : Addr
  outer : List Env
  base : Heap
  G₀ : Heap
  can : Bool
  s₀ : Shared
  p : Program
  loose : List Str
  mean : ExcName → Option Value
  mg : Str → Option Value
  mb : Str → Option Value
  room : Nat
  cl : List (Str × Addr)
  /-- where names are looked up: the frame's own, or a comprehension's -/
  ev : Env
  inC : Bool
  keepo : List (Addr × Obj)
  cm : Option (Str → Option Value)
  csc : Scope
  ccl : List (Str × Addr)
  cvars : Vars
noncomputable def Cx.own (c : Cx) : Env := envX c.cn c.cs c.L c.a c.cd c.cl
noncomputable def Cx.env (c : Cx) : Env := c.ev
noncomputable def Cx.fs (c : Cx) : List Addr := c.outer.filterMap (·.frame)
noncomputable abbrev Cx.M (c : Cx) : Model := MD c.w
inductive CompOk (c : Cx) : Prop
  | mk (sc : Scope) (C : Addr) (oC : Obj) (m₂ : Str → Option Value) (e1 : c.ev = compEnvC sc c.ccl C c.own) (e2 : relabel sc c.own = c.csc) (hk : sc.kind = .function) (hC : (C, oC) ∈ c.keepo) (hns : LCg.NsObj oC m₂)
    (hv : ∀ p ∈ c.cvars, ∃ v, m₂ p.1 = some v ∧ er v = p.2) : CompOk c
structure Cx.Ok (c : Cx) : Prop where
  handled : c.A.handled = none
  frames : c.A.frames = some (c.own :: c.outer)
  here : c.inC = false → c.ev = c.own ∧ c.cm = none
  comp : c.inC = true → CompOk c
  fun_ : c.cs.kind = .function
  depth : c.A.depth + c.room < recursionLimit
  units : c.A.units + 10 * c.room + 100 < cLine
  baseK : (KF c.w).In c.base
  baseT : Top c.p c.loose c.mean c.mg c.mb c.base
structure Cx.Gr (c : Cx) (h₀ : Heap) : Prop where
  below : Below c.A₀ c.base c.outer h₀
  K : (KF c.w).In h₀
  top : Top c.p c.loose c.mean c.mg c.mb h₀
  turn : if c.can then KtsTurn c.fs c.G₀ h₀ else h₀ = c.G₀
  dicts : KtsDicts c.fs h₀
noncomputable def Same (s₀ s : Shared) : Prop := s = { s₀ with heap := s.heap, toks := s.toks }
theorem Same.up {s₀ s : Shared} (h : Same s₀ s) (h' : Heap) (tk : Nat) : Same s₀ { s with heap := h', toks := tk } := by
  unfold Same at *; rw [h]
inductive St (c : Cx) (fr : List (Addr × Obj)) (vars : Vars) (led : Led) (s : Shared) : Prop
  | mk (h₀ : Heap) (m : Str → Option Value) (news : List (Addr × Obj)) (G : c.Gr h₀) (F : Fr h₀ c.L s.heap m) (N : News h₀ c.L s.heap news) (V : VOk c.cm m vars) (L : LOk c.w fr news led) (S : Same c.s₀ s) : St c fr vars led s
/-- a state that represents, with what is asked of it -/
inductive Out (c : Cx) (fr : List (Addr × Obj)) (Q : Vars → Led → Prop) (s : Shared) : Prop
  | mk (v : Vars) (l : Led) (S : St c fr v l s) (q : Q v l) : Out c fr Q s
theorem St.toks {c : Cx} {fr vars led s} (h : St c fr vars led s) (k : Nat) : St c fr vars led { s with toks := k } := by
  obtain ⟨h₀, m, news, G, F, N, V, Lk, S⟩ := h
  exact ⟨h₀, m, news, G, F, N, V, Lk, S.up _ _⟩
/-- a WordFault (address 52) on its way in this frame -/
inductive FlA (c : Cx) (h₀ : Heap) (m : Str → Option Value) (news : List (Addr × Obj)) (ea : Addr) (s : Shared) : Prop
  | mk (ca : c.can = false) (h : Heap) (oe : Obj) (t : Addr) (d : Option Addr) (vs : Array Value) (k : Nat) (F : Fr h₀ c.L h m) (N : News h₀ c.L h news)
    (r : (∀ b o, h.get? b = some o → s.heap.get? b = some o) ∧ h.get? ea = none ∧ h.get? t = none ∧
        s.heap.get? ea = some oe ∧ oe.cls = .ref 52 ∧ oe.data = .fields #[.ref t, .none, .none, .none, .bool false, .none] ∧ oe.dict = d ∧
        s.heap.get? t = some { cls := .type "tuple", data := .seq vs k }) : FlA c h₀ m news ea s
inductive FlB (c : Cx) (h₀ : Heap) (m : Str → Option Value) (news : List (Addr × Obj)) (ea : Addr) (s : Shared) : Prop
  | mk (G : Heap) (t : Addr) (vs : List Value) (F : Fr h₀ c.L G m) (R : RaisedS c.base G (c.own :: c.outer) ea (.ref 52) t vs news s.heap) (r : G.UpToSlots s.heap) : FlB c h₀ m news ea s
inductive Flies (c : Cx) (fr : List (Addr × Obj)) (e : Value) (vars : Vars) (led : Led) (s : Shared) : Prop
  | mk (h₀ : Heap) (m : Str → Option Value) (news : List (Addr × Obj)) (ea : Addr) (he : e = .ref ea) (G : c.Gr h₀) (V : VOk c.cm m vars) (L : LOk c.w fr news led) (S : Same c.s₀ s)
    (h : FlA c h₀ m news ea s ∨ FlB c h₀ m news ea s) : Flies c fr e vars led s
noncomputable def Pas (c : Cx) (fr : List (Addr × Obj)) (E : Value → Shared → Prop) : Prop := (∀ q ∈ c.keepo, q ∈ fr) ∧ (c.inC = false → PassesOwn c.M c.A c.env E)
noncomputable def W {α : Type} (c : Cx) (t : Sem α) (Q : α → Vars → Led → Prop) (X : Vars → Led → Prop) (vars : Vars) (led : Led) : Prop :=
  c.Ok → ∀ fr E, Pas c fr E → (∀ e v l s', Flies c fr e v l s' → X v l → E e s') →
    ∀ s, St c fr vars led s → wpAny c.M c.A t (fun a s' => Out c fr (Q a) s') E s
section
variable {α β : Type} {c : Cx} {X : Vars → Led → Prop} {vars : Vars} {led : Led}
theorem W_mono {t : Sem α} {Q Q' : α → Vars → Led → Prop} (h : W c t Q X vars led) (hq : ∀ a v l, Q a v l → Q' a v l) : W c t Q' X vars led :=
  fun ok fr E hP hE s hs => wpAny_mono (h ok fr E hP hE s hs) (fun a s' ⟨v, l, x, y⟩ => ⟨v, l, x, hq _ _ _ y⟩) fun _ _ x => x
theorem W_monoX {t : Sem α} {Q : α → Vars → Led → Prop} {X' : Vars → Led → Prop} (h : W c t Q X' vars led) (hx : ∀ v l, X' v l → X v l) : W c t Q X vars led :=
  fun ok fr E hP hE s hs => h ok fr E hP (fun e v l s' f x => hE e v l s' f (hx _ _ x)) s hs
theorem VOk.sub {cm} {m : Str → Option Value} {vars vars' : Vars} (h : VOk cm m vars) (hs : ∀ p ∈ vars', p ∈ vars) (hn : (vars.map (·.1)).Nodup → (vars'.map (·.1)).Nodup) : VOk cm m vars' := ⟨hn h.1, fun p hp => h.2 p (hs p hp), h.3⟩
theorem LOk.mem {w : World} {fr news : List (Addr × Obj)} {led : Led} (h : LOk w fr news led) : ∀ {a po}, (a, po) ∈ led → ∃ o, (a, o) ∈ news ∧ OR w o po := by
  induction h with
  | nil => intro a po hm; cases hm
  | cons _ ho _ ih =>
    intro a po hm
    cases hm with
    | head => exact ⟨_, .head _, ho⟩
    | tail _ hm => obtain ⟨o, h1, h2⟩ := ih hm; exact ⟨o, .tail _ h1, h2⟩
theorem LOk.fr {w : World} {fr news : List (Addr × Obj)} {led : Led} (h : LOk w fr news led) : ∀ q ∈ fr, q ∈ news := by
  induction h with
  | nil => exact fun _ h => h
  | cons _ _ _ ih => exact fun q hq => .tail _ (ih q hq)
theorem LOk.addr {w : World} {fr news : List (Addr × Obj)} {led : Led} (h : LOk w fr news led) : news.map (·.1) = led.map (·.1) ++ fr.map (·.1) := by
  induction h with
  | nil => rfl
  | cons _ _ _ ih => simp [ih]
theorem LOk.off {w : World} {fr news : List (Addr × Obj)} {led : Led} (h : LOk w fr news led) : ∀ p ∈ led, ∀ q ∈ fr, q.1 ≠ p.1 := by
  induction h with
  | nil => intro p hp; cases hp
  | cons hn _ hr ih =>
    intro p hp q hq
    rcases List.mem_cons.mp hp with rfl | hp
    · exact hn q (hr.fr q hq)
    · exact ih p hp q hq
/-- any part of a ledger, in any order, each address once -/
theorem LOk.part {w : World} {fr news : List (Addr × Obj)} {led : Led} (h : LOk w fr news led) :
    ∀ {led' : Led}, (∀ p ∈ led', p ∈ led) → (led'.map (·.1)).Nodup → ∃ news', (∀ p ∈ news', p ∈ news) ∧ LOk w fr news' led'
  | [], _, _ => ⟨fr, h.fr, .nil⟩
  | (a, po) :: r, hs, hn => by
    have hn' := List.nodup_cons.mp (by simpa using hn : (a :: r.map (·.1)).Nodup)
    obtain ⟨o, ho, hr⟩ := h.mem (hs _ (.head _))
    obtain ⟨nr, h1, h2⟩ := h.part (led' := r) (fun p hp => hs p (.tail _ hp)) hn'.2
    refine ⟨(a, o) :: nr, ?_, .cons ?_ hr h2⟩
    · intro p hp
      rcases List.mem_cons.mp hp with rfl | hp
      · exact ho
      · exact h1 p hp
    · intro q hq e
      have hm : q.1 ∈ nr.map (·.1) := List.mem_map_of_mem hq
      rw [h2.addr, List.mem_append] at hm
      rcases hm with hm | hm
      · exact hn'.1 (e ▸ hm)
      · obtain ⟨z, hz, e'⟩ := List.mem_map.mp hm
        exact h.off _ (hs _ (.head _)) z hz (e'.trans e)
theorem LOk.nodup {w : World} {fr news : List (Addr × Obj)} {led : Led} (h : LOk w fr news led) : (led.map (·.1)).Nodup := by
  induction h with
  | nil => exact .nil
  | cons hn _ hr ih =>
    refine List.nodup_cons.mpr ⟨fun hm => ?_, ih⟩
    have hm' := List.mem_append_left (fr.map (·.1)) hm
    rw [← hr.addr] at hm'
    obtain ⟨q, hq, e⟩ := List.mem_map.mp hm'
    exact hn q hq e
theorem St.weak {vars' : Vars} {led' : Led} {s : Shared} (h : St c fr vars led s) (hv : ∀ p ∈ vars', p ∈ vars) (hvn : (vars.map (·.1)).Nodup → (vars'.map (·.1)).Nodup) (hl : ∀ p ∈ led', p ∈ led) (hn : (led.map (·.1)).Nodup → (led'.map (·.1)).Nodup) : St c fr vars' led' s := by
  obtain ⟨h₀, m, news, G, F, N, V, Lk, S⟩ := h
  obtain ⟨news', h1, h2⟩ := Lk.part hl (hn Lk.nodup)
  exact ⟨h₀, m, news', G, F, fun p hp => N p (h1 p hp), V.sub hv hvn, h2, S⟩
theorem W_weak {vars' : Vars} {led' : Led} {t : Sem α} {Q : α → Vars → Led → Prop} (hv : ∀ p ∈ vars', p ∈ vars) (hvn : (vars.map (·.1)).Nodup → (vars'.map (·.1)).Nodup) (hl : ∀ p ∈ led', p ∈ led) (hn : (led.map (·.1)).Nodup → (led'.map (·.1)).Nodup)
    (h : W c t Q X vars' led') : W c t Q X vars led := fun ok fr E hP hE s hs => h ok fr E hP hE s (hs.weak hv hvn hl hn)
end
/-! expressions -/
noncomputable def WV (c : Cx) (t : Sem Value) (Q : PV → Led → Prop) (X : Vars → Led → Prop) (vars : Vars) (led : Led) : Prop :=
  W c t (fun a v l => v = vars ∧ Q (er a) l) X vars led
noncomputable def WE (c : Cx) (e : Expr) (Q : PV → Led → Prop) (X : Vars → Led → Prop) (vars : Vars) (led : Led) : Prop := WV c (eval e c.env) Q X vars led
noncomputable def WT (c : Cx) (e : Expr) (Q : Bool → Led → Prop) (X : Vars → Led → Prop) (vars : Vars) (led : Led) : Prop :=
  W c (isTrue e c.env (eval e c.env)) (fun b v l => v = vars ∧ Q b l) X vars led
noncomputable def WTr (c : Cx) (p : PV) (Q : Bool → Led → Prop) (X : Vars → Led → Prop) (vars : Vars) (led : Led) : Prop :=
  ∀ v, er v = p → W c (truthy v) (fun b v l => v = vars ∧ Q b l) X vars led
noncomputable def WBin (c : Cx) (op : Operator) (p q : PV) (Q : PV → Led → Prop) (X : Vars → Led → Prop) (vars : Vars) (led : Led) : Prop :=
  ∀ a b, er a = p → er b = q → WV c (binaryOp op a b) Q X vars led
noncomputable def WCmp (c : Cx) (op : CmpOp) (p q : PV) (Q : PV → Led → Prop) (X : Vars → Led → Prop) (vars : Vars) (led : Led) : Prop :=
  ∀ a b, er a = p → er b = q → WV c (compareOp op a b) Q X vars led
/-! what is left to do, named, so that no binder stands above the rest -/
noncomputable abbrev KT (c : Cx) (B : Bool → Led → Prop) (X : Vars → Led → Prop) (vars : Vars) : PV → Led → Prop := fun v l => WTr c v B X vars l
noncomputable abbrev KB2 (op : Operator) (c : Cx) (a : PV) (Q : PV → Led → Prop) (X : Vars → Led → Prop) (vars : Vars) : PV → Led → Prop := fun b l => WBin c op a b Q X vars l
noncomputable abbrev KB1 (r : Expr) (op : Operator) (c : Cx) (Q : PV → Led → Prop) (X : Vars → Led → Prop) (vars : Vars) : PV → Led → Prop := fun a l => WE c r (KB2 op c a Q X vars) X vars l
noncomputable abbrev KC2 (op : CmpOp) (c : Cx) (a : PV) (Q : PV → Led → Prop) (X : Vars → Led → Prop) (vars : Vars) : PV → Led → Prop := fun b l => WCmp c op a b Q X vars l
noncomputable abbrev KC1 (r : Expr) (op : CmpOp) (c : Cx) (Q : PV → Led → Prop) (X : Vars → Led → Prop) (vars : Vars) : PV → Led → Prop := fun a l => WE c r (KC2 op c a Q X vars) X vars l
noncomputable abbrev KNm (f : PV) (led : Led) : PV → Led → Prop := fun p l => p = f ∧ l = led
/-- a rule whose tree only moves the tokens -/
theorem St.only {c : Cx} {fr vars led s} (h : St c fr vars led s) {Q : PV → Led → Prop} {v : Value} (k : Nat) (q : Q (er v) led) :
    Out c fr (fun v' l => v' = vars ∧ Q (er v) l) { s with toks := k } := ⟨vars, led, h.toks k, rfl, q⟩
theorem St.same {c : Cx} {fr vars led s} (h : St c fr vars led s) {Q : PV → Led → Prop} {v : Value} (q : Q (er v) led) :
    Out c fr (fun v' l => v' = vars ∧ Q (er v) l) s := ⟨vars, led, h, rfl, q⟩
section
variable {c : Cx} {X : Vars → Led → Prop} {vars : Vars} {led : Led} {Q : PV → Led → Prop}
theorem E_int {i : Int} {k pos} (h : Q (.int i) led) : WE c (.Constant (.int i) k pos) Q X vars led :=
  fun _ _ _ _ _ _ hs => wpAny_Constant_int (hs.only _ h)
theorem E_str {x : Str} {k pos} (h : Q (.str x.cps.toList) led) : WE c (.Constant (.str x) k pos) Q X vars led :=
  fun _ _ _ _ _ _ hs => Constant_str (hs.only _ h)
theorem E_bytes {x : List UInt8} {k pos} (h : Q (.bytes x) led) : WE c (.Constant (.bytes x) k pos) Q X vars led :=
  fun _ _ _ _ _ s hs => fun _ _ _ => hs.only (v := .bytes x.toArray s.toks) _ (by simpa [er] using h)
theorem E_bool {b : Bool} {k pos} (h : Q (.bool b) led) : WE c (.Constant (.bool b) k pos) Q X vars led :=
  fun _ _ _ _ _ _ hs => Constant_bool (hs.same h)
/-- a local name -/
theorem E_loc {x : Str} {pos : Pos} {v : PV} (hi : c.inC = false) (hm : (x, v) ∈ vars) (h : Q v led) (hx : c.cs.names.lookup x = some .local) (hd : (x == ("__debug__" : Str)) = false) :
    WE c (.Name x pos) Q X vars led := by
  intro ok fr E _ _ s hs
  obtain ⟨h₀, m, news, G, F, N, V, Lk, S⟩ := id hs
  obtain ⟨u, hu, rfl⟩ := V.2 _ hm
  show wpAny _ _ (eval _ c.ev) _ _ _
  rw [(ok.here hi).1]
  exact nameX_L F hu (hs.same h) ok.fun_ hx hd
/-- a variable that lies in a cell -/
theorem E_cell {x : Str} {pos : Pos} {a : Addr} {v : PV} (hi : c.inC = false) (ha : c.cl.lookup x = some a) (hm : (a, .cell (some v)) ∈ led) (h : Q v led) (hx : c.cs.names.lookup x = some .cell) (hd : (x == ("__debug__" : Str)) = false) :
    WE c (.Name x pos) Q X vars led := by
  intro ok fr E _ _ s hs
  obtain ⟨h₀, m, news, G, F, N, V, Lk, S⟩ := id hs
  obtain ⟨o, ho, y, hy, e⟩ := Lk.mem hm
  cases y with
  | none => cases e
  | some u =>
    obtain rfl : er u = v := Option.some.inj e
    show wpAny _ _ (eval _ c.ev) _ _ _
    rw [(ok.here hi).1]
    exact nameX_C N ha ho hy (hs.same h) ok.fun_ hx hd
/-- a name of the top -/
theorem E_top {x : Str} {pos : Pos} {v : Value} (hi : c.inC = false) (h : Q (er v) led) (e : ∀ w, nsIn (KF w) mainGlobals x = some (some v)) (hx : c.cs.names.lookup x = some .globalImplicit) (hd : (x == ("__debug__" : Str)) = false) :
    WE c (.Name x pos) Q X vars led := by
  intro ok fr E _ _ s hs
  obtain ⟨h₀, m, news, G, F, N, V, Lk, S⟩ := id hs
  show wpAny _ _ (eval _ c.ev) _ _ _
  rw [(ok.here hi).1]
  exact nameX_K F G.K (topRead_of G.top) (e _) (hs.same h) ok.fun_ hx hd
/-- a built-in name -/
theorem E_blt {x : Str} {pos : Pos} {v : Value} (hi : c.inC = false) (hx : c.cs.names.lookup x = some .globalImplicit) (h : Q (er v) led) (e : ∀ w, nsIn (KF w) mainGlobals x = some none) (hv : bootBuiltins x = some v) (hn : x ≠ "__name__") (hd : (x == ("__debug__" : Str)) = false) :
    WE c (.Name x pos) Q X vars led := by
  intro ok fr E _ _ s hs
  obtain ⟨h₀, m, news, G, F, N, V, Lk, S⟩ := id hs
  show wpAny _ _ (eval _ c.ev) _ _ _
  rw [(ok.here hi).1]
  exact nameX_B F G.K (topRead_of G.top) (e _) hv hn (hs.same h) ok.fun_ hx hd
/-! names within a comprehension -/
theorem C_var {x : Str} {pos : Pos} {v : PV} (hi : c.inC = true) (hm : (x, v) ∈ c.cvars) (h : Q v led) (hx : c.csc.names.lookup x = some .local) (hd : (x == ("__debug__" : Str)) = false) : WE c (.Name x pos) Q X vars led := by
  intro ok fr E hP _ s hs
  obtain ⟨h₀, m, news, G, F, N, V, Lk, S⟩ := id hs
  obtain ⟨sc, C, oC, m₂, e1, e2, hk, hC, hns, hv⟩ := ok.comp hi
  obtain ⟨u, hu, rfl⟩ := hv _ hm
  show wpAny _ _ (eval _ c.ev) _ _ _
  rw [e1]
  exact ldVarK (hns.ns (N _ (Lk.fr _ (hP.1 _ hC))).1) hu (hs.same h) (by show (relabel sc c.own).kind = _; exact hk) (by show (relabel sc c.own).names.lookup x = _; rw [e2]; exact hx) hd
theorem C_free {x : Str} {pos : Pos} {a : Addr} {v : PV} (hi : c.inC = true) (ha : c.ccl.lookup x = some a) (hm : (a, .cell (some v)) ∈ led) (h : Q v led) (hx : c.csc.names.lookup x = some .cell) (hd : (x == ("__debug__" : Str)) = false) : WE c (.Name x pos) Q X vars led := by
  intro ok fr E hP _ s hs
  obtain ⟨h₀, m, news, G, F, N, V, Lk, S⟩ := id hs
  obtain ⟨sc, C, oC, m₂, e1, e2, hk, hC, hns, hv⟩ := ok.comp hi
  obtain ⟨o, ho, y, hy, e⟩ := Lk.mem hm
  cases y with
  | none => cases e
  | some u =>
    obtain rfl : er u = v := Option.some.inj e
    show wpAny _ _ (eval _ c.ev) _ _ _
    rw [e1]
    exact lcf_cell N ha ho hy (hs.same h) (by show (relabel sc c.own).kind = _; exact hk) (by show (relabel sc c.own).names.lookup x = _; rw [e2]; exact hx) hd
theorem C_top {x : Str} {pos : Pos} {v : Value} (hi : c.inC = true) (h : Q (er v) led) (e : ∀ w, nsIn (KF w) mainGlobals x = some (some v)) (hx : c.csc.names.lookup x = some .globalImplicit) (hd : (x == ("__debug__" : Str)) = false) : WE c (.Name x pos) Q X vars led := by
  intro ok fr E hP _ s hs
  obtain ⟨h₀, m, news, G, F, N, V, Lk, S⟩ := id hs
  obtain ⟨sc, C, oC, m₂, e1, e2, hk, hC, hns, hv⟩ := ok.comp hi
  show wpAny _ _ (eval _ c.ev) _ _ _
  rw [e1]
  have T := topRead_of G.top
  exact Name_function_global (by show (relabel sc c.own).kind = _; exact hk) (by show (relabel sc c.own).names.lookup x = _; rw [e2]; exact hx) (loadGlobal_global (env := compEnvC sc c.ccl C c.own) (T.g.keeps F.keep) (mg_of G.K T.g (e _)) (hs.same h)) hd
theorem C_blt {x : Str} {pos : Pos} {v : Value} (hi : c.inC = true) (hx : c.csc.names.lookup x = some .globalImplicit) (h : Q (er v) led) (e : ∀ w, nsIn (KF w) mainGlobals x = some none) (hv : bootBuiltins x = some v) (hn : x ≠ "__name__") (hd : (x == ("__debug__" : Str)) = false) :
    WE c (.Name x pos) Q X vars led := by
  intro ok fr E _ _ s hs
  obtain ⟨h₀, m, news, G, F, N, V, Lk, S⟩ := id hs
  obtain ⟨sc, C, oC, m₂, e1, e2, hk, hC, hns, _⟩ := ok.comp hi
  show wpAny _ _ (eval _ c.ev) _ _ _
  rw [e1]
  have T := topRead_of G.top
  exact Name_function_global (by show (relabel sc c.own).kind = _; exact hk) (by show (relabel sc c.own).names.lookup x = _; rw [e2]; exact hx) (loadGlobal_builtin (env := compEnvC sc c.ccl C c.own) (T.g.keeps F.keep) (mg_none_of G.K T.g (e _)) (T.b.keeps F.keep) ((T.builtins x hn).trans hv) (hs.same h)) hd
theorem E_bin {l r : Expr} {op : Operator} {pos} (h : WE c l (KB1 r op c Q X vars) X vars led) : WE c (.BinOp l op r pos) Q X vars led := by
  intro ok fr E hP hE s hs
  refine wpAny_BinOp (wpAny_mono (h ok fr E hP hE s hs) ?_ fun _ _ x => x)
  rintro a s₁ ⟨_, l₁, S₁, rfl, h₁⟩
  refine wpAny_mono (h₁ ok fr E hP hE s₁ S₁) ?_ fun _ _ x => x
  rintro b s₂ ⟨_, l₂, S₂, e, h₂⟩
  subst e
  exact h₂ a b rfl rfl ok fr E hP hE s₂ S₂
end
end
section
/-! operators -/
section
variable {c : Cx} {X : Vars → Led → Prop} {vars : Vars} {led : Led} {Q : PV → Led → Prop}
theorem B_add {x y : Int} (h : Q (.int (x + y)) led) : WBin c .Add (.int x) (.int y) Q X vars led := by
  intro a b ha hb ok fr E hP hE s hs
  obtain ⟨t, rfl⟩ := er_int ha; obtain ⟨u, rfl⟩ := er_int hb
  exact PyProof.Rows.add_int (hs.only _ h)
theorem B_sub {x y : Int} (h : Q (.int (x - y)) led) : WBin c .Sub (.int x) (.int y) Q X vars led := by
  intro a b ha hb ok fr E hP hE s hs
  obtain ⟨t, rfl⟩ := er_int ha; obtain ⟨u, rfl⟩ := er_int hb
  exact PyProof.Rows.sub_int (hs.only _ h)
theorem B_mul {x y : Int} (h : Q (.int (x * y)) led) (hm : IntMulOk x y) : WBin c .Mult (.int x) (.int y) Q X vars led := by
  intro a b ha hb ok fr E hP hE s hs
  obtain ⟨t, rfl⟩ := er_int ha; obtain ⟨u, rfl⟩ := er_int hb
  exact PyProof.Rows.mul_int (hs.only _ h) hm
theorem B_mod {x y : Int} (h : Q (.int (x.fmod y)) led) (hy : y ≠ 0) : WBin c .Mod (.int x) (.int y) Q X vars led := by
  intro a b ha hb ok fr E hP hE s hs
  obtain ⟨t, rfl⟩ := er_int ha; obtain ⟨u, rfl⟩ := er_int hb
  exact PyProof.Rows.mod_int' hy (hs.only _ h)
theorem B_div {x y : Int} (h : Q (.int (x.fdiv y)) led) (hy : y ≠ 0) (hs : y.natAbs < 1073741824) : WBin c .FloorDiv (.int x) (.int y) Q X vars led := by
  intro a b ha hb ok fr E hP hE s hst
  obtain ⟨t, rfl⟩ := er_int ha; obtain ⟨u, rfl⟩ := er_int hb
  exact PyProof.Rows.floordiv_int hy (hst.only _ h) (.inl (PyProof.noPylong_small hs))
theorem B_pow {x y : Int} (h : Q (.int (x ^ y.toNat)) led) (hy : 0 ≤ y) (hsz : (Builtin.Int.intBits x : Int) * y ≤ 2 ^ 27) : WBin c .Pow (.int x) (.int y) Q X vars led := by
  intro a b ha hb ok fr E hP hE s hs
  obtain ⟨t, rfl⟩ := er_int ha; obtain ⟨u, rfl⟩ := er_int hb
  exact PyProof.Rows.pow_int hy hsz (hs.only _ h)
theorem B_addB {x y : List UInt8} (h : Q (.bytes (x ++ y)) led) (hz : x.length + y.length ≤ 16777216) : WBin c .Add (.bytes x) (.bytes y) Q X vars led := by
  intro a b ha hb ok fr E hP hE s hs
  obtain ⟨t, rfl⟩ := er_bytes ha; obtain ⟨u, rfl⟩ := er_bytes hb
  refine KBy.add_bytes (by simpa using hz) fun t' k => hs.only (v := .bytes _ t') k ?_
  simpa [er] using h
theorem B_addS {x y : List Nat} (h : Q (.str (x ++ y)) led) (hz : x.length + y.length ≤ 16777216) : WBin c .Add (.str x) (.str y) Q X vars led := by
  intro a b ha hb ok fr E hP hE s hs
  obtain ⟨t, rfl⟩ := er_str ha; obtain ⟨u, rfl⟩ := er_str hb
  refine PyProof.Rows.add_str (fun t' k => hs.only (v := .str _ t') k ?_) ?_
  · have e : ((⟨x.toArray⟩ : Str) ++ ⟨y.toArray⟩).cps.toList = x ++ y := by rw [Str.cps_append]; simp
    simpa [er, e] using h
  · rw [sizeLine_eq]; simpa [Str.length] using hz
theorem E_neg {e : Expr} {pos} (h : WE c e (fun p l => ∃ i, p = .int i ∧ Q (.int (-i)) l) X vars led) : WE c (.UnaryOp .USub e pos) Q X vars led := by
  intro ok fr E hP hE s hs
  refine UnaryOp_ (wpAny_mono (h ok fr E hP hE s hs) ?_ fun _ _ x => x)
  rintro a s₁ ⟨_, l₁, S₁, rfl, i, hi, h₁⟩
  obtain ⟨t, rfl⟩ := er_int hi
  exact PyProof.Rows.neg_int (S₁.only _ h₁)
/-! comparisons -/
theorem C_lt {x y : Int} (h : Q (.bool (decide (x < y))) led) : WCmp c .Lt (.int x) (.int y) Q X vars led := by
  intro a b ha hb ok fr E hP hE s hs
  obtain ⟨t, rfl⟩ := er_int ha; obtain ⟨u, rfl⟩ := er_int hb
  exact PyProof.Rows.lt_int (hs.same h)
theorem C_le {x y : Int} (h : Q (.bool (decide (x ≤ y))) led) : WCmp c .LtE (.int x) (.int y) Q X vars led := by
  intro a b ha hb ok fr E hP hE s hs
  obtain ⟨t, rfl⟩ := er_int ha; obtain ⟨u, rfl⟩ := er_int hb
  exact PyProof.Rows.le_int (hs.same h)
theorem C_gt {x y : Int} (h : Q (.bool (decide (y < x))) led) : WCmp c .Gt (.int x) (.int y) Q X vars led := by
  intro a b ha hb ok fr E hP hE s hs
  obtain ⟨t, rfl⟩ := er_int ha; obtain ⟨u, rfl⟩ := er_int hb
  exact PyProof.Rows.gt_int (hs.same h)
theorem C_ge {x y : Int} (h : Q (.bool (decide (y ≤ x))) led) : WCmp c .GtE (.int x) (.int y) Q X vars led := by
  intro a b ha hb ok fr E hP hE s hs
  obtain ⟨t, rfl⟩ := er_int ha; obtain ⟨u, rfl⟩ := er_int hb
  exact PyProof.Rows.ge_int (hs.same h)
theorem C_eq {x y : Int} (h : Q (.bool (decide (x = y))) led) : WCmp c .Eq (.int x) (.int y) Q X vars led := by
  intro a b ha hb ok fr E hP hE s hs
  obtain ⟨t, rfl⟩ := er_int ha; obtain ⟨u, rfl⟩ := er_int hb
  exact PyProof.Rows.eq_int (hs.same (v := .bool (x == y)) (by rw [show (x == y) = decide (x = y) by by_cases q : x = y <;> simp [q]]; exact h))
theorem C_ne {x y : Int} (h : Q (.bool (decide (x ≠ y))) led) : WCmp c .NotEq (.int x) (.int y) Q X vars led := by
  intro a b ha hb ok fr E hP hE s hs
  obtain ⟨t, rfl⟩ := er_int ha; obtain ⟨u, rfl⟩ := er_int hb
  exact PyProof.Rows.ne_int (hs.same (v := .bool (x != y)) (by rw [show (x != y) = decide (x ≠ y) by by_cases q : x = y <;> simp [q]]; exact h))
theorem C_eqB {x y : List UInt8} (h : Q (.bool (decide (x = y))) led) : WCmp c .Eq (.bytes x) (.bytes y) Q X vars led := by
  intro a b ha hb ok fr E hP hE s hs
  obtain ⟨t, rfl⟩ := er_bytes ha; obtain ⟨u, rfl⟩ := er_bytes hb
  exact eq_bytes (hs.same (v := .bool _) (by rw [show (x.toArray.toList == y.toArray.toList) = decide (x = y) by by_cases q : x = y <;> simp [q]]; exact h))
theorem C_neB {x y : List UInt8} (h : Q (.bool (decide (x ≠ y))) led) : WCmp c .NotEq (.bytes x) (.bytes y) Q X vars led := by
  intro a b ha hb ok fr E hP hE s hs
  obtain ⟨t, rfl⟩ := er_bytes ha; obtain ⟨u, rfl⟩ := er_bytes hb
  exact ne_bytes (hs.same (v := .bool _) (by rw [show (x.toArray.toList != y.toArray.toList) = decide (x ≠ y) by by_cases q : x = y <;> simp [q]]; exact h))
theorem C_eqS {x y : List Nat} (h : Q (.bool (decide (x = y))) led) : WCmp c .Eq (.str x) (.str y) Q X vars led := by
  intro a b ha hb ok fr E hP hE s hs
  obtain ⟨t, rfl⟩ := er_str ha; obtain ⟨u, rfl⟩ := er_str hb
  exact P.eq_str (hs.same (v := .bool _) (by rw [show (x.toArray.toList == y.toArray.toList) = decide (x = y) by by_cases q : x = y <;> simp [q]]; exact h))
theorem C_neS {x y : List Nat} (h : Q (.bool (decide (x ≠ y))) led) : WCmp c .NotEq (.str x) (.str y) Q X vars led := by
  intro a b ha hb ok fr E hP hE s hs
  obtain ⟨t, rfl⟩ := er_str ha; obtain ⟨u, rfl⟩ := er_str hb
  exact P.ne_str (hs.same (v := .bool _) (by rw [show (x.toArray.toList != y.toArray.toList) = decide (x ≠ y) by by_cases q : x = y <;> simp [q]]; exact h))
end
end
section
section
variable {c : Cx} {X : Vars → Led → Prop} {vars : Vars} {led : Led} {Q : PV → Led → Prop} {B : Bool → Led → Prop}
/-! truth -/
theorem Tr_bool {b : Bool} (h : B b led) : WTr c (.bool b) B X vars led := by
  intro v hv ok fr E hP hE s hs
  obtain rfl := er_bool hv
  exact wpAny_truthy_bool ⟨_, _, hs, rfl, h⟩
theorem Tr_int {i : Int} (h : B (decide (i ≠ 0)) led) : WTr c (.int i) B X vars led := by
  intro v hv ok fr E hP hE s hs
  obtain ⟨t, rfl⟩ := er_int hv
  exact PyProof.Rows.truthy_int ⟨_, _, hs, rfl, by rw [show (i != 0) = decide (i ≠ 0) by by_cases q : i = 0 <;> simp [q]]; exact h⟩
noncomputable abbrev KTc4 (r₂ : Expr) (op₂ : CmpOp) (c : Cx) (b : PV) (B : Bool → Led → Prop) (X : Vars → Led → Prop) (vars : Vars) : Bool → Led → Prop := fun t l => if t then WE c r₂ (KC2 op₂ c b (KT c B X vars) X vars) X vars l else B false l
noncomputable abbrev KTc3 (r₂ : Expr) (op₂ : CmpOp) (c : Cx) (b : PV) (B : Bool → Led → Prop) (X : Vars → Led → Prop) (vars : Vars) : PV → Led → Prop := fun v l => WTr c v (KTc4 r₂ op₂ c b B X vars) X vars l
noncomputable abbrev KTc2 (r₂ : Expr) (op₁ : CmpOp) (op₂ : CmpOp) (c : Cx) (a : PV) (B : Bool → Led → Prop) (X : Vars → Led → Prop) (vars : Vars) : PV → Led → Prop := fun b l => WCmp c op₁ a b (KTc3 r₂ op₂ c b B X vars) X vars l
noncomputable abbrev KTc1 (r₁ : Expr) (r₂ : Expr) (op₁ : CmpOp) (op₂ : CmpOp) (c : Cx) (B : Bool → Led → Prop) (X : Vars → Led → Prop) (vars : Vars) : PV → Led → Prop := fun a l => WE c r₁ (KTc2 r₂ op₁ op₂ c a B X vars) X vars l
noncomputable abbrev KEc4 (r₂ : Expr) (op₂ : CmpOp) (c : Cx) (b : PV) (v : PV) (Q : PV → Led → Prop) (X : Vars → Led → Prop) (vars : Vars) : Bool → Led → Prop := fun t l => if t then WE c r₂ (KC2 op₂ c b Q X vars) X vars l else Q v l
noncomputable abbrev KEc3 (r₂ : Expr) (op₂ : CmpOp) (c : Cx) (b : PV) (Q : PV → Led → Prop) (X : Vars → Led → Prop) (vars : Vars) : PV → Led → Prop := fun v l => WTr c v (KEc4 r₂ op₂ c b v Q X vars) X vars l
noncomputable abbrev KEc2 (r₂ : Expr) (op₁ : CmpOp) (op₂ : CmpOp) (c : Cx) (a : PV) (Q : PV → Led → Prop) (X : Vars → Led → Prop) (vars : Vars) : PV → Led → Prop := fun b l => WCmp c op₁ a b (KEc3 r₂ op₂ c b Q X vars) X vars l
noncomputable abbrev KEc1 (r₁ : Expr) (r₂ : Expr) (op₁ : CmpOp) (op₂ : CmpOp) (c : Cx) (Q : PV → Led → Prop) (X : Vars → Led → Prop) (vars : Vars) : PV → Led → Prop := fun a l => WE c r₁ (KEc2 r₂ op₁ op₂ c a Q X vars) X vars l
noncomputable abbrev KNot (B : Bool → Led → Prop) : Bool → Led → Prop := fun b l => B (!b) l
theorem E_cmp {l r : Expr} {op : CmpOp} {pos} (h : WE c l (KC1 r op c Q X vars) X vars led) (hm : behindInMarks op r = false) : WE c (.Compare l [op] [r] pos) Q X vars led := by
  intro ok fr E hP hE s hs
  refine wpAny_Compare1 (wpAny_mono (h ok fr E hP hE s hs) ?_ fun _ _ x => x) hm
  rintro a s₁ ⟨_, l₁, S₁, rfl, h₁⟩
  refine wpAny_mono (h₁ ok fr E hP hE s₁ S₁) ?_ fun _ _ x => x
  rintro b s₂ ⟨_, l₂, S₂, e, h₂⟩
  subst e
  exact h₂ a b rfl rfl ok fr E hP hE s₂ S₂
theorem T_cmp {l r : Expr} {op : CmpOp} {pos} (h : WE c l (KC1 r op c (KT c B X vars) X vars) X vars led) (hm : behindInMarks op r = false) : WT c (.Compare l [op] [r] pos) B X vars led := by
  intro ok fr E hP hE s hs
  refine wpAny_isTrue_Compare1 (wpAny_mono (h ok fr E hP hE s hs) ?_ fun _ _ x => x) hm
  rintro a s₁ ⟨_, l₁, S₁, rfl, h₁⟩
  refine wpAny_mono (h₁ ok fr E hP hE s₁ S₁) ?_ fun _ _ x => x
  rintro b s₂ ⟨_, l₂, S₂, e, h₂⟩
  subst e
  refine wpAny_mono (h₂ a b rfl rfl ok fr E hP hE s₂ S₂) ?_ fun _ _ x => x
  rintro v s₃ ⟨_, l₃, S₃, e, h₃⟩
  subst e
  exact h₃ v rfl ok fr E hP hE s₃ S₃
/-- a chain of two -/
theorem T_chain {l r₁ r₂ : Expr} {op₁ op₂ : CmpOp} {pos}
    (h : WE c l (KTc1 r₁ r₂ op₁ op₂ c B X vars) X vars led)
    (hm : lastMarks [op₁, op₂] [r₁, r₂] = false) : WT c (.Compare l [op₁, op₂] [r₁, r₂] pos) B X vars led := by
  intro ok fr E hP hE s hs
  refine isTrue_chain (wpAny_mono (h ok fr E hP hE s hs) ?_ fun _ _ x => x) hm
  rintro a s₁ ⟨_, l₁, S₁, rfl, h₁⟩
  refine test_link (wpAny_mono (h₁ ok fr E hP hE s₁ S₁) ?_ fun _ _ x => x)
  rintro b s₂ ⟨_, l₂, S₂, e, h₂⟩
  subst e
  refine wpAny_mono (h₂ a b rfl rfl ok fr E hP hE s₂ S₂) ?_ fun _ _ x => x
  rintro v s₃ ⟨_, l₃, S₃, e, h₃⟩
  subst e
  refine wpAny_mono (h₃ v rfl ok fr E hP hE s₃ S₃) ?_ fun _ _ x => x
  rintro t s₄ ⟨_, l₄, S₄, e, h₄⟩
  subst e
  cases t with
  | false => exact ⟨_, _, S₄, rfl, h₄⟩
  | true =>
    refine test_last (wpAny_mono (h₄ ok fr E hP hE s₄ S₄) ?_ fun _ _ x => x)
    rintro d s₅ ⟨_, l₅, S₅, e, h₅⟩
    subst e
    refine wpAny_mono (h₅ b d rfl rfl ok fr E hP hE s₅ S₅) ?_ fun _ _ x => x
    rintro v' s₆ ⟨_, l₆, S₆, e, h₆⟩
    subst e
    exact h₆ v' rfl ok fr E hP hE s₆ S₆
theorem E_chain {l r₁ r₂ : Expr} {op₁ op₂ : CmpOp} {pos}
    (h : WE c l (KEc1 r₁ r₂ op₁ op₂ c Q X vars) X vars led)
    (hm : lastMarks [op₁, op₂] [r₁, r₂] = false) : WE c (.Compare l [op₁, op₂] [r₁, r₂] pos) Q X vars led := by
  intro ok fr E hP hE s hs
  refine Compare_chain (wpAny_mono (h ok fr E hP hE s hs) ?_ fun _ _ x => x) hm
  rintro a s₁ ⟨_, l₁, S₁, rfl, h₁⟩
  refine chain_link (wpAny_mono (h₁ ok fr E hP hE s₁ S₁) ?_ fun _ _ x => x)
  rintro b s₂ ⟨_, l₂, S₂, e, h₂⟩
  subst e
  refine wpAny_mono (h₂ a b rfl rfl ok fr E hP hE s₂ S₂) ?_ fun _ _ x => x
  rintro v s₃ ⟨_, l₃, S₃, e, h₃⟩
  subst e
  refine wpAny_mono (h₃ v rfl ok fr E hP hE s₃ S₃) ?_ fun _ _ x => x
  rintro t s₄ ⟨_, l₄, S₄, e, h₄⟩
  subst e
  cases t with
  | false => exact ⟨_, _, S₄, rfl, h₄⟩
  | true =>
    refine chain_last (wpAny_mono (h₄ ok fr E hP hE s₄ S₄) ?_ fun _ _ x => x)
    rintro d s₅ ⟨_, l₅, S₅, e, h₅⟩
    subst e
    exact h₅ b d rfl rfl ok fr E hP hE s₅ S₅
theorem T_not {e : Expr} {pos} (h : WT c e (KNot B) X vars led) : WT c (.UnaryOp .Not e pos) B X vars led := by
  intro ok fr E hP hE s hs
  refine isTrue_not (wpAny_mono (h ok fr E hP hE s hs) ?_ fun _ _ x => x)
  rintro b s₁ ⟨_, l₁, S₁, rfl, h₁⟩
  exact ⟨_, _, S₁, rfl, h₁⟩
/-- the whole of a test's tree is not looked at by these -/
noncomputable def WTo (c : Cx) (op : BoolOp) (es : List Expr) (B : Bool → Led → Prop) (X : Vars → Led → Prop) (vars : Vars) (led : Led) : Prop :=
  ∀ pos whole, W c (isTrue (.BoolOp op es pos) c.env whole) (fun b v l => v = vars ∧ B b l) X vars led
theorem T_op {op : BoolOp} {es : List Expr} {pos} (h : WTo c op es B X vars led) : WT c (.BoolOp op es pos) B X vars led := h _ _
noncomputable abbrev KAnd (es : List Expr) (c : Cx) (B : Bool → Led → Prop) (X : Vars → Led → Prop) (vars : Vars) : Bool → Led → Prop := fun b l => if b then WTo c .And es B X vars l else B false l
noncomputable abbrev KOr (es : List Expr) (c : Cx) (B : Bool → Led → Prop) (X : Vars → Led → Prop) (vars : Vars) : Bool → Led → Prop := fun b l => if b then B true l else WTo c .Or es B X vars l
noncomputable abbrev KTif (b : Expr) (o : Expr) (c : Cx) (B : Bool → Led → Prop) (X : Vars → Led → Prop) (vars : Vars) : Bool → Led → Prop := fun x l => if x then WT c b B X vars l else WT c o B X vars l
noncomputable abbrev KEif (b : Expr) (o : Expr) (c : Cx) (Q : PV → Led → Prop) (X : Vars → Led → Prop) (vars : Vars) : Bool → Led → Prop := fun x l => if x then WE c b Q X vars l else WE c o Q X vars l
noncomputable abbrev KNb (Q : PV → Led → Prop) : Bool → Led → Prop := fun b l => Q (.bool (!b)) l
noncomputable abbrev KENot (c : Cx) (Q : PV → Led → Prop) (X : Vars → Led → Prop) (vars : Vars) : PV → Led → Prop := fun v l => WTr c v (KNb Q) X vars l
theorem T_and {e : Expr} {es : List Expr} (h : WT c e (KAnd es c B X vars) X vars led) : WTo c .And (e :: es) B X vars led := by
  intro pos whole ok fr E hP hE s hs
  refine isTrue_and (wpAny_mono (h ok fr E hP hE s hs) ?_ fun _ _ x => x)
  rintro b s₁ ⟨_, l₁, S₁, e, h₁⟩
  subst e
  cases b with
  | false => exact ⟨_, _, S₁, rfl, h₁⟩
  | true => exact h₁ pos whole ok fr E hP hE s₁ S₁
theorem T_and0 (h : B true led) : WTo c .And [] B X vars led := fun _ _ _ _ _ _ _ _ hs => isTrue_and_nil ⟨_, _, hs, rfl, h⟩
theorem T_or {e : Expr} {es : List Expr} (h : WT c e (KOr es c B X vars) X vars led) : WTo c .Or (e :: es) B X vars led := by
  intro pos whole ok fr E hP hE s hs
  refine isTrue_or (wpAny_mono (h ok fr E hP hE s hs) ?_ fun _ _ x => x)
  rintro b s₁ ⟨_, l₁, S₁, e, h₁⟩
  subst e
  cases b with
  | true => exact ⟨_, _, S₁, rfl, h₁⟩
  | false => exact h₁ pos whole ok fr E hP hE s₁ S₁
theorem T_or0 (h : B false led) : WTo c .Or [] B X vars led := fun _ _ _ _ _ _ _ _ hs => isTrue_or_nil ⟨_, _, hs, rfl, h⟩
theorem T_plain {e : Expr} (h : WE c e (KT c B X vars) X vars led)
    (he : ∀ env whole, isTrue e env whole = (do let v ← whole; standAt e.pos; holding [v] (truthy v))) : WT c e B X vars led := by
  intro ok fr E hP hE s hs
  refine isTrue_plain (wpAny_mono (h ok fr E hP hE s hs) ?_ fun _ _ x => x) (he _ _)
  rintro v s₁ ⟨_, l₁, S₁, e, h₁⟩
  subst e
  exact h₁ v rfl ok fr E hP hE s₁ S₁
theorem T_if {t b o : Expr} {pos} (h : WT c t (KTif b o c B X vars) X vars led) : WT c (.IfExp t b o pos) B X vars led := by
  intro ok fr E hP hE s hs
  refine isTrue_IfExp (wpAny_mono (h ok fr E hP hE s hs) ?_ fun _ _ x => x)
  rintro x s₁ ⟨_, l₁, S₁, e, h₁⟩
  subst e
  cases x <;> exact h₁ ok fr E hP hE s₁ S₁
theorem E_if {t b o : Expr} {pos} (h : WT c t (KEif b o c Q X vars) X vars led) : WE c (.IfExp t b o pos) Q X vars led := by
  intro ok fr E hP hE s hs
  refine IfExp_ (wpAny_mono (h ok fr E hP hE s hs) ?_ fun _ _ x => x)
  rintro x s₁ ⟨_, l₁, S₁, e, h₁⟩
  subst e
  cases x <;> exact h₁ ok fr E hP hE s₁ S₁
theorem E_not {e : Expr} {pos} (h : WE c e (KENot c Q X vars) X vars led) : WE c (.UnaryOp .Not e pos) Q X vars led := by
  intro ok fr E hP hE s hs
  refine UnaryOp_ (wpAny_mono (h ok fr E hP hE s hs) ?_ fun _ _ x => x)
  rintro v s₁ ⟨_, l₁, S₁, e, h₁⟩
  subst e
  refine not_of (wpAny_mono (h₁ v rfl ok fr E hP hE s₁ S₁) ?_ fun _ _ x => x)
  rintro b s₂ ⟨_, l₂, S₂, e, h₂⟩
  subst e
  exact ⟨_, _, S₂, rfl, h₂⟩
noncomputable def WEo (c : Cx) (op : BoolOp) (es : List Expr) (Q : PV → Led → Prop) (X : Vars → Led → Prop) (vars : Vars) (led : Led) : Prop := ∀ pos, WE c (.BoolOp op es pos) Q X vars led
theorem E_op {op : BoolOp} {es : List Expr} {pos} (h : WEo c op es Q X vars led) : WE c (.BoolOp op es pos) Q X vars led := h _
theorem E_op1 {op : BoolOp} {e : Expr} (h : WE c e Q X vars led) : WEo c op [e] Q X vars led := fun _ ok fr E hP hE s hs => BoolOp_one (h ok fr E hP hE s hs)
noncomputable abbrev KEa2 (es : List Expr) (c : Cx) (v : PV) (Q : PV → Led → Prop) (X : Vars → Led → Prop) (vars : Vars) : Bool → Led → Prop := fun b l => if b then WEo c .And es Q X vars l else Q v l
noncomputable abbrev KEa1 (es : List Expr) (c : Cx) (Q : PV → Led → Prop) (X : Vars → Led → Prop) (vars : Vars) : PV → Led → Prop := fun v l => WTr c v (KEa2 es c v Q X vars) X vars l
noncomputable abbrev KEo2 (es : List Expr) (c : Cx) (v : PV) (Q : PV → Led → Prop) (X : Vars → Led → Prop) (vars : Vars) : Bool → Led → Prop := fun b l => if b then Q v l else WEo c .Or es Q X vars l
noncomputable abbrev KEo1 (es : List Expr) (c : Cx) (Q : PV → Led → Prop) (X : Vars → Led → Prop) (vars : Vars) : PV → Led → Prop := fun v l => WTr c v (KEo2 es c v Q X vars) X vars l
theorem E_and {e e' : Expr} {es : List Expr} (h : WE c e (KEa1 (e' :: es) c Q X vars) X vars led) : WEo c .And (e :: e' :: es) Q X vars led := by
  intro pos ok fr E hP hE s hs
  refine BoolOp_and (wpAny_mono (h ok fr E hP hE s hs) ?_ fun _ _ x => x)
  rintro v s₁ ⟨_, l₁, S₁, e, h₁⟩
  subst e
  refine wpAny_mono (h₁ v rfl ok fr E hP hE s₁ S₁) ?_ fun _ _ x => x
  rintro b s₂ ⟨_, l₂, S₂, e, h₂⟩
  subst e
  cases b with
  | false => exact ⟨_, _, S₂, rfl, h₂⟩
  | true => exact h₂ pos ok fr E hP hE s₂ S₂
theorem E_or {e e' : Expr} {es : List Expr} (h : WE c e (KEo1 (e' :: es) c Q X vars) X vars led) : WEo c .Or (e :: e' :: es) Q X vars led := by
  intro pos ok fr E hP hE s hs
  refine BoolOp_or (wpAny_mono (h ok fr E hP hE s hs) ?_ fun _ _ x => x)
  rintro v s₁ ⟨_, l₁, S₁, e, h₁⟩
  subst e
  refine wpAny_mono (h₁ v rfl ok fr E hP hE s₁ S₁) ?_ fun _ _ x => x
  rintro b s₂ ⟨_, l₂, S₂, e, h₂⟩
  subst e
  cases b with
  | true => exact ⟨_, _, S₂, rfl, h₂⟩
  | false => exact h₂ pos ok fr E hP hE s₂ S₂
/-! slices, items -/
noncomputable def cut {α : Type} (xs : List α) (lo hi : Option Int) : List α :=
  (xs.drop (lo.elim 0 (clipAt xs.length))).take (hi.elim xs.length (clipAt xs.length) - lo.elim 0 (clipAt xs.length))
theorem cut_nat {α : Type} (xs : List α) (i j : Nat) : cut xs (some (i : Int)) (some (j : Int)) = (xs.drop i).take (j - i) := by
  simp only [cut, Option.elim, clipAt_nat]
  rcases Nat.le_total i xs.length with h | h
  · rw [Nat.min_eq_left h]
    rcases Nat.le_total j xs.length with h2 | h2
    · rw [Nat.min_eq_left h2]
    · rw [Nat.min_eq_right h2, List.take_of_length_le (by simp), List.take_of_length_le (by simp; omega)]
  · rw [Nat.min_eq_right h, List.drop_of_length_le (Nat.le_refl _), List.drop_of_length_le h]; simp
theorem cut_to {α : Type} (xs : List α) (j : Nat) : cut xs none (some (j : Int)) = xs.take j := by
  simp only [cut, Option.elim, clipAt_nat, List.drop_zero, Nat.sub_zero]
  rcases Nat.le_total j xs.length with h | h
  · rw [Nat.min_eq_left h]
  · rw [Nat.min_eq_right h, List.take_of_length_le (Nat.le_refl _), List.take_of_length_le h]
theorem clip_elim (n : Nat) (i : Int) : max 0 (min (if i < 0 then i + (n : Int) else i) (n : Int)) = ((clipAt n i : Nat) : Int) := (clipAt_cast n i).symm
theorem indices_cut (x : Str) (lo hi : Option Int) : ((Builtin.Str.strSliceIndices lo hi 1 x.length).filterMap (x.cps[·]?)) = cut x.cps.toList lo hi := by
  have e : Builtin.Str.strSliceIndices lo hi 1 x.length = sliceRange ((lo.elim 0 (clipAt x.length) : Nat) : Int) ((hi.elim x.length (clipAt x.length) : Nat) : Int) 1 := by
    unfold Builtin.Str.strSliceIndices
    cases lo <;> cases hi <;> simp [clipAt_cast]
  rw [e, sliceRange_one, pick_run]
  rfl
theorem slice_cut (x : Str) (lo hi : Option Int) : (Txt.slice x lo hi).cps.toList = cut x.cps.toList lo hi := by
  unfold Txt.slice
  split
  · rename_i h
    have h' : (Builtin.Str.strSliceIndices lo hi 1 x.length).length = x.length := by simpa using h
    have e : Builtin.Str.strSliceIndices lo hi 1 x.length = sliceRange ((lo.elim 0 (clipAt x.length) : Nat) : Int) ((hi.elim x.length (clipAt x.length) : Nat) : Int) 1 := by
      unfold Builtin.Str.strSliceIndices
      cases lo <;> cases hi <;> simp [clipAt_cast]
    rw [e, sliceRange_one] at h'
    simp at h'
    unfold cut
    have hc : ∀ (o : Option Int), o.elim x.length (clipAt x.length) ≤ x.length := by
      intro o; cases o with
      | none => exact Nat.le_refl _
      | some i => show clipAt x.length i ≤ x.length; have := clipAt_cast x.length i; omega
    have h1 := hc hi
    have hl : x.cps.toList.length = x.length := by simp [Str.length]
    rw [hl]
    have h0 : lo.elim 0 (clipAt x.length) ≤ x.length := by
      cases lo with
      | none => exact Nat.zero_le _
      | some i => show clipAt x.length i ≤ x.length; have := clipAt_cast x.length i; omega
    have h2 : lo.elim 0 (clipAt x.length) = 0 := by omega
    have h3 : hi.elim x.length (clipAt x.length) = x.length := by omega
    rw [h2, h3, List.drop_zero, Nat.sub_zero, List.take_of_length_le (by rw [hl]; exact Nat.le_refl _)]
  · rw [← indices_cut]
inductive Cuts : PV → Option Int → Option Int → PV → Prop
  | b {xs lo hi} (h : xs.length ≤ 16777216) : Cuts (.bytes xs) lo hi (.bytes (cut xs lo hi))
  | s {xs lo hi} (h : xs.length ≤ 16777216) : Cuts (.str xs) lo hi (.str (cut xs lo hi))
noncomputable abbrev KPt (Q : Option Int → Led → Prop) : PV → Led → Prop := fun p l => ∃ i, p = .int i ∧ Q (some i) l
noncomputable def WPart (c : Cx) (e : Option Expr) (Q : Option Int → Led → Prop) (X : Vars → Led → Prop) (vars : Vars) (led : Led) : Prop :=
  match e with
  | none => Q none led
  | some e => WE c e (KPt Q) X vars led
theorem WPart.run {e : Option Expr} {Q : Option Int → Led → Prop} (h : WPart c e Q X vars led) (ok : c.Ok) {E} (hP : Pas c fr E) (hE : ∀ e v l s', Flies c fr e v l s' → X v l → E e s') {s} (hs : St c fr vars led s) :
    wpAny c.M c.A (evalPart e c.env) (fun v s' => (E2 fun o l => A3 (IsPart v o) (St c fr vars l s') (Q o l))) E s := by
  cases e with
  | none => exact evalPart_none_step ⟨_, _, .none, hs, h⟩
  | some e =>
    refine evalPart_some_step (wpAny_mono ((show WE c e _ X vars led from h) ok fr E hP hE s hs) ?_ fun _ _ x => x)
    rintro v s₁ ⟨_, l₁, S₁, e, i, hi, h₁⟩
    subst e
    obtain ⟨t, rfl⟩ := er_int hi
    exact ⟨_, _, .int _ _, S₁, h₁⟩
end
end
section
section
variable {c : Cx} {X : Vars → Led → Prop} {vars : Vars} {led : Led} {Q : PV → Led → Prop} {B : Bool → Led → Prop}
theorem St.push {c : Cx} {fr vars led s} (h : St c fr vars led s) (o : Obj) (k : Nat) : St c fr vars led { s with heap := s.heap.push o, toks := k } := by
  obtain ⟨h₀, m, news, G, F, N, V, Lk, S⟩ := h
  exact ⟨h₀, m, news, G, F.push o, News.pushKeep N o, V, Lk, S.up _ _⟩
noncomputable abbrev KSl3 (p : PV) (a : Option Int) (Q : PV → Led → Prop) : Option Int → Led → Prop := fun b l => ∃ r, Cuts p a b r ∧ Q r l
noncomputable abbrev KSl2 (hi : Option Expr) (c : Cx) (p : PV) (Q : PV → Led → Prop) (X : Vars → Led → Prop) (vars : Vars) : Option Int → Led → Prop := fun a l => WPart c hi (KSl3 p a Q) X vars l
noncomputable abbrev KSl1 (lo : Option Expr) (hi : Option Expr) (c : Cx) (Q : PV → Led → Prop) (X : Vars → Led → Prop) (vars : Vars) : PV → Led → Prop := fun p l => WPart c lo (KSl2 hi c p Q X vars) X vars l
theorem E_slice {value : Expr} {lo hi : Option Expr} {pos pos'}
    (h : WE c value (KSl1 lo hi c Q X vars) X vars led) :
    WE c (.Subscript value (.Slice lo hi none pos') pos) Q X vars led := by
  intro ok fr E hP hE s hs
  refine Subscript_ (wpAny_mono (h ok fr E hP hE s hs) ?_ fun _ _ x => x)
  rintro o s₁ ⟨_, l₁, S₁, e, h₁⟩
  subst e
  refine wpAny_Slice (wpAny_mono (h₁.run ok hP hE S₁) ?_ fun _ _ x => x)
  rintro vl s₂ ⟨a, l₂, pa, S₂, h₂⟩
  refine wpAny_mono (h₂.run ok hP hE S₂) ?_ fun _ _ x => x
  rintro vu s₃ ⟨b, l₃, pb, S₃, r, hc, h₃⟩
  rename Vars => vv
  refine evalPart_none_step ?_
  have ht : ∀ r, letTemporaryGo value o r = pure () := by
    intro r
    generalize ho : er o = po at hc
    cases hc with
    | b _ => obtain ⟨t, rfl⟩ := er_bytes ho; cases value <;> rfl
    | s _ => obtain ⟨t, rfl⟩ := er_str ho; cases value <;> rfl
  generalize ho : er o = po at hc
  cases hc with
  | @b xs _ _ hz =>
    obtain ⟨t, rfl⟩ := er_bytes ho
    refine tail_of_ItemOn ⟨"bytes", _, FB.slot_bytes_getitem.lookup, typeIs_bytes _ _ _, getItem_meets (typeIs_bytes _ _ _) (by decide) FB.slot_bytes_getitem FB.entry_bytes_getitem (FB.args_bytes_getitem_2 _ _) (KBc.meets_slice2 _ t _ pa pb)
      ⟨Heap.IsSliceOf.new _ _ _ _, Nat.le_trans (KBc.size_picked_le _ a b) (by rw [sizeLine_eq]; simpa using hz), fun t' k => ⟨_, l₃, S₃.push _ k, rfl, ?_⟩⟩⟩ rfl ht
    have e : er (.bytes (KBy.picked xs.toArray a b) t') = .bytes (cut xs a b) := by
      simp [er, KBc.picked_eq, cut]
    rw [e]; exact h₃
  | @s xs _ _ hz =>
    obtain ⟨t, rfl⟩ := er_str ho
    have hz' : (⟨xs.toArray⟩ : Str).length ≤ sizeLine := by rw [sizeLine_eq]; simpa [Str.length] using hz
    have fin : ∀ t' k, Out c fr (fun v l => v = vv ∧ Q (er (.str (Txt.slice ⟨xs.toArray⟩ a b) t')) l) { s₃ with heap := s₃.heap.push { cls := .type "slice", data := .fields #[vl, vu, .none] }, toks := k } := fun t' k => by
      refine ⟨_, l₃, S₃.push _ k, rfl, ?_⟩
      have e : er (.str (Txt.slice ⟨xs.toArray⟩ a b) t') = .str (cut xs a b) := by
        simp [er, slice_cut]
      rw [e]; exact h₃
    have le : ∀ l u, (Txt.slice ⟨xs.toArray⟩ l u).length ≤ sizeLine := fun l u => Nat.le_trans (Txt.slice_le _ l u) hz'
    cases pa with
    | none => cases pb with
      | none => exact tail_of_ItemOn ⟨"str", _, F.slot_str_getitem.lookup, typeIs_str _ _ _, wpAny_getItem_str_slice (l := none) (u := none) (st := none) ⟨_, Heap.get?_push_size _ rfl, rfl, rfl⟩ rfl (post_val_or_str ⟨le _ _, fun t' k => fin t' k⟩)⟩ rfl ht
      | int j u => exact tail_of_ItemOn ⟨"str", _, F.slot_str_getitem.lookup, typeIs_str _ _ _, wpAny_getItem_str_slice (l := none) (u := some (j, u)) (st := none) ⟨_, Heap.get?_push_size _ rfl, rfl, rfl⟩ rfl (post_val_or_str ⟨le _ _, fun t' k => fin t' k⟩)⟩ rfl ht
    | int i u => cases pb with
      | none => exact tail_of_ItemOn ⟨"str", _, F.slot_str_getitem.lookup, typeIs_str _ _ _, wpAny_getItem_str_slice (l := some (i, u)) (u := none) (st := none) ⟨_, Heap.get?_push_size _ rfl, rfl, rfl⟩ rfl (post_val_or_str ⟨le _ _, fun t' k => fin t' k⟩)⟩ rfl ht
      | int j u' => exact tail_of_ItemOn ⟨"str", _, F.slot_str_getitem.lookup, typeIs_str _ _ _, wpAny_getItem_str_slice (l := some (i, u)) (u := some (j, u')) (st := none) ⟨_, Heap.get?_push_size _ rfl, rfl, rfl⟩ rfl (post_val_or_str ⟨le _ _, fun t' k => fin t' k⟩)⟩ rfl ht
end
end
section
noncomputable def Cx.into (c : Cx) (qual : Str) (scope : Scope) (f : Addr) (cdv : Value) (L' : Addr) (g : Heap) (room : Nat) : Cx :=
  { c with A := c.A.deeper (envOf qual scope L' f cdv), A₀ := c.A, cn := qual, cs := scope, a := f, cd := cdv, L := L', outer := c.own :: c.outer, G₀ := g, can := false, room := room, cl := [], ev := envOf qual scope L' f cdv, inC := false, keepo := [], cm := none }
section
variable {c : Cx} {X : Vars → Led → Prop} {vars : Vars} {led : Led} {Q : PV → Led → Prop}
theorem Flies.leave {qual : Str} {scope : Scope} {f L' : Addr} {cdv : Value} {g : Heap} {room : Nat} {e : Value} {v vars : Vars} {led : Led} {s' : Shared} {h₀ : Heap} {m : Str → Option Value} {E : Value → Shared → Prop} {E₂ : Value → Shared → Prop}
    {fr : List (Addr × Obj)} (h : Flies (c.into qual scope f cdv L' g room) fr e v led s') (hg : c.Gr h₀) (FG : Fr h₀ c.L g m) (V : VOk c.cm m vars) (hk : scope.kind = .function)
    (hE : ∀ s'', Flies c fr e vars led s'' → E e s'') :
    wpAny c.M (c.A.deeper (envOf qual scope L' f cdv)) (leaving (envOf qual scope L' f cdv) e) (fun _ s'' => E e s'') E₂ s' := by
  obtain ⟨g', mm, news, ea, rfl, G', V', Lk, S, hh⟩ := h
  obtain rfl : g' = g := G'.turn
  have K : Below c.A c.base (c.own :: c.outer) g' := G'.below
  rcases hh with ⟨_, h, oe, t, d, vs, kt, F, N, hkeep, hnew, htn, he, hcls, hd, _, ht⟩ | ⟨G, t, vs, F, R, hsm⟩
  · have F : Fr g' L' h mm := F
    have N : News g' L' h news := N
    have K' := K.push (name := qual) (a := f) (cd := cdv) F hk
    have hin : ∀ env ∈ (envOf qual scope L' f cdv :: c.own :: c.outer), ∀ b, env.frame = some b → b ∈ (envOf qual scope L' f cdv :: c.own :: c.outer).filterMap (·.frame) := fun env he b hb => List.mem_filterMap.mpr ⟨env, he, hb⟩
    have st : c.base.StaysIn (hideAll h ((envOf qual scope L' f cdv :: c.own :: c.outer).filterMap (·.frame))) := fun b o q => hideAll_get _ (K'.stays b o q) fun hm => by
      rw [(K'.frames.mem hm).1] at q; cases q
    have sg : ∀ b o, g'.get? b = some o → b ∉ (c.own :: c.outer).filterMap (·.frame) → (hideAll h ((envOf qual scope L' f cdv :: c.own :: c.outer).filterMap (·.frame))).get? b = some o := fun b o q nm => hideAll_get _ (F.keep b o q) fun hm => by
      rcases kts_mem hm with z | z
      · rw [z, kts_self F] at q
        cases q
      · exact nm z
    have hl : ∀ q ∈ news, (hideAll h ((envOf qual scope L' f cdv :: c.own :: c.outer).filterMap (·.frame))).get? q.1 = some q.2 ∧ g'.get? q.1 = none ∧ c.base.get? q.1 = none := fun q hq => by
      refine ⟨hideAll_get _ (N q hq).1 fun hm => ?_, (N q hq).2.2, fresh_of_stays K.stays (N q hq).2.2⟩
      obtain ⟨env, he, hf⟩ := List.mem_filterMap.mp hm
      rcases List.mem_cons.mp he with rfl | he
      · exact (N q hq).2.1 (Option.some.inj hf).symm
      · obtain ⟨o, ho, _⟩ := (K.frames.mem (List.mem_filterMap.mpr ⟨env, he, hf⟩)).2
        rw [(N q hq).2.2] at ho; cases ho
    have fresh : ∀ {b}, h.get? b = none → (hideAll h ((envOf qual scope L' f cdv :: c.own :: c.outer).filterMap (·.frame))).get? b = none := fun {b} hb => by
      cases q : (hideAll h ((envOf qual scope L' f cdv :: c.own :: c.outer).filterMap (·.frame))).get? b with
      | none => rfl
      | some o => have := of_hideAll _ q; rw [hb] at this; cases this
    refine wpAny_leaving_firstW (a0 := .ref t) K'.stack ((funFrames_hide K'.frames hin).of_keeps fun b o hb _ => ⟨o, hkeep b o hb, rfl⟩) rfl he (fun b o hb => hkeep b o (of_hideAll _ hb)) (fresh hnew) hd rfl rfl fun h' hL => ?_
    obtain ⟨k1, ⟨_, _, k2⟩, k3, k4⟩ := hL
    have hup : g'.UpToSlots h' := ((Heap.UpToSlots.of_keeps F.keep).trans (Heap.UpToSlots.of_keeps hkeep)).trans k4
    refine hE _ ⟨h₀, m, news, ea, rfl, hg, V, Lk, S.up _ _, .inr ⟨g', t, vs.toList, FG, ⟨⟨_, st, sg, hl, ⟨k1, fresh hnew, k2, by rw [← hcls]; exact k3⟩, fresh htn⟩, ?_⟩, hup⟩⟩
    exact Heap.TupAt.of_slots ⟨_, kt, ht, rfl, by simp⟩ k4
  · refine leave_onS K F R hsm fun h' R' _ hup => ?_
    exact hE _ ⟨h₀, m, news, ea, rfl, hg, V, Lk, S.up _ _, .inr ⟨g', t, vs, FG, R', hup⟩⟩
/-- a contract: the call of the def at f, whose frames go k deep -/
noncomputable def Fn (f : Addr) (k : Nat) (args : List PV) (Q : PV → Led → Prop) (X : Led → Prop) (led : Led) : Prop :=
  ∀ (c : Cx) (vars : Vars) (vals : List Value), k ≤ c.room → vals.map er = args → WV c (call (.ref f) vals) Q (fun v l => v = vars ∧ X l) vars led
inductive PF where
  | next | brk | cont | ret (v : PV)
noncomputable def erF : Flow → PF
  | .next => .next | .brk => .brk | .cont => .cont | .ret v => .ret (er v)
noncomputable def PF.val : PF → PV
  | .ret v => v | _ => .none
/-- statements -/
noncomputable def WS (c : Cx) (b : List Stmt) (Q : PF → Vars → Led → Prop) (X : Vars → Led → Prop) (vars : Vars) (led : Led) : Prop :=
  W c (execs b c.env) (fun f v l => Q (erF f) v l) X vars led
theorem vok_binds : ∀ (names : List Str) (vals : List Value), names.Nodup → names.length = vals.length → VOk none (fun y => (names.zip vals).reverse.lookup y) (names.zip (vals.map er)) := by
  intro names vals hn hl
  have e0 : (names.zip (vals.map er)).map (·.1) = names := by rw [List.map_fst_zip]; rw [List.length_map]; lia
  refine ⟨by rw [e0]; exact hn, fun p hp => ?_, fun _ h => by cases h⟩
  have key : ∀ (l : List (Str × Value)), (l.map (·.1)).Nodup → ∀ q ∈ l, l.lookup q.1 = some q.2 := by
    intro l
    induction l with
    | nil => intro _ q hq; cases hq
    | cons x r ih =>
      intro hd q hq
      have hd' := List.nodup_cons.mp (by simpa using hd : (x.1 :: r.map (·.1)).Nodup)
      rcases List.mem_cons.mp hq with rfl | hq
      · simp [List.lookup]
      · have hne : (q.1 == x.1) = false := beq_eq_false_iff_ne.mpr fun e => hd'.1 (e ▸ List.mem_map_of_mem hq)
        rw [show x :: r = (x.1, x.2) :: r from rfl, List.lookup_cons, hne]
        exact ih hd'.2 q hq
  have e : names.zip (vals.map er) = (names.zip vals).map (fun q => (q.1, er q.2)) := by rw [List.zip_map_right]; rfl
  rw [e] at hp
  obtain ⟨q, hq, rfl⟩ := List.mem_map.mp hp
  refine ⟨q.2, key _ ?_ q (List.mem_reverse.mpr hq), rfl⟩
  rw [List.map_reverse, (List.Perm.nodup_iff (List.reverse_perm _))]
  have : (names.zip vals).map (·.1) = names := by rw [List.map_fst_zip]; lia
  rw [this]; exact hn
/-- the same, of the code behind the call -/
noncomputable def FnC (f : Addr) (k : Nat) (args : List PV) (Q : PV → Led → Prop) (X : Led → Prop) (led : Led) : Prop :=
  ∀ (c : Cx) (vars : Vars) (vals : List Value), k ≤ c.room → vals.map er = args → c.Ok → ∀ fr (E : Value → Shared → Prop), (∀ e l s', Flies c fr e vars l s' → X l → E e s') →
    ∀ s, St c fr vars led s → codeAny c.M c.A (.call (.ref f) ⟨vals, []⟩) (wants (fun a s' => Out c fr (fun v l => v = vars ∧ Q (er a) l) s') E) s
/-- a def is entered -/
theorem Fn_defC {f : Addr} {k : Nat} {args : List PV} {Q : PV → Led → Prop} {X : Led → Prop} {led : Led} {names : List Str} {name qual : Str} {params : Arguments} {body : List Stmt} {scope : Scope}
    {dV kV doc pm cdv ct oc : Value} {an od : Option Addr} {osl : Array (Option Value)}
    (ho : ∀ w, (KF w).lookup f = some ⟨oc, od, .func (fnOf name qual params body scope dV kV doc pm an cdv ct), osl⟩) (hcd : ∀ w, codeIn (KF w) cdv qual = true)
    (hbind : ∀ vals : List Value, vals.length = names.length → ∀ (w : World) (s : Shared), (KF w).In s.heap → BindsTo s (fnOf name qual params body scope dV kV doc pm an cdv ct) ⟨vals, []⟩ (names.zip vals))
    (hargs : args.length = names.length) (hn : names.Nodup) (hloc : ∀ y ∈ names, scope.names.lookup y = some .local)
    (hb : ∀ c' : Cx, c'.room = k → c'.can = false → c'.cs = scope → c'.inC = false → WS c' body (fun fl _ l => Q fl.val l) (fun _ l => X l) (names.zip args) led)
    (hco : scope.isCoroutine = false := by rfl) (hgen : scope.isGenerator = false := by rfl) (hk : scope.kind = .function := by rfl) (hcell : ∀ x ∈ scope.names, x.2 ≠ .cell := by decide) :
    FnC f (k + 1) args Q X led := by
  intro c vars vals hroom hvals ok fr E hE s hs
  obtain ⟨h₀, m, news, G, F, N, V, Lk, S⟩ := id hs
  have hlen : vals.length = names.length := by rw [← hargs, ← hvals, List.length_map]
  refine code_def (env := c.own) (outer := c.outer) (A₀ := c.A₀) (base := c.base) (K := KF c.w) G.below F G.K N G.top ok.frames rfl ok.fun_ (ho _) (hcd _) (by have := ok.depth; lia)
    (hbind vals hlen c.w s (G.K.keeps F.keep)) (fun y hy => hloc _ (List.of_mem_zip hy).1) (fun g L' h₁ FG F' N' B' X' T' => ?_) hco hgen hk hcell
  have ok' : (c.into qual scope f cdv L' g k).Ok := ⟨ok.handled, by show (c.A.deeper _).frames = _; rw [Around.frames_deeper ok.frames]; rfl, fun _ => ⟨rfl, rfl⟩, fun h => (by cases h), hk, by have := ok.depth; show c.A.depth + 1 + k < _; lia, by have := ok.units; show c.A.units + 3 + 10 * k + 100 < _; lia, ok.baseK, ok.baseT⟩
  have gr : (c.into qual scope f cdv L' g k).Gr g := ⟨B', X', T', rfl, fun b hb => by
    rcases kts_mem (name := c.cn) (scope := c.cs) (L := c.L) (a := c.a) (cd := c.cd) (outer := c.outer) hb with rfl | hb
    · obtain ⟨o, es, ep, ho, hd, _⟩ := FG.ns
      exact ⟨o, es, ep, ho, hd⟩
    · obtain ⟨o, es, n, ho, hd⟩ := G.dicts b hb
      exact ⟨o, es, n, FG.keep b o ho, hd⟩⟩
  have S' : St (c.into qual scope f cdv L' g k) fr (names.zip args) led { s with heap := h₁, toks := s.toks + (names.zip vals).length } :=
    ⟨g, _, news, gr, F', N', by rw [← hvals]; exact vok_binds names vals hn hlen.symm, Lk, S.up _ _⟩
  refine wpAny_mono (hb _ rfl rfl rfl rfl ok' fr _ ⟨fun _ h => (nomatch h), fun _ => PassesOwn.leaving⟩ (fun e v l s' hf hx => hf.leave G FG V hk fun s'' hf' => hE e l s'' hf' hx) _ S') ?_ fun _ _ x => x
  rintro fl s' ⟨v, l, ⟨g', m', news', G', F'', N'', V'', Lk', Sm⟩, hq⟩
  obtain rfl : g' = g := G'.turn
  refine leaveK_ F'' N'' fun Fr' Nw' => ?_
  refine ⟨vars, l, ⟨h₀, m, news', G, Fr', Nw', V, Lk', Sm⟩, rfl, ?_⟩
  cases fl <;> exact hq
theorem FnC.fn {f k args} {Q : PV → Led → Prop} {X : Led → Prop} {led} (h : FnC f k args Q X led) : Fn f k args Q X led :=
  fun c vars vals a b ok fr E _ hE s hs => wpAny_call (h c vars vals a b ok fr E (fun e l s' f x => hE e vars l s' f ⟨rfl, x⟩) s hs)
theorem Fn_def {f : Addr} {k : Nat} {args : List PV} {Q : PV → Led → Prop} {X : Led → Prop} {led : Led} {names : List Str} {name qual : Str} {params : Arguments} {body : List Stmt} {scope : Scope}
    {dV kV doc pm cdv ct oc : Value} {an od : Option Addr} {osl : Array (Option Value)}
    (ho : ∀ w, (KF w).lookup f = some ⟨oc, od, .func (fnOf name qual params body scope dV kV doc pm an cdv ct), osl⟩) (hcd : ∀ w, codeIn (KF w) cdv qual = true)
    (hbind : ∀ vals : List Value, vals.length = names.length → ∀ (w : World) (s : Shared), (KF w).In s.heap → BindsTo s (fnOf name qual params body scope dV kV doc pm an cdv ct) ⟨vals, []⟩ (names.zip vals))
    (hargs : args.length = names.length) (hn : names.Nodup) (hloc : ∀ y ∈ names, scope.names.lookup y = some .local)
    (hb : ∀ c' : Cx, c'.room = k → c'.can = false → c'.cs = scope → c'.inC = false → WS c' body (fun fl _ l => Q fl.val l) (fun _ l => X l) (names.zip args) led)
    (hco : scope.isCoroutine = false := by rfl) (hgen : scope.isGenerator = false := by rfl) (hk : scope.kind = .function := by rfl) (hcell : ∀ x ∈ scope.names, x.2 ≠ .cell := by decide) :
    Fn f (k + 1) args Q X led := (Fn_defC ho hcd hbind hargs hn hloc hb hco hgen hk hcell).fn
end
end
section
/-- the variables behind a store -/
inductive SetV (x : Str) (p : PV) : Vars → Vars → Prop
  | nil : SetV x p [] [(x, p)]
  | here {q r} : SetV x p ((x, q) :: r) ((x, p) :: r)
  | there {y q r r'} : y ≠ x → SetV x p r r' → SetV x p ((y, q) :: r) ((y, q) :: r')
theorem SetV.mem {x : Str} {p : PV} {vars vars' : Vars} (h : SetV x p vars vars') : ∀ z ∈ vars', z = (x, p) ∨ z ∈ vars := by
  induction h with
  | nil => intro z hz; exact .inl (List.mem_singleton.mp hz)
  | here => intro z hz; rcases List.mem_cons.mp hz with rfl | hz; exact .inl rfl; exact .inr (.tail _ hz)
  | there _ _ ih =>
    intro z hz
    rcases List.mem_cons.mp hz with rfl | hz
    · exact .inr (.head _)
    · exact (ih z hz).imp id (.tail _)
theorem SetV.ok {x : Str} {p : PV} {v : Value} (hp : er v = p) {vars vars' : Vars} (h : SetV x p vars vars') : ∀ {m : Str → Option Value}, VOk none m vars → VOk none (fun y => if y = x then some v else m y) vars' := by
  induction h with
  | nil => intro m _; exact ⟨by simp, (fun q hq => by obtain rfl := List.mem_singleton.mp hq; exact ⟨v, by simp, hp⟩), fun _ h => (nomatch h)⟩
  | @here q r =>
    intro m hm
    refine ⟨by simpa using hm.1, fun z hz => ?_, fun _ h => (nomatch h)⟩
    rcases List.mem_cons.mp hz with rfl | hz
    · exact ⟨v, by simp, hp⟩
    · have hne : z.1 ≠ x := fun e => by
        have := List.nodup_cons.mp (by simpa using hm.1 : (x :: r.map (·.1)).Nodup)
        exact this.1 (e ▸ List.mem_map_of_mem hz)
      obtain ⟨u, h1, h2⟩ := hm.2 z (.tail _ hz)
      exact ⟨u, by simp [hne, h1], h2⟩
  | @there y q r r' hne h ih =>
    intro m hm
    have hd := List.nodup_cons.mp (by simpa using hm.1 : (y :: r.map (·.1)).Nodup)
    have ih' := ih (m := m) ⟨hd.2, (fun z hz => hm.2 z (.tail _ hz)), fun _ h => (nomatch h)⟩
    refine ⟨List.nodup_cons.mpr ⟨fun hm' => ?_, ih'.1⟩, fun z hz => ?_, fun _ h => (nomatch h)⟩
    · obtain ⟨z, hz, e⟩ := List.mem_map.mp hm'
      rcases h.mem z hz with rfl | hz'
      · exact hne e.symm
      · exact hd.1 (List.mem_map.mpr ⟨z, hz', e⟩)
    · rcases List.mem_cons.mp hz with rfl | hz
      · obtain ⟨u, h1, h2⟩ := hm.2 _ (.head _)
        exact ⟨u, by simp only [if_neg hne]; exact h1, h2⟩
      · exact ih'.2 z hz
noncomputable def WS1 (c : Cx) (b : Stmt) (Q : PF → Vars → Led → Prop) (X : Vars → Led → Prop) (vars : Vars) (led : Led) : Prop :=
  W c (exec b c.env) (fun f v l => Q (erF f) v l) X vars led
section
variable {c : Cx} {X : Vars → Led → Prop} {vars : Vars} {led : Led} {Q : PF → Vars → Led → Prop}
theorem S_nil (h : Q .next vars led) : WS c [] Q X vars led := fun _ _ _ _ _ _ hs => wpAny_execs_nil ⟨_, _, hs, h⟩
/-- what is behind a statement -/
noncomputable def Thn (c : Cx) (rest : List Stmt) (Q : PF → Vars → Led → Prop) (X : Vars → Led → Prop) : PF → Vars → Led → Prop
  | .next, v, l => WS c rest Q X v l
  | f, v, l => Q f v l
theorem Thn_next {rest : List Stmt} (h : WS c rest Q X vars led) : Thn c rest Q X .next vars led := h
theorem Thn_ret {rest : List Stmt} {p : PV} (h : Q (.ret p) vars led) : Thn c rest Q X (.ret p) vars led := h
theorem S_cons {st : Stmt} {rest : List Stmt} (h : WS1 c st (Thn c rest Q X) X vars led) : WS c (st :: rest) Q X vars led := by
  intro ok fr E hP hE s hs
  refine wpAny_execs_cons (wpAny_mono (h ok fr E hP hE s hs) ?_ fun _ _ x => x)
  rintro f s₁ ⟨v, l, S₁, h₁⟩
  cases f with
  | next => exact h₁ ok fr E hP hE s₁ S₁
  | _ => exact ⟨_, _, S₁, h₁⟩
noncomputable abbrev KRet (Q : PF → Vars → Led → Prop) (vars : Vars) : PV → Led → Prop := fun p l => Q (.ret p) vars l
noncomputable abbrev KSif (b : List Stmt) (o : List Stmt) (c : Cx) (Q : PF → Vars → Led → Prop) (X : Vars → Led → Prop) (vars : Vars) : Bool → Led → Prop := fun x l => if x then WS c b Q X vars l else WS c o Q X vars l
theorem S_ret {e : Expr} {pos} (h : WE c e (KRet Q vars) X vars led) : WS1 c (.Return (some e) pos) Q X vars led := by
  intro ok fr E hP hE s hs
  refine wpAny_Return_some (wpAny_mono (h ok fr E hP hE s hs) ?_ fun _ _ x => x)
  rintro a s₁ ⟨_, l, S₁, rfl, h₁⟩
  exact ⟨_, _, S₁, h₁⟩
theorem S_if {t : Expr} {b o : List Stmt} {pos} (h : WT c t (KSif b o c Q X vars) X vars led) : WS1 c (.If t b o pos) Q X vars led := by
  intro ok fr E hP hE s hs
  refine wpAny_If (wpAny_mono (h ok fr E hP hE s hs) ?_ fun _ _ x => x)
  rintro x s₁ ⟨_, l, S₁, e, h₁⟩
  subst e
  cases x <;> exact h₁ ok fr E hP hE s₁ S₁
/-- the store of a local -/
theorem St.store {x : Str} {p : PV} {v : Value} {vars' : Vars} {s : Shared} {E : Value → Shared → Prop} {R : Unit → Shared → Prop} (hs : St c fr vars led s) (ok : c.Ok) (hi : c.inC = false) (hv : er v = p) (hx : c.cs.names.lookup x = some .local) (h : SetV x p vars vars')
    (k : ∀ s', St c fr vars' led s' → R () s') : wpAny c.M c.A (storeName c.env x v) R E s := by
  obtain ⟨h₀, m, news, G, F, N, V, Lk, S⟩ := hs
  show wpAny _ _ (storeName c.ev x v) _ _ _
  rw [(ok.here hi).1]
  have e := (ok.here hi).2
  rw [e] at V
  exact storeX_L F N (fun h' F' N' => k _ ⟨h₀, _, news, G, F', N', by rw [e]; exact h.ok hv V, Lk, S.up _ _⟩) ok.fun_ hx
noncomputable abbrev KSet (x : Str) (Q : PF → Vars → Led → Prop) (vars : Vars) : PV → Led → Prop := fun p l => ∃ vars', SetV x p vars vars' ∧ Q .next vars' l
theorem S_set {x : Str} {e : Expr} {pos p'} (hi : c.inC = false) (h : WE c e (KSet x Q vars) X vars led) (hx : c.cs.names.lookup x = some .local)
    (hs : ∀ env, swapsWith e (some (.Name x p')) pos.line env = pure false) : WS1 c (.Assign [.Name x p'] e pos) Q X vars led := by
  intro ok fr E hP hE s hst
  refine wpAny_Assign_Name (wpAny_mono (h ok fr E hP hE s hst) ?_ fun _ _ x => x) (hs _)
  rintro a s₁ ⟨_, l, S₁, e, vars', hset, h₁⟩
  subst e
  exact S₁.store ok hi rfl hx hset fun s' S' => ⟨_, _, S', h₁⟩
/-! calls of the text's defs -/
noncomputable def WL (c : Cx) (es : List Expr) (pos : Pos) (Q : List PV → Led → Prop) (X : Vars → Led → Prop) (vars : Vars) (led : Led) : Prop :=
  W c (spliced (backTo pos (starEach es c.env))) (fun vs v l => v = vars ∧ Q (vs.map er) l) X vars led
theorem L_nil {pos} {Q : List PV → Led → Prop} (h : Q [] led) : WL c [] pos Q X vars led := fun _ _ _ _ _ _ hs => args_nil ⟨_, _, hs, rfl, h⟩
noncomputable abbrev KL2 (p : PV) (Q : List PV → Led → Prop) : List PV → Led → Prop := fun ps l => Q (p :: ps) l
noncomputable abbrev KL1 (es : List Expr) (pos : Pos) (c : Cx) (Q : List PV → Led → Prop) (X : Vars → Led → Prop) (vars : Vars) : PV → Led → Prop := fun p l => WL c es pos (KL2 p Q) X vars l
noncomputable abbrev KFn (f : Addr) (k : Nat) (Q : PV → Led → Prop) (X : Vars → Led → Prop) (vars : Vars) : List PV → Led → Prop := fun ps l => Fn f k ps Q (X vars) l
theorem L_cons {e : Expr} {es : List Expr} {pos} {Q : List PV → Led → Prop} (h : WE c e (KL1 es pos c Q X vars) X vars led)
    (he : ∀ env, starEach (e :: es) env = (false, eval e env) :: starEach es env) : WL c (e :: es) pos Q X vars led := by
  intro ok fr E hP hE s hs
  refine args_cons (wpAny_mono (h ok fr E hP hE s hs) ?_ fun _ _ x => x) (he _)
  rintro a s₁ ⟨_, l, S₁, e, h₁⟩
  subst e
  refine wpAny_mono (h₁ ok fr E hP hE s₁ S₁) ?_ fun _ _ x => x
  rintro vs s₂ ⟨_, l₂, S₂, e, h₂⟩
  subst e
  exact ⟨_, _, S₂, rfl, h₂⟩
theorem E_fn {fn : Str} {np pos : Pos} {e : Expr} {es : List Expr} {f : Addr} {k : Nat} {Q : PV → Led → Prop} (hname : WE c (.Name fn np) (KNm (.ref f) led) X vars led) (hkp : ∀ w, keepIn (KF w) (.ref f) = true)
    (hroom : k ≤ c.room)
    (he : ∀ env, starEach (e :: es) env = (false, eval e env) :: starEach es env) (hplain : ∀ env, (backTo pos (starEach es env)).any (·.1) = false)
    (h : WL c (e :: es) pos (KFn f k Q X vars) X vars led) : WE c (.Call (.Name fn np) (e :: es) [] pos) Q X vars led := by
  intro ok fr E hP hE s hs
  refine Call_ (wpAny_mono (hname ok fr E hP hE s hs) ?_ fun _ _ x => x)
  rintro a s₁ ⟨_, l, S₁, rfl, ha, rfl⟩
  obtain rfl := er_ref ha
  obtain ⟨h₀, m, news, G, F, N, V, Lk, S⟩ := id S₁
  refine callWith_K (K := KF c.w) (h₀ := h₀) G.K (hkp _) (wpAny_mono (h ok fr E hP hE s₁ S₁) ?_ fun _ _ x => x) (he _) (hplain _)
  rintro vs s₂ ⟨_, l₂, S₂, e, h₂⟩
  subst e
  obtain ⟨h₀', m', news', G', F', N', V', Lk', S'⟩ := id S₂
  refine ⟨G'.K.keeps F'.keep, ?_⟩
  exact W_monoX (h₂ c _ vs hroom rfl) (fun v l ⟨a, b⟩ => a ▸ b) ok fr E hP hE s₂ S₂
theorem loc_of {c : Cx} {sc : Scope} (h : c.cs = sc) {x : Str} {k : NameKind} (e : sc.names.lookup x = some k) : c.cs.names.lookup x = some k := h ▸ e
theorem P_none {Q : Option Int → Led → Prop} (h : Q none led) : WPart c none Q X vars led := h
theorem P_some {e : Expr} {Q : Option Int → Led → Prop} (h : WE c e (KPt Q) X vars led) : WPart c (some e) Q X vars led := h
theorem ite_d {P : Prop} [Decidable P] {A B : Prop} (h1 : P → A) (h2 : ¬ P → B) : if decide P = true then A else B := by
  by_cases h : P
  · rw [if_pos (by simpa using h)]; exact h1 h
  · rw [if_neg (by simpa using h)]; exact h2 h
theorem ite_t {A B : Prop} (h : A) : if true = true then A else B := h
theorem ite_f {A B : Prop} (h : B) : if false = true then A else B := by simpa using h
theorem ite_b {b : Bool} {A B : Prop} (h1 : b = true → A) (h2 : b = false → B) : if b = true then A else B := by
  cases b
  · simpa using h2 rfl
  · simpa using h1 rfl
end
section
variable {f : Addr} {k : Nat} {Q : PV → Led → Prop} {X : Led → Prop} {led : Led} {name qual : Str} {params : Arguments} {body : List Stmt} {scope : Scope}
    {dV kV doc pm cdv ct oc : Value} {an od : Option Addr} {osl : Array (Option Value)} {n1 n2 n3 n4 : Str} {a1 a2 a3 a4 : PV}
theorem Fn_1 (n1 : Str)
    (ho : ∀ w, (KF w).lookup f = some ⟨oc, od, .func (fnOf name qual params body scope dV kV doc pm an cdv ct), osl⟩) (hcd : ∀ w, codeIn (KF w) cdv qual = true)
    (hbind : ∀ a, bindArgs (fnOf name qual params body scope dV kV doc pm an cdv ct) ⟨[a], []⟩ = pure [(n1, a)])
    (hloc : ∀ y ∈ [n1], scope.names.lookup y = some .local)
    (hb : ∀ c' : Cx, c'.room = k → c'.can = false → c'.cs = scope → c'.inC = false → WS c' body (fun fl _ l => Q fl.val l) (fun _ l => X l) [(n1, a1)] led)
    (hco : scope.isCoroutine = false := by rfl) (hgen : scope.isGenerator = false := by rfl) (hk : scope.kind = .function := by rfl) (hcell : ∀ x ∈ scope.names, x.2 ≠ .cell := by decide) :
    Fn f (k + 1) [a1] Q X led :=
  Fn_def (names := [n1]) ho hcd (fun vals hv w s _ => by obtain ⟨a, rfl⟩ := len1 hv; exact BindsTo.of_eq (hbind a)) rfl (by simp) hloc hb hco hgen hk hcell
theorem Fn_2 (n1 n2 : Str)
    (ho : ∀ w, (KF w).lookup f = some ⟨oc, od, .func (fnOf name qual params body scope dV kV doc pm an cdv ct), osl⟩) (hcd : ∀ w, codeIn (KF w) cdv qual = true)
    (hbind : ∀ a b, bindArgs (fnOf name qual params body scope dV kV doc pm an cdv ct) ⟨[a, b], []⟩ = pure [(n1, a), (n2, b)])
    (hn : [n1, n2].Nodup) (hloc : ∀ y ∈ [n1, n2], scope.names.lookup y = some .local)
    (hb : ∀ c' : Cx, c'.room = k → c'.can = false → c'.cs = scope → c'.inC = false → WS c' body (fun fl _ l => Q fl.val l) (fun _ l => X l) [(n1, a1), (n2, a2)] led)
    (hco : scope.isCoroutine = false := by rfl) (hgen : scope.isGenerator = false := by rfl) (hk : scope.kind = .function := by rfl) (hcell : ∀ x ∈ scope.names, x.2 ≠ .cell := by decide) :
    Fn f (k + 1) [a1, a2] Q X led :=
  Fn_def (names := [n1, n2]) ho hcd (fun vals hv w s _ => by obtain ⟨a, b, rfl⟩ := len2 hv; exact BindsTo.of_eq (hbind a b)) rfl hn hloc hb hco hgen hk hcell
theorem Fn_3 (n1 n2 n3 : Str)
    (ho : ∀ w, (KF w).lookup f = some ⟨oc, od, .func (fnOf name qual params body scope dV kV doc pm an cdv ct), osl⟩) (hcd : ∀ w, codeIn (KF w) cdv qual = true)
    (hbind : ∀ a b d, bindArgs (fnOf name qual params body scope dV kV doc pm an cdv ct) ⟨[a, b, d], []⟩ = pure [(n1, a), (n2, b), (n3, d)])
    (hn : [n1, n2, n3].Nodup) (hloc : ∀ y ∈ [n1, n2, n3], scope.names.lookup y = some .local)
    (hb : ∀ c' : Cx, c'.room = k → c'.can = false → c'.cs = scope → c'.inC = false → WS c' body (fun fl _ l => Q fl.val l) (fun _ l => X l) [(n1, a1), (n2, a2), (n3, a3)] led)
    (hco : scope.isCoroutine = false := by rfl) (hgen : scope.isGenerator = false := by rfl) (hk : scope.kind = .function := by rfl) (hcell : ∀ x ∈ scope.names, x.2 ≠ .cell := by decide) :
    Fn f (k + 1) [a1, a2, a3] Q X led :=
  Fn_def (names := [n1, n2, n3]) ho hcd (fun vals hv w s _ => by obtain ⟨a, b, d, rfl⟩ := len3 hv; exact BindsTo.of_eq (hbind a b d)) rfl hn hloc hb hco hgen hk hcell
theorem Fn_4 (n1 n2 n3 n4 : Str)
    (ho : ∀ w, (KF w).lookup f = some ⟨oc, od, .func (fnOf name qual params body scope dV kV doc pm an cdv ct), osl⟩) (hcd : ∀ w, codeIn (KF w) cdv qual = true)
    (hbind : ∀ a b d e, bindArgs (fnOf name qual params body scope dV kV doc pm an cdv ct) ⟨[a, b, d, e], []⟩ = pure [(n1, a), (n2, b), (n3, d), (n4, e)])
    (hn : [n1, n2, n3, n4].Nodup) (hloc : ∀ y ∈ [n1, n2, n3, n4], scope.names.lookup y = some .local)
    (hb : ∀ c' : Cx, c'.room = k → c'.can = false → c'.cs = scope → c'.inC = false → WS c' body (fun fl _ l => Q fl.val l) (fun _ l => X l) [(n1, a1), (n2, a2), (n3, a3), (n4, a4)] led)
    (hco : scope.isCoroutine = false := by rfl) (hgen : scope.isGenerator = false := by rfl) (hk : scope.kind = .function := by rfl) (hcell : ∀ x ∈ scope.names, x.2 ≠ .cell := by decide) :
    Fn f (k + 1) [a1, a2, a3, a4] Q X led :=
  Fn_def (names := [n1, n2, n3, n4]) ho hcd (fun vals hv w s _ => by obtain ⟨a, b, d, e, rfl⟩ := len4 hv; exact BindsTo.of_eq (hbind a b d e)) rfl hn hloc hb hco hgen hk hcell
end
end
section
theorem LOk.grow {w : World} {fr news : List (Addr × Obj)} {led : Led} (own : List (Addr × Obj)) (h : LOk w fr news led) (ho : ∀ p ∈ led, ∀ q ∈ own, q.1 ≠ p.1) :
    ∃ news', (∀ p ∈ news', p ∈ own ++ news) ∧ LOk w (own ++ fr) news' led := by
  induction h with
  | nil => exact ⟨own ++ fr, fun _ h => h, .nil⟩
  | @cons a o po r r' hn hor hr ih =>
    obtain ⟨n', h1, h2⟩ := ih fun p hp => ho p (.tail _ hp)
    refine ⟨(a, o) :: n', fun p hp => ?_, .cons (fun q hq => ?_) hor h2⟩
    · rcases List.mem_cons.mp hp with rfl | hp
      · exact List.mem_append_right _ (.head _)
      · exact (List.mem_append.mp (h1 p hp)).elim (fun h => List.mem_append_left _ h) fun h => List.mem_append_right _ (.tail _ h)
    · rcases List.mem_append.mp (h1 q hq) with h | h
      · exact ho _ (.head _) q h
      · exact hn q h
theorem LOk.shrink {w : World} {fr own news : List (Addr × Obj)} {led : Led} (h : LOk w (own ++ fr) news led) :
    ∃ news', (∀ p ∈ news', p ∈ news) ∧ LOk w fr news' led := by
  generalize hx : own ++ fr = x at h
  induction h with
  | nil => subst hx; exact ⟨fr, fun p hp => List.mem_append_right _ hp, .nil⟩
  | @cons a o po r r' hn hor hr ih =>
    obtain ⟨n', h1, h2⟩ := ih
    refine ⟨(a, o) :: n', fun p hp => ?_, .cons (fun q hq => hn q (h1 q hq)) hor h2⟩
    rcases List.mem_cons.mp hp with rfl | hp
    · exact .head _
    · exact .tail _ (h1 p hp)
theorem raisedS_part {base G : Heap} {l : List Env} {e : Addr} {cls : Value} {t : Addr} {vs : List Value} {news news' : List (Addr × Obj)} {h : Heap} (R : RaisedS base G l e cls t vs news h) (hs : ∀ p ∈ news', p ∈ news) : RaisedS base G l e cls t vs news' h := by
  obtain ⟨⟨B, a, b, d, e⟩, f⟩ := R
  exact ⟨⟨B, a, b, fun q hq => d q (hs q hq), e⟩, f⟩
theorem Flies.shrink {c : Cx} {fr own : List (Addr × Obj)} {e : Value} {v : Vars} {l : Led} {s : Shared} (h : Flies c (own ++ fr) e v l s) : Flies c fr e v l s := by
  obtain ⟨h₀, m, news, ea, rfl, G, V, Lk, S, hh⟩ := h
  obtain ⟨news', h1, h2⟩ := Lk.shrink
  refine ⟨h₀, m, news', ea, rfl, G, V, h2, S, hh.imp ?_ ?_⟩
  · rintro ⟨ca, h, oe, t, d, vs, k, F, N, r⟩
    exact ⟨ca, h, oe, t, d, vs, k, F, fun p hp => N p (h1 p hp), r⟩
  · rintro ⟨G', t, vs, F, R, r⟩
    exact ⟨G', t, vs, F, raisedS_part R h1, r⟩
section
variable {c : Cx} {X : Vars → Led → Prop} {vars : Vars} {led : Led} {Q : PF → Vars → Led → Prop}
/-- a part of what is known -/
structure Wk (vars : Vars) (led : Led) (vars' : Vars) (led' : Led) : Prop where
  v : vars'.Sublist vars
  l : led'.Sublist led
theorem Wk.refl : Wk vars led vars led := ⟨List.Sublist.refl _, List.Sublist.refl _⟩
theorem Wk.vok {v' : Vars} {l' : Led} (h : Wk vars led v' l') {cm} {m : Str → Option Value} (V : VOk cm m vars) : VOk cm m v' := V.sub (fun p hp => h.v.subset hp) fun hn => hn.sublist (h.v.map _)
theorem Wk.lok {v' : Vars} {l' : Led} (h : Wk vars led v' l') {w : World} {fr news : List (Addr × Obj)} (L : LOk w fr news led) : ∃ news', (∀ p ∈ news', p ∈ news) ∧ LOk w fr news' l' := L.part (fun p hp => h.l.subset hp) (L.nodup.sublist (h.l.map _))
theorem St.wk {v' : Vars} {l' : Led} (h : Wk vars led v' l') {fr s} (S : St c fr vars led s) : St c fr v' l' s := S.weak (fun p hp => h.v.subset hp) (fun hn => hn.sublist (h.v.map _)) (fun p hp => h.l.subset hp) fun hn => hn.sublist (h.l.map _)
theorem W_wk0 {α : Type} {t : Sem α} {R : α → Vars → Led → Prop} {v' : Vars} {l' : Led} (w : Wk vars led v' l') (h : W c t R X v' l') : W c t R X vars led :=
  fun ok fr E hP hE s hs => h ok fr E hP hE s (hs.wk w)
/-- what is behind a turn -/
noncomputable def Trn (k : Vars → Led → Prop) (Q : PF → Vars → Led → Prop) : PF → Vars → Led → Prop
  | .next, v, l => k v l
  | .cont, v, l => k v l
  | .brk, v, l => Q .next v l
  | .ret p, v, l => Q (.ret p) v l
theorem Trn_next {k : Vars → Led → Prop} (h : k vars led) : Trn k Q .next vars led := h
theorem Trn_ret {k : Vars → Led → Prop} {p : PV} (h : Q (.ret p) vars led) : Trn k Q (.ret p) vars led := h
/-- a for over these items -/
noncomputable def WFor (c : Cx) (x : Str) (body : List Stmt) (Q : PF → Vars → Led → Prop) (X : Vars → Led → Prop) : List PV → Vars → Led → Prop
  | [], vars, led => (E2 fun v l => A2 (Wk vars led v l) (Q .next v l))
  | p :: rest, vars, led => (E2 fun v l => A2 (Wk vars led v l) (∃ vars', SetV x p v vars' ∧ WS c body (Trn (WFor c x body Q X rest) Q) X vars' l))
/-- an invariant of a for -/
noncomputable abbrev KIn (P : List PV → Vars → Led → Prop) (rest : List PV) : Vars → Led → Prop := fun v' l' => (E2 fun v l => A2 (Wk v' l' v l) (P rest v l))
theorem WFor_inv {x body} (P : List PV → Vars → Led → Prop) (fin : ∀ v l, P [] v l → Q .next v l)
    (step : ∀ p rest v l, P (p :: rest) v l → ∃ vars', SetV x p v vars' ∧ WS c body (Trn (KIn P rest) Q) X vars' l) :
    ∀ its v l, ((E2 fun v' l' => A2 (Wk v l v' l') (P its v' l'))) → WFor c x body Q X its v l := by
  intro its
  induction its with
  | nil => rintro v l ⟨v', l', w, h⟩; exact ⟨v', l', w, fin _ _ h⟩
  | cons p rest ih =>
    rintro v l ⟨v', l', w, h⟩
    obtain ⟨vars', hs, hb⟩ := step _ _ _ _ h
    refine ⟨v', l', w, vars', hs, W_mono hb fun f v l hf => ?_⟩
    cases hq : erF f with
    | next => rw [hq] at hf; exact ih _ _ hf
    | cont => rw [hq] at hf; exact ih _ _ hf
    | brk => rw [hq] at hf; exact hf
    | ret r => rw [hq] at hf; exact hf
theorem Cx.Gr.one {c : Cx} (hc : c.can = false) {h₀ : Heap} (G : c.Gr h₀) : h₀ = c.G₀ := by have := G.turn; rw [hc] at this; simpa using this
theorem loop_at (ok : c.Ok) (hcan : c.can = false) {x : Str} {body : List Stmt} {its : List PV} {fr : List (Addr × Obj)} {E : Value → Shared → Prop} {I : Addr} {fp : List Addr} {P : Nat → Value → Prop} {St0 : Nat → Heap → Prop} {n : Nat}
    (W : Walks PG c.w c.A I fp [I] n P St0) (hn : n = its.length) (hP : ∀ i v, P i v → its[i]? = some (er v)) (hlive : ∀ i h, St0 i h → ∃ o, h.get? I = some o)
    {h₀ : Heap} {m : Str → Option Value} {news : List (Addr × Obj)} {s₂ : Shared} (hE : ∀ e v l s', Flies c fr e v l s' → X v l → E e s')
    (hi : c.inC = false) (hP' : Pas c fr E)
    (G : c.Gr h₀) (F : Fr h₀ c.L s₂.heap m) (N : News h₀ c.L s₂.heap news) (V : VOk c.cm m vars) (Lk : LOk c.w fr news led) (S : Same c.s₀ s₂)
    (hL : c.L ∉ fp) (hI : h₀.get? I = none) (hnw : ∀ p ∈ news, p.1 ≠ I) (hfp : ∀ b ∈ fp, b = I ∨ ∃ o, h₀.get? b = some o) (hst : St0 0 s₂.heap)
    (h : WFor c x body Q X its vars led) : LoopAtV PG c.w c.A h₀ c.env x body (fun f s' => Out c fr (Q (erF f)) s') E (.ref I) s₂ := by
  subst hn
  have hev : c.env = c.own := (ok.here hi).1
  rw [hev]
  refine ⟨I, fp, [I], its.length, P, St0, m, news, fun i m news => (E2 fun v l => A3 (VOk c.cm m v) (LOk c.w fr news l) (WFor c x body Q X (its.drop i) v l)), rfl, W, hL, ?_, ?_, hst, F, N, ⟨vars, led, V, Lk, by simpa using h⟩, ?_, ?_⟩
  · intro b hb; rw [List.mem_singleton.mp hb]; exact hI
  · intro p hp hm; exact hnw p hp (List.mem_singleton.mp hm)
  · rintro i v m₁ news₁ s₁ own ⟨hh, tk, rfl⟩ hil hPv ⟨v₁, l₁, V₁, L₁, hw⟩ hoff hsub hown hall st₁ F₁ N₁
    have hv := hP i v hPv
    have hd : its.drop i = er v :: its.drop (i + 1) := by
      have hlt : i < its.length := hil
      rw [List.drop_eq_getElem_cons hlt]
      rw [List.getElem?_eq_getElem hlt] at hv
      rw [Option.some.inj hv]
    rw [hd] at hw
    obtain ⟨v₂, l₂, wk, vars', hset, hbody⟩ := hw
    replace V₁ := wk.vok V₁
    obtain ⟨news₂, hn2, L₁⟩ := wk.lok L₁
    have hownI : ∀ q ∈ own, q.1 = I := fun q hq => by
      rcases hfp q.1 (hsub q hq) with e | ⟨o, e⟩
      · exact e
      · have := (N₁ q (List.mem_append_left _ hq)).2.2; rw [e] at this; cases this
    obtain ⟨oI, hoI⟩ := hlive _ _ st₁
    have hinI : (I, oI) ∈ own := hall I (W.sub I (by simp)) hI oI hoI
    obtain ⟨news', hn', L'⟩ := L₁.grow own fun p hp q hq e => by
      obtain ⟨o, ho, _⟩ := L₁.mem hp
      exact hoff _ (hn2 _ ho) (by rw [List.mem_singleton, ← hownI q hq, e])
    have S₁ : St c (own ++ fr) vars' l₂ { s₂ with heap := hh, toks := tk } := ⟨h₀, _, news', G, F₁, fun p hp => N₁ p ((List.mem_append.mp (hn' p hp)).elim (fun h => List.mem_append_left _ h) fun h => List.mem_append_right _ (hn2 _ h)), (by have e := (ok.here hi).2; rw [e] at V₁ ⊢; exact hset.ok rfl V₁), L', S.up _ _⟩
    have hb : wpAny c.M c.A (execs body c.env) _ E _ := hbody ok (own ++ fr) E ⟨fun q hq => List.mem_append_right _ (hP'.1 q hq), hP'.2⟩ (fun e v l s' f hx => hE e v l s' f.shrink hx) _ S₁
    rw [hev] at hb
    refine wpAny_mono hb ?_ fun _ _ x => x
    rintro f s₃ ⟨v₃, l₃, S₃, hq⟩
    have back : St c fr v₃ l₃ s₃ := by
      obtain ⟨h₀', m', news₃, G', F', N', V', L'', Sm⟩ := S₃
      obtain ⟨n₄, h1, h2⟩ := L''.shrink
      exact ⟨h₀', m', n₄, G', F', fun p hp => N' p (h1 p hp), V', h2, Sm⟩
    have step : WFor c x body Q X (its.drop (i + 1)) v₃ l₃ → LoopStepU h₀ c.L [I] own (fun m news => (E2 fun v l => A3 (VOk c.cm m v) (LOk c.w fr news l) (WFor c x body Q X (its.drop (i + 1)) v l))) { s₂ with heap := hh, toks := tk } .next s₃ := fun hnext => by
      obtain ⟨h₀', m', news₃, G', F', N', V', L'', Sm⟩ := S₃
      have e0 : h₀' = h₀ := (G'.one hcan).trans (G.one hcan).symm
      subst e0
      obtain ⟨n₄, h1, h2⟩ := L''.shrink
      refine ⟨rfl, s₃.heap, s₃.toks, m', n₄, ?_, F', fun p hp => ?_, fun p hp hm => ?_, v₃, l₃, V', h2, hnext⟩
      · unfold Same at Sm S; rw [Sm, S]
      · rcases List.mem_append.mp hp with hp | hp
        · exact N' p (L''.fr p (List.mem_append_left _ hp))
        · exact N' p (h1 p hp)
      · have hpI := List.mem_singleton.mp hm
        have : p.1 ∈ n₄.map (·.1) := List.mem_map_of_mem hp
        rw [h2.addr, List.mem_append] at this
        rcases this with hm' | hm'
        · obtain ⟨z, hz, ez⟩ := List.mem_map.mp hm'
          exact L''.off z hz (I, oI) (List.mem_append_left _ hinI) (by rw [ez, hpI])
        · obtain ⟨z, hz, ez⟩ := List.mem_map.mp hm'
          exact hnw z (Lk.fr z hz) (ez.trans hpI)
    cases f with
    | next => exact .next (step hq)
    | cont => exact .cont (step hq)
    | brk => exact .brk ⟨_, _, back, hq⟩
    | ret r => exact .ret ⟨_, _, back, hq⟩
  · rintro h' tk m' news' F' N' _ ⟨v, l, V', L', hw⟩
    rw [List.drop_length] at hw
    obtain ⟨v₂, l₂, wk, hw⟩ := hw
    obtain ⟨news₂, hn2, L₂⟩ := wk.lok L'
    exact ⟨v₂, l₂, ⟨h₀, m', news₂, G, F', fun p hp => N' p (hn2 p hp), wk.vok V', L₂, S.up _ _⟩, hw⟩
theorem For_w (hi : c.inC = false) (hcan : c.can = false) {x : Str} {iter : Expr} {body : List Stmt} {px pos : Pos} (hx : c.cs.names.lookup x = some .local) (hs : ∀ env x, foldedSetIterable iter env x = pure x)
    (h : WE c iter (fun p l => ∀ v, er v = p → ∀ (ok : c.Ok) fr E, Pas c fr E → (∀ e v l s', Flies c fr e v l s' → X v l → E e s') → ∀ s, St c fr vars l s → ∀ h₀ m news, c.Gr h₀ → Fr h₀ c.L s.heap m → News h₀ c.L s.heap news → VOk c.cm m vars → LOk c.w fr news l → Same c.s₀ s →
      wpAny c.M c.A (pyIter v) (fun it s₂ => LoopAtV PG c.w c.A h₀ c.env x body (fun f s' => Out c fr (Q (erF f)) s') E it s₂) E s) X vars led) :
    WS1 c (.For (.Name x px) iter body [] pos) Q X vars led := by
  intro ok fr E hP hE s hst
  obtain ⟨h₀, m, news, G, F, N, V, Lk, S⟩ := id hst
  refine For_invV h₀ (by show c.ev.kindOf x = _; rw [(ok.here hi).1]; exact hx) (by show (c.ev.scope.kind == .class || (c.ev.scope.kind == .module && c.ev.locals != c.ev.globals)) = false; rw [(ok.here hi).1]; show (c.cs.kind == .class || (c.cs.kind == .module && c.L != mainGlobals)) = false; rw [ok.fun_]; rfl) (wpAny_mono (h ok fr E hP hE s hst) ?_ fun _ _ x => x) (hs _) (hP.2 hi)
  rintro v s₁ ⟨_, l, S₁, e, h₁⟩
  subst e
  obtain ⟨h₁', m₁, news₁, G₁, F₁, N₁, V₁, L₁, Sm₁⟩ := id S₁
  obtain rfl : h₁' = h₀ := (G₁.one hcan).trans (G.one hcan).symm
  exact h₁ v rfl ok fr E hP hE s₁ S₁ _ _ _ G₁ F₁ N₁ V₁ L₁ Sm₁
theorem next_newI {h₀ h : Heap} {L : Addr} {m : Str → Option Value} (F : Fr h₀ L h m) : h₀.get? h.objs.size = none := by
  cases q : h₀.get? h.objs.size with
  | none => rfl
  | some o => exact absurd (Heap.lt_size (F.keep _ _ q)) (Nat.lt_irrefl _)
/-- for over bytes -/
noncomputable abbrev KFb (x : Str) (body : List Stmt) (c : Cx) (Q : PF → Vars → Led → Prop) (X : Vars → Led → Prop) (vars : Vars) : PV → Led → Prop := fun p l => ∃ b, p = .bytes b ∧ WFor c x body Q X (b.map fun u => .int (u.toNat : Int)) vars l
theorem S_for_bytes {x : Str} {iter : Expr} {body : List Stmt} {px pos : Pos} (hi : c.inC = false) (hcan : c.can = false) (hx : c.cs.names.lookup x = some .local) (hs : ∀ env x, foldedSetIterable iter env x = pure x)
    (h : WE c iter (KFb x body c Q X vars) X vars led) : WS1 c (.For (.Name x px) iter body [] pos) Q X vars led := by
  refine For_w hi hcan hx hs (W_mono h ?_)
  rintro a v l ⟨rfl, b, hb, hw⟩
  refine ⟨rfl, fun v hv ok fr E hP hE s hst h₀ m news G F N V Lk S => ?_⟩
  obtain ⟨t, rfl⟩ := er_bytes (hv.trans hb)
  refine KBw.pyIter_bytes ?_
  have W := KBw.walks (prog := PG) (w := c.w) ok.handled s.heap.objs.size b.toArray t
  refine loop_at ok hcan W (by simp) ?_ (fun _ _ ⟨o, ho, _⟩ => ⟨o, ho⟩) hE hi hP G (F.push _) (fun p hp => ⟨Heap.get?_push_of_some _ (N p hp).1, (N p hp).2⟩) V Lk (S.up _ _) ?_ (next_newI F) ?_ (fun b hb => .inl (List.mem_singleton.mp hb)) ⟨_, Heap.get?_push_size _ rfl, rfl, rfl⟩ hw
  · rintro i v ⟨u, t', hu, rfl⟩
    have hu' : b[i]? = some u := by simpa using hu
    rw [List.getElem?_map, hu']
    rfl
  · intro hm
    exact absurd F.ns.lt ((List.mem_singleton.mp hm) ▸ Nat.lt_irrefl _)
  · intro p hp hI
    exact absurd (Heap.lt_size (N p hp).1) (hI ▸ Nat.lt_irrefl _)
/-- for over a text -/
noncomputable abbrev KFs (x : Str) (body : List Stmt) (c : Cx) (Q : PF → Vars → Led → Prop) (X : Vars → Led → Prop) (vars : Vars) : PV → Led → Prop := fun p l => ∃ b, p = .str b ∧ WFor c x body Q X (b.map fun u => .str [u]) vars l
theorem S_for_str {x : Str} {iter : Expr} {body : List Stmt} {px pos : Pos} (hi : c.inC = false) (hcan : c.can = false) (hx : c.cs.names.lookup x = some .local) (hs : ∀ env x, foldedSetIterable iter env x = pure x)
    (h : WE c iter (KFs x body c Q X vars) X vars led) : WS1 c (.For (.Name x px) iter body [] pos) Q X vars led := by
  refine For_w hi hcan hx hs (W_mono h ?_)
  rintro a v l ⟨rfl, b, hb, hw⟩
  refine ⟨rfl, fun v hv ok fr E hP hE s hst h₀ m news G F N V Lk S => ?_⟩
  obtain ⟨t, rfl⟩ := er_str (hv.trans hb)
  have go : ∀ (o : Obj) (St0 : Nat → Heap → Prop), Walks PG c.w c.A s.heap.objs.size [s.heap.objs.size] [s.heap.objs.size] (⟨b.toArray⟩ : Str).cps.size (SignAt ⟨b.toArray⟩) St0 → (∀ i h, St0 i h → ∃ o, h.get? s.heap.objs.size = some o) → St0 0 (s.heap.push o) →
      LoopAtV PG c.w c.A h₀ c.env x body (fun f s' => Out c fr (Q (erF f)) s') E (.ref s.heap.objs.size) { s with heap := s.heap.push o } := by
    intro o St0 W hl h0
    refine loop_at ok hcan W (by simp) ?_ hl hE hi hP G (F.push _) (fun p hp => ⟨Heap.get?_push_of_some _ (N p hp).1, (N p hp).2⟩) V Lk (S.up _ _) ?_ (next_newI F) ?_ (fun b hb => .inl (List.mem_singleton.mp hb)) h0 hw
    · rintro i v ⟨u, t', hu, rfl⟩
      have hu' : b[i]? = some u := by simpa using hu
      rw [List.getElem?_map, hu']
      rfl
    · intro hm
      exact absurd F.ns.lt ((List.mem_singleton.mp hm) ▸ Nat.lt_irrefl _)
    · intro p hp hI
      exact absurd (Heap.lt_size (N p hp).1) (hI ▸ Nat.lt_irrefl _)
  cases ha : (⟨b.toArray⟩ : Str).cps.all (· < 128)
  · exact wpAny_pyIter_wide ha (go _ _ (Walks.strWide ok.handled _ _ t) (fun _ _ ⟨o, ho, _⟩ => ⟨o, ho⟩) ⟨_, Heap.get?_push_size _ rfl, rfl, rfl⟩)
  · exact wpAny_pyIter_ascii ha (go _ _ (Walks.strAscii ok.handled _ _ t) (fun _ _ ⟨o, ho, _⟩ => ⟨o, ho⟩) ⟨_, Heap.get?_push_size _ rfl, rfl, rfl⟩)
/-- for over a tuple of the top -/
noncomputable abbrev KFt (x : Str) (body : List Stmt) (a : Addr) (c : Cx) (its : List PV) (Q : PF → Vars → Led → Prop) (X : Vars → Led → Prop) (vars : Vars) : PV → Led → Prop := fun p l => p = .ref a ∧ WFor c x body Q X its vars l
theorem S_for_top {x : Str} {iter : Expr} {body : List Stmt} {px pos : Pos} {a : Addr} {its : List Value} {n : Nat} {dd : Option Addr} {sl : Array (Option Value)} (hi : c.inC = false) (hcan : c.can = false) (hx : c.cs.names.lookup x = some .local) (hs : ∀ env x, foldedSetIterable iter env x = pure x)
    (hl : ∀ w, (KF w).lookup a = some ⟨.type "tuple", dd, .seq its.toArray n, sl⟩)
    (h : WE c iter (KFt x body a c (its.map er) Q X vars) X vars led) : WS1 c (.For (.Name x px) iter body [] pos) Q X vars led := by
  refine For_w hi hcan hx hs (W_mono h ?_)
  rintro v v' l ⟨rfl, hb, hw⟩
  refine ⟨rfl, fun v hv ok fr E hP hE s hst h₀ m news G F N V Lk S => ?_⟩
  obtain rfl := er_ref (hv.trans hb)
  have hb0 : h₀.get? a = some ⟨.type "tuple", dd, .seq its.toArray n, sl⟩ := G.K _ _ (hl _)
  have ht : s.heap.IsTuple a its.toArray := ⟨_, F.keep _ _ hb0, rfl, n, rfl⟩
  refine wpAny_pyIter_tuple ht ?_
  have hne : a ≠ s.heap.objs.size := fun e => absurd (Heap.lt_size (F.keep _ _ hb0)) (e ▸ Nat.lt_irrefl _)
  have W := Walks.tuple (prog := PG) (w := c.w) ok.handled s.heap.objs.size a hne its.toArray
  refine loop_at ok hcan W (by simp) ?_ (fun _ _ ⟨⟨o, ho, _⟩, _⟩ => ⟨o, ho⟩) hE hi hP G (F.push _) (fun p hp => ⟨Heap.get?_push_of_some _ (N p hp).1, (N p hp).2⟩) V Lk (S.up _ _) ?_ (next_newI F) ?_ ?_ ⟨⟨_, Heap.get?_push_size _ rfl, rfl, rfl⟩, ht.at fun o e => Heap.get?_push_of_some _ e⟩ hw
  · intro i v hv
    have hv' : its[i]? = some v := by simpa using hv
    rw [List.getElem?_map, hv']
    rfl
  · intro hm
    rcases List.mem_cons.mp hm with hm | hm
    · exact absurd F.ns.lt (hm ▸ Nat.lt_irrefl _)
    · have e := List.mem_singleton.mp hm
      exact absurd (Nat.lt_of_lt_of_le (Heap.lt_size hb0) F.above) (e ▸ Nat.lt_irrefl _)
  · intro p hp hI
    exact absurd (Heap.lt_size (N p hp).1) (hI ▸ Nat.lt_irrefl _)
  · intro b hb
    rcases List.mem_cons.mp hb with e | hb
    · exact .inl e
    · exact .inr ⟨_, (List.mem_singleton.mp hb) ▸ hb0⟩
end
end
section
theorem OR.free {w : World} {o : Obj} {po : PO} (h : OR w o po) : o.isFreed = false := by
  cases po with
  | list vs => obtain ⟨xs, n, rfl, _⟩ := h; rfl
  | tuple vs => obtain ⟨xs, n, rfl, _⟩ := h; rfl
  | dict f n => obtain ⟨ks, _, hf, _⟩ := h; exact hf
  | range a b c => obtain ⟨t, u, v, rfl⟩ := h; rfl
  | cell v => obtain ⟨x, hd, _⟩ := h; cases o; cases hd; rfl
  | fault t dx => obtain ⟨_, hd, _⟩ := h; cases o; cases hd; rfl
  | attrs ns => obtain ⟨_, _, _, hd, _⟩ := h; cases o; cases hd; rfl
inductive UpdL (a : Addr) (po po' : PO) : Led → Led → Prop
  | here {r} : UpdL a po po' ((a, po) :: r) ((a, po') :: r)
  | there {q r r'} : UpdL a po po' r r' → UpdL a po po' (q :: r) (q :: r')
theorem UpdL.mem {a : Addr} {po po' : PO} {led led' : Led} (h : UpdL a po po' led led') : (a, po) ∈ led := by
  induction h with
  | here => exact .head _
  | there _ ih => exact .tail _ ih
theorem LOk.upd {w : World} {fr : List (Addr × Obj)} {a : Addr} {po po' : PO} {led led' : Led} (U : UpdL a po po' led led') : ∀ {news : List (Addr × Obj)}, LOk w fr news led →
    (E1 fun o => A3 (OR w o po) ((a, o) ∈ news) (∀ o', OR w o' po' → ∃ news', Upd a o o' news news' ∧ LOk w fr news' led')) := by
  induction U with
  | here =>
    intro news h
    cases h with
    | @cons _ o _ r r' hn ho hr => exact ⟨o, ho, .head _, fun o' ho' => ⟨_, .head hn, .cons hn ho' hr⟩⟩
  | @there q r r' U ih =>
    intro news h
    cases h with
    | @cons b o po₁ rr r'' hn hob hr =>
      obtain ⟨o₁, h1, h2, h3⟩ := ih hr
      refine ⟨o₁, h1, .tail _ h2, fun o' ho' => ?_⟩
      obtain ⟨news', u, l⟩ := h3 o' ho'
      have hne : b ≠ a := fun e => hn _ h2 e.symm
      refine ⟨(b, o) :: news', .tail hne u, .cons (fun q hq => ?_) hob l⟩
      obtain ⟨pre, post, e1, e2, _, _⟩ := u.split
      rw [e2] at hq
      rcases List.mem_append.mp hq with hq | hq
      · exact hn q (by rw [e1]; exact List.mem_append_left _ hq)
      · rcases List.mem_cons.mp hq with rfl | hq
        · exact fun e => hne e.symm
        · exact hn q (by rw [e1]; exact List.mem_append_right _ (.tail _ hq))
section
variable {c : Cx} {X : Vars → Led → Prop} {vars : Vars} {led : Led}
theorem St.new {c : Cx} {fr vars led s} (h : St c fr vars led s) {o : Obj} {po : PO} (ho : OR c.w o po) (k : Nat) : St c fr vars ((s.heap.objs.size, po) :: led) { s with heap := s.heap.push o, toks := k } := by
  obtain ⟨h₀, m, news, G, F, N, V, Lk, S⟩ := h
  exact ⟨h₀, m, _, G, F.push o, N.push F o ho.free, V, .cons (fun q hq e => absurd (Heap.lt_size (N q hq).1) (e ▸ Nat.lt_irrefl _)) ho Lk, S.up _ _⟩
/-! displays -/
noncomputable abbrev KTup (Q : PV → Led → Prop) : List PV → Led → Prop := fun ps l => ps.length ≤ 1000 ∧ ∀ r, Q (.ref r) ((r, .tuple ps) :: l)
noncomputable abbrev KLst (Q : PV → Led → Prop) : List PV → Led → Prop := fun ps l => ps.length ≤ 1000 ∧ ∀ r, Q (.ref r) ((r, .list ps) :: l)
theorem E_tuple {es : List Expr} {k : Nat} {pos} {Q : PV → Led → Prop} (h : WL c es pos (KTup Q) X vars led) : WE c (.Tuple es k pos) Q X vars led := by
  intro ok fr E hP hE s hs
  refine Tuple_ (wpAny_mono (h ok fr E hP hE s hs) ?_ fun _ _ x => x)
  rintro vs s₁ ⟨_, l, S₁, rfl, hl, h₁⟩
  refine wpAny_newObj_type (data := .seq vs.toArray) ?_ ?_
  · exact ⟨_, _, S₁.new (po := .tuple (vs.map er)) ⟨vs.toArray, 0, rfl, by simp⟩ s₁.toks, rfl, h₁ _⟩
  · show vs.toArray.size ≤ sizeLine
    rw [List.size_toArray, sizeLine_eq]; rw [List.length_map] at hl; lia
theorem E_list {es : List Expr} {pos} {Q : PV → Led → Prop} (h : WL c es pos (KLst Q) X vars led) : WE c (.List es pos) Q X vars led := by
  intro ok fr E hP hE s hs
  refine List_ (wpAny_mono (h ok fr E hP hE s hs) ?_ fun _ _ x => x)
  rintro vs s₁ ⟨_, l, S₁, rfl, hl, h₁⟩
  refine wpAny_newObj_type (data := .seq vs.toArray) ?_ ?_
  · exact ⟨_, _, S₁.new (po := .list (vs.map er)) ⟨vs.toArray, 0, rfl, by simp⟩ s₁.toks, rfl, h₁ _⟩
  · show vs.toArray.size ≤ sizeLine
    rw [List.size_toArray, sizeLine_eq]; rw [List.length_map] at hl; lia
theorem E_dict0 {pos} {Q : PV → Led → Prop} (h : ∀ r, (r == sysModules) = false → Q (.ref r) ((r, .dict (fun _ => none) 0) :: led)) : WE c (.Dict [] [] pos) Q X vars led := by
  intro ok fr E hP hE s hs
  obtain ⟨h₀, m, news, G, F, N, V, Lk, S⟩ := id hs
  refine newDict_K F N G.top.nolimit fun d h' o F' N' hlt hlow hs _ hi _ => ?_
  refine ⟨_, _, ⟨h₀, m, _, G, F', N', V, .cons (fun q hq e => absurd (hlt q hq) (e ▸ Nat.lt_irrefl _)) (po := .dict (fun _ => none) 0) ⟨[], hi, ?_, Nat.le_refl _, fun _ => rfl⟩ Lk, S.up _ _⟩, rfl, h d hlow⟩
  have := (N' _ (.head _)).1
  exact (Heap.get?_some_iff.mp this).2
/-! built-in functions by name -/
noncomputable def Bi (c : Cx) (f : Value) (ps : List PV) (Q : PV → Led → Prop) (X : Vars → Led → Prop) (vars : Vars) (led : Led) : Prop :=
  ∀ vals : List Value, vals.map er = ps → WV c (call f vals) Q X vars led
noncomputable abbrev KBi (f : Value) (c : Cx) (Q : PV → Led → Prop) (X : Vars → Led → Prop) (vars : Vars) : List PV → Led → Prop := fun ps l => Bi c f ps Q X vars l
theorem E_bf {fn : Str} {np pos : Pos} {e : Expr} {es : List Expr} {id : String} {Q : PV → Led → Prop} (hname : WE c (.Name fn np) (KNm (.raw (.builtin id)) led) X vars led)
    (he : ∀ env, starEach (e :: es) env = (false, eval e env) :: starEach es env) (hplain : ∀ env, (backTo pos (starEach es env)).any (·.1) = false)
    (h : WL c (e :: es) pos (KBi (.builtin id) c Q X vars) X vars led) : WE c (.Call (.Name fn np) (e :: es) [] pos) Q X vars led := by
  intro ok fr E hP hE s hs
  refine Call_ (wpAny_mono (hname ok fr E hP hE s hs) ?_ fun _ _ x => x)
  rintro a s₁ ⟨_, l, S₁, rfl, ha, rfl⟩
  obtain rfl := er_raw ha
  refine callWith_builtin1 (wpAny_mono (h ok fr E hP hE s₁ S₁) ?_ fun _ _ x => x) (he _) (hplain _)
  rintro vs s₂ ⟨_, l₂, S₂, e, h₂⟩
  subst e
  exact h₂ vs rfl ok fr E hP hE s₂ S₂
theorem E_bt {fn : Str} {np pos : Pos} {e : Expr} {es : List Expr} {T : String} {Q : PV → Led → Prop} (hname : WE c (.Name fn np) (KNm (.raw (.type T)) led) X vars led)
    (he : ∀ env, starEach (e :: es) env = (false, eval e env) :: starEach es env) (hplain : ∀ env, (backTo pos (starEach es env)).any (·.1) = false)
    (h : WL c (e :: es) pos (KBi (.type T) c Q X vars) X vars led) : WE c (.Call (.Name fn np) (e :: es) [] pos) Q X vars led := by
  intro ok fr E hP hE s hs
  refine Call_ (wpAny_mono (hname ok fr E hP hE s hs) ?_ fun _ _ x => x)
  rintro a s₁ ⟨_, l, S₁, rfl, ha, rfl⟩
  obtain rfl := er_raw ha
  refine PyProof.Rows.callWith_type1 (wpAny_mono (h ok fr E hP hE s₁ S₁) ?_ fun _ _ x => x) (he _) (hplain _)
  rintro vs s₂ ⟨_, l₂, S₂, e, h₂⟩
  subst e
  exact h₂ vs rfl ok fr E hP hE s₂ S₂
variable {Q : PV → Led → Prop}
theorem Bi_lenB {b : List UInt8} (h : Q (.int b.length) led) (hz : b.length ≤ 16777216) : Bi c (.builtin "len") [.bytes b] Q X vars led := by
  intro vals hv' ok fr E hP hE s hs
  obtain ⟨v, rfl, hv⟩ := map1 hv'
  obtain ⟨t, rfl⟩ := er_bytes hv
  exact len_bytes (by simp; lia) (hs.only (v := .int _ _) _ (by simpa [er] using h))
theorem Bi_lenS {b : List Nat} (h : Q (.int b.length) led) (hz : b.length ≤ 16777216) : Bi c (.builtin "len") [.str b] Q X vars led := by
  intro vals hv' ok fr E hP hE s hs
  obtain ⟨v, rfl, hv⟩ := map1 hv'
  obtain ⟨t, rfl⟩ := er_str hv
  exact P.len_str (by simp [Str.length]; lia) (hs.only (v := .int _ _) _ (by simpa [er, Str.length] using h))
theorem Bi_lenL {a : Addr} {vs : List PV} (hm : (a, .list vs) ∈ led) (h : Q (.int vs.length) led) (hz : vs.length ≤ 16777216) : Bi c (.builtin "len") [.ref a] Q X vars led := by
  intro vals hv' ok fr E hP hE s hs
  obtain ⟨v, rfl, hv⟩ := map1 hv'
  obtain rfl := er_ref hv
  obtain ⟨h₀, m, news, G, F, N, V, Lk, S⟩ := id hs
  obtain ⟨o, ho, xs, n, rfl, hx⟩ := Lk.mem hm
  have hl : xs.size = vs.length := by rw [← hx, List.length_map, Array.length_toList]
  exact len_list (N.isList ho) (by rw [hl]; lia) (by rw [hl]; exact hs.only (v := .int _ _) _ h)
theorem Bi_ord {u : Nat} (h : Q (.int u) led) : Bi c (.builtin "ord") [.str [u]] Q X vars led := by
  intro vals hv' ok fr E hP hE s hs
  obtain ⟨v, rfl, hv⟩ := map1 hv'
  obtain ⟨t, rfl⟩ := er_str hv
  exact P.ord_of_char (hs.only (v := .int _ _) _ h)
theorem Bi_chr {i : Int} (h : Q (.str [i.toNat]) led) (h0 : 0 ≤ i) (h1 : i ≤ 0x10FFFF) : Bi c (.builtin "chr") [.int i] Q X vars led := by
  intro vals hv' ok fr E hP hE s hs
  obtain ⟨v, rfl, hv⟩ := map1 hv'
  obtain ⟨t, rfl⟩ := er_int hv
  exact P.chr_of_int (by simp; lia) (hs.only (v := .str _ _) _ (by simpa [er] using h))
theorem Bi_abs {i : Int} (h : Q (.int (if i < 0 then -i else i)) led) : Bi c (.builtin "abs") [.int i] Q X vars led := by
  intro vals hv' ok fr E hP hE s hs
  obtain ⟨v, rfl, hv⟩ := map1 hv'
  obtain ⟨t, rfl⟩ := er_int hv
  exact call_abs_int fun u tk => hs.only (v := .int _ u) tk h
theorem Bi_range1 {n : Int} (h : ∀ r, Q (.ref r) ((r, .range 0 n 1) :: led)) : Bi c (.type "range") [.int n] Q X vars led := by
  intro vals hv' ok fr E hP hE s hs
  obtain ⟨v, rfl, hv⟩ := map1 hv'
  obtain ⟨t, rfl⟩ := er_int hv
  exact call_range_1 ⟨_, _, hs.new (po := .range 0 n 1) ⟨_, _, _, rfl⟩ _, rfl, h _⟩
theorem Bi_range3 {a b d : Int} (h : ∀ r, Q (.ref r) ((r, .range a b d) :: led)) (hd : d ≠ 0) (hd' : d.natAbs < 1073741824) : Bi c (.type "range") [.int a, .int b, .int d] Q X vars led := by
  intro vals hv' ok fr E hP hE s hs
  obtain ⟨v, u, t, rfl, hv, hu, ht⟩ := map3 hv'
  obtain ⟨t1, rfl⟩ := er_int hv
  obtain ⟨t2, rfl⟩ := er_int hu
  obtain ⟨t3, rfl⟩ := er_int ht
  exact call_range_3 hd ⟨_, _, hs.new (po := .range a b d) ⟨_, _, _, rfl⟩ _, rfl, h _⟩ (.inl (PyProof.noPylong_small hd'))
end
end
section
section
variable {c : Cx} {X : Vars → Led → Prop} {vars : Vars} {led : Led} {Q : PF → Vars → Led → Prop}
/-! while -/
noncomputable abbrev KWn (P : Nat → Vars → Led → Prop) (n : Nat) : Vars → Led → Prop := fun v' l' => (E2 fun v l => A2 (Wk v' l' v l) (∃ m, m < n ∧ P m v l))
noncomputable abbrev KWh (body : List Stmt) (c : Cx) (P : Nat → Vars → Led → Prop) (n : Nat) (Q : PF → Vars → Led → Prop) (X : Vars → Led → Prop) (vars : Vars) : Bool → Led → Prop := fun b l' => if b then WS c body (Trn (KWn P n) Q) X vars l' else Q .next vars l'
theorem S_while (hi : c.inC = false) {test : Expr} {body : List Stmt} {pos} (P : Nat → Vars → Led → Prop) (n₀ : Nat) (h0 : (E2 fun v l => A2 (Wk vars led v l) (P n₀ v l)))
    (step : ∀ n v l, P n v l → WT c test (KWh body c P n Q X v) X v l) : WS1 c (.While test body [] pos) Q X vars led := by
  intro ok fr E hP hE s hst
  obtain ⟨v₀, l₀, w, h0⟩ := h0
  refine wpAny_While (codeAny_whileLoop (fun n s' => Out c fr (P n) s') ?_ n₀ ⟨_, _, hst.wk w, h0⟩)
  rintro n s' ⟨v, l, S, hp⟩
  refine wpAny_mono (step n v l hp ok fr E hP hE s' S) ?_ (hP.2 hi)
  rintro b s₂ ⟨v₂, l₂, S₂, e, h₂⟩
  subst e
  cases b with
  | false =>
    simp only [Bool.false_eq_true, if_false] at h₂ ⊢
    exact wpAny_execs_nil ⟨_, _, S₂, h₂⟩
  | true =>
    simp only [if_true] at h₂ ⊢
    refine wpAny_mono (h₂ ok fr E hP hE s₂ S₂) ?_ (hP.2 hi)
    rintro f s₃ ⟨v₃, l₃, S₃, h₃⟩
    have go : ((E2 fun v l => A2 (Wk v₃ l₃ v l) (∃ m, m < n ∧ P m v l))) → ∃ m, m < n ∧ Out c fr (P m) s₃ := fun ⟨v, l, w, m, hm, hp⟩ => ⟨m, hm, v, l, S₃.wk w, hp⟩
    cases f with
    | next => exact go h₃
    | cont => exact go h₃
    | brk => exact ⟨_, _, S₃, h₃⟩
    | ret r => exact ⟨_, _, S₃, h₃⟩
/-! a statement of an expression alone -/
noncomputable abbrev KEx (Q : PF → Vars → Led → Prop) (vars : Vars) : PV → Led → Prop := fun _ l => Q .next vars l
theorem S_expr (hi : c.inC = false) {e : Expr} {pos} (h : WE c e (KEx Q vars) X vars led) (hs : ∀ env, swapsWith e none pos.line env = pure false) : WS1 c (.Expr e pos) Q X vars led := by
  intro ok fr E hP hE s hst
  refine wpAny_Expr_any (wpAny_mono (h ok fr E hP hE s hst) ?_ fun _ _ x => x) (by show (c.ev.scope.kind == .module && _) = false; rw [(ok.here hi).1]; show (c.cs.kind == .module && _) = false; rw [ok.fun_]; rfl) (hs _)
  rintro a s₁ ⟨_, l, S₁, e, h₁⟩
  subst e
  exact ⟨_, _, S₁, h₁⟩
/-! stores of many -/
inductive SetVs : List Str → List PV → Vars → Vars → Prop
  | nil {v} : SetVs [] [] v v
  | cons {x xs p ps v v' v''} : SetV x p v v' → SetVs xs ps v' v'' → SetVs (x :: xs) (p :: ps) v v''
theorem SetVs.len {names ps} {v v' : Vars} (h : SetVs names ps v v') : names.length = ps.length := by
  induction h with
  | nil => rfl
  | cons _ _ ih => simp [ih]
noncomputable def Goes (c : Cx) (x : Str) (f : Value → Sem Unit) : Prop := ∀ v (R : Unit → Shared → Prop) E s, wpAny c.M c.A (storeName c.env x v) R E s → wpAny c.M c.A (f v) R E s
theorem St.stores (hi : c.inC = false) {R : Unit → Shared → Prop} {E : Value → Shared → Prop} (ok : c.Ok) : ∀ {ts : List (Str × (Value → Sem Unit))} {vals : List Value} {vars vars' : Vars} {s : Shared}, SetVs (ts.map (·.1)) (vals.map er) vars vars' → (∀ x ∈ ts, c.cs.names.lookup x.1 = some .local ∧ Goes c x.1 x.2) → St c fr vars led s → (∀ s', St c fr vars' led s' → R () s') →
    wpAny c.M c.A (assignInOrder (ts.map (·.2)) vals) R E s
  | [], [], _, _, _, h, _, hs, k => by cases h; exact wpAny_pure (k _ hs)
  | [], _ :: _, _, _, _, h, _, _, _ => by cases h
  | _ :: _, [], _, _, _, h, _, _, _ => by cases h
  | x :: xs, v :: vs, _, _, _, h, hx, hs, k => by
    cases h with
    | cons h1 h2 =>
      show wpAny _ _ (do holding vs (x.2 v); assignInOrder (xs.map (·.2)) vs) _ _ _
      refine wpAny_bind (wpAny_holding ((hx x (.head _)).2 _ _ _ _ (hs.store ok hi rfl (hx x (.head _)).1 h1 fun s' S' => ?_)))
      exact S'.stores hi ok h2 (fun y hy => hx y (.tail _ hy)) k
theorem St.ext {fr} {s : Shared} {h' : Heap} (hs : St c fr vars led s) (he : Heap.ExtBut s.heap.objs.size s.heap h') : St c fr vars led { s with heap := h' } := by
  obtain ⟨h₀, m, news, G, F, N, V, Lk, S⟩ := hs
  exact ⟨h₀, m, news, G, F.extBut he (Nat.le_refl _), N.extBut he (Nat.le_refl _), V, Lk, S.up _ _⟩
theorem St.unpack {E : Value → Shared → Prop} {fr s} (ok : c.Ok) (hs : St c fr vars led s) {t : Addr} {ps : List PV} (hm : (t, .tuple ps) ∈ led ∨ (t, .list ps) ∈ led) {n : Nat} (hn : n = ps.length) {R : List Value → Shared → Prop}
    (k : ∀ vals h', vals.map er = ps → St c fr vars led { s with heap := h' } → R vals { s with heap := h' }) : wpAny c.M c.A (unpackItems (.ref t) n none) R E s := by
  obtain ⟨h₀, m, news, G, F, N, V, Lk, S⟩ := id hs
  subst hn
  rcases hm with hm | hm
  · obtain ⟨o, ho, xs, n, rfl, hx⟩ := Lk.mem hm
    have hl : ps.length = xs.size := by rw [← hx, List.length_map, Array.length_toList]
    rw [hl]
    exact unpackItems_tuple ok.handled (N.isTup ho) fun h' he => k _ _ hx (hs.ext he)
  · obtain ⟨o, ho, xs, n, rfl, hx⟩ := Lk.mem hm
    have hl : ps.length = xs.size := by rw [← hx, List.length_map, Array.length_toList]
    rw [hl]
    exact kun_itemsOf ok.handled (N.isList ho) fun h' he => k _ _ hx (hs.ext he)
inductive TupL (led : Led) : PV → List PV → Prop
  | t {a ps} : (a, .tuple ps) ∈ led → TupL led (.ref a) ps
  | l {a ps} : (a, .list ps) ∈ led → TupL led (.ref a) ps
theorem TupL.ex {led : Led} {p ps} (h : TupL led p ps) : ∃ a, p = .ref a ∧ ((a, .tuple ps) ∈ led ∨ (a, .list ps) ∈ led) := by
  cases h with
  | t h => exact ⟨_, rfl, .inl h⟩
  | l h => exact ⟨_, rfl, .inr h⟩
noncomputable abbrev KUn (xs : List Str) (Q : PF → Vars → Led → Prop) (vars : Vars) : PV → Led → Prop := fun p l => ∃ ps, TupL l p ps ∧ ∃ vars', SetVs xs ps vars vars' ∧ Q .next vars' l
noncomputable abbrev KUr (xs : List Str) (Q : PF → Vars → Led → Prop) (vars : Vars) : PV → Led → Prop := fun p l => ∃ ps, TupL l p ps ∧ ∃ vars', SetVs xs ps.reverse vars vars' ∧ Q .next vars' l
theorem S_unpack (hi : c.inC = false) {elts : List Expr} {k tpos} {value : Expr} {pos} (ts : List (Str × Pos)) (h : WE c value (KUn (ts.map (·.1)) Q vars) X vars led)
    (hx : ∀ x ∈ ts.map (·.1), c.cs.names.lookup x = some .local)
    (hs : ∀ env, swapsWithSole [.Tuple elts k tpos] value pos.line env = pure false) (hw : ∀ env, swappedStores [.Tuple elts k tpos] value env = pure none)
    (he : ∀ env, assignEach elts env = ts.map fun n => (false, assign (.Name n.1 n.2) env)) :
    WS1 c (.Assign [.Tuple elts k tpos] value pos) Q X vars led := by
  intro ok fr E hP hE s hst
  refine Assign_Tuple (wpAny_mono (h ok fr E hP hE s hst) ?_ fun _ _ x => x) (hs _) (hw _)
  rintro a s₁ ⟨_, l, S₁, e, ps, hm, vars', hset, h₁⟩
  subst e
  obtain ⟨t, ha, hm'⟩ := hm.ex
  obtain rfl := er_ref ha
  rw [PyProof.Rows.assign_Tuple]
  refine wpAny_bind (wpAny_standAt ?_)
  unfold unpack
  rw [he]
  have e1 : ((ts.map fun n => (false, assign (.Name n.1 n.2) c.env)).findIdx? (·.1)) = none := by
    rw [List.findIdx?_eq_none_iff]; intro x hx; obtain ⟨n, _, rfl⟩ := List.mem_map.mp hx; rfl
  have e2 : (ts.map fun n => (false, assign (.Name n.1 n.2) c.env)).length = ps.length := by
    rw [List.length_map]; simpa using hset.len
  rw [e1]
  refine wpAny_bind (wpAny_holding (S₁.unpack ok hm' e2 fun vals h' hv S' => ?_))
  subst hv
  have e3 : (ts.map fun n => (false, assign (.Name n.1 n.2) c.env)).map (·.2) = (ts.map fun n => (n.1, assign (.Name n.1 n.2) c.env)).map (·.2) := by simp
  rw [e3]
  refine S'.stores hi ok (by simpa [List.map_map, Function.comp_def] using hset) ?_ fun s' S'' => ⟨_, _, S'', h₁⟩
  intro x hx'
  obtain ⟨n, hn, rfl⟩ := List.mem_map.mp hx'
  exact ⟨hx _ (List.mem_map_of_mem hn), fun v R E s h => PyProof.Rows.assign_Name h⟩
/-- the stores in the other order -/
theorem S_unpackR (hi : c.inC = false) {elts : List Expr} {k tpos} {value : Expr} {pos} (ts : List Str) (h : WE c value (KUr ts.reverse Q vars) X vars led)
    (hx : ∀ x ∈ ts, c.cs.names.lookup x = some .local)
    (hs : ∀ env, swapsWithSole [.Tuple elts k tpos] value pos.line env = pure false) (hw : c.Ok → swappedStores [.Tuple elts k tpos] value c.env = pure (some ts)) :
    WS1 c (.Assign [.Tuple elts k tpos] value pos) Q X vars led := by
  intro ok fr E hP hE s hst
  refine Assign_Tuple_swapped (wpAny_mono (h ok fr E hP hE s hst) ?_ fun _ _ x => x) (hs _) (hw ok)
  rintro a s₁ ⟨_, l, S₁, e, ps, hm, vars', hset, h₁⟩
  subst e
  obtain ⟨t, ha, hm'⟩ := hm.ex
  obtain rfl := er_ref ha
  refine S₁.unpack ok hm' (by simpa using hset.len) fun vals h' hv S' => ?_
  subst hv
  have e3 : (ts.reverse.map fun n => bindName c.env n) = (ts.reverse.map fun n => (n, bindName c.env n)).map (·.2) := by simp
  rw [e3]
  refine S'.stores hi ok (by simpa [List.map_map, Function.comp_def] using hset) ?_ fun s' S'' => ⟨_, _, S'', h₁⟩
  intro x hx'
  obtain ⟨n, hn, rfl⟩ := List.mem_map.mp hx'
  exact ⟨hx _ (List.mem_reverse.mp hn), fun v R E s h => wpAny_bindName h⟩
/-- two targets of one value -/
noncomputable abbrev KS2 (x : Str) (y : Str) (Q : PF → Vars → Led → Prop) (vars : Vars) : PV → Led → Prop := fun p l => ∃ v₁, SetV x p vars v₁ ∧ ∃ v₂, SetV y p v₁ v₂ ∧ Q .next v₂ l
theorem S_set2 (hi : c.inC = false) {x y : Str} {px py} {e : Expr} {pos} (h : WE c e (KS2 x y Q vars) X vars led) (hx : c.cs.names.lookup x = some .local) (hy : c.cs.names.lookup y = some .local)
    (hw : ∀ env, swappedStores [.Name x px, .Name y py] e env = pure none) : WS1 c (.Assign [.Name x px, .Name y py] e pos) Q X vars led := by
  intro ok fr E hP hE s hst
  refine wpAny_Assign_two (wpAny_mono (h ok fr E hP hE s hst) ?_ fun _ _ x => x) (by rfl) (hw _)
  rintro a s₁ ⟨_, l, S₁, e, v₁, hset, v₂, hset2, h₁⟩
  subst e
  exact PyProof.Rows.assign_Name (S₁.store ok hi rfl hx hset fun s' S' => PyProof.Rows.assign_Name (S'.store ok hi rfl hy hset2 fun s'' S'' => ⟨_, _, S'', h₁⟩))
/-! items -/
theorem seq_ix {i : Int} {n : Nat} (h0 : 0 ≤ i) (h1 : i.toNat < n) : seqIndex? i n = some i.toNat := by
  unfold seqIndex?
  simp only [if_neg (show ¬ i < 0 by lia)]
  rw [if_pos (by simp; lia)]
variable {Q : PV → Led → Prop}
noncomputable def WIt (c : Cx) (value slice : Expr) (p q : PV) (Q : PV → Led → Prop) (X : Vars → Led → Prop) (vars : Vars) (led : Led) : Prop :=
  (∀ o i, subscripted slice false o i = operate [o, i] (getItem o i)) → ∀ o i, er o = p → er i = q → WV c (subscriptTail value slice o i) Q X vars led
noncomputable abbrev KI2 (value : Expr) (ix : Expr) (c : Cx) (p : PV) (Q : PV → Led → Prop) (X : Vars → Led → Prop) (vars : Vars) : PV → Led → Prop := fun q l => WIt c value ix p q Q X vars l
noncomputable abbrev KI1 (value : Expr) (ix : Expr) (c : Cx) (Q : PV → Led → Prop) (X : Vars → Led → Prop) (vars : Vars) : PV → Led → Prop := fun p l => WE c ix (KI2 value ix c p Q X vars) X vars l
theorem E_item {value ix : Expr} {pos} (h : WE c value (KI1 value ix c Q X vars) X vars led)
    (hs : ∀ o i, subscripted ix false o i = operate [o, i] (getItem o i)) : WE c (.Subscript value ix pos) Q X vars led := by
  intro ok fr E hP hE s hst
  refine Subscript_ (wpAny_mono (h ok fr E hP hE s hst) ?_ fun _ _ x => x)
  rintro o s₁ ⟨_, l, S₁, e, h₁⟩
  subst e
  refine wpAny_mono (h₁ ok fr E hP hE s₁ S₁) ?_ fun _ _ x => x
  rintro i s₂ ⟨_, l₂, S₂, e, h₂⟩
  subst e
  exact h₂ hs _ _ rfl rfl ok fr E hP hE s₂ S₂
theorem It_bytes {value ix : Expr} {b : List UInt8} {i : Int} (h0 : 0 ≤ i) (h1 : i < b.length) (hz : b.length ≤ 16777216) (h : Q (.int (b.getD i.toNat 0).toNat) led) : WIt c value ix (.bytes b) (.int i) Q X vars led := by
  intro hs o q ho hq ok fr E hP hE s hst
  obtain ⟨t, rfl⟩ := er_bytes ho
  obtain ⟨u, rfl⟩ := er_int hq
  exact KBy.item_N (by lia) h0 h1 (hst.only (v := .int _ _) _ h) (hs _ _) (by intro r; cases value <;> rfl)
theorem It_str {value ix : Expr} {b : List Nat} {i : Int} (h0 : 0 ≤ i) (h1 : i < b.length) (hz : b.length ≤ 16777216) (h : Q (.str [b.getD i.toNat 0]) led) : WIt c value ix (.str b) (.int i) Q X vars led := by
  intro hs o q ho hq ok fr E hP hE s hst
  obtain ⟨t, rfl⟩ := er_str ho
  obtain ⟨u, rfl⟩ := er_int hq
  have hl : i.toNat < b.length := by lia
  have e : Txt.item ⟨b.toArray⟩ i = ⟨#[b.getD i.toNat 0]⟩ := item_meets h0 (by simp [hl])
  refine item_str (by simp [fitsSsize]; lia) (by simp [Str.length]; lia) (by simpa [Str.length] using h1) (fun _ => ?_) (hs _ _) (by intro r; cases value <;> rfl)
  rw [e]
  exact hst.only (v := .str _ _) _ (by simpa [er] using h)
theorem It_list {value ix : Expr} {a : Addr} {vs : List PV} {i : Int} {v : PV} (hm : (a, .list vs) ∈ led) (h0 : 0 ≤ i) (h1 : vs[i.toNat]? = some v) (hz : vs.length ≤ 16777216) (h : Q v led) : WIt c value ix (.ref a) (.int i) Q X vars led := by
  intro hs o q ho hq ok fr E hP hE s hst
  obtain rfl := er_ref ho
  obtain ⟨u, rfl⟩ := er_int hq
  obtain ⟨h₀, m, news, G, F, N, V, Lk, S⟩ := id hst
  obtain ⟨ob, hob, xs, n, rfl, hx⟩ := Lk.mem hm
  subst hx
  obtain ⟨x, hx, rfl⟩ : ∃ x, xs[i.toNat]? = some x ∧ er x = v := by simpa using h1
  have hlt : i.toNat < xs.size := by rcases Nat.lt_or_ge i.toNat xs.size with h | h; exact h; rw [Array.getElem?_eq_none h] at hx; cases hx
  have hl := N.isList hob
  exact tail_any hl.typeIs slot_list_getitem.lookup (wpAny_getItem_list hl h0 (by simp at hz; lia) hx (hst.same h)) (hs _ _)
theorem It_last {value ix : Expr} {a : Addr} {vs : List PV} {v : PV} (hm : (a, .list vs) ∈ led) (h1 : vs.getLast? = some v) (hz : vs.length ≤ 16777216) (h : Q v led) : WIt c value ix (.ref a) (.int (-1)) Q X vars led := by
  intro hs o q ho hq ok fr E hP hE s hst
  obtain rfl := er_ref ho
  obtain ⟨u, rfl⟩ := er_int hq
  obtain ⟨h₀, m, news, G, F, N, V, Lk, S⟩ := id hst
  obtain ⟨ob, hob, xs, n, rfl, hx⟩ := Lk.mem hm
  subst hx
  rw [List.getLast?_eq_getElem?] at h1
  obtain ⟨x, hx, rfl⟩ : ∃ x, xs[xs.size - 1]? = some x ∧ er x = v := by simpa using h1
  have hlt : xs.size - 1 < xs.size := by rcases Nat.lt_or_ge (xs.size - 1) xs.size with h | h; exact h; rw [Array.getElem?_eq_none h] at hx; cases hx
  have hl := N.isList hob
  exact tail_any hl.typeIs slot_list_getitem.lookup (wpAny_getItem_list_neg hl (by decide) (by lia) (by decide) (by rw [show (-1 + (xs.size : Int)).toNat = xs.size - 1 by lia]; exact hx) (hst.same h)) (hs _ _)
theorem It_tup {value ix : Expr} {a : Addr} {vs : List PV} {i : Int} {v : PV} (hm : (a, .tuple vs) ∈ led) (h0 : 0 ≤ i) (h1 : vs[i.toNat]? = some v) (hz : vs.length ≤ 16777216) (h : Q v led) : WIt c value ix (.ref a) (.int i) Q X vars led := by
  intro hs o q ho hq ok fr E hP hE s hst
  obtain rfl := er_ref ho
  obtain ⟨u, rfl⟩ := er_int hq
  obtain ⟨h₀, m, news, G, F, N, V, Lk, S⟩ := id hst
  obtain ⟨ob, hob, xs, n, rfl, hx⟩ := Lk.mem hm
  subst hx
  obtain ⟨x, hx, rfl⟩ : ∃ x, xs[i.toNat]? = some x ∧ er x = v := by simpa using h1
  have hlt : i.toNat < xs.size := by rcases Nat.lt_or_ge i.toNat xs.size with h | h; exact h; rw [Array.getElem?_eq_none h] at hx; cases hx
  have hl := N.isTup hob
  have hz' : xs.size ≤ 16777216 := by simpa using hz
  have hi : (i : Int) < 16777216 := by lia
  refine tail_any hl.typeIs slot_tuple_getitem.lookup (getItem_tuple (j := i.toNat) hl (by lia) (by lia) (seq_ix h0 (by lia)) hx (hst.same h)) (hs _ _)
theorem It_top {value ix : Expr} {a : Addr} {its : List Value} {n : Nat} {dd : Option Addr} {sl : Array (Option Value)} {i : Int} (hl : ∀ w, (KF w).lookup a = some ⟨.type "tuple", dd, .seq its.toArray n, sl⟩) (h0 : 0 ≤ i) (h1 : i < its.length) (hz : its.length ≤ 16777216)
    (h : ∀ x, its[i.toNat]? = some x → Q (er x) led) : WIt c value ix (.ref a) (.int i) Q X vars led := by
  intro hs o q ho hq ok fr E hP hE s hst
  obtain rfl := er_ref ho
  obtain ⟨u, rfl⟩ := er_int hq
  obtain ⟨h₀, m, news, G, F, N, V, Lk, S⟩ := id hst
  have ht := kun_topT F G.K (hl _)
  have hlt : i.toNat < its.length := by lia
  refine tail_any ht.typeIs slot_tuple_getitem.lookup (getItem_tuple (j := i.toNat) (x := its[i.toNat]) ht (by lia) (by lia) (seq_ix h0 (by simpa using hlt)) (by simp [hlt]) (hst.same (h _ (by simp [hlt])))) (hs _ _)
end
end
section
open LCg LCt
noncomputable def relab (cs sc : Scope) : Scope :=
  { sc with names := sc.names.map fun (n, k) => if (k == NameKind.free && cs.kind == .function && cs.names.lookup n == some .cell) then (n, NameKind.cell) else (n, k) }
noncomputable def Cx.comp (c : Cx) (sc : Scope) (cl : List (Str × Addr)) (C : Addr) (oC : Obj) (m : Str → Option Value) (x : Str) (p : PV) : Cx :=
  { c with ev := compEnvC sc cl C c.own, inC := true, keepo := [(C, oC)], cm := some m, csc := relabel sc c.own, ccl := cl, cvars := [(x, p)] }
/-- the context of a comprehension's element -/
structure IsComp (c c' : Cx) (csc : Scope) (cl : List (Str × Addr)) (x : Str) (p : PV) : Prop where
  inC : c'.inC = true
  can : c'.can = c.can
  room : c'.room = c.room
  csc : c'.csc = csc
  ccl : c'.ccl = cl
  cv : c'.cvars = [(x, p)]
noncomputable def WComp (c : Cx) (csc : Scope) (cl : List (Str × Addr)) (x : Str) (ct : Option Expr) (elt : Expr) (Q : List PV → Led → Prop) (vars : Vars) : List PV → List PV → Led → Prop
  | [], ys, led => ∃ l, l.Sublist led ∧ Q ys l
  | p :: rest, ys, led => ∃ l, l.Sublist led ∧ ∀ c', IsComp c c' csc cl x p → match ct with
    | none => WE c' elt (fun y l' => WComp c csc cl x ct elt Q vars rest (ys ++ [y]) l') (fun _ _ => False) vars l
    | some t => WT c' t (fun b l' => if b then WE c' elt (fun y l'' => WComp c csc cl x ct elt Q vars rest (ys ++ [y]) l'') (fun _ _ => False) vars l' else WComp c csc cl x ct elt Q vars rest ys l') (fun _ _ => False) vars l
theorem WComp_map {c : Cx} {csc cl x elt} {Q : List PV → Led → Prop} {vars : Vars} (f : PV → PV) (led : Led) : ∀ (its : List PV) (h : ∀ p ∈ its, ∀ c', IsComp c c' csc cl x p → ∀ R : PV → Led → Prop, R (f p) led → WE c' elt R (fun _ _ => False) vars led)
    (ys : List PV), Q (ys ++ its.map f) led → WComp c csc cl x none elt Q vars its ys led
  | [], _, ys, hQ => ⟨led, .refl _, by simpa using hQ⟩
  | p :: rest, h, ys, hQ => ⟨led, .refl _, fun c' hc => h p (.head _) c' hc _ (WComp_map f led rest (fun q hq => h q (.tail _ hq)) (ys ++ [f p]) (by simpa using hQ))⟩
section
variable {c : Cx} {X : Vars → Led → Prop} {vars : Vars} {led : Led}
inductive CStep {α : Type} (c : Cx) (h₀ : Heap) (s₀ : Shared) (m : Str → Option Value) (fr₁ : List (Addr × Obj)) (I C D : Addr) (oI oC oD : Obj) (R : α → Led → Prop) (a : α) (s' : Shared) : Prop
  | mk (h' : Heap) (tk : Nat) (n₄ : List (Addr × Obj)) (l' : Led) (e : s' = { s₀ with heap := h', toks := tk }) (F : Fr h₀ c.L h' m) (N : News h₀ c.L h' ((I, oI) :: (C, oC) :: (D, oD) :: n₄)) (off : Off3 I C D n₄) (L : LOk c.w fr₁ n₄ l') (S : Same c.s₀ s') (r : R a l')
theorem comp_run {α : Type} (ok : c.Ok) (hcan : c.can = false) {sc : Scope} {cl : List (Str × Addr)} {x : Str} {v : Value} {t : Sem α} {R : α → Led → Prop} {I C D : Addr} {oI oC oD : Obj} {m m₂ : Str → Option Value} {fr₁ news : List (Addr × Obj)} {h₀ : Heap} {s s₀ : Shared} {E' : Value → Shared → Prop}
    (hk : sc.kind = .function) (hns : NsObj oC m₂) (hv : m₂ x = some v) (G : c.Gr h₀) (F : Fr h₀ c.L s.heap m) (N : News h₀ c.L s.heap ((I, oI) :: (C, oC) :: (D, oD) :: news)) (off : Off3 I C D news) (V : VOk c.cm m vars) (Lk : LOk c.w fr₁ news led) (S : Same c.s₀ s)
    (hs : s = { s₀ with heap := s.heap, toks := s.toks })
    (h : W (c.comp sc cl C oC m x (er v)) t (fun a v' l => v' = vars ∧ R a l) (fun _ _ => False) vars led) :
    wpAny c.M c.A t (CStep c h₀ s₀ m fr₁ I C D oI oC oD R) E' s := by
  have offm := off.mem
  have ok' : (c.comp sc cl C oC m x (er v)).Ok := ⟨ok.handled, ok.frames, fun h => (nomatch h), fun _ => ⟨sc, C, oC, m₂, rfl, rfl, hk, .head _, hns, fun p hp => by
    obtain rfl := List.mem_singleton.mp hp; exact ⟨v, hv, rfl⟩⟩, ok.fun_, ok.depth, ok.units, ok.baseK, ok.baseT⟩
  obtain ⟨news', hn', L'⟩ := Lk.grow [(I, oI), (C, oC), (D, oD)] fun p hp q hq e => by
    obtain ⟨o, ho, _⟩ := Lk.mem hp
    have := offm _ ho
    rcases List.mem_cons.mp hq with rfl | hq
    · exact this.1 e.symm
    · rcases List.mem_cons.mp hq with rfl | hq
      · exact this.2.1 e.symm
      · obtain rfl := List.mem_singleton.mp hq
        exact this.2.2 e.symm
  have S' : St (c.comp sc cl C oC m x (er v)) ([(I, oI), (C, oC), (D, oD)] ++ fr₁) vars led s :=
    ⟨h₀, m, news', ⟨G.below, G.K, G.top, G.turn, G.dicts⟩, F, fun p hp => N p (by
      rcases List.mem_append.mp (hn' p hp) with h | h
      · rcases List.mem_cons.mp h with rfl | h
        · exact .head _
        · rcases List.mem_cons.mp h with rfl | h
          · exact .tail _ (.head _)
          · obtain rfl := List.mem_singleton.mp h; exact .tail _ (.tail _ (.head _))
      · exact .tail _ (.tail _ (.tail _ h))), ⟨V.1, V.2, fun mm e => Option.some.inj e⟩, L', S⟩
  refine wpAny_mono (h ok' ([(I, oI), (C, oC), (D, oD)] ++ fr₁) E' ⟨fun q hq => by obtain rfl := List.mem_singleton.mp hq; exact .tail _ (.head _), fun h => (nomatch h)⟩ (fun _ _ _ _ _ h => h.elim) s S') ?_ fun _ _ x => x
  rintro a s' ⟨_, l', ⟨h₀', m', n₃, G', F', N', V', L'', Sm⟩, rfl, hR⟩
  have e0 : h₀' = h₀ := ((Cx.Gr.one (c := c.comp sc cl C oC m x (er v)) hcan G').trans (G.one hcan).symm)
  subst e0
  obtain rfl : m' = m := V'.3 m rfl
  obtain ⟨n₄, h1, h2⟩ := L''.shrink
  have sub := L''.fr
  refine ⟨s'.heap, s'.toks, n₄, l', ?_, F', fun p hp => ?_, Off3.of fun p hp => ?_, h2, Sm, hR⟩
  · have Sm' : Same c.s₀ s' := Sm
    unfold Same at Sm' S
    rw [S] at hs
    rw [Sm']
    cases s₀; cases hc : c.s₀; simp [hc] at hs ⊢
    exact hs
  · rcases List.mem_cons.mp hp with rfl | hp
    · exact N' _ (sub _ (.head _))
    · rcases List.mem_cons.mp hp with rfl | hp
      · exact N' _ (sub _ (.tail _ (.head _)))
      · rcases List.mem_cons.mp hp with rfl | hp
        · exact N' _ (sub _ (.tail _ (.tail _ (.head _))))
        · exact N' _ (h1 p hp)
  · have hm' : p.1 ∈ n₄.map (·.1) := List.mem_map_of_mem hp
    rw [h2.addr, List.mem_append] at hm'
    rcases hm' with hm' | hm'
    · obtain ⟨z, hz, ez⟩ := List.mem_map.mp hm'
      have f := L''.off z hz
      exact ⟨fun e => f _ (.head _) (by rw [ez, e]), fun e => f _ (.tail _ (.head _)) (by rw [ez, e]), fun e => f _ (.tail _ (.tail _ (.head _))) (by rw [ez, e])⟩
    · obtain ⟨z, hz, ez⟩ := List.mem_map.mp hm'
      rw [← ez]
      exact offm z (Lk.fr z hz)
noncomputable def CFin (c : Cx) (Q : List PV → Led → Prop) (fr₁ : List (Addr × Obj)) (ys : List Value) (nw : List (Addr × Obj)) : Prop := (E2 fun n' l => A3 ((∀ p ∈ n', p ∈ nw)) (LOk c.w fr₁ n' l) (Q (ys.map er) l))
noncomputable def CRest (c : Cx) (sc : Scope) (cl : List (Str × Addr)) (x : Str) (ct : Option Expr) (elt : Expr) (Q : List PV → Led → Prop) (fr₁ : List (Addr × Obj)) (m : Str → Option Value) (h₀ : Heap) (s : Shared) (P : Nat → Value → Prop) (SS : List (Addr × Obj) → Prop) (k i : Nat) (ys : List Value) (news : List (Addr × Obj)) : Prop :=
  match ct with
  | none => CompRest PG c.w c.A h₀ c.L m c.own elt x sc cl s SS P (CFin c Q fr₁) k i ys news
  | some t => CompRestT PG c.w c.A h₀ c.L m c.own t elt x sc cl s SS P (CFin c Q fr₁) k i ys news
theorem Off3.sub {I C D : Addr} {l l' : List (Addr × Obj)} (h : Off3 I C D l) (hs : ∀ p ∈ l', p ∈ l) : Off3 I C D l' := Off3.of fun p hp => h.mem p (hs p hp)
theorem comp_go (ok : c.Ok) (hcan : c.can = false) {sc : Scope} {cl : List (Str × Addr)} {x : Str} {ct : Option Expr} {elt : Expr} {Q : List PV → Led → Prop} {its : List PV} {m : Str → Option Value} {fr₁ : List (Addr × Obj)} {h₀ : Heap} {s : Shared} {P : Nat → Value → Prop} {SS : List (Addr × Obj) → Prop}
    (hk : sc.kind = .function) (hPi : ∀ i v, P i v → its[i]? = some (er v)) (G : c.Gr h₀) (V : VOk c.cm m vars) (S : Same c.s₀ s) (hSS : ∀ nw led, LOk c.w fr₁ nw led → SS nw) :
    ∀ (k i : Nat) (ys : List Value) (news : List (Addr × Obj)) (led : Led), k + i = its.length → (∃ n', (∀ p ∈ n', p ∈ news) ∧ LOk c.w fr₁ n' led) → WComp c (relabel sc c.own) cl x ct elt Q vars (its.drop i) (ys.map er) led →
      CRest c sc cl x ct elt Q fr₁ m h₀ s P SS k i ys news := by
  intro k
  induction k with
  | zero =>
    rintro i ys news led hi ⟨n', hn', Lk⟩ hw
    rw [List.drop_of_length_le (by lia)] at hw
    obtain ⟨l, hl, hq⟩ := hw
    obtain ⟨n₂, h2, L₂⟩ := (Wk.mk (List.Sublist.refl vars) hl).lok Lk
    have fin : CFin c Q fr₁ ys news := ⟨n₂, l, fun p hp => hn' p (h2 p hp), L₂, hq⟩
    cases ct <;> exact fin
  | succ k ih =>
    rintro i ys news led hi ⟨n', hn', Lk⟩ hw
    have hlt : i < its.length := by lia
    rw [List.drop_eq_getElem_cons hlt] at hw
    obtain ⟨l, hl, hw⟩ := hw
    obtain ⟨n₂, h2, L₂⟩ := (Wk.mk (List.Sublist.refl vars) hl).lok Lk
    have go : ∀ v, P i v → its[i] = er v := fun v hv => by have := hPi i v hv; rw [List.getElem?_eq_getElem hlt] at this; exact Option.some.inj this
    have comp : ∀ C oC v, IsComp c (c.comp sc cl C oC m x (er v)) (relabel sc c.own) cl x (er v) := fun C oC v => ⟨rfl, rfl, rfl, rfl, rfl, rfl⟩
    have sub : ∀ {I C D : Addr} {oI oC oD : Obj}, ∀ p ∈ (I, oI) :: (C, oC) :: (D, oD) :: n₂, p ∈ (I, oI) :: (C, oC) :: (D, oD) :: news := fun p hp => by
      rcases List.mem_cons.mp hp with rfl | hp
      · exact .head _
      · rcases List.mem_cons.mp hp with rfl | hp
        · exact .tail _ (.head _)
        · rcases List.mem_cons.mp hp with rfl | hp
          · exact .tail _ (.tail _ (.head _))
          · exact .tail _ (.tail _ (.tail _ (hn' p (h2 p hp))))
    cases ct with
    | none =>
      refine CompRest.succ fun v I oI C oC D m₂ h tk E' hPv hns hm F N off _ => ?_
      rw [go v hPv] at hw
      have hw' := hw _ (comp C oC v)
      refine wpAny_mono (comp_run ok hcan (s₀ := { s with heap := h, toks := tk }) hk hns hm G F (fun p hp => N p (sub p hp)) (Off3.sub off fun p hp => hn' p (h2 p hp)) V L₂ (S.up _ _) rfl hw') ?_ fun _ _ x => x
      rintro y s' ⟨h', tk', n₄, l', e, F', N', off', L₄, Sm, hr⟩
      refine ⟨h', tk', n₄, e, F', N', off', hSS _ _ L₄, ?_⟩
      exact ih (i + 1) (ys ++ [y]) n₄ l' (by lia) ⟨n₄, fun _ h => h, L₄⟩ (by simpa using hr)
    | some t =>
      refine CompRestT.succ fun v I oI C oC D m₂ h tk E' hPv hns hm F N off _ => ?_
      rw [go v hPv] at hw
      have hw' := hw _ (comp C oC v)
      refine wpAny_mono (comp_run ok hcan (s₀ := { s with heap := h, toks := tk }) hk hns hm G F (fun p hp => N p (sub p hp)) (Off3.sub off fun p hp => hn' p (h2 p hp)) V L₂ (S.up _ _) rfl hw') ?_ fun _ _ x => x
      rintro b s' ⟨h', tk', n₄, l', e, F', N', off', L₄, Sm, hr⟩
      cases b with
      | false =>
        simp only [Bool.false_eq_true, if_false] at hr ⊢
        refine ⟨h', tk', n₄, e, F', N', off', hSS _ _ L₄, ?_⟩
        exact ih (i + 1) ys n₄ l' (by lia) ⟨n₄, fun _ h => h, L₄⟩ hr
      | true =>
        simp only [if_true] at hr ⊢
        have e' : s' = { s with heap := h', toks := tk' } := e
        refine wpAny_mono (comp_run ok hcan (s₀ := { s with heap := h, toks := tk }) hk hns hm G (by rw [e']; exact F') (by rw [e']; exact N') off' V L₄ Sm (by rw [e']) hr) ?_ fun _ _ x => x
        rintro y s'' ⟨h'', tk'', n₅, l'', e₂, F₂, N₂, off₂, L₅, Sm₂, hr₂⟩
        refine ⟨h'', tk'', n₅, e₂, F₂, N₂, off₂, hSS _ _ L₅, ?_⟩
        exact ih (i + 1) (ys ++ [y]) n₅ l'' (by lia) ⟨n₅, fun _ h => h, L₅⟩ (by simpa using hr₂)
noncomputable def ifsOf : Option Expr → List Expr
  | none => [] | some t => [t]
theorem off1_mem {D : Addr} : ∀ {l : List (Addr × Obj)}, Off1 D l → ∀ p ∈ l, p.1 ≠ D
  | [], _, _, h => nomatch h
  | _ :: _, x, p, h => by
    rcases List.mem_cons.mp h with rfl | h
    · exact x.1
    · exact off1_mem x.2 p h
theorem comp_blk (ok : c.Ok) (hi : c.inC = false) (hcan : c.can = false) {sc : Scope} {cl : List (Str × Addr)} {x : Str} {px pos : Pos} {ct : Option Expr} {elt iter : Expr} {Q : List PV → Led → Prop} {its : List PV} {m : Str → Option Value} {fr₁ news : List (Addr × Obj)} {h₀ : Heap} {s₂ : Shared} {P : Nat → Value → Prop} {SS : List (Addr × Obj) → Prop}
    {I : Addr} {fp : List Addr} {St0 : Nat → Heap → Prop} {n : Nat} {R : Value → Shared → Prop} {E : Value → Shared → Prop}
    (W : Walks PG c.w c.A I fp [I] n P St0) (hn : n = its.length) (hz : its.length ≤ 16777216) (hPi : ∀ i v, P i v → its[i]? = some (er v)) (hIo : ∀ i h, St0 i h → ∃ o, h.get? I = some o)
    (hSt : ∀ i h h' o nw, St0 i h → h.get? I = some o → h'.get? I = some o → (∀ b o, h₀.get? b = some o → h'.get? b = some o) → News h₀ c.L h' nw → SS nw → St0 i h')
    (hcell : ∀ y ∈ sc.names, y.2 ≠ .cell) (hk : sc.kind = .function) (hx : sc.names.lookup x = some .local) (hst : St0 0 s₂.heap) (hfp : ∀ b ∈ fp, b < s₂.heap.objs.size)
    (G : c.Gr h₀) (F : Fr h₀ c.L s₂.heap m) (N : News h₀ c.L s₂.heap news) (hIL : c.L ≠ I) (hI : h₀.get? I = none) (off : ∀ p ∈ news, p.1 ≠ I) (V : VOk c.cm m vars) (Lk : LOk c.w fr₁ news led) (S : Same c.s₀ s₂) (hSS : ∀ nw led, LOk c.w fr₁ nw led → SS nw)
    (hw : WComp c (relabel sc c.own) cl x ct elt Q vars its [] led)
    (hQ : ∀ r ys l s', St c fr₁ vars ((r, .list ys) :: l) s' → Q ys l → R (.ref r) s') :
    wpAny c.M c.A (newList []) (fun acc s₃ => wpAny c.M c.A (newFunctionEnv sc c.own.globals cl [] c.own.qual none .none (some c.own)) (fun cenv s₄ =>
      codeAny c.M c.A (.compStart (.ListComp elt [⟨.Name x px, iter, ifsOf ct, 0⟩] sc pos) 0 (.ref I) acc { cenv with scope := relabel sc c.own }) (compPost c.M c.A E none R acc cenv.locals) s₄) E s₃) E s₂ := by
  subst hn
  have R0 := comp_go ok hcan (sc := sc) (cl := cl) (x := x) (ct := ct) (elt := elt) (Q := Q) (its := its) (P := P) (SS := SS) (s := s₂) hk hPi G V S hSS its.length 0 [] news led rfl ⟨news, fun _ h => h, Lk⟩ (by simpa using hw)
  have fin : ∀ D C h tk m' ys news', Fr h₀ c.L h m → News h₀ c.L h ((D, lst ys) :: news') → Off1 D news' → h.Ns C m' → h₀.get? C = none → h₀.get? D = none → C ≠ c.L → D ≠ c.L → C ≠ D → (∀ p ∈ news', p.1 ≠ C) → CFin c Q fr₁ ys news' →
      (compPost c.M c.A E none R (.ref D) C) (.ok .next) { s₂ with heap := h, toks := tk } := by
    intro D C h tk m' ys news' F' N' o1 hns hC₀ hD₀ hCL hDL hCD offC ⟨n', l, hsub, L', hq⟩
    refine ⟨m', hns, fun h'' hs'' => ?_⟩
    have F'' := F'.change hs'' hCL hC₀
    have N'' : News h₀ c.L h'' ((D, lst ys) :: news') := fun p hp => by
      refine ⟨hs''.extBut _ _ ?_ (N' p hp).1, (N' p hp).2⟩
      rcases List.mem_cons.mp hp with rfl | hp
      · exact Ne.symm hCD
      · exact offC p hp
    refine hQ D (ys.map er) l _ ⟨h₀, m, (D, lst ys) :: n', G, F'', fun p hp => N'' p ?_, V, .cons (fun q hq => off1_mem o1 q (hsub q hq)) ⟨ys.toArray, ys.length, rfl, by simp⟩ L', S.up _ _⟩ hq
    rcases List.mem_cons.mp hp with rfl | hp
    · exact .head _
    · exact .tail _ (hsub p hp)
  have hz' : its.length ≤ sizeLine := by rw [sizeLine_eq]; exact hz
  cases ct with
  | none => exact block_U W hz' hIo hSt hcell hk hx hst hfp F N hIL hI off (hSS _ _ Lk) R0 fin
  | some t => exact block_T W hz' hIo hSt hcell hk hx hst hfp F N hIL hI off (hSS _ _ Lk) R0 fin
variable {Q : PV → Led → Prop}
noncomputable def CompTail (c : Cx) (elt iter : Expr) (x : Str) (px pos : Pos) (ct : Option Expr) (sc : Scope) (cl : List (Str × Addr)) (R : Value → Shared → Prop) (E : Value → Shared → Prop) (it : Value) (s₂ : Shared) : Prop :=
  wpAny c.M c.A (newList []) (fun acc s₃ => wpAny c.M c.A (newFunctionEnv sc c.own.globals cl [] c.own.qual none .none (some c.own)) (fun cenv s₄ =>
      codeAny c.M c.A (.compStart (.ListComp elt [⟨.Name x px, iter, ifsOf ct, 0⟩] sc pos) 0 it acc { cenv with scope := relabel sc c.own }) (compPost c.M c.A E none R acc cenv.locals) s₄) E s₃) E s₂
theorem E_comp (hi : c.inC = false) {elt iter : Expr} {x : Str} {px pos : Pos} {ct : Option Expr} {sc : Scope} {cl : List (Str × Addr)} (hclos : closureFor sc c.own = pure cl) (hk : sc.kind = .function)
    (hnames : ∀ y ∈ sc.names, y.2 = .local → sc.names.lookup y.1 = some .local) (hs : ∀ env x, foldedSetIterable iter env x = pure x)
    (h : WE c iter (fun p l => ∀ v, er v = p → ∀ (_ : c.Ok) fr E, Pas c fr E → (∀ e v l s', Flies c fr e v l s' → X v l → E e s') → ∀ s, St c fr vars l s →
      wpAny c.M c.A (pyIter v) (CompTail c elt iter x px pos ct sc cl (fun v s' => ∃ l', St c fr vars l' s' ∧ Q (er v) l') E) E s) X vars led) :
    WE c (.ListComp elt [⟨.Name x px, iter, ifsOf ct, 0⟩] sc pos) Q X vars led := by
  intro ok fr E hP hE s hst
  show wpAny _ _ (eval _ c.env) _ _ _
  have hev : c.env = c.own := (ok.here hi).1
  have h0 : wpAny c.M c.A (eval iter c.env) _ E s := h ok fr E hP hE s hst
  rw [hev] at h0 ⊢
  rw [eval_ListComp]
  refine wpAny_mono (wpAny_comprehension_free (use := none) (Q := fun v s' => ∃ l', St c fr vars l' s' ∧ Q (er v) l') rfl (hs _) hclos hk hnames (wpAny_mono h0 (fun xv s₁ h₁ => ?_) fun _ _ e => e)) ?_ fun _ _ e => e
  · obtain ⟨_, l, S₁, e, h₁⟩ := h₁
    subst e
    exact h₁ xv rfl ok fr E hP hE s₁ S₁
  · rintro v s' ⟨l', S', hq⟩
    exact ⟨_, _, S', rfl, hq⟩
/-- over bytes -/
theorem E_compB (hi : c.inC = false) (hcan : c.can = false) {elt iter : Expr} {x : Str} {px pos : Pos} {ct : Option Expr} {sc csc : Scope} {cl : List (Str × Addr)} (hclos : closureFor sc c.own = pure cl) (hcsc : relab c.cs sc = csc) (hk : sc.kind = .function)
    (hcell : ∀ y ∈ sc.names, y.2 ≠ .cell) (hnames : ∀ y ∈ sc.names, y.2 = .local → sc.names.lookup y.1 = some .local) (hx : sc.names.lookup x = some .local) (hs : ∀ env x, foldedSetIterable iter env x = pure x)
    (h : WE c iter (fun p l => (E1 fun b => A2 (p = .bytes b) (A2 (b.length ≤ 16777216) (WComp c csc cl x ct elt (fun ys l => ∀ r, Q (.ref r) ((r, .list ys) :: l)) vars (b.map fun u => .int (u.toNat : Int)) [] l)))) X vars led) :
    WE c (.ListComp elt [⟨.Name x px, iter, ifsOf ct, 0⟩] sc pos) Q X vars led := by
  refine E_comp hi hclos hk hnames hs (W_mono h ?_)
  rintro a vv l ⟨rfl, b, hb, hz, hw⟩
  refine ⟨rfl, fun v hv ok fr E hP hE s hst => ?_⟩
  obtain ⟨t, rfl⟩ := er_bytes (hv.trans hb)
  obtain ⟨h₀, m, news, G, F, N, V, Lk, S⟩ := id hst
  refine KBw.pyIter_bytes ?_
  have W := KBw.walks (prog := PG) (w := c.w) ok.handled s.heap.objs.size b.toArray t
  subst hcsc
  refine comp_blk ok hi hcan (SS := fun _ => True) W (by simp) (by simpa using hz) ?_ (fun _ _ ⟨o, ho, _⟩ => ⟨o, ho⟩) ?_ hcell hk hx ⟨_, Heap.get?_push_size _ rfl, rfl, rfl⟩ (fun b hb => ?_) G (F.push _) (fun p hp => ⟨Heap.get?_push_of_some _ (N p hp).1, (N p hp).2⟩)
    (Nat.ne_of_lt F.ns.lt) (next_newI F) (fun p hp => Nat.ne_of_lt (Heap.lt_size (N p hp).1)) V Lk (S.up _ _) (fun _ _ _ => trivial) hw (fun r ys l s' S' hq => ⟨_, S', hq r⟩)
  · rintro i v ⟨u, t', hu, rfl⟩
    have hu' : b[i]? = some u := by simpa using hu
    rw [List.getElem?_map, hu']
    rfl
  · rintro i h h' o nw ⟨o', ho', r⟩ e e' _ _ _
    rw [ho'] at e; cases e
    exact ⟨_, e', r⟩
  · rw [List.mem_singleton.mp hb]; show _ < (s.heap.push _).objs.size; rw [Heap.size_push]; exact Nat.lt_succ_self _
/-- over a text -/
theorem E_compS (hi : c.inC = false) (hcan : c.can = false) {elt iter : Expr} {x : Str} {px pos : Pos} {ct : Option Expr} {sc csc : Scope} {cl : List (Str × Addr)} (hclos : closureFor sc c.own = pure cl) (hcsc : relab c.cs sc = csc) (hk : sc.kind = .function)
    (hcell : ∀ y ∈ sc.names, y.2 ≠ .cell) (hnames : ∀ y ∈ sc.names, y.2 = .local → sc.names.lookup y.1 = some .local) (hx : sc.names.lookup x = some .local) (hs : ∀ env x, foldedSetIterable iter env x = pure x)
    (h : WE c iter (fun p l => (E1 fun b => A2 (p = .str b) (A2 (b.length ≤ 16777216) (WComp c csc cl x ct elt (fun ys l => ∀ r, Q (.ref r) ((r, .list ys) :: l)) vars (b.map fun u => .str [u]) [] l)))) X vars led) :
    WE c (.ListComp elt [⟨.Name x px, iter, ifsOf ct, 0⟩] sc pos) Q X vars led := by
  refine E_comp hi hclos hk hnames hs (W_mono h ?_)
  rintro a vv l ⟨rfl, b, hb, hz, hw⟩
  refine ⟨rfl, fun v hv ok fr E hP hE s hst => ?_⟩
  obtain ⟨t, rfl⟩ := er_str (hv.trans hb)
  obtain ⟨h₀, m, news, G, F, N, V, Lk, S⟩ := id hst
  subst hcsc
  have go : ∀ (o : Obj) (St0 : Nat → Heap → Prop), Walks PG c.w c.A s.heap.objs.size [s.heap.objs.size] [s.heap.objs.size] (⟨b.toArray⟩ : Str).cps.size (SignAt ⟨b.toArray⟩) St0 → (∀ i h, St0 i h → ∃ o, h.get? s.heap.objs.size = some o) →
      (∀ i h h' o, St0 i h → h.get? s.heap.objs.size = some o → h'.get? s.heap.objs.size = some o → St0 i h') → St0 0 (s.heap.push o) →
      CompTail c elt iter x px pos ct sc cl (fun v s' => ∃ l', St c fr vv l' s' ∧ Q (er v) l') E (.ref s.heap.objs.size) { s with heap := s.heap.push o } := by
    intro o St0 W hl hst0 h0
    refine comp_blk ok hi hcan (SS := fun _ => True) W (by simp) (by simpa using hz) ?_ hl (fun i h h' o _ a b d _ _ _ => hst0 i h h' o a b d) hcell hk hx h0 (fun b hb => ?_) G (F.push _) (fun p hp => ⟨Heap.get?_push_of_some _ (N p hp).1, (N p hp).2⟩)
      (Nat.ne_of_lt F.ns.lt) (next_newI F) (fun p hp => Nat.ne_of_lt (Heap.lt_size (N p hp).1)) V Lk (S.up _ _) (fun _ _ _ => trivial) hw (fun r ys l s' S' hq => ⟨_, S', hq r⟩)
    · rintro i v ⟨u, t', hu, rfl⟩
      have hu' : b[i]? = some u := by simpa using hu
      rw [List.getElem?_map, hu']
      rfl
    · rw [List.mem_singleton.mp hb]; show _ < (s.heap.push _).objs.size; rw [Heap.size_push]; exact Nat.lt_succ_self _
  have st : ∀ ty, ∀ i (h h' : Heap) o, h.IsStrIter s.heap.objs.size ty ⟨b.toArray⟩ t i → h.get? s.heap.objs.size = some o → h'.get? s.heap.objs.size = some o → h'.IsStrIter s.heap.objs.size ty ⟨b.toArray⟩ t i := by
    rintro ty i h h' o ⟨o', ho', r⟩ e e'
    rw [ho'] at e; cases e
    exact ⟨_, e', r⟩
  cases ha : (⟨b.toArray⟩ : Str).cps.all (· < 128)
  · exact wpAny_pyIter_wide ha (go _ _ (Walks.strWide ok.handled _ _ t) (fun _ _ ⟨o, ho, _⟩ => ⟨o, ho⟩) (st _) ⟨_, Heap.get?_push_size _ rfl, rfl, rfl⟩)
  · exact wpAny_pyIter_ascii ha (go _ _ (Walks.strAscii ok.handled _ _ t) (fun _ _ ⟨o, ho, _⟩ => ⟨o, ho⟩) (st _) ⟨_, Heap.get?_push_size _ rfl, rfl, rfl⟩)
/-- out of a ledger -/
inductive Pick (a : Addr) (po : PO) : Led → Led → Prop
  | here {r} : Pick a po ((a, po) :: r) r
  | there {q r r'} : Pick a po r r' → Pick a po (q :: r) (q :: r')
theorem LOk.pick {w : World} {fr : List (Addr × Obj)} {a : Addr} {po : PO} {led led' : Led} (U : Pick a po led led') : ∀ {news : List (Addr × Obj)}, LOk w fr news led →
    (E2 fun o news' => A5 (OR w o po) ((a, o) ∈ news) ((∀ p ∈ news', p ∈ news)) ((∀ p ∈ news', p.1 ≠ a)) (LOk w fr news' led')) := by
  induction U with
  | here =>
    intro news h
    cases h with
    | @cons _ o _ r r' hn ho hr => exact ⟨o, r, ho, .head _, fun p hp => .tail _ hp, hn, hr⟩
  | @there q r r' U ih =>
    intro news h
    cases h with
    | @cons b o po₁ rr r'' hn hob hr =>
      obtain ⟨o₁, n', h1, h2, h3, h4, h5⟩ := ih hr
      refine ⟨o₁, (b, o) :: n', h1, .tail _ h2, fun p hp => ?_, fun p hp => ?_, .cons (fun q hq => hn q (h3 q hq)) hob h5⟩
      · rcases List.mem_cons.mp hp with rfl | hp
        · exact .head _
        · exact .tail _ (h3 p hp)
      · rcases List.mem_cons.mp hp with rfl | hp
        · exact fun e => hn _ h2 e.symm
        · exact h4 p hp
/-- over a list of the ledger -/
theorem E_compL (hi : c.inC = false) (hcan : c.can = false) {elt iter : Expr} {x : Str} {px pos : Pos} {ct : Option Expr} {sc csc : Scope} {cl : List (Str × Addr)} (hclos : closureFor sc c.own = pure cl) (hcsc : relab c.cs sc = csc) (hk : sc.kind = .function)
    (hcell : ∀ y ∈ sc.names, y.2 ≠ .cell) (hnames : ∀ y ∈ sc.names, y.2 = .local → sc.names.lookup y.1 = some .local) (hx : sc.names.lookup x = some .local) (hs : ∀ env x, foldedSetIterable iter env x = pure x)
    (h : WE c iter (fun p l => (E3 fun a its l₀ => A2 (p = .ref a) (A3 (Pick a (.list its) l l₀) (its.length ≤ 16777216) (WComp c csc cl x ct elt (fun ys l => ∀ r, Q (.ref r) ((r, .list ys) :: (a, .list its) :: l)) vars its [] l₀)))) X vars led) :
    WE c (.ListComp elt [⟨.Name x px, iter, ifsOf ct, 0⟩] sc pos) Q X vars led := by
  refine E_comp hi hclos hk hnames hs (W_mono h ?_)
  rintro xv v l ⟨rfl, a, its, l₀, hb, hpk, hz, hw⟩
  refine ⟨rfl, fun v hv ok fr E hP hE s hst => ?_⟩
  obtain rfl := er_ref (hv.trans hb)
  obtain ⟨h₀, m, news, G, F, N, V, Lk, S⟩ := id hst
  obtain ⟨o, n₁, ⟨xs, k, ho, hxs⟩, hm, hsub, hne, L₁⟩ := Lk.pick hpk
  subst ho
  obtain ⟨n₂, hn2, L₂⟩ := L₁.grow [(a, { cls := .type "list", data := .seq xs k })] fun p hp q hq e => by
    obtain rfl := List.mem_singleton.mp hq
    obtain ⟨o, ho, _⟩ := L₁.mem hp
    exact hne _ ho e.symm
  have hl := N.isList hm
  have hlt : a < s.heap.objs.size := Heap.lt_size (N _ hm).1
  subst hcsc
  refine wpAny_pyIter_list hl ?_
  have N₂ : News h₀ c.L s.heap n₂ := fun p hp => by
    rcases List.mem_append.mp (hn2 p hp) with h | h
    · obtain rfl := List.mem_singleton.mp h; exact N _ hm
    · exact N p (hsub p h)
  have hL : its.length = xs.size := by rw [← hxs, List.length_map, Array.length_toList]
  refine comp_blk ok hi hcan (SS := SrcAt h₀ a xs) (Walks.list ok.handled s.heap.objs.size a (Nat.ne_of_lt hlt) xs) hL.symm hz ?_ (fun _ _ ⟨⟨o, ho, _⟩, _⟩ => ⟨o, ho⟩) LCg.list_st hcell hk hx ⟨⟨_, Heap.get?_push_size _ rfl, rfl, rfl⟩, hl.push _⟩ (fun b hb => ?_) G (F.push _) (fun p hp => ⟨Heap.get?_push_of_some _ (N₂ p hp).1, (N₂ p hp).2⟩)
    (Nat.ne_of_lt F.ns.lt) (next_newI F) (fun p hp => Nat.ne_of_lt (Heap.lt_size (N₂ p hp).1)) V L₂ (S.up _ _) (fun nw led Lk => .inr ⟨_, Lk.fr _ (.head _), rfl, _, rfl⟩) hw (fun r ys l s' S' hq => ?_)
  · rintro i v hv
    have hv' : xs.toList[i]? = some v := by simpa using hv
    rw [← hxs, List.getElem?_map, hv']; rfl
  · show b < (s.heap.push _).objs.size
    rw [Heap.size_push]
    rcases List.mem_cons.mp hb with rfl | hb
    · exact Nat.lt_succ_self _
    · rw [List.mem_singleton.mp hb]; exact Nat.lt_succ_of_lt hlt
  · obtain ⟨h₀', m', n₃, G', F', N', V', L', Sm⟩ := S'
    have hoff := L'.off
    obtain ⟨n₄, h1, h2⟩ := L'.shrink
    cases h2 with
    | @cons _ o₁ _ n₅ _ hn₅ ho₁ hr =>
      refine ⟨(r, .list ys) :: (a, .list its) :: l, ⟨h₀', m', (r, o₁) :: (a, { cls := .type "list", data := .seq xs k }) :: n₅, G', F', fun p hp => ?_, V', .cons (fun q hq => ?_) ho₁ (.cons (fun q hq => ?_) ⟨xs, k, rfl, hxs⟩ hr), Sm⟩, hq r⟩
      · rcases List.mem_cons.mp hp with rfl | hp
        · exact N' _ (h1 _ (.head _))
        · rcases List.mem_cons.mp hp with rfl | hp
          · exact N' _ (L'.fr _ (.head _))
          · exact N' _ (h1 _ (.tail _ hp))
      · rcases List.mem_cons.mp hq with rfl | hq
        · exact hoff (r, .list ys) (.head _) _ (.head _)
        · exact hn₅ q hq
      · have hm' : q.1 ∈ n₅.map (·.1) := List.mem_map_of_mem hq
        rw [hr.addr, List.mem_append] at hm'
        rcases hm' with hm' | hm'
        · obtain ⟨z, hz, ez⟩ := List.mem_map.mp hm'
          exact fun e => hoff z (.tail _ hz) _ (.head _) (by rw [ez, e])
        · obtain ⟨z, hz, ez⟩ := List.mem_map.mp hm'
          rw [← ez]; exact hne z (L₁.fr z hz)
end
end
section
inductive Recv (l : Led) : PV → String → Prop
  | str {x} : Recv l (.str x) "str"
  | bytes {x} : Recv l (.bytes x) "bytes"
  | list {a vs} : (a, .list vs) ∈ l → Recv l (.ref a) "list"
  | dict {a f n} : (a, .dict f n) ∈ l → Recv l (.ref a) "dict"
section
variable {c : Cx} {X : Vars → Led → Prop} {vars : Vars} {led : Led} {Q : PV → Led → Prop}
theorem Recv.type {p : PV} {T : String} (h : Recv led p T) {v : Value} (hv : er v = p) {fr s} (S : St c fr vars led s) : s.TypeIs v T ∧ ∀ a, v = .ref a → ∃ o, s.heap.get? a = some o ∧ o.dict = none := by
  obtain ⟨h₀, m, news, G, F, N, V, Lk, Sm⟩ := S
  cases h with
  | str => obtain ⟨t, rfl⟩ := er_str hv; exact ⟨rfl, fun a e => (nomatch e)⟩
  | bytes => obtain ⟨t, rfl⟩ := er_bytes hv; exact ⟨rfl, fun a e => (nomatch e)⟩
  | list hm =>
    obtain rfl := er_ref hv
    obtain ⟨o, ho, xs, n, rfl, _⟩ := Lk.mem hm
    exact ⟨⟨_, (N _ ho).1, rfl⟩, fun a e => by cases e; exact ⟨_, (N _ ho).1, rfl⟩⟩
  | dict hm =>
    obtain rfl := er_ref hv
    obtain ⟨o, ho, ks, hd, _⟩ := Lk.mem hm
    have hD := Heap.dictOf_iff.mpr ⟨o, (N _ ho).1, hd⟩
    exact ⟨hD.typeIs, hD.mapOf.noDict⟩
noncomputable abbrev KM2 (f : Value) (c : Cx) (p : PV) (Q : PV → Led → Prop) (X : Vars → Led → Prop) (vars : Vars) : List PV → Led → Prop := fun ps l => Bi c f (p :: ps) Q X vars l
noncomputable abbrev KM1 (T : String) (f : Value) (es : List Expr) (pos : Pos) (c : Cx) (Q : PV → Led → Prop) (X : Vars → Led → Prop) (vars : Vars) : PV → Led → Prop := fun p l => Recv l p T ∧ WL c es pos (KM2 f c p Q X vars) X vars l
noncomputable abbrev KM0 (T : String) (f : Value) (c : Cx) (Q : PV → Led → Prop) (X : Vars → Led → Prop) (vars : Vars) : PV → Led → Prop := fun p l => Recv l p T ∧ Bi c f [p] Q X vars l
theorem E_meth {o : Expr} {name : Str} {apos pos : Pos} {e : Expr} {es : List Expr} {T id : String} (pa : PlainAttrs T) (slot : Slot T name id) (hty : typeOf (.builtin id) = pure (.type "method_descriptor"))
    (pl : Env → Sem Bool) (hm : ∀ env, eval (.Call (.Attribute o name apos) (e :: es) [] pos) env = (do
      let ov ← eval o env
      standAt apos.atName
      let (f, first) ← holding [ov] (getMethod ov name (pl env))
      callWith pos f first (backTo pos (starEach (e :: es) env)) (backToKw pos (keywordEach [] env))))
    (he : ∀ env, starEach (e :: es) env = (false, eval e env) :: starEach es env) (hplain : ∀ env, (backTo pos (starEach es env)).any (·.1) = false)
    (h : WE c o (KM1 T (.builtin id) (e :: es) pos c Q X vars) X vars led) : WE c (.Call (.Attribute o name apos) (e :: es) [] pos) Q X vars led := by
  intro ok fr E hP hE s hs
  refine methodCall_KW (pl := pl c.env) (wpAny_mono (h ok fr E hP hE s hs) ?_ fun _ _ x => x) (hm _)
  rintro ov s₁ ⟨_, l, S₁, rfl, hr, h₁⟩
  obtain ⟨ht, hd⟩ := hr.type rfl S₁
  refine getMethod_builtin ht pa slot hty hd ?_
  refine callWith_method1 (wpAny_mono (h₁ ok fr E hP hE s₁ S₁) ?_ fun _ _ x => x) (he _) (hplain _)
  rintro vs s₂ ⟨_, l₂, S₂, e, h₂⟩
  subst e
  exact h₂ (ov :: vs) rfl ok fr E hP hE s₂ S₂
theorem E_meth0 {o : Expr} {name : Str} {apos pos : Pos} {T id : String} (pa : PlainAttrs T) (slot : Slot T name id) (hty : typeOf (.builtin id) = pure (.type "method_descriptor"))
    (pl : Env → Sem Bool) (hm : ∀ env, eval (.Call (.Attribute o name apos) [] [] pos) env = (do
      let ov ← eval o env
      standAt apos.atName
      let (f, first) ← holding [ov] (getMethod ov name (pl env))
      callWith pos f first (backTo pos (starEach [] env)) (backToKw pos (keywordEach [] env))))
    (h : WE c o (KM0 T (.builtin id) c Q X vars) X vars led) : WE c (.Call (.Attribute o name apos) [] [] pos) Q X vars led := by
  intro ok fr E hP hE s hs
  refine methodCall_KW (pl := pl c.env) (wpAny_mono (h ok fr E hP hE s hs) ?_ fun _ _ x => x) (hm _)
  rintro ov s₁ ⟨_, l, S₁, rfl, hr, h₁⟩
  obtain ⟨ht, hd⟩ := hr.type rfl S₁
  refine getMethod_builtin ht pa slot hty hd ?_
  exact callWith_method0 (h₁ [ov] rfl ok fr E hP hE s₁ S₁)
/-! lists -/
theorem St.upd {fr : List (Addr × Obj)} {s : Shared} {h' : Heap} {led' : Led} {h₀ : Heap} {m : Str → Option Value} {news : List (Addr × Obj)} (G : c.Gr h₀) (F : Fr h₀ c.L h' m) (N : News h₀ c.L h' news) (V : VOk c.cm m vars) (Lk : LOk c.w fr news led') (S : Same c.s₀ s) (tk : Nat) : St c fr vars led' { s with heap := h', toks := tk } := ⟨h₀, m, news, G, F, N, V, Lk, S.up _ _⟩
theorem Bi_append {a : Addr} {vs : List PV} {p : PV} {led' : Led} (U : UpdL a (.list vs) (.list (vs ++ [p])) led led') (hz : vs.length ≤ 16777215) (h : Q .none led') : Bi c (.builtin "list.append") [.ref a, p] Q X vars led := by
  intro vals hv' ok fr E hP hE s hs
  obtain ⟨v, u, rfl, hv, hu⟩ := map2 hv'
  obtain rfl := er_ref hv
  obtain ⟨h₀, m, news, G, F, N, V, Lk, S⟩ := id hs
  obtain ⟨o, ⟨xs, n, rfl, hx⟩, _, k⟩ := Lk.upd U
  obtain ⟨news', U', Lk'⟩ := k (listOf (xs.push u) (n + 1)) ⟨xs.push u, n + 1, rfl, by simp [hx, hu]⟩
  have hl : xs.size = vs.length := by rw [← hx, List.length_map, Array.length_toList]
  exact append_K F N U' (fun h' F' N' => ⟨_, _, St.upd G F' N' V Lk' S _, rfl, h⟩) (by rw [sizeLine_eq]; lia)
theorem kl_last_snoc : ∀ (l : List Value) (y : Value), kl_last (l ++ [y]) = some (l, y)
  | [], y => rfl
  | x :: r, y => by
    show kl_last (x :: (r ++ [y])) = _
    unfold kl_last
    rw [kl_last_snoc r y]
theorem Bi_pop {a : Addr} {vs : List PV} {p : PV} {led' : Led} (U : UpdL a (.list (vs ++ [p])) (.list vs) led led') (hz : vs.length ≤ 16777215) (h : Q p led') : Bi c (.builtin "list.pop") [.ref a] Q X vars led := by
  intro vals hv' ok fr E hP hE s hs
  obtain ⟨v, rfl, hv⟩ := map1 hv'
  obtain rfl := er_ref hv
  obtain ⟨h₀, m, news, G, F, N, V, Lk, S⟩ := id hs
  obtain ⟨o, ⟨xs, n, rfl, hx⟩, _, k⟩ := Lk.upd U
  obtain ⟨ys, y, e, h1, h2⟩ : (E2 fun ys y => A3 (xs.toList = ys ++ [y]) (ys.map er = vs) (er y = p)) := by
    obtain ⟨l₁, l₂, e, h1, h2⟩ := List.map_eq_append_iff.mp hx
    obtain ⟨y, rfl, h3⟩ := map1 h2
    exact ⟨l₁, y, e, h1, h3⟩
  subst h2
  obtain ⟨news', U', Lk'⟩ := k (listOf ys.toArray (n + 1)) ⟨ys.toArray, n + 1, rfl, by simp [h1]⟩
  have hl : xs.toList.length = vs.length + 1 := by rw [e, List.length_append, ← h1, List.length_map]; rfl
  exact kl_pop F N (by rw [e]; exact kl_last_snoc ys y) U' (by rw [hl, sizeLine_eq]; lia) fun h' F' N' => ⟨_, _, St.upd G F' N' V Lk' S _, rfl, h⟩
noncomputable abbrev KSi3 (p : PV) (a : PV) (Q : PF → Vars → Led → Prop) (vars : Vars) : PV → Led → Prop := fun k l => (E4 fun r n vs l' => A2 (a = .ref r) (A5 (k = .int (n : Nat)) (n < vs.length) (vs.length ≤ 16777216) (UpdL r (.list vs) (.list (vs.set n p)) l l') (Q .next vars l')))
noncomputable abbrev KSi2 (i : Expr) (c : Cx) (p : PV) (Q : PF → Vars → Led → Prop) (X : Vars → Led → Prop) (vars : Vars) : PV → Led → Prop := fun a l => WE c i (KSi3 p a Q vars) X vars l
noncomputable abbrev KSi1 (o : Expr) (i : Expr) (c : Cx) (Q : PF → Vars → Led → Prop) (X : Vars → Led → Prop) (vars : Vars) : PV → Led → Prop := fun p l => WE c o (KSi2 i c p Q X vars) X vars l
theorem S_setitem {o i value : Expr} {pos pos'} {Q : PF → Vars → Led → Prop} (h : WE c value (KSi1 o i c Q X vars) X vars led)
    (hs : ∀ env, swapsWith value (some (.Subscript o i pos')) pos.line env = pure false) : WS1 c (.Assign [.Subscript o i pos'] value pos) Q X vars led := by
  intro ok fr E hP hE s hst
  refine wpAny_Assign_Subscript (wpAny_mono (h ok fr E hP hE s hst) ?_ fun _ _ x => x) (hs _)
  rintro v s₁ ⟨_, l₁, S₁, e, h₁⟩
  subst e
  refine wpAny_mono (h₁ ok fr E hP hE s₁ S₁) ?_ fun _ _ x => x
  rintro a s₂ ⟨_, l₂, S₂, e, h₂⟩
  subst e
  refine wpAny_mono (h₂ ok fr E hP hE s₂ S₂) ?_ fun _ _ x => x
  rintro k s₃ ⟨_, l₃, S₃, e, r, n, vs, l', ha, hk, hn, hz, U, h₃⟩
  subst e
  obtain rfl := er_ref ha
  obtain ⟨t, rfl⟩ := er_int hk
  obtain ⟨h₀, m, news, G, F, N, V, Lk, S⟩ := id S₃
  obtain ⟨ob, ⟨xs, j, rfl, hx⟩, hm, kk⟩ := Lk.upd U
  have hl : xs.size = vs.length := by rw [← hx, List.length_map, Array.length_toList]
  obtain ⟨news', U', Lk'⟩ := kk (listOf (xs.setIfInBounds n v) j) ⟨xs.setIfInBounds n v, j, rfl, by rw [Array.toList_setIfInBounds, List.map_set, hx]⟩
  obtain ⟨pre, post, rfl, rfl, ha, hb⟩ := U'.split
  have z := N (r, listOf xs j) (List.mem_append.mpr (.inr (.head _)))
  refine ki_setAt z.1 (Int.natCast_nonneg _) (by lia) (by lia) ?_
  refine ⟨_, _, ⟨h₀, m, _, G, F.change (Heap.SameBut.update ..) z.2.1 z.2.2, ki_turn _ N ha hb ?_ ?_, V, Lk', S.up _ _⟩, h₃⟩
  · rfl
  · simp
/-! containment -/
theorem gives_bytes_in {b : Array UInt8} {t u : Tok} {i : Int} (h0 : 0 ≤ i) (h1 : i < 256) : Gives (Builtin.«bytes.__contains__» ⟨[.bytes b t, .int i u], []⟩) (.val (.bool (b.contains i.toNat.toUInt8))) := by
  refine .of_wp fun M A E s Q hq => ?_
  show wpAny M A (Builtin.Bytes.containsIn "bytes.__contains__" (.bytes b t) (.int i u) >>= fun r => _) _ E s
  refine wpAny_bind ?_
  unfold Builtin.Bytes.containsIn
  show wpAny M A ((asIndex (.int i u)).attempt >>= fun r => _) _ E s
  refine wpAny_bind (wpAny_of_eq (a := Except.ok i) rfl ?_)
  refine wpAny_bind (wpAny_of_eq KBy.buffer_eq ?_)
  show wpAny M A (if (decide (i < 0) || decide (i ≥ 256)) = true then _ else _) _ E s
  rw [if_neg (by simp; lia)]
  exact wpAny_pure (wpAny_pure ⟨_, rfl, hq⟩)
theorem C_inB {x : Int} {b : List UInt8} (hx : 0 ≤ x ∧ x < 256) (h : Q (.bool (decide (UInt8.ofNat x.toNat ∈ b))) led) : WCmp c .In (.int x) (.bytes b) Q X vars led := by
  intro u v hu hv ok fr E hP hE s hs
  obtain ⟨t, rfl⟩ := er_int hu; obtain ⟨t', rfl⟩ := er_bytes hv
  refine in_gives (typeIs_bytes _ _ _) FB.slot_bytes_contains FB.entry_bytes_contains (FB.args_bytes_contains_2 _ _) (gives_bytes_in hx.1 hx.2) (hs.same (v := .bool _) ?_)
  rw [show (b.toArray.contains x.toNat.toUInt8) = decide (UInt8.ofNat x.toNat ∈ b) by rw [Bool.eq_iff_iff]; simp [Nat.toUInt8]]
  exact h
theorem C_inT {x : Int} {a : Addr} {its : List Value} {ns : List Int} {n : Nat} {dd : Option Addr} {sl : Array (Option Value)} (hl : ∀ w, (KF w).lookup a = some ⟨.type "tuple", dd, .seq its.toArray n, sl⟩) (hi : IntsAre its ns)
    (h : Q (.bool (decide (x ∈ ns))) led) : WCmp c .In (.int x) (.ref a) Q X vars led := by
  intro u v hu hv ok fr E hP hE s hs
  obtain ⟨t, rfl⟩ := er_int hu; obtain rfl := er_ref hv
  obtain ⟨h₀, m, news, G, F, N, V, Lk, S⟩ := id hs
  refine in_tuple_ints (kun_topT F G.K (hl _)) (by simpa using hi) (hs.same (v := .bool _) ?_)
  rw [show (ns.any (· == x)) = decide (x ∈ ns) by rw [Bool.eq_iff_iff]; simp]
  exact h
theorem ints_of : ∀ {vs : List Value} {ns : List Int}, vs.map er = ns.map .int → IntsAre vs ns
  | [], [], _ => .nil
  | [], _ :: _, h => by cases h
  | _ :: _, [], h => by cases h
  | v :: vs, n :: ns, h => by
    have h' := List.cons.inj (by simpa using h : er v :: vs.map er = PV.int n :: ns.map .int)
    obtain ⟨t, rfl⟩ := er_int h'.1
    exact .cons n t (ints_of h'.2)
theorem C_inL {x : Int} {a : Addr} {ns : List Int} {ps : List PV} (hm : (a, .tuple ps) ∈ led) (hp : ps = ns.map .int) (h : Q (.bool (decide (x ∈ ns))) led) : WCmp c .In (.int x) (.ref a) Q X vars led := by
  subst hp
  intro u v hu hv ok fr E hP hE s hs
  obtain ⟨t, rfl⟩ := er_int hu; obtain rfl := er_ref hv
  obtain ⟨h₀, m, news, G, F, N, V, Lk, S⟩ := id hs
  obtain ⟨o, ho, xs, n, rfl, hx⟩ := Lk.mem hm
  refine in_tuple_ints (N.isTup ho) (ints_of hx) (hs.same (v := .bool _) ?_)
  rw [show (ns.any (· == x)) = decide (x ∈ ns) by rw [Bool.eq_iff_iff]; simp]
  exact h
theorem C_inS {u : Nat} {b : List Nat} (h : Q (.bool (decide (u ∈ b))) led) : WCmp c .In (.str [u]) (.str b) Q X vars led := by
  intro x v hx hv ok fr E hP hE s hs
  obtain ⟨t, rfl⟩ := er_str hx; obtain ⟨t', rfl⟩ := er_str hv
  refine P.in_str (hs.same (v := .bool _) ?_)
  rw [show (⟨[u].toArray⟩ : Str) = ⟨#[u]⟩ from rfl, StrLaws.found_one]
  have e : (⟨b.toArray⟩ : Str).cps.toList = b := rfl
  rw [e]; exact h
/-! built-ins -/
theorem Bi_min {a b : Int} (h : Q (.int (if b < a then b else a)) led) : Bi c (.builtin "min") [.int a, .int b] Q X vars led := by
  intro vals hv' ok fr E hP hE s hs
  obtain ⟨v, u, rfl, hv, hu⟩ := map2 hv'
  obtain ⟨t, rfl⟩ := er_int hv; obtain ⟨t', rfl⟩ := er_int hu
  obtain ⟨h₀, m, news, G, F, N, V, Lk, S⟩ := id hs
  refine min_two_ints ok.handled fun h' tk hk => ?_
  refine ⟨_, led, ⟨h₀, m, news, G, F.keeps hk, N.grown hk, V, Lk, S.up _ _⟩, rfl, ?_⟩
  by_cases hb : b < a
  · rw [if_pos hb] at h ⊢; exact h
  · rw [if_neg hb] at h ⊢; exact h
theorem Bi_max {a b : Int} (h : Q (.int (if b > a then b else a)) led) : Bi c (.builtin "max") [.int a, .int b] Q X vars led := by
  intro vals hv' ok fr E hP hE s hs
  obtain ⟨v, u, rfl, hv, hu⟩ := map2 hv'
  obtain ⟨t, rfl⟩ := er_int hv; obtain ⟨t', rfl⟩ := er_int hu
  obtain ⟨h₀, m, news, G, F, N, V, Lk, S⟩ := id hs
  refine max_two_ints ok.handled fun h' tk hk => ?_
  refine ⟨_, led, ⟨h₀, m, news, G, F.keeps hk, N.grown hk, V, Lk, S.up _ _⟩, rfl, ?_⟩
  by_cases hb : b > a
  · rw [if_pos hb] at h ⊢; exact h
  · rw [if_neg hb] at h ⊢; exact h
theorem Bi_int {i : Int} (h : Q (.int i) led) : Bi c (.type "int") [.int i] Q X vars led := by
  intro vals hv' ok fr E hP hE s hs
  obtain ⟨v, rfl, hv⟩ := map1 hv'
  obtain ⟨t, rfl⟩ := er_int hv
  exact call_int_int (hs.same h)
theorem Bi_bytes {a : Addr} {ns : List Int} {ps : List PV} (hm : (a, .list ps) ∈ led) (hp : ps = ns.map .int) (hr : ∀ k ∈ ns, 0 ≤ k ∧ k < 256) (hz : ns.length ≤ 16777216) (h : Q (.bytes (ns.map fun k => UInt8.ofNat k.toNat)) led) : Bi c (.type "bytes") [.ref a] Q X vars led := by
  subst hp
  intro vals hv' ok fr E hP hE s hs
  obtain ⟨v, rfl, hv⟩ := map1 hv'
  obtain rfl := er_ref hv
  obtain ⟨h₀, m, news, G, F, N, V, Lk, S⟩ := id hs
  obtain ⟨o, ho, xs, n, rfl, hx⟩ := Lk.mem hm
  have hi := ints_of hx
  refine KBa.make_K F N ok.handled (vs := xs.toList) (by simpa using N.isList ho) hi (fun k hk => hr k hk) hz fun h' t' k F' N' _ => ?_
  refine ⟨_, led, ⟨h₀, m, news, G, F', N', V, Lk, S.up _ _⟩, rfl, ?_⟩
  simpa [er, byteArr, Nat.toUInt8] using h
/-! lists -/
theorem B_addL {a b : Addr} {vs ws : List PV} (ha : (a, .list vs) ∈ led) (hb : (b, .list ws) ∈ led) (hz : vs.length + ws.length ≤ 16777216) (h : ∀ r, Q (.ref r) ((r, .list (vs ++ ws)) :: led)) : WBin c .Add (.ref a) (.ref b) Q X vars led := by
  intro u v hu hv ok fr E hP hE s hs
  obtain rfl := er_ref hu; obtain rfl := er_ref hv
  obtain ⟨h₀, m, news, G, F, N, V, Lk, S⟩ := id hs
  obtain ⟨o, ho, xs, n, rfl, hx⟩ := Lk.mem ha
  obtain ⟨o', ho', ys, n', rfl, hy⟩ := Lk.mem hb
  have e1 : xs.size = vs.length := by rw [← hx, List.length_map, Array.length_toList]
  have e2 : ys.size = ws.length := by rw [← hy, List.length_map, Array.length_toList]
  refine add_arrays F N (N.isList ho) (N.isList ho') (fun h' F' N' => ⟨_, _, ⟨h₀, m, _, G, F', N', V, .cons (fun q hq e => ?_) (po := .list (vs ++ ws)) ⟨_, 0, rfl, by simp [hx, hy]⟩ Lk, S.up _ s.toks⟩, rfl, h _⟩) (by rw [sizeLine_eq]; lia)
  exact absurd (Heap.lt_size (N q hq).1) (e ▸ Nat.lt_irrefl _)
theorem B_mulL {a : Addr} {p : PV} {k : Nat} (ha : (a, .list [p]) ∈ led) (hz : k ≤ 16777216) (h : ∀ r, Q (.ref r) ((r, .list (List.replicate k p)) :: led)) : WBin c .Mult (.ref a) (.int k) Q X vars led := by
  intro u v hu hv ok fr E hP hE s hs
  obtain rfl := er_ref hu; obtain ⟨t, rfl⟩ := er_int hv
  obtain ⟨h₀, m, news, G, F, N, V, Lk, S⟩ := id hs
  obtain ⟨o, ho, xs, n, rfl, hx⟩ := Lk.mem ha
  obtain ⟨x, e, rfl⟩ : ∃ x, xs = #[x] ∧ er x = p := by
    obtain ⟨x, hl, hx'⟩ := map1 hx
    exact ⟨x, by rw [← Array.toArray_toList (xs := xs), hl], hx'⟩
  subst e
  refine mul_list F N (N _ ho).1 (by lia) (by lia) (by simp; lia) (fun h' F' N' => ⟨_, _, ⟨h₀, m, _, G, F', N', V, .cons (fun q hq e => ?_) (po := .list (List.replicate k (er x))) ⟨_, 0, rfl, ?_⟩ Lk, S.up _ s.toks⟩, rfl, h _⟩)
  · exact absurd (Heap.lt_size (N q hq).1) (e ▸ Nat.lt_irrefl _)
  · have key : ∀ (k : Nat) (acc : Array Value), ((List.replicate k #[x]).foldl (fun a b => a ++ b) acc).toList = acc.toList ++ List.replicate k x := by
      intro k
      induction k with
      | zero => intro acc; simp
      | succ k ih => intro acc; rw [List.replicate_succ, List.foldl_cons, ih]; simp [List.replicate_succ]
    simp [key]
end
end
section
open PySem PySem.W PyProof.Rows PySem.Calls PySem.Builtin
section
variable {c : Cx} {X : Vars → Led → Prop} {vars : Vars} {led : Led} {Q : PV → Led → Prop}
theorem OR.list_at {w : World} {h : Heap} {a : Addr} {o : Obj} {vs : List PV} (h1 : h.get? a = some o) (h2 : OR w o (.list vs)) : ∃ xs : List Value, h.IsList a xs.toArray ∧ xs.map er = vs := by
  obtain ⟨xs, n, rfl, hx⟩ := h2
  exact ⟨xs.toList, ⟨_, h1, rfl, n, by simp⟩, hx⟩
/-- a list against the empty one -/
theorem C_neL0 {a b : Addr} {vs : List PV} (ha : (a, .list vs) ∈ led) (hb : (b, .list []) ∈ led) (h : Q (.bool (!vs.isEmpty)) led) : WCmp c .NotEq (.ref a) (.ref b) Q X vars led := by
  intro u v hu hv ok fr E hP hE s hs
  obtain rfl := er_ref hu; obtain rfl := er_ref hv
  obtain ⟨h₀, m, news, G, F, N, V, Lk, S⟩ := id hs
  obtain ⟨o, ho, h1⟩ := Lk.mem ha
  obtain ⟨o', ho', h2⟩ := Lk.mem hb
  obtain ⟨xs, hx, rfl⟩ := h1.list_at (N _ ho).1
  obtain ⟨ys, hy, e⟩ := h2.list_at (N _ ho').1
  obtain rfl : ys = [] := by simpa using e
  have hu : c.A.units < cLine := by have := ok.units; lia
  cases xs with
  | nil => exact SeqAt.RcNeAt.lists (e := fun _ => true) hx hy rfl hu (fun j h1 => by simp at h1) PG c.w E _ (hs.same (v := .bool _) h)
  | cons x r => exact SeqAt.RcNeAt.lists_lengths hx hy (by simp) hu PG c.w E _ (hs.same (v := .bool _) h)
theorem C_eqL0 {a b : Addr} {vs : List PV} (ha : (a, .list vs) ∈ led) (hb : (b, .list []) ∈ led) (h : Q (.bool vs.isEmpty) led) : WCmp c .Eq (.ref a) (.ref b) Q X vars led := by
  intro u v hu hv ok fr E hP hE s hs
  obtain rfl := er_ref hu; obtain rfl := er_ref hv
  obtain ⟨h₀, m, news, G, F, N, V, Lk, S⟩ := id hs
  obtain ⟨o, ho, h1⟩ := Lk.mem ha
  obtain ⟨o', ho', h2⟩ := Lk.mem hb
  obtain ⟨xs, hx, rfl⟩ := h1.list_at (N _ ho).1
  obtain ⟨ys, hy, e⟩ := h2.list_at (N _ ho').1
  obtain rfl : ys = [] := by simpa using e
  have hu : c.A.units < cLine := by have := ok.units; lia
  cases xs with
  | nil => exact SeqAt.eq_listAt (e := fun _ => true) hx hy rfl hu (fun j h1 => by simp at h1) (hs.same (v := .bool _) h)
  | cons x r => exact SeqAt.eq_list_lengthsAt hx hy (by simp) hu (hs.same (v := .bool _) h)
/-! texts in lists -/
theorem strs_of : ∀ {vs : List Value} {ss : List (List Nat)}, vs.map er = ss.map .str → StrsAre vs (ss.map fun x => ⟨x.toArray⟩)
  | [], [], _ => .nil
  | [], _ :: _, h => by cases h
  | _ :: _, [], h => by cases h
  | v :: vs, n :: ns, h => by
    have h' := List.cons.inj (by simpa using h : er v :: vs.map er = PV.str n :: ns.map .str)
    obtain ⟨t, rfl⟩ := er_str h'.1
    exact .cons _ t (strs_of h'.2)
theorem str_inj {x y : List Nat} : ((⟨x.toArray⟩ : Str) == ⟨y.toArray⟩) = decide (x = y) := by
  by_cases h : x = y
  · subst h; simp
  · rw [decide_eq_false h]
    exact beq_eq_false_iff_ne.mpr fun e => h (by injection e with e; simpa using congrArg Array.toList e)
theorem C_neLS {a b : Addr} {ss tt : List (List Nat)} {ps qs : List PV} (ha : (a, .list ps) ∈ led) (hb : (b, .list qs) ∈ led) (hp : ps = ss.map .str) (hq : qs = tt.map .str) (h : Q (.bool (!decide (ss = tt))) led) : WCmp c .NotEq (.ref a) (.ref b) Q X vars led := by
  subst hp; subst hq
  intro u v hu hv ok fr E hP hE s hs
  obtain rfl := er_ref hu; obtain rfl := er_ref hv
  obtain ⟨h₀, m, news, G, F, N, V, Lk, S⟩ := id hs
  obtain ⟨o, ho, h1⟩ := Lk.mem ha
  obtain ⟨o', ho', h2⟩ := Lk.mem hb
  obtain ⟨xs, hx, e1⟩ := h1.list_at (N _ ho).1
  obtain ⟨ys, hy, e2⟩ := h2.list_at (N _ ho').1
  have hu : c.A.units < cLine := by have := ok.units; lia
  have l1 : xs.length = ss.length := by have := congrArg List.length e1; simpa using this
  have l2 : ys.length = tt.length := by have := congrArg List.length e2; simpa using this
  by_cases hl : ss.length = tt.length
  · refine SeqAt.RcNeAt.lists (e := fun j => decide (ss[j]? = tt[j]?)) hx hy (by simp; lia) hu (fun j h1 h2 => ?_) PG c.w E _ (hs.same (v := .bool _) ?_)
    · have h1' : j < xs.length := by simpa using h1
      have h2' : j < ys.length := by simpa using h2
      have g1 : ss[j]? = some ss[j] := List.getElem?_eq_getElem (by lia)
      have g2 : tt[j]? = some tt[j] := List.getElem?_eq_getElem (by lia)
      have k1 : er xs[j] = .str ss[j] := by
        have := congrArg (·[j]?) e1
        simp [h1', l1 ▸ h1'] at this; exact this
      have k2 : er ys[j] = .str tt[j] := by
        have := congrArg (·[j]?) e2
        simp [h2', l2 ▸ h2'] at this; exact this
      obtain ⟨t1, q1⟩ := er_str k1
      obtain ⟨t2, q2⟩ := er_str k2
      show SeqAt.EqAt _ _ xs.toArray[j] ys.toArray[j] _
      rw [List.getElem_toArray, List.getElem_toArray, q1, q2, g1, g2]
      have := SeqAt.EqAt.str_str (A := c.A.in1) (s := s) ⟨ss[j].toArray⟩ t1 ⟨tt[j].toArray⟩ t2
      rw [str_inj] at this
      simpa using this
    · have e : ((List.range xs.toArray.size).all fun j => decide (ss[j]? = tt[j]?)) = decide (ss = tt) := by
        rw [Bool.eq_iff_iff]
        simp only [List.all_eq_true, List.mem_range, decide_eq_true_eq]
        constructor
        · intro h
          apply List.ext_getElem?
          intro j
          by_cases hj : j < ss.length
          · exact h j (by simp; lia)
          · rw [List.getElem?_eq_none (by lia), List.getElem?_eq_none (by lia)]
        · intro h; subst h; simp
      rw [e]; exact h
  · have hne : ss ≠ tt := fun e => hl (by rw [e])
    refine SeqAt.RcNeAt.lists_lengths hx hy (by simp; lia) hu PG c.w E _ (hs.same (v := .bool _) ?_)
    rw [decide_eq_false hne] at h; exact h
theorem C_eqTup {a b : Addr} {x y : List Nat} {p q : Bool} (ha : (a, .tuple [.str x, .bool p]) ∈ led) (hb : (b, .tuple [.str y, .bool q]) ∈ led) (h : Q (.bool (decide (x = y) && (p == q))) led) : WCmp c .Eq (.ref a) (.ref b) Q X vars led := by
  intro u v hu hv ok fr E hP hE s hs
  obtain rfl := er_ref hu; obtain rfl := er_ref hv
  obtain ⟨h₀, m, news, G, F, N, V, Lk, S⟩ := id hs
  have key : ∀ {a : Addr} {x : List Nat} {p : Bool}, (a, .tuple [.str x, .bool p]) ∈ led → ∃ t, s.heap.IsTuple a #[.str ⟨x.toArray⟩ t, .bool p] := by
    intro a x p ha
    obtain ⟨o, ho, xs, n, rfl, e⟩ := Lk.mem ha
    have ht : s.heap.IsTuple a xs := N.isTup ho
    obtain ⟨v, w, hv, e1, e2⟩ := map2 e
    obtain ⟨t, rfl⟩ := er_str e1
    obtain rfl := er_bool e2
    refine ⟨t, ?_⟩
    rw [show (#[.str ⟨x.toArray⟩ t, .bool p] : Array Value) = xs by rw [← Array.toArray_toList (xs := xs), hv]]
    exact ht
  obtain ⟨t1, h1⟩ := key ha
  obtain ⟨t2, h2⟩ := key hb
  refine SeqAt.eq_tupleAt (e := fun j => if j = 0 then decide (x = y) else p == q) h1 h2 (by have := ok.units; lia) (fun j h1 h2 => ?_) (hs.same (v := .bool _) ?_)
  · have h1' : j < 2 := h1
    obtain rfl | rfl : j = 0 ∨ j = 1 := by lia
    · have := SeqAt.EqAt.str_str (A := c.A.in1) (s := s) ⟨x.toArray⟩ t1 ⟨y.toArray⟩ t2
      rw [str_inj] at this
      exact this
    · exact SeqAt.EqAt.bool_bool _ _
  · have e : ((List.range (min (#[Value.str ⟨x.toArray⟩ t1, .bool p]).size (#[Value.str ⟨y.toArray⟩ t2, .bool q]).size)).all (fun j => if j = 0 then decide (x = y) else p == q) && (#[Value.str ⟨x.toArray⟩ t1, .bool p]).size == (#[Value.str ⟨y.toArray⟩ t2, .bool q]).size) = (decide (x = y) && (p == q)) := by
      simp [List.range, List.range.loop]
    rw [e]; exact h
/-- pieces with a joint between them -/
noncomputable def joinL {α : Type} (sep : List α) : List (List α) → List α
  | [] => []
  | [x] => x
  | x :: y :: r => x ++ sep ++ joinL sep (y :: r)
theorem join_cps (sep : List Nat) : ∀ ss : List (List Nat), (Str.join ⟨sep.toArray⟩ (ss.map fun x => ⟨x.toArray⟩)).cps.toList = joinL sep ss
  | [] => rfl
  | [x] => by simp [Str.join, joinL]
  | x :: y :: r => by
    show ((⟨x.toArray⟩ : Str) ++ ⟨sep.toArray⟩ ++ Str.join ⟨sep.toArray⟩ ((y :: r).map fun x => ⟨x.toArray⟩)).cps.toList = _
    rw [Str.cps_append, Str.cps_append, Array.toList_append, join_cps sep (y :: r)]
    simp [joinL]
theorem Bi_joinS {a : Addr} {sep : List Nat} {ss : List (List Nat)} {ps : List PV} (hm : (a, .list ps) ∈ led) (hp : ps = ss.map .str) (hz : (ss.map (·.length)).sum + ss.length * sep.length ≤ 16777216) (h : Q (.str (joinL sep ss)) led) : Bi c (.builtin "str.join") [.str sep, .ref a] Q X vars led := by
  subst hp
  intro vals hv' ok fr E hP hE s hs
  obtain ⟨v, u, rfl, hv, hu⟩ := map2 hv'
  obtain ⟨t, rfl⟩ := er_str hv; obtain rfl := er_ref hu
  obtain ⟨h₀, m, news, G, F, N, V, Lk, S⟩ := id hs
  obtain ⟨o, ho, h1⟩ := Lk.mem hm
  obtain ⟨xs, hx, e1⟩ := h1.list_at (N _ ho).1
  refine join_list hx (ys := ss.map fun x => ⟨x.toArray⟩) (by simpa using strs_of e1) ?_ fun t' k => hs.only (v := .str _ t') k ?_
  · have e : ((ss.map fun x => (⟨x.toArray⟩ : Str)).map (·.length)) = ss.map (·.length) := by rw [List.map_map]; rfl
    rw [e, List.length_map]; exact hz
  · show Q (.str (Txt.join _ _).cps.toList) led
    have e : Txt.join ⟨sep.toArray⟩ (ss.map fun x => ⟨x.toArray⟩) = Str.join ⟨sep.toArray⟩ (ss.map fun x => ⟨x.toArray⟩) := StrLaws.glued_eq_join _ _
    rw [e, join_cps]; exact h
theorem Bi_split {x : List Nat} {k : Nat} (hz : x.length + 2 ≤ 16777216) (h : ∀ r ss, (∀ w ∈ ss, k ∉ w) → joinL [k] ss = x → (ss.map (·.length)).sum + ss.length ≤ x.length + 1 → Q (.ref r) ((r, .list (ss.map .str)) :: led)) : Bi c (.builtin "str.split") [.str x, .str [k]] Q X vars led := by
  intro vals hv' ok fr E hP hE s hs
  obtain ⟨v, u, rfl, hv, hu⟩ := map2 hv'
  obtain ⟨t, rfl⟩ := er_str hv; obtain ⟨t', rfl⟩ := er_str hu
  obtain ⟨h₀, m, news, G, F, N, V, Lk, S⟩ := id hs
  refine KSpl.split1 F N rfl (fun D l h' k' e hl F' N' hlt => ?_) (by rw [sizeLine_eq]; simpa [Str.length] using hz)
  have e0 : (⟨([k] : List Nat).toArray⟩ : Str) = ⟨#[k]⟩ := rfl
  rw [e0] at e
  have es : ((l.map (·.1)).map fun s : Str => s.cps.toList).map (fun y => (⟨y.toArray⟩ : Str)) = l.map (·.1) := by
    rw [List.map_map]; conv => rhs; rw [← List.map_id (l.map (·.1))]
    congr 1
  have hlen : ∀ (qs : List Str), ((qs.map fun s : Str => s.cps.toList).map (·.length)) = qs.map (·.length) := fun qs => by rw [List.map_map]; congr 1
  refine ⟨_, _, ⟨h₀, m, _, G, F', N', V, .cons (po := .list (((l.map (·.1)).map fun s : Str => s.cps.toList).map .str)) (fun q hq ee => absurd (hlt q hq) (ee ▸ Nat.lt_irrefl _)) ⟨_, 0, rfl, ?_⟩ Lk, S.up _ _⟩, rfl, h D _ ?_ ?_ ?_⟩
  · simp [strValues, er]
  · intro w hw
    obtain ⟨y, hy, rfl⟩ := List.mem_map.mp hw
    rw [e] at hy
    exact StrLaws.split_free _ k y hy
  · rw [← join_cps, es, e]
    have := StrLaws.join_split ⟨x.toArray⟩ ⟨#[k]⟩
    rw [show (⟨([k] : List Nat).toArray⟩ : Str) = ⟨#[k]⟩ from rfl, this]
  · rw [hlen, List.length_map, e]
    have := split_weight ⟨x.toArray⟩ ⟨#[k]⟩ (by show 1 ≤ 1; exact Nat.le_refl _)
    simpa [Str.length] using this
theorem Bi_get {a : Addr} {f : Int → Option PV} {n : Nat} {i : Int} {p : PV} (hm : (a, .dict f n) ∈ led) (hlo : (a == sysModules) = false) (h : Q ((f i).getD p) led) : Bi c (.builtin "dict.get") [.ref a, .int i, p] Q X vars led := by
  intro vals hv' ok fr E hP hE s hs
  obtain ⟨v, u, z, rfl, hv, hu, hz⟩ := map3 hv'
  obtain rfl := er_ref hv; obtain ⟨t, rfl⟩ := er_int hu
  obtain ⟨h₀, m, news, G, F, N, V, Lk, S⟩ := id hs
  obtain ⟨o, ho, ks, hd, _, _, hf⟩ := Lk.mem hm
  have hD := Heap.dictOf_iff.mpr ⟨o, (N _ ho).1, hd⟩
  refine call_meetsIn PySem.F.slot_dict_get hD.typeIs PySem.F.entry_dict_get (PySem.F.args_dict_get_3 _ _ _) (meets_dict_get_default (intKind PG c.w) a (intKind_is _ _ _ _) hlo z) ⟨_, hD.mapOf, hs.only _ ?_⟩
  rw [← hf i] at h
  cases hq : valueAt ks i with
  | none => rw [hq] at h; subst hz; exact h
  | some y => rw [hq] at h; exact h
end
end
section
open PySem PySem.W PyProof.Rows PySem.Calls PySem.Builtin
/-! facts of the built-in table -/
theorem slot_bytes_mul : Slot "bytes" (dunder "mul") "bytes.__mul__" :=
  .of (owner := "bytes") (n := "__mul__") (by rw [typeLookup_type, builtinLookup_eq_fast]; kernel_rfl) (by decide +kernel) (by decide +kernel) (by decide +kernel)
    (by first | exact .inl (by decide +kernel) | exact .inr (by decide +kernel)) (by rw [isSubtype_type]; kernel_rfl)
theorem look_bytes_rmul : typeLookup (.type "bytes") (dunderR "mul") = pure (some (.builtin "bytes.__rmul__")) := by rw [typeLookup_type, builtinLookup_eq_fast]; kernel_rfl
theorem entry_bytes_mul : entryFor table "bytes.__mul__" = some Builtin.«bytes.__mul__» := entryFor_of_tree (by kernel_rfl)
theorem args_bytes_mul_2 (a b : Value) : argsOk "bytes.__mul__" ⟨[a, b], []⟩ := by
  unfold argsOk; rw [signature?_of (id := "bytes.__mul__") (n := ['_', '_', 'l', 'u', 'm', '_', '_']) (o := ['s', 'e', 't', 'y', 'b']) (by kernel_rfl) FB.owner_bytes]; kernel_rfl
theorem noFill_bytes_mul : fillsNumberSlot (.type "bytes") "mul" = pure false :=
  PySem.fillsNumberSlot_seq (id := "bytes.__mul__") (r := some (.builtin "bytes.__rmul__")) slot_bytes_mul.lookup (by decide +kernel) look_bytes_rmul (by decide +kernel)
theorem repeat_bytes : seqRepeat? (.type "bytes") = pure (some (.builtin "bytes.__mul__")) := by
  unfold seqRepeat?
  rw [PySem.seqSlot_of (T := "bytes") (name := "__mul__") (id := "bytes.__mul__") slot_bytes_mul.lookup (by decide +kernel), PySem.seqSlot_of (T := "bytes") (name := "__rmul__") (id := "bytes.__rmul__") look_bytes_rmul (by decide +kernel)]
  rfl
theorem slot_bytes_join : Slot "bytes" "join" "bytes.join" :=
  .of (owner := "bytes") (n := "join") (by rw [typeLookup_type, builtinLookup_eq_fast]; kernel_rfl) (by decide +kernel) (by decide +kernel) (by decide +kernel)
    (by first | exact .inl (by decide +kernel) | exact .inr (by decide +kernel)) (by rw [isSubtype_type]; kernel_rfl)
theorem type_bytes_join : typeOf (.builtin "bytes.join") = pure (.type "method_descriptor") := by show builtinType _ = _; rw [builtinType_eq_fast]; kernel_rfl
theorem entry_bytes_join : entryFor table "bytes.join" = some Builtin.«bytes.join» := entryFor_of_tree (by kernel_rfl)
theorem args_bytes_join_2 (a b : Value) : argsOk "bytes.join" ⟨[a, b], []⟩ := by
  unfold argsOk; rw [signature?_of (id := "bytes.join") (n := ['n', 'i', 'o', 'j']) (o := ['s', 'e', 't', 'y', 'b']) (by kernel_rfl) FB.owner_bytes]; kernel_rfl
theorem int_rmul_bytes (a : Int) (t : Tok) (b : Array UInt8) (u : Tok) :
    Gives (Builtin.«int.__rmul__» ⟨[.int a t, .bytes b u], []⟩) (.val (Value.notImplemented)) :=
  .of_wp fun M A E s Q h => by obtain ⟨hp, g, d, tk, os⟩ := s; wp_walk; exact ⟨_, rfl, h⟩
theorem foldl_rep_list (b : Array UInt8) : ∀ (n : Nat) (acc : Array UInt8), ((List.replicate n b).foldl (· ++ ·) acc).toList = acc.toList ++ (List.replicate n b.toList).flatten
  | 0, acc => by simp
  | n + 1, acc => by rw [List.replicate_succ, List.foldl_cons, foldl_rep_list b n]; simp [List.replicate_succ]
theorem repeated_list (b : Array UInt8) (n : Nat) : (Bytes.repeated b n).toList = (List.replicate n b.toList).flatten := by
  unfold Bytes.repeated
  by_cases h : b.isEmpty = true
  · rw [if_pos h]
    have : b.toList = [] := by simpa using h
    rw [this]; simp
  · rw [if_neg h, foldl_rep_list]; simp
theorem asIndex_int (i : Int) (u : Tok) : asIndex (.int i u) = pure i := rfl
theorem gives_bytes_mul {x : List UInt8} {t u : Tok} {n : Nat} {z : Int} (he : z = (n : Int)) (hz : x.length * n ≤ 16777216) (hn : n ≤ 16777216) {M : Model} {A : Around} {E : Value → Shared → Prop} {s : Shared} {Q : Value → Shared → Prop} (hq : ∀ (b : Array UInt8) (t' : Tok) (k : Nat), b.toList = (List.replicate n x).flatten → Q (.bytes b t') { s with toks := k }) :
    wpAny M A (Builtin.«bytes.__mul__» ⟨[.bytes x.toArray t, .int z u], []⟩) (fun fin s' => ∃ v, fin = .done (.ret v) ∧ Q v s') E s := by
  have h0 : ∀ n : Int, Builtin.«bytes.__mul__» ⟨[.bytes x.toArray t, .int n u], []⟩ = (Bytes.repeatArgs .bytes "__mul__" ⟨[.bytes x.toArray t, .int n u], []⟩ >>= fun r => do
      let c ← Bytes.payload r.1
      let size := c.size * r.2.toNat
      if size ≥ 2 ^ 63 then rule s!"bytes.{"__mul__"}.too-long"; raiseError "OverflowError" "repeated bytes are too long"
      if size == c.size then
        if (← typeOf r.1) == .type "bytes" then rule s!"bytes.{"__mul__"}.unchanged"; return ← ret r.1
      if Bytes.tooLong size then unsupported s!"bytes.{"__mul__"}:memory"
      ret (← mkBytes (Bytes.repeated c r.2.toNat))) := by intro n; rfl
  rw [h0]
  refine wpAny_bind ?_
  unfold Bytes.repeatArgs
  refine wpAny_bind ?_
  rw [asIndex_int]
  refine wpAny_pure ?_
  subst he
  show wpAny M A (if (!Bytes.fitsIndex n) = true then _ else _) _ E s
  rw [if_neg (by simp [Bytes.fitsIndex]; lia)]
  refine wpAny_pure ?_
  show wpAny M A (Bytes.payload (.bytes x.toArray t) >>= _) _ E s
  refine wpAny_bind (wpAny_of_eq (a := x.toArray) rfl ?_)
  show wpAny M A (if x.toArray.size * n ≥ 2 ^ 63 then _ else _) _ E s
  have hz' : x.toArray.size * n ≤ 16777216 := by simpa using hz
  rw [if_neg (by lia)]
  show wpAny M A (if (x.toArray.size * n == x.toArray.size) = true then _ else _) _ E s
  by_cases h : x.toArray.size * n = x.toArray.size
  · rw [if_pos (by simpa using h)]
    refine wpAny_bind (wpAny_typeOf (typeIs_bytes s x.toArray t) ?_)
    refine wpAny_bind (wpAny_rule (wpAny_pure ⟨_, rfl, hq _ t s.toks ?_⟩))
    have h' : x.length * n = x.length := by simpa using h
    rcases Nat.eq_zero_or_pos x.length with h0 | h0
    · have : x = [] := List.eq_nil_of_length_eq_zero h0
      subst this; simp
    · have : n = 1 := Nat.eq_of_mul_eq_mul_left h0 (by rw [h', Nat.mul_one])
      subst this; simp
  · rw [if_neg (by simpa using h)]
    show wpAny M A (if Bytes.tooLong (x.toArray.size * n) = true then _ else _) _ E s
    rw [if_neg (by rw [KBy.tooLong_not hz']; exact Bool.false_ne_true)]
    refine wpAny_bind (wpAny_mkBytes (wpAny_pure ⟨_, rfl, hq _ _ _ (repeated_list _ _)⟩) ?_)
    rw [← Array.length_toList, repeated_list, List.length_flatten]
    have e : ∀ (n k : Nat), (List.map List.length (List.replicate n x)).sum = n * x.length := by
      intro n _
      induction n with
      | zero => simp
      | succ n ih => rw [List.replicate_succ, List.map_cons, List.sum_cons, ih, Nat.succ_mul, Nat.add_comm]
    show (List.map List.length (List.replicate n x)).sum ≤ _
    rw [e n 0, sizeLine_eq, Nat.mul_comm]; exact hz
section
variable {c : Cx} {X : Vars → Led → Prop} {vars : Vars} {led : Led} {Q : PV → Led → Prop}
theorem B_mulB {x : List UInt8} {n : Nat} (hz : x.length * n ≤ 16777216) (hn : n ≤ 16777216) (h : Q (.bytes (List.replicate n x).flatten) led) : WBin c .Mult (.bytes x) (.int n) Q X vars led := by
  intro a v ha hv ok fr E hP hE s hs
  obtain ⟨t, rfl⟩ := er_bytes ha; obtain ⟨u, rfl⟩ := er_int hv
  obtain ⟨z, he⟩ : ∃ z : Int, z = n := ⟨_, rfl⟩
  rw [← he]
  have key : wpAny c.M c.A (call (.builtin "bytes.__mul__") [.bytes x.toArray t, .int z u]) (fun a s' => Out c fr (fun v l => v = vars ∧ Q (er a) l) s') E s := by
    have k0 := @gives_bytes_mul x t u n z he hz hn c.M c.A.in1 E s (fun a s' => Out c fr (fun v l => v = vars ∧ Q (er a) l) s')
    refine wpAny_call_entry slot_bytes_mul (typeIs_bytes _ _ _) entry_bytes_mul (k0 ?_) (args_bytes_mul_2 _ _)
    intro b t' k hb
    exact ⟨vars, led, hs.toks k, rfl, by show Q (.bytes b.toList) led; rw [hb]; exact h⟩
  have h1 := call_gives (prog := PG) (w := c.w) (A := c.A) (E := E) (s := s) (Q := fun v s' => v = Value.notImplemented ∧ wpAny c.M c.A (call (.builtin "bytes.__mul__") [.bytes x.toArray t, .int z u]) (fun a s' => Out c fr (fun v l => v = vars ∧ Q (er a) l) s') E s') PySem.F.slot_int_rmul (typeIs_int s z u) PySem.F.entry_int_rmul (PySem.F.args_int_rmul_2 _ _) (int_rmul_bytes z u x.toArray t) ⟨rfl, key⟩
  have h2 := fun (s' : Shared) => typeIs_bytes s' x.toArray t
  have h3 := fun (s' : Shared) => typeIs_int s' z u
  exact PySem.wpAny_binaryOp_repeat (T := "bytes") (U := "int") (by decide) h2 h3 noFill_bytes_mul PySem.F.fills_int_mul PySem.F.slot_int_rmul repeat_bytes PySem.F.slot_int_index.lookup h1
end
end
section
open PySem PySem.W PyProof.Rows PySem.Calls PySem.Builtin
theorem takeBuf {id : String} {b : Array UInt8} {t : Tok} : Bytes.takeBufferQuiet? id (.bytes b t) 0 = pure (some (b, none)) := by
  have h : Bytes.takeBuffer? id (.bytes b t) 0 = pure (some (b, none)) := by
    unfold Bytes.takeBuffer?
    rw [KBy.special_eq KBy.look_buffer, KBy.own_buffer]
    simp only [pure_bind]
    have e : Bytes.buffer? id (.bytes b t) (full := (0 : Int) == Bytes.fullReadOnly) = pure (some b) := by
      unfold Bytes.buffer?
      rw [KBy.special_eq KBy.look_buffer, KBy.own_buffer, KBy.own_release]
      kernel_rfl
    rw [e]
    kernel_rfl
  unfold Bytes.takeBufferQuiet?
  rw [h]
  rfl
theorem joinLetGo_none {M : Model} {A : Around} {E : Value → Shared → Prop} {s : Shared} : ∀ (taken : List (Value × Option Value)) (keep : List Value), (∀ p ∈ taken, p.2 = none) → ∀ {Q : Unit → Shared → Prop}, Q () s → wpAny M A (Bytes.joinLetGo taken keep) Q E s
  | [], _, _, Q, h => wpAny_pure h
  | (x, w) :: rest, keep, hn, Q, h => by
    obtain rfl : w = none := hn (x, w) (.head _)
    unfold Bytes.joinLetGo
    refine wpAny_bind (wpAny_letGo ?_)
    exact joinLetGo_none rest keep (fun p hp => hn p (.tail _ hp)) h
theorem joinL_flat {α : Type} (sep : List α) : ∀ (x : List α) (r : List (List α)), joinL sep (x :: r) = x ++ r.flatMap fun y => sep ++ y
  | x, [] => by simp [joinL]
  | x, y :: r => by rw [joinL, joinL_flat sep y r]; simp [List.append_assoc]
theorem joinL_length {α : Type} (sep : List α) : ∀ (l : List (List α)), (joinL sep l).length = sep.length * (l.length - 1) + (l.map (·.length)).sum
  | [] => by simp [joinL]
  | [x] => by simp [joinL]
  | x :: y :: r => by
    rw [joinL, List.length_append, List.length_append, joinL_length sep (y :: r)]
    simp [Nat.mul_add, Nat.mul_succ]
    omega
theorem joined_from (sep : Array UInt8) : ∀ (l : List (Array UInt8)) (k : Nat) (out : Array UInt8), 0 < k → ((l.zipIdx k).foldl (fun out (p, i) => (if i > 0 then out ++ sep else out) ++ p) out).toList = out.toList ++ (l.map (·.toList)).flatMap fun y => sep.toList ++ y
  | [], _, _, _ => by simp
  | p :: r, k, out, hk => by
    rw [List.zipIdx_cons, List.foldl_cons, joined_from sep r (k + 1) _ (by omega)]
    simp [hk]
theorem joined_list (sep : Array UInt8) (parts : List (Array UInt8)) : (Bytes.joined sep parts).toList = joinL sep.toList (parts.map (·.toList)) := by
  cases parts with
  | nil => rfl
  | cons p r =>
    unfold Bytes.joined
    rw [List.zipIdx_cons, List.foldl_cons, joined_from sep r 1 _ (by omega), List.map_cons, joinL_flat]
    simp
structure JI (xs : Array Value) (bs : List (List UInt8)) (s : Shared) (rest : List Nat) (st : Array (Array UInt8) × List (Value × Option Value)) (s' : Shared) : Prop where
  s : s' = s
  r : rest = List.range' st.1.size (xs.size - st.1.size) 1
  p : st.1.toList.map (·.toList) = bs.take st.1.size
  t : ∀ q ∈ st.2, q.2 = none ∧ q.1.onHeap = false
structure JJ (a : Addr) (o : Obj) (xs : Array Value) (bs : List (List UInt8)) (s : Shared) (j : Nat) (rest : List Nat) (st : Array (Array UInt8) × List (Value × Option Value)) (s' : Shared) (y : Array UInt8 × Tok) : Prop where
  x : xs.getD j .none = .bytes y.1 y.2
  heap : s'.heap.get? a = some o
  any : (st.2.any fun p => p.1.onHeap) = false
  next : JI xs bs s rest (st.1.push y.1, st.2 ++ [(.bytes y.1 y.2, none)]) s'
theorem join_elem {xs : Array Value} {bs : List (List UInt8)} {j : Nat} (hx : xs.toList.map er = bs.map .bytes) (h : j < xs.size) : (E2 fun (b : Array UInt8) (t : Tok) => A2 (xs.getD j .none = .bytes b t) (bs[j]? = some b.toList)) := by
  have e : (xs.toList[j]?).map er = (bs[j]?).map .bytes := by rw [← List.getElem?_map, hx, List.getElem?_map]
  have g : xs.toList[j]? = some (xs.getD j .none) := by simp [h]
  rw [g] at e
  cases hb : bs[j]? with
  | none => rw [hb] at e; cases e
  | some w =>
    rw [hb] at e
    obtain ⟨t, et⟩ := er_bytes (Option.some.inj e)
    exact ⟨_, t, et, rfl⟩
theorem JI.item {a : Addr} {o : Obj} {xs : Array Value} {bs : List (List UInt8)} {s : Shared} {j : Nat} {rest : List Nat} {st : Array (Array UInt8) × List (Value × Option Value)} {s' : Shared} (hx : xs.toList.map er = bs.map .bytes) (ho : s.heap.get? a = some o) (h : JI xs bs s (j :: rest) st s') : ∃ y, JJ a o xs bs s j rest st s' y := by
  obtain ⟨hs, hr, hp, ht⟩ := h
  have hlt : st.1.size < xs.size := by
    rcases Nat.lt_or_ge st.1.size xs.size with h | h
    · exact h
    · rw [Nat.sub_eq_zero_of_le h] at hr; cases hr
  rw [show xs.size - st.1.size = (xs.size - (st.1.size + 1)) + 1 by lia, List.range'_succ] at hr
  obtain ⟨rfl, h1⟩ := List.cons.inj hr
  obtain ⟨b, t, hg, hb⟩ := join_elem hx hlt
  refine ⟨(b, t), hg, by rw [hs]; exact ho, ?_, hs, ?_, ?_, ?_⟩
  · rw [List.any_eq_false]; intro p hm; rw [(ht p hm).2]; decide
  · show rest = _
    rw [h1]; simp only [Array.size_push]
  · show ((st.1.push b).toList.map (·.toList)) = _
    rw [Array.toList_push, List.map_append, hp, Array.size_push, List.take_add_one, hb]; rfl
  · intro q hq
    rcases List.mem_append.mp hq with h | h
    · exact ht q h
    · rw [List.mem_singleton.mp h]; exact ⟨rfl, rfl⟩
theorem JI.fin {xs : Array Value} {bs : List (List UInt8)} {s : Shared} {st : Array (Array UInt8) × List (Value × Option Value)} {s' : Shared} (hl : xs.size = bs.length) (h : JI xs bs s [] st s') : s' = s ∧ st.1.toList.map (·.toList) = bs ∧ ∀ q ∈ st.2, q.2 = none := by
  refine ⟨h.s, ?_, fun q hq => (h.t q hq).1⟩
  have hge : bs.length ≤ st.1.size := by
    have hr := congrArg List.length h.r
    rw [List.length_range', List.length_nil] at hr; lia
  rw [h.p, List.take_of_length_le hge]
theorem forIn_J {α β γ : Type} {M : Model} {A : Around} {E : Value → Shared → Prop} {s : Shared} {f : α → β → Sem (ForInStep β)} (I : List α → β → Shared → Prop) (J : α → List α → β → Shared → γ → Prop) {Q : β → Shared → Prop}
    (item : ∀ x rest b s, I (x :: rest) b s → ∃ y, J x rest b s y)
    (fin : ∀ b s, I [] b s → Q b s) {l : List α} {b : β} (h : I l b s)
    (turn : ∀ x rest b s y, J x rest b s y → wpAny M A (f x b) (fun r s' => match r with | .yield b' => I rest b' s' | .done b' => Q b' s') E s) : wpAny M A (forIn l b f) Q E s :=
  wpAny_forIn_list f I Q (fun x rest b s hi => (item x rest b s hi).elim fun y hy => turn x rest b s y hy) fin l b h
theorem join_size {sep : Array UInt8} {bs : List (List UInt8)} {parts : Array (Array UInt8)} (hp : parts.toList.map (·.toList) = bs) (hz : sep.size * bs.length + (bs.map (·.length)).sum ≤ 16777216) :
    Bytes.tooLong (parts.foldl (fun a b => a + b.size) (sep.size * (parts.size - 1))) = false ∧ (Bytes.joined sep parts.toList).size ≤ sizeLine := by
  have hl : parts.size = bs.length := by have := congrArg List.length hp; simpa using this
  constructor
  · have e : ∀ (l : List (Array UInt8)) (k : Nat), l.foldl (fun a b => a + b.size) k = k + ((l.map (·.toList)).map (·.length)).sum := by
      intro l
      induction l with
      | nil => intro k; simp
      | cons b r ih => intro k; rw [List.foldl_cons, ih]; simp; lia
    rw [← Array.foldl_toList, e, hp, hl]
    exact KBy.tooLong_not (Nat.le_trans (Nat.add_le_add_right (Nat.mul_le_mul_left _ (Nat.sub_le _ _)) _) hz)
  · rw [← Array.length_toList, joined_list, hp, joinL_length, sizeLine_eq]
    exact Nat.le_trans (Nat.add_le_add_right (Nat.mul_le_mul_left _ (Nat.sub_le _ _)) _) hz
theorem join_shape {xs : Array Value} {bs : List (List UInt8)} (hx : xs.toList.map er = bs.map .bytes) :
    ((E2 fun (b : Array UInt8) (t : Tok) => A3 (xs = #[.bytes b t]) (b.toList = joinL [] bs) (bs = [b.toList]))) ∨ ∀ {β : Type} (f : Value → β) (d : Array Value → β), Bytes.joinM.match_1 (fun _ => β) xs f d = d xs := by
  rcases xs with ⟨_ | ⟨x, _ | ⟨y, r⟩⟩⟩
  · exact .inr fun _ _ => rfl
  · obtain ⟨b, rfl⟩ := len1 (l := bs) (by have := congrArg List.length hx; simpa using this.symm)
    obtain ⟨t, rfl⟩ := er_bytes (show er x = .bytes b by simpa using hx)
    exact .inl ⟨_, t, rfl, rfl, rfl⟩
  · exact .inr fun _ _ => rfl
theorem wp_eq {α : Type} {M : Model} {A : Around} {E : Value → Shared → Prop} {s : Shared} {Q : α → Shared → Prop} {p q : Sem α} (e : p = q) (h : wpAny M A q Q E s) : wpAny M A p Q E s := e ▸ h
theorem join_run {sep : Array UInt8} {t : Tok} {a : Addr} {o : Obj} {xs : Array Value} {n : Nat} {bs : List (List UInt8)} {M : Model} {A : Around} {E : Value → Shared → Prop} {s : Shared} {Q : Value → Shared → Prop}
    (ho : s.heap.get? a = some o) (hc : o.cls = .type "list") (hd : o.data = .seq xs n) (hx : xs.toList.map er = bs.map .bytes)
    (hz : sep.size * bs.length + (bs.map (·.length)).sum ≤ 16777216) (hq : ∀ (b : Array UInt8) (t' : Tok) (k : Nat), b.toList = joinL sep.toList bs → Q (.bytes b t') { s with toks := k }) :
    wpAny M A (Builtin.«bytes.join» ⟨[.bytes sep t, .ref a], []⟩) (fun fin s' => ∃ v, fin = .done (.ret v) ∧ Q v s') E s := by
  have hlen : xs.size = bs.length := by have := congrArg List.length hx; simpa using this
  have hT : s.TypeIs (.ref a) "list" := ⟨o, ho, hc⟩
  rcases join_shape hx with ⟨b, t', rfl, hb, hbs⟩ | red
  · have hq' : Q (.bytes b t') s := hq b t' s.toks (by rw [hbs]; rfl)
    unfold Builtin.«bytes.join» Bytes.joinM
    refine wpAny_bind (wpAny_of_eq (a := (.bytes sep t, .ref a)) rfl ?_)
    refine wpAny_bind (?_ : wpAny M A (Bytes.joinItems (.ref a)) _ E s)
    unfold Bytes.joinItems
    refine wpAny_bind (wpAny_typeOf hT ?_)
    rw [if_pos (by decide)]
    refine wpAny_pure (wpAny_bind (wpAny_seqItems ho hd ?_))
    refine wpAny_bind (wpAny_typeOf (typeIs_bytes _ _ _) ?_)
    rw [if_pos (by decide)]
    exact wpAny_bind (wpAny_rule (wpAny_pure ⟨_, rfl, hq'⟩))
  · unfold Builtin.«bytes.join» Bytes.joinM
    refine wpAny_bind (wpAny_of_eq (a := (.bytes sep t, .ref a)) rfl ?_)
    refine wpAny_bind (?_ : wpAny M A (Bytes.joinItems (.ref a)) _ E s)
    unfold Bytes.joinItems
    refine wpAny_bind (wpAny_typeOf hT ?_)
    rw [if_pos (by decide)]
    refine wpAny_pure (wpAny_bind (wpAny_seqItems ho hd ?_))
    dsimp only
    refine wp_eq (red _ _) ?_
    refine wpAny_bind (wpAny_mono (Q := fun (st : Array (Array UInt8) × List (Value × Option Value)) s' => s' = s ∧ st.1.toList.map (·.toList) = bs ∧ ∀ q ∈ st.2, q.2 = none) ?_ ?_ (fun _ _ h => h))
    · rw [KPc.range_list]
      refine forIn_J (JI xs bs s) (JJ a o xs bs s) (fun _ _ _ _ => JI.item hx ho) (fun _ _ => JI.fin hlen) ⟨rfl, rfl, by simp, fun _ h => nomatch h⟩ fun j rest st s' y h => ?_
      refine wpAny_bind (wpAny_seqItems h.heap hd ?_)
      dsimp only
      rw [h.x, if_neg (by rw [h.any]; decide)]
      refine wpAny_bind (wpAny_holding (wpAny_of_eq takeBuf ?_))
      refine wpAny_bind (wpAny_seqItems h.heap hd ?_)
      dsimp only
      rw [if_neg (by simp)]
      exact wpAny_pure h.next
    · intro st s' h
      refine wpAny_bind (wpAny_of_eq (a := sep) rfl ?_)
      rw [if_neg (by rw [(join_size h.2.1 hz).1]; decide)]
      refine wpAny_bind (wpAny_mkBytes ?_ (join_size h.2.1 hz).2)
      refine wpAny_bind (wpAny_holding (wpAny_point ?_))
      refine wpAny_bind (joinLetGo_none _ _ h.2.2 ?_)
      exact wpAny_pure ⟨_, rfl, by rw [h.1]; exact hq _ _ _ (by rw [joined_list, h.2.1])⟩
section
variable {c : Cx} {X : Vars → Led → Prop} {vars : Vars} {led : Led} {Q : PV → Led → Prop}
theorem Bi_joinB {a : Addr} {sep : List UInt8} {bs : List (List UInt8)} {ps : List PV} (hm : (a, .list ps) ∈ led) (hp : ps = bs.map .bytes) (hz : sep.length * bs.length + (bs.map (·.length)).sum ≤ 16777216) (h : Q (.bytes (joinL sep bs)) led) : Bi c (.builtin "bytes.join") [.bytes sep, .ref a] Q X vars led := by
  subst hp
  intro vals hv' ok fr E hP hE s hs
  obtain ⟨v, u, rfl, hv, hu⟩ := map2 hv'
  obtain ⟨t, rfl⟩ := er_bytes hv; obtain rfl := er_ref hu
  obtain ⟨h₀, m, news, G, F, N, V, Lk, S⟩ := id hs
  obtain ⟨o, ho, xs, n, rfl, hx⟩ := Lk.mem hm
  refine wpAny_call_entry slot_bytes_join (typeIs_bytes _ _ _) entry_bytes_join (join_run (N _ ho).1 rfl rfl hx (by simpa using hz) ?_) (args_bytes_join_2 _ _)
  intro b t' k hb
  exact ⟨vars, led, hs.toks k, rfl, by show Q (.bytes b.toList) led; rw [hb]; simpa using h⟩
end
end
section
open PySem PySem.W PyProof.Rows PySem.Calls PySem.Builtin
noncomputable abbrev bmW : List Value := [.ref 39, .type "Exception", .type "BaseException", .type "object"]
theorem wf_obj : ∃ nm q bs hdct sn sub ab col dd k0 k1 k2 k3 k5, ∀ w, (KF w).lookup 52 = some (excClassObj nm q 52 51 bs bmW hdct sn sub ab col dd k0 k1 k2 k3 k5 "Exception.__new__") :=
  ⟨_, _, _, _, _, _, _, _, _, _, _, _, _, _, fun w => by exact rfl⟩
theorem init_find (w : World) : findIn (KF w) (.ref 52) "__init__" = some (some (.ref 29)) := by exact rfl
theorem init_type (w : World) : typeIn (KF w) (.ref 29) = some (.type "function") := by exact rfl
theorem call_find (w : World) : specialIn (KF w) (.ref 52) "__call__" = some (some (.builtin "type.__call__")) := by exact rfl
theorem inst_type (w : World) : instIn (KF w) (.ref 52) (.type "type") = some true := by exact rfl
section
variable {M : Model} {A : Around} {E : Value → Shared → Prop} {h : Heap} {g : Array GenState} {d : Drawn} {t : Nat} {os : OsState}
variable {nm q : Str} {bs : List Value} {hdct : Bool} {sn : List Str} {sub : List Value} {ab : Bool} {col : Option Bool} {dd : Option Addr} {k0 k1 k2 k3 k5 : Option Value}
theorem has_exc : (Value.ref 52 :: bmW).contains (.type "Exception") = true := by rfl
theorem check_new {rest : List Value} {Q : Unit → Shared → Prop} (hC : h.get? 52 = some (excClassObj nm q 52 51 bs bmW hdct sn sub ab col dd k0 k1 k2 k3 k5 "Exception.__new__"))
    (hq : Q () ⟨h, g, d, t, os⟩) : wpAny M A (checkBuiltinCall "Exception.__new__" ⟨.ref 52 :: rest, []⟩) Q E ⟨h, g, d, t, os⟩ := by
  have F := PySem.F.excBase_Exception
  have hcont := has_exc
  have hstar := F.noStar
  simp only [checkBuiltinCall, F.newKind, F.newSplit, F.newRow]
  repeat (first | refine wpAny_loadPart_at hC ?_ | (refine wpAny_isSubtype_exc hC ?_; rw [hcont]) | refine wpAny_staticBase_exc hC ?_ | refine wpAny_madeBy_exc hC ?_ | simp only [bne_self_eq_false, Bool.false_eq_true, if_false] | wp_step)
  exact hq
end
section
variable {prog : Program} {w : World} {A : Around} {R : Result → Shared → Prop} {h : Heap} {g : Array GenState} {d : Drawn} {t : Nat} {os : OsState}
variable {nm q : Str} {bs : List Value} {hdct : Bool} {sn : List Str} {sub : List Value} {ab : Bool} {col : Option Bool} {dd : Option Addr} {k0 k1 k2 k3 k5 : Option Value}
noncomputable abbrev excObj (t : Addr) : Obj := { cls := .ref 52, data := .fields #[.ref t, .none, .none, .none, .bool false, .none] }
noncomputable abbrev tupObj (vs : List Value) : Obj := { cls := .type "tuple", data := .seq vs.toArray }
theorem exc_new {rest : List Value} (hC : h.get? 52 = some (excClassObj nm q 52 51 bs bmW hdct sn sub ab col dd k0 k1 k2 k3 k5 "Exception.__new__"))
    (hq : R (.ok (.ret (.ref (h.objs.size + 1)))) ⟨(h.push (tupObj rest)).push (excObj h.objs.size), g, d, t, os⟩) (hrest : rest.length ≤ sizeLine) :
    codeAny (model prog w) A (.builtin "Exception.__new__" ⟨.ref 52 :: rest, []⟩) R ⟨h, g, d, t, os⟩ := by
  have F := PySem.F.excBase_Exception
  have hends := F.ends
  have hcB := has_exc
  have hcA : (Value.ref 52 :: bmW).contains (.type "AttributeError") = false := by rfl
  have hcN : (Value.ref 52 :: bmW).contains (.type "NameError") = false := by rfl
  refine codeAny_builtinAt F.entry ?_
  unfold Builtin.«BaseException.__new__»
  refine PySem.wpAt_bind ?_
  show PySem.wpAt _ _ _ (stack >>= _) _ _ _
  refine PySem.wpAt_bind (PySem.wpAt_stack fun p below => PySem.wpAt_of_wpAny ?_)
  wp_walk
  refine PySem.wpAt_of_wpAny ?_
  rw [F.owner]
  repeat (first | with_reducible refine wpAny_madeHere_exc F.canon hC ?_ | with_reducible refine wpAny_loadPart_at hC ?_ | (with_reducible refine wpAny_isSubtype_exc hC ?_; first | rw [hcB] | rw [hcA] | rw [hcN]) | wp_step)
  show R _ _
  rw [Heap.size_push]
  exact hq
/-- the class is called: an exception is made, and its `__init__` is entered -/
theorem exc_make {rest : List Value} (X : (KF w).In h) (hrest : rest.length ≤ sizeLine)
    (hq : codeAny (model prog w) (A.under (.builtin "type.__call__" ⟨.ref 52 :: rest, []⟩)) (.call (.ref 29) ⟨.ref (h.objs.size + 1) :: rest, []⟩) (InitBack (h.objs.size + 1) R) ⟨(h.push (tupObj rest)).push (excObj h.objs.size), g, d, t, os⟩) :
    codeAny (model prog w) A (.call (.ref 52) ⟨rest, []⟩) R ⟨h, g, d, t, os⟩ := by
  obtain ⟨nm, q, bs, hdct, sn, sub, ab, col, dd, k0, k1, k2, k3, k5, hl⟩ := wf_obj
  have hC := X _ _ (hl w)
  have call := looks_specialIn (M := model prog w) X (call_find w)
  have typ := looks_instIn (M := model prog w) X (inst_type w)
  refine codeAny_of_tree ?_
  show wpAny _ _ (callAny (.ref 52) _) _ _ _
  refine nd_load hC ?_
  show wpAny _ _ (callAny.viaDunder (.ref 52) _) _ _ _
  unfold callAny.viaDunder
  refine wpAny_bind (call.at ?_)
  dsimp only
  rw [tc_bind]
  refine wpAny_bind (wpAny_pure (wpAny_bind (wpAny_pure ?_)))
  refine wpAny_pure (a := PySem.Fin.again (.call (.builtin "type.__call__") ⟨.ref 52 :: rest, []⟩)) (And.intro rfl ?_)
  refine codeAny_call_builtin_at (Code.quiet_builtin _ (by decide +kernel)) entry_typeCall (check_slot tc_kind tc_split typ (tc_args _ _ _) ?_)
  repeat (first | with_reducible refine wpAny_loadPart_at hC ?_ | with_reducible refine wpAny_madeBy_exc hC ?_ | wp_step)
  refine codeAny_call_builtin_code (Code.quiet_builtin _ PySem.F.excBase_Exception.quiet) (check_new hC ?_)
  refine exc_new hC ?_ hrest
  show wpAny _ _ _ _ _ _
  have k : ∀ b o, h.get? b = some o → ((h.push (tupObj rest)).push (excObj h.objs.size)).get? b = some o := fun b o e => Heap.get?_push_of_some _ (Heap.get?_push_of_some _ e)
  have hx : ((h.push (tupObj rest)).push (excObj h.objs.size)).get? (h.objs.size + 1) = some (excObj h.objs.size) := by heap_get
  have t1 : Looks (model prog w) ((h.push (tupObj rest)).push (excObj h.objs.size)) (typeOf (.ref (h.objs.size + 1))) (.ref 52) := (Looks.ld hx).andThen .now
  have s1 := (looks_mroIn (M := model prog w) X (C := 52) (base := .ref 52) (r := true) (by exact rfl)).keeps k
  have i1 := (looks_findIn (M := model prog w) X (init_find w)).keeps k
  have b1 := (bind_fn (M := model prog w) X (.ref (h.objs.size + 1)) (init_type w)).keeps k
  unfold isInstance callSpecial? specialOf
  repeat (first | with_reducible refine wpAny_call ?_ | lk)
  refine codeAny_mono hq fun r s' z => ?_
  rcases r with e | (v | _ | _ | _) <;> first | exact z | exact z.elim | skip
  obtain ⟨rfl, z⟩ := z
  exact wpAny_pure (wpAny_pure z)
end
end
section
open PySem PySem.W PyProof.Rows PySem.Calls PySem.Builtin PySem.Builtin.ObjectAttr
section
variable {prog : Program} {w : World} {A : Around} {E : Value → Shared → Prop} {h : Heap} {g : Array GenState} {d : Drawn} {t : Nat} {os : OsState}
variable {nm q : Str} {x : Addr} {bs : List Value} {sn : List Str} {sub : List Value} {ab : Bool} {col : Option Bool} {dd : Option Addr} {k0 k1 k2 k3 k5 : Option Value}
  {mA : Str → Option Value} {name : Str} {v : Value}
theorem refuse_W (self : Value) : refuseLoop self "__setattr__" (.ref 52 :: bmW) = pure () := by
  rw [refuseLoop_ref, refuseLoop_ref]; exact PySem.F.store_Exception.passes self
theorem store_first {tk : Tok} {Q : PySem.Fin → Shared → Prop} {o : Obj} (X : (KF w).In h) (hC : h.get? 52 = some (excClassObj nm q 52 51 bs bmW true sn sub ab col dd k0 k1 k2 k3 k5 "Exception.__new__"))
    (hf : findIn (KF w) (.ref 52) name = some none) (hx : h.get? x = some o) (hc : o.cls = .ref 52) (hnc : ∀ c, o.data ≠ .cls c) (hdn : o.dict = none)
    (hq : ∀ h' tk', h'.get? x = some { o with dict := some h.objs.size } → h'.Ns1 h.objs.size (fun y => if y = name then some v else none) → (∀ b ob, b ≠ x → h.get? b = some ob → h'.get? b = some ob) → Q (.done (.ret .none)) ⟨h', g, d, tk', os⟩) :
    wpAny (model prog w) A (Builtin.«object.__setattr__» ⟨[.ref x, .str name tk, v], []⟩) Q E ⟨h, g, d, t, os⟩ := by
  have lk1 : Looks (model prog w) h (typeLookup (.ref 52) name) none := looks_findIn X hf
  have hpass := refuse_W (.ref x)
  unfold Builtin.«object.__setattr__»
  repeat (first | rw [refuse_eq] | rw [hpass] | (with_reducible refine wpAny_loadPart_at hx ?_; rw [hc]) | with_reducible refine wpAny_mroOf_exc hC ?_ | refine lk1.here ?_ | wp_step)
  rw [hdn, if_neg (by simp [typeHasDict])]
  split
  · rename_i hcd
    cases hcd
  split
  · rename_i c hcd
    exact absurd hcd (hnc c)
  · have hx₁ : (h.push { cls := .type "dict", data := .dict #[] }).get? x = some o := Heap.get?_push_of_some _ hx
    have hxs : x ≠ h.objs.size := Nat.ne_of_lt (Heap.lt_size hx)
    refine wpAny_bind (wpAny_alloc' ?_)
    refine wpAny_bind (wpAny_update' hx₁ ?_)
    refine wpAny_pure ?_
    have hgd : ((h.push { cls := .type "dict", data := .dict #[] }).update x fun o => { cls := o.cls, dict := some h.objs.size, data := o.data, slots := o.slots }).get? h.objs.size
        = some { cls := .type "dict", data := .dict #[] } :=
      (Heap.get?_update_ne _ _ _ _ hxs.symm).trans (Heap.get?_push_at rfl rfl)
    have hnd : ((h.push { cls := .type "dict", data := .dict #[] }).update x fun o => { cls := o.cls, dict := some h.objs.size, data := o.data, slots := o.slots }).Ns h.objs.size (fun _ => none) :=
      ⟨_, #[], _, hgd, rfl, fun e he => absurd he (by simp), fun _ => rfl⟩
    show wpAny _ _ (storeInDict h.objs.size (.str name tk) name v) _ _ _
    unfold storeInDict newKeyGuard
    refine wpAny_bind (wpAny_pure (wpAny_bind (wpAny_nsSet1 (Heap.Ns1.of_empty hnd) fun h' hn' hs => ?_)))
    obtain ⟨oD, esD, epD, hoD, hdD, hcD⟩ := hn'.count (Within.cons name v Within.nil)
    refine wpAny_bind (wpAny_lookBehind hoD (by rw [hdD]; exact pastItsLine_dict (Nat.le_trans hcD (by rw [List.length_cons, List.length_nil, sizeLine_eq]; lia))) ?_)
    wp_walk
    have hx' : h'.get? x = some { cls := o.cls, dict := some h.objs.size, data := o.data, slots := o.slots } := ?_
    refine hq h' _ hx' hn' (fun b ob hbx hb => ?_)
    · exact (hs.2 b (Nat.ne_of_lt (Heap.lt_size hb))).trans ((Heap.get?_update_ne _ _ _ _ hbx).trans (Heap.get?_push_of_some _ hb))
    · refine (hs.2 x hxs).trans (Heap.get?_update_self _ hx₁ ?_)
      have hfr := (Heap.get?_some_iff.mp hx).2
      obtain ⟨oc, od, odt, osl⟩ := o
      cases odt <;> first | rfl | exact hfr
theorem store_next {tk : Tok} {Q : PySem.Fin → Shared → Prop} {o : Obj} {dx : Addr} {ns : List Str} (X : (KF w).In h) (hC : h.get? 52 = some (excClassObj nm q 52 51 bs bmW true sn sub ab col dd k0 k1 k2 k3 k5 "Exception.__new__"))
    (hf : findIn (KF w) (.ref 52) name = some none) (hx : h.get? x = some o) (hc : o.cls = .ref 52) (hdx : o.dict = some dx) (hns : h.Ns1 dx mA) (hw : Within mA ns) (hz : ns.length ≤ 1000)
    (hq : ∀ h' tk', h'.Ns1 dx (fun y => if y = name then some v else mA y) → (∀ b ob, b ≠ dx → h.get? b = some ob → h'.get? b = some ob) → Q (.done (.ret .none)) ⟨h', g, d, tk', os⟩) :
    wpAny (model prog w) A (Builtin.«object.__setattr__» ⟨[.ref x, .str name tk, v], []⟩) Q E ⟨h, g, d, t, os⟩ := by
  have lk1 : Looks (model prog w) h (typeLookup (.ref 52) name) none := looks_findIn X hf
  have hpass := refuse_W (.ref x)
  unfold Builtin.«object.__setattr__»
  repeat (first | rw [refuse_eq] | rw [hpass] | (with_reducible refine wpAny_loadPart_at hx ?_; rw [hc]) | with_reducible refine wpAny_mroOf_exc hC ?_ | refine lk1.here ?_ | wp_step)
  rw [hdx]
  refine wpAny_pure ?_
  show wpAny _ _ (storeInDict dx (.str name tk) name v) _ _ _
  unfold storeInDict newKeyGuard
  refine wpAny_bind (wpAny_pure (wpAny_bind (wpAny_nsSet1 hns fun h' hn' hs => ?_)))
  obtain ⟨oD, esD, epD, hoD, hdD, hcD⟩ := hn'.count (Within.cons name v hw)
  refine wpAny_bind (wpAny_lookBehind hoD (by rw [hdD]; exact pastItsLine_dict (Nat.le_trans hcD (by rw [List.length_cons, sizeLine_eq]; lia))) ?_)
  wp_walk
  exact hq h' _ hn' (fun b ob hbd hb => (hs.2 b hbd).trans hb)
end
section
variable {prog : Program} {w : World} {A : Around} {E : Value → Shared → Prop} {s : Shared} {x : Addr} {name : Str} {v : Value} {o : Obj}
theorem sa_find (w : World) : findIn (KF w) (.ref 52) "__setattr__" = some (some (.builtin "object.__setattr__")) := by exact rfl
theorem setattr_W {Q : Unit → Shared → Prop} (X : (KF w).In s.heap) (hx : s.heap.get? x = some o) (hc : o.cls = .ref 52)
    (h : ∀ (R : Result → Shared → Prop), (∀ s', Q () s' → R (.ok (.ret .none)) s') → wpAny (model prog w) A.in1 (Builtin.«object.__setattr__» ⟨[.ref x, .str name s.toks, v], []⟩)
      (fun fin s' => match fin with | .done f => R (.ok f) s' | .again c' => c'.quiet = true ∧ codeAny (model prog w) A c' R s') (fun e s' => R (.error e) s') { s with toks := s.toks + 1 }) :
    wpAny (model prog w) A (setAttr (.ref x) name v) Q E s := by
  have SF := PySem.F.store_object
  have t1 : Looks (model prog w) s.heap (typeOf (.ref x)) (.ref 52) := hc ▸ (Looks.ld (M := model prog w) hx).andThen .now
  have sub : Looks (model prog w) s.heap (isInstance (.ref x) (.type "object")) true := t1.andThen (looks_mroIn X (by exact rfl))
  refine wpAny_bind (wpAny_mkText (wpAny_bind (wpAny_bind (wpAny_bind (t1 _ _ _ _ (fun _ _ e => e) (looks_findIn X (sa_find w) _ _ _ _ (fun _ _ e => e) (wpAny_holding ?_)))))))
  rw [SF.slot.bind]
  refine wpAny_bind (wpAny_pure (wpAny_bind (wpAny_call (codeAny_mono (R := fun r s' => r = .ok (.ret .none) ∧ Q () s') ?_ fun r s' z => ?_))))
  · refine codeAny_call_builtin SF.slot.plain SF.entry (@check_slot (model prog w) _ _ _ "object.__setattr__" "object" "__setattr__" (.ref x) [.str name s.toks, v] [] _ SF.kind SF.split sub (SF.args (.ref x) (.str name s.toks) v) ?_)
    exact h (fun r s' => r = .ok (.ret .none) ∧ Q () s') fun s' q => ⟨rfl, q⟩
  · obtain ⟨rfl, z⟩ := z
    exact wpAny_pure (wpAny_pure z)
end
section
variable {prog : Program} {w : World} {A : Around} {E : Value → Shared → Prop} {h : Heap} {g : Array GenState} {d : Drawn} {t : Nat} {os : OsState}
variable {nm q : Str} {x : Addr} {bs : List Value} {hdct : Bool} {sn : List Str} {sub : List Value} {ab : Bool} {col : Option Bool} {dd : Option Addr} {k0 k1 k2 k3 k5 : Option Value}
theorem check_init {M : Model} {e : Addr} {oe : Obj} {rest : List Value} {Q : Unit → Shared → Prop}
    (hC : h.get? 52 = some (excClassObj nm q 52 51 bs bmW hdct sn sub ab col dd k0 k1 k2 k3 k5 "Exception.__new__")) (he : h.get? e = some oe) (hcls : oe.cls = .ref 52) (hq : Q () ⟨h, g, d, t, os⟩) :
    wpAny M A (checkBuiltinCall "Exception.__init__" ⟨.ref e :: rest, []⟩) Q E ⟨h, g, d, t, os⟩ := by
  have F := PySem.F.excBase_Exception
  have hcB := has_exc
  have hshort := F.noStar
  simp only [checkBuiltinCall, F.initKind, F.initSplit, F.initRow]
  repeat (first | (with_reducible refine wpAny_loadPart_at he ?_; rw [hcls]) | with_reducible refine wpAny_loadPart_at hC ?_ | (with_reducible refine wpAny_isSubtype_exc hC ?_; rw [hcB]) | wp_step)
  refine wpAny_onRaise ?_
  rw [show ∀ (a b : String) (n : Nat), Bind.check ⟨.positional, "*", "Exception", .self, [⟨"args", .varPos, false⟩]⟩ a b n (List.map (fun x => x.fst) ({ pos := Value.ref e :: rest } : Args).kw) = pure () from
    fun a b n => check_star_args _ _ _ _ _ _]
  exact wpAny_pure hq
theorem exc_init {e te : Addr} {oe : Obj} {rest : List Value} {Q : Value → Shared → Prop}
    (hC : h.get? 52 = some (excClassObj nm q 52 51 bs bmW hdct sn sub ab col dd k0 k1 k2 k3 k5 "Exception.__new__")) (he : h.get? e = some oe) (hcls : oe.cls = .ref 52) (hdat : oe.data = .fields #[.ref te, .none, .none, .none, .bool false, .none]) (hz : rest.length ≤ sizeLine)
    (hq : ∀ h', h'.get? e = some { oe with data := .fields #[.ref h.objs.size, .none, .none, .none, .bool false, .none] } → h'.get? h.objs.size = some (tupObj rest) → (∀ b ob, b ≠ e → h.get? b = some ob → h'.get? b = some ob) → Q .none ⟨h', g, d, t, os⟩) :
    wpAny (model prog w) A (call (.builtin "Exception.__init__") (.ref e :: rest)) Q E ⟨h, g, d, t, os⟩ := by
  have F := PySem.F.excBase_Exception
  have hne : h.objs.size ≠ e := Nat.ne_of_gt (Heap.lt_size he)
  refine wpAny_call (codeAny_call_builtin F.init.plain F.initEntry (check_init hC he hcls ?_))
  obtain ⟨oc, od, odt, osl⟩ := oe
  dsimp only at hcls hdat
  subst hcls hdat
  wp_walk
  refine hq _ ?_ ?_ ?_
  · rw [Heap.get?_update_self _ (Heap.get?_push_of_some _ he) rfl]; rfl
  · rw [Heap.get?_update_other _ _ hne.symm]
    exact Heap.get?_push_size _ rfl
  · intro b ob hb hob
    rw [Heap.get?_update_other _ _ (Ne.symm hb)]
    exact Heap.get?_push_of_some _ hob
end
end
section
open PySem PySem.W PyProof.Rows PySem.Calls PySem.Builtin
section
variable {c : Cx} {X : Vars → Led → Prop} {vars : Vars} {led led' : Led} {Q : PV → Led → Prop}
theorem St.raw1 {fr : List (Addr × Obj)} {s : Shared} {a : Addr} {po po' : PO} (hs : St c fr vars led s) (U : UpdL a po po' led led') :
    (E1 fun o => A3 (OR c.w o po) (s.heap.get? a = some o) (∀ h' tk o', OR c.w o' po' → h'.get? a = some o' → (∀ b ob, b ≠ a → s.heap.get? b = some ob → h'.get? b = some ob) →
      St c fr vars led' { s with heap := h', toks := tk } ∧ ∀ dx pd od, s.heap.get? dx = none → OR c.w od pd → h'.get? dx = some od → St c fr vars ((dx, pd) :: led') { s with heap := h', toks := tk })) := by
  obtain ⟨h₀, m, news, G, F, N, V, Lk, S⟩ := id hs
  obtain ⟨o, ho, hm, k⟩ := Lk.upd U
  refine ⟨o, ho, (N _ hm).1, fun h' tk o' ho' hg hk => ?_⟩
  obtain ⟨news', U', Lk'⟩ := k o' ho'
  obtain ⟨pre, post, e1, e2, h1, h2⟩ := U'.split
  have haL : c.L ≠ a := (N _ hm).2.1.symm
  have ha0 : h₀.get? a = none := (N _ hm).2.2
  have F' : Fr h₀ c.L h' m := ⟨F.ns.at' fun o e => hk _ o haL e, fun b o e => hk b o (fun q => by rw [q, ha0] at e; cases e) (F.keep b o e), F.above⟩
  have N' : News h₀ c.L h' news' := fun p hp => by
    rw [e2] at hp
    rcases List.mem_append.mp hp with hp | hp
    · have z := N p (by rw [e1]; exact List.mem_append_left _ hp)
      exact ⟨hk _ _ (h1 p hp) z.1, z.2⟩
    · rcases List.mem_cons.mp hp with rfl | hp
      · exact ⟨hg, haL.symm, ha0⟩
      · have z := N p (by rw [e1]; exact List.mem_append_right _ (.tail _ hp))
        exact ⟨hk _ _ (h2 p hp) z.1, z.2⟩
  refine ⟨⟨h₀, m, news', G, F', N', V, Lk', S.up _ _⟩, fun dx pd od hdn hod hdg => ⟨h₀, m, (dx, od) :: news', G, F', fun p hp => ?_, V, .cons (fun q hq => ?_) hod Lk', S.up _ _⟩⟩
  · rcases List.mem_cons.mp hp with rfl | hp
    · refine ⟨hdg, fun e => ?_, ?_⟩
      · obtain ⟨oL, es, ep, hL, _⟩ := F.ns
        have e' : dx = c.L := e
        rw [e', hL] at hdn; cases hdn
      · cases q : h₀.get? dx with
        | none => rfl
        | some ob => rw [F.keep _ _ q] at hdn; cases hdn
    · exact N' p hp
  · intro e
    rw [e2] at hq
    have old : ∀ q', q' ∈ news → q'.1 ≠ dx := fun q' hq' e' => by have := (N q' hq').1; rw [e', hdn] at this; cases this
    rcases List.mem_append.mp hq with hq | hq
    · exact old q (by rw [e1]; exact List.mem_append_left _ hq) e
    · rcases List.mem_cons.mp hq with rfl | hq
      · exact old (a, o) hm e
      · exact old q (by rw [e1]; exact List.mem_append_right _ (.tail _ hq)) e
theorem wf_at : ∃ nm q bs sn sub ab col dd k0 k1 k2 k3 k5, ∀ w, (KF w).lookup 52 = some (excClassObj nm q 52 51 bs bmW true sn sub ab col dd k0 k1 k2 k3 k5 "Exception.__new__") :=
  ⟨_, _, _, _, _, _, _, _, _, _, _, _, _, fun w => by exact rfl⟩
theorem St.K {fr : List (Addr × Obj)} {s : Shared} (hs : St c fr vars led s) : (KF c.w).In s.heap := by
  obtain ⟨h₀, m, news, G, F, _⟩ := hs
  exact G.K.keeps F.keep
/-- `Exception.__init__(self, what)` -/
theorem Bi_init {e te : Addr} {dx : Option Addr} {p : PV} {f : Addr → Led} (U : ∀ t', UpdL e (.fault te dx) (.fault t' dx) led (f t')) (h : ∀ t', Q .none ((t', .tuple [p]) :: f t')) : Bi c (.builtin "Exception.__init__") [.ref e, p] Q X vars led := by
  intro vals hv' ok fr E hP hE s hs
  obtain ⟨v, u, rfl, hv, hu⟩ := map2 hv'
  obtain rfl := er_ref hv
  obtain ⟨nm, q, bs, sn, sub, ab, col, dd, k0, k1, k2, k3, k5, hl⟩ := wf_at
  have hC := hs.K _ _ (hl c.w)
  obtain ⟨o, ⟨h1, h2, h3⟩, hg, k⟩ := hs.raw1 (U s.heap.objs.size)
  refine exc_init hC hg h1 h2 (by rw [sizeLine_eq]; simp) fun h' he ht hk => ?_
  obtain ⟨_, k2⟩ := k h' s.toks { o with data := .fields #[.ref s.heap.objs.size, .none, .none, .none, .bool false, .none] } ⟨h1, rfl, h3⟩ he hk
  refine ⟨vars, _, k2 s.heap.objs.size (.tuple [p]) _ ?_ ⟨[u].toArray, 0, rfl, by simp [hu]⟩ ht, rfl, h _⟩
  cases q : s.heap.get? s.heap.objs.size with
  | none => rfl
  | some ob => exact absurd (Heap.lt_size q) (Nat.lt_irrefl _)
noncomputable def WSet (c : Cx) (o v : PV) (attr : Str) (R : Led → Prop) (X : Vars → Led → Prop) (vars : Vars) (led : Led) : Prop :=
  ∀ a b, er a = o → er b = v → W c (setAttr a attr b) (fun _ v' l => v' = vars ∧ R l) X vars led
noncomputable abbrev KA3 (Q : PF → Vars → Led → Prop) (vars : Vars) : Led → Prop := fun l => Q .next vars l
noncomputable abbrev KA2 (attr : Str) (c : Cx) (p : PV) (Q : PF → Vars → Led → Prop) (X : Vars → Led → Prop) (vars : Vars) : PV → Led → Prop := fun a l => WSet c a p attr (KA3 Q vars) X vars l
noncomputable abbrev KA1 (o : Expr) (attr : Str) (c : Cx) (Q : PF → Vars → Led → Prop) (X : Vars → Led → Prop) (vars : Vars) : PV → Led → Prop := fun p l => WE c o (KA2 attr c p Q X vars) X vars l
theorem S_attr {o value : Expr} {attr : Str} {pos' pos} {Q : PF → Vars → Led → Prop} (h : WE c value (KA1 o attr c Q X vars) X vars led)
    (hs : ∀ env, swapsWith value (some (.Attribute o attr pos')) pos.line env = pure false) : WS1 c (.Assign [.Attribute o attr pos'] value pos) Q X vars led := by
  intro ok fr E hP hE s hst
  refine plainObj_wpAny_Assign_Attribute (wpAny_mono (h ok fr E hP hE s hst) ?_ fun _ _ x => x) (hs _)
  rintro v s₁ ⟨_, l₁, S₁, e, h₁⟩
  subst e
  refine wpAny_mono (h₁ ok fr E hP hE s₁ S₁) ?_ fun _ _ x => x
  rintro a s₂ ⟨_, l₂, S₂, e, h₂⟩
  subst e
  refine wpAny_mono (h₂ a v rfl rfl ok fr E hP hE s₂ S₂) ?_ fun _ _ x => x
  rintro _ s₃ ⟨_, l₃, S₃, e, h₃⟩
  exact ⟨_, _, S₃, e ▸ h₃⟩
theorem Set_first {e t : Addr} {p : PV} {attr : Str} {R : Led → Prop} {f : Addr → Led} (hf : ∀ w, findIn (KF w) (.ref 52) attr = some none) (U : ∀ d, UpdL e (.fault t none) (.fault t (some d)) led (f d)) (h : ∀ d, R ((d, .attrs [attr]) :: f d)) : WSet c (.ref e) p attr R X vars led := by
  intro a b ha hb ok fr E hP hE s hs
  obtain rfl := er_ref ha
  obtain ⟨nm, q, bs, sn, sub, ab, col, dd, k0, k1, k2, k3, k5, hl⟩ := wf_at
  have hK := hs.K
  have hC := hK _ _ (hl c.w)
  obtain ⟨o, ⟨h1, h2, h3⟩, hg, k⟩ := hs.raw1 (U s.heap.objs.size)
  refine setattr_W hK hg h1 fun R' hR => ?_
  refine store_first hK hC (hf _) hg h1 (by rw [h2]; intro c e; cases e) h3 fun h' tk' hx hns hk => hR _ ?_
  obtain ⟨oD, es, ep, hD, hd1, hd2, hd3, hd4⟩ := hns
  obtain ⟨_, k2⟩ := k h' tk' { o with dict := some s.heap.objs.size } ⟨h1, h2, rfl⟩ hx hk
  refine ⟨vars, _, k2 s.heap.objs.size (.attrs [attr]) oD ?_ ⟨_, es, ep, hd1, hd2, hd3, hd4, Within.cons attr b Within.nil⟩ hD, rfl, h _⟩
  cases q : s.heap.get? s.heap.objs.size with
  | none => rfl
  | some ob => exact absurd (Heap.lt_size q) (Nat.lt_irrefl _)
theorem Set_next {e t d : Addr} {p : PV} {attr : Str} {ns : List Str} {R : Led → Prop} {led' : Led} (hf : ∀ w, findIn (KF w) (.ref 52) attr = some none) (hm : (e, .fault t (some d)) ∈ led) (U : UpdL d (.attrs ns) (.attrs (attr :: ns)) led led') (hz : ns.length ≤ 1000) (h : R led') : WSet c (.ref e) p attr R X vars led := by
  intro a b ha hb ok fr E hP hE s hs
  obtain rfl := er_ref ha
  obtain ⟨nm, q, bs, sn, sub, ab, col, dd, k0, k1, k2, k3, k5, hl⟩ := wf_at
  have hK := hs.K
  have hC := hK _ _ (hl c.w)
  obtain ⟨oe, ⟨h1, h2, h3⟩, hg⟩ : ∃ o, OR c.w o (.fault t (some d)) ∧ s.heap.get? e = some o := by
    obtain ⟨h₀, m, news, G, F, N, V, Lk, S⟩ := id hs
    obtain ⟨o, ho, h⟩ := Lk.mem hm
    exact ⟨o, h, (N _ ho).1⟩
  obtain ⟨od, ⟨mA, es, ep, hd1, hd2, hd3, hd4, hd5⟩, hgd, k⟩ := hs.raw1 U
  refine setattr_W hK hg h1 fun R' hR => ?_
  refine store_next hK hC (hf _) hg h1 h3 (mA := mA) ⟨od, es, ep, hgd, hd1, hd2, hd3, hd4⟩ hd5 hz fun h' tk' hns hk => hR _ ?_
  obtain ⟨oD, es', ep', hD, g1, g2, g3, g4⟩ := hns
  obtain ⟨k1, _⟩ := k h' tk' oD ⟨_, es', ep', g1, g2, g3, g4, Within.cons attr b hd5⟩ hD hk
  exact ⟨vars, _, k1, rfl, h⟩
theorem E_tmeth {o : Expr} {name : Str} {apos pos : Pos} {e : Expr} {es : List Expr} {T id : String} (ht : typeOf (.type T) = pure (.type "type")) (hst : Manifest.isStub T = false) (hf : ∀ w, findCls (KF w) (.type T) (.type "type") name = some (.val (.builtin id))) (hh : handedIn (.builtin id) = true)
    (pl : Env → Sem Bool) (hm : ∀ env, eval (.Call (.Attribute o name apos) (e :: es) [] pos) env = (do
      let ov ← eval o env
      standAt apos.atName
      let (f, first) ← holding [ov] (getMethod ov name (pl env))
      callWith pos f first (backTo pos (starEach (e :: es) env)) (backToKw pos (keywordEach [] env))))
    (he : ∀ env, starEach (e :: es) env = (false, eval e env) :: starEach es env) (hplain : ∀ env, (backTo pos (starEach es env)).any (·.1) = false)
    (h : WE c o (fun p l => p = .raw (.type T) ∧ WL c (e :: es) pos (fun ps l' => Bi c (.builtin id) ps Q X vars l') X vars l) X vars led) : WE c (.Call (.Attribute o name apos) (e :: es) [] pos) Q X vars led := by
  intro ok fr E hP hE s hs
  refine methodCall_KW (pl := pl c.env) (wpAny_mono (h ok fr E hP hE s hs) ?_ fun _ _ x => x) (hm _)
  rintro ov s₁ ⟨_, l, S₁, rfl, hr, h₁⟩
  obtain rfl := er_raw hr
  obtain ⟨h₀, m, news, G, F, N, V, Lk, S⟩ := _root_.id S₁
  refine method_type F G.K ht hst (hf _) hh ?_
  refine callWith_method1 (wpAny_mono (h₁ ok fr E hP hE _ (S₁.toks _)) ?_ fun _ _ x => x) (he _) (hplain _)
  rintro vs s₂ ⟨_, l₂, S₂, e, h₂⟩
  subst e
  exact h₂ vs rfl ok fr E hP hE s₂ S₂
/-- an exception of ours flies off -/
theorem raise_made {s : Shared} {fr : List (Addr × Obj)} {E : Value → Shared → Prop} {env : Env} {x : Sem Value} {QQ : Flow → Shared → Prop} (ok : c.Ok) (hcan : c.can = false) (hE : ∀ e v l s', Flies c fr e v l s' → X v l → E e s')
    (h : wpAny c.M c.A x (fun v s₁ => (E5 fun e t dx vs l => A2 (v = .ref e) (A2 (St c fr vars ((t, .tuple vs) :: (e, .fault t dx) :: l) s₁) (X vars l)))) E s) : wpAny c.M c.A (raiseStmt env (some x) none) QQ E s := by
  have hcB : (Value.ref 52 :: bmW).contains (.type "BaseException") = true := by rfl
  unfold raiseStmt
  refine wpAny_bind (wpAny_mono h (fun v s₁ h₁ => ?_) fun _ _ x => x)
  obtain ⟨e, t, dx, vs, l, rfl, hs, hx⟩ := h₁
  obtain ⟨nm, q, bs, sn, sub, ab, col, dd, k0, k1, k2, k3, k5, hl⟩ := wf_at
  have hC := hs.K _ _ (hl c.w)
  obtain ⟨h₀, m, news, G, F, N, V, Lk, S⟩ := id hs
  cases Lk with
  | @cons _ ot _ r1 _ hn1 ht Lk =>
    cases Lk with
    | @cons _ oe _ r2 _ hn2 he Lk =>
      obtain ⟨he1, he2, he3⟩ := he
      obtain ⟨xs, n, rfl, hxs⟩ := ht
      have ge := N _ (.tail _ (.head _))
      have gt := N _ (.head _)
      obtain ⟨hp, g, d, tk, os⟩ := s₁
      have ge1 : hp.get? e = some oe := ge.1
      have gt1 : hp.get? t = some _ := gt.1
      have hC1 : hp.get? 52 = some _ := hC
      have hte : t ≠ e := fun q => hn1 (e, oe) (.head _) q.symm
      repeat (first | (with_reducible refine wpAny_loadPart_at ge1 ?_; rw [he1]) | with_reducible refine wpAny_loadPart_at hC1 ?_ | (with_reducible refine wpAny_isSubtype_exc hC1 ?_; rw [hcB]) | wp_step)
      rw [he2]
      repeat (first | (with_reducible refine wpAny_loadPart_at ge1 ?_; rw [he1]) | with_reducible refine wpAny_loadPart_at hC1 ?_ | (with_reducible refine wpAny_isSubtype_exc hC1 ?_; rw [hcB]) | wp_step)
      refine wpAny_raiseNew_none ok.handled (hE _ vars l _ ?_ hx)
      have ho : ∀ {b ob}, hp.get? b = some ob → b ≠ e → b ≠ t → (hideAll hp [e, t]).get? b = some ob := fun {b ob} q n1 n2 => hideAll_get _ q (by simp [n1, n2])
      have hLn : c.L ≠ e ∧ c.L ≠ t := ⟨ge.2.1.symm, gt.2.1.symm⟩
      refine ⟨h₀, m, r2, e, rfl, G, V, Lk, S, .inl ⟨hcan, hideAll hp [e, t], oe, t, oe.dict, xs, n, ⟨F.ns.at' fun o q => ho q hLn.1 hLn.2, fun b ob q => ho (F.keep b ob q) (fun z => by have := ge.2.2; rw [← z, q] at this; cases this) (fun z => by have := gt.2.2; rw [← z, q] at this; cases this), ?_⟩, fun p hp => ?_, fun b ob q => of_hideAll _ q, hideAll_none _ (by simp), hideAll_none _ (by simp), ge1, he1, he2, rfl, ?_⟩⟩
      · exact F.above
      · have z := N p (.tail _ (.tail _ hp))
        exact ⟨ho z.1 (hn2 p hp) (hn1 p (.tail _ hp)), z.2⟩
      · exact gt1
section
variable {x : Str} {pos : Pos}
inductive PVof : Value → PV → Prop
  | ref {a} : PVof (.ref a) (.ref a)
  | int {i t} : PVof (.int i t) (.int i)
  | bytes {b : List UInt8} {t} : PVof (.bytes b.toArray t) (.bytes b)
  | str {s t} : PVof (.str s t) (.str s.cps.toList)
  | blt {i} : PVof (.builtin i) (.raw (.builtin i))
  | type {i} : PVof (.type i) (.raw (.type i))
theorem PVof.eq {v p} (h : PVof v p) : er v = p := by
  cases h <;> simp [er]
theorem E_topP {v : Value} {p : PV} (hi : c.inC = false) (hx : c.cs.names.lookup x = some .globalImplicit) (h : Q p led) (e : ∀ w, nsIn (KF w) mainGlobals x = some (some v)) (hp : PVof v p) (hd : (x == ("__debug__" : Str)) = false) : WE c (.Name x pos) Q X vars led := E_top hi (hp.eq ▸ h) e hx hd
theorem C_topP {v : Value} {p : PV} (hi : c.inC = true) (hx : c.csc.names.lookup x = some .globalImplicit) (h : Q p led) (e : ∀ w, nsIn (KF w) mainGlobals x = some (some v)) (hp : PVof v p) (hd : (x == ("__debug__" : Str)) = false) : WE c (.Name x pos) Q X vars led := C_top hi (hp.eq ▸ h) e hx hd
end
end
theorem relab_free {cs sc : Scope} (h : ∀ y ∈ sc.names, y.2 ≠ .free) : relab cs sc = sc := by
  unfold relab
  have : (sc.names.map fun (n, k) => if (k == NameKind.free && cs.kind == .function && cs.names.lookup n == some .cell) = true then (n, NameKind.cell) else (n, k)) = sc.names := by
    conv => rhs; rw [← List.map_id sc.names]
    apply List.map_congr_left
    intro ⟨n, k⟩ hm
    have : (k == NameKind.free) = false := by simpa using h _ hm
    simp [this]
  show { sc with names := _ } = sc
  rw [this]
theorem E_compB0 {c : Cx} {X : Vars → Led → Prop} {vars : Vars} {led : Led} {Q : PV → Led → Prop} (hi : c.inC = false) (hcan : c.can = false) {elt iter : Expr} {x : Str} {px pos : Pos} {sc csc : Scope} {cl : List (Str × Addr)} (hclos : closureFor sc c.own = pure cl) (hcsc : relab c.cs sc = csc) (hk : sc.kind = .function)
    (hcell : ∀ y ∈ sc.names, y.2 ≠ .cell) (hnames : ∀ y ∈ sc.names, y.2 = .local → sc.names.lookup y.1 = some .local) (hx : sc.names.lookup x = some .local) (hs : ∀ env x, foldedSetIterable iter env x = pure x)
    (h : WE c iter (fun p l => (E1 fun b => A2 (p = .bytes b) (A2 (b.length ≤ 16777216) (WComp c csc cl x none elt (fun ys l => ∀ r, Q (.ref r) ((r, .list ys) :: l)) vars (b.map fun u => .int (u.toNat : Int)) [] l)))) X vars led) :
    WE c (.ListComp elt [⟨.Name x px, iter, [], 0⟩] sc pos) Q X vars led := E_compB (ct := none) hi hcan hclos hcsc hk hcell hnames hx hs h
theorem E_compB1 {c : Cx} {X : Vars → Led → Prop} {vars : Vars} {led : Led} {Q : PV → Led → Prop} (hi : c.inC = false) (hcan : c.can = false) {elt iter ct : Expr} {x : Str} {px pos : Pos} {sc csc : Scope} {cl : List (Str × Addr)} (hclos : closureFor sc c.own = pure cl) (hcsc : relab c.cs sc = csc) (hk : sc.kind = .function)
    (hcell : ∀ y ∈ sc.names, y.2 ≠ .cell) (hnames : ∀ y ∈ sc.names, y.2 = .local → sc.names.lookup y.1 = some .local) (hx : sc.names.lookup x = some .local) (hs : ∀ env x, foldedSetIterable iter env x = pure x)
    (h : WE c iter (fun p l => (E1 fun b => A2 (p = .bytes b) (A2 (b.length ≤ 16777216) (WComp c csc cl x (some ct) elt (fun ys l => ∀ r, Q (.ref r) ((r, .list ys) :: l)) vars (b.map fun u => .int (u.toNat : Int)) [] l)))) X vars led) :
    WE c (.ListComp elt [⟨.Name x px, iter, [ct], 0⟩] sc pos) Q X vars led := E_compB (ct := some ct) hi hcan hclos hcsc hk hcell hnames hx hs h
theorem E_compS0 {c : Cx} {X : Vars → Led → Prop} {vars : Vars} {led : Led} {Q : PV → Led → Prop} (hi : c.inC = false) (hcan : c.can = false) {elt iter : Expr} {x : Str} {px pos : Pos} {sc csc : Scope} {cl : List (Str × Addr)} (hclos : closureFor sc c.own = pure cl) (hcsc : relab c.cs sc = csc) (hk : sc.kind = .function)
    (hcell : ∀ y ∈ sc.names, y.2 ≠ .cell) (hnames : ∀ y ∈ sc.names, y.2 = .local → sc.names.lookup y.1 = some .local) (hx : sc.names.lookup x = some .local) (hs : ∀ env x, foldedSetIterable iter env x = pure x)
    (h : WE c iter (fun p l => (E1 fun b => A2 (p = .str b) (A2 (b.length ≤ 16777216) (WComp c csc cl x none elt (fun ys l => ∀ r, Q (.ref r) ((r, .list ys) :: l)) vars (b.map fun u => .str [u]) [] l)))) X vars led) :
    WE c (.ListComp elt [⟨.Name x px, iter, [], 0⟩] sc pos) Q X vars led := E_compS (ct := none) hi hcan hclos hcsc hk hcell hnames hx hs h
theorem E_compL0 {c : Cx} {X : Vars → Led → Prop} {vars : Vars} {led : Led} {Q : PV → Led → Prop} (hi : c.inC = false) (hcan : c.can = false) {elt iter : Expr} {x : Str} {px pos : Pos} {sc csc : Scope} {cl : List (Str × Addr)} (hclos : closureFor sc c.own = pure cl) (hcsc : relab c.cs sc = csc) (hk : sc.kind = .function)
    (hcell : ∀ y ∈ sc.names, y.2 ≠ .cell) (hnames : ∀ y ∈ sc.names, y.2 = .local → sc.names.lookup y.1 = some .local) (hx : sc.names.lookup x = some .local) (hs : ∀ env x, foldedSetIterable iter env x = pure x)
    (h : WE c iter (fun p l => (E3 fun a its l₀ => A2 (p = .ref a) (A3 (Pick a (.list its) l l₀) (its.length ≤ 16777216) (WComp c csc cl x none elt (fun ys l => ∀ r, Q (.ref r) ((r, .list ys) :: (a, .list its) :: l)) vars its [] l₀)))) X vars led) :
    WE c (.ListComp elt [⟨.Name x px, iter, [], 0⟩] sc pos) Q X vars led := E_compL (ct := none) hi hcan hclos hcsc hk hcell hnames hx hs h
theorem E_compL1 {c : Cx} {X : Vars → Led → Prop} {vars : Vars} {led : Led} {Q : PV → Led → Prop} (hi : c.inC = false) (hcan : c.can = false) {elt iter ct : Expr} {x : Str} {px pos : Pos} {sc csc : Scope} {cl : List (Str × Addr)} (hclos : closureFor sc c.own = pure cl) (hcsc : relab c.cs sc = csc) (hk : sc.kind = .function)
    (hcell : ∀ y ∈ sc.names, y.2 ≠ .cell) (hnames : ∀ y ∈ sc.names, y.2 = .local → sc.names.lookup y.1 = some .local) (hx : sc.names.lookup x = some .local) (hs : ∀ env x, foldedSetIterable iter env x = pure x)
    (h : WE c iter (fun p l => (E3 fun a its l₀ => A2 (p = .ref a) (A3 (Pick a (.list its) l l₀) (its.length ≤ 16777216) (WComp c csc cl x (some ct) elt (fun ys l => ∀ r, Q (.ref r) ((r, .list ys) :: (a, .list its) :: l)) vars its [] l₀)))) X vars led) :
    WE c (.ListComp elt [⟨.Name x px, iter, [ct], 0⟩] sc pos) Q X vars led := E_compL (ct := some ct) hi hcan hclos hcsc hk hcell hnames hx hs h
theorem Flies.wk {c : Cx} {fr : List (Addr × Obj)} {e : Value} {v v' : Vars} {l l' : Led} {s : Shared} (w : Wk v l v' l') (h : Flies c fr e v l s) : Flies c fr e v' l' s := by
  obtain ⟨h₀, m, news, ea, rfl, G, V, Lk, S, hh⟩ := h
  obtain ⟨news', h1, h2⟩ := w.lok Lk
  refine ⟨h₀, m, news', ea, rfl, G, w.vok V, h2, S, hh.imp ?_ ?_⟩
  · rintro ⟨ca, h, oe, t, d, vs, k, F, N, r⟩
    exact ⟨ca, h, oe, t, d, vs, k, F, fun p hp => N p (h1 p hp), r⟩
  · rintro ⟨G', t, vs, F, R, r⟩
    exact ⟨G', t, vs, F, raisedS_part R h1, r⟩
/-- what is given back, some of the ledger dropped -/
noncomputable def Ret (Q : PV → Led → Prop) (p : PV) (l : Led) : Prop := ∃ l', l'.Sublist l ∧ Q p l'
noncomputable def RetX (X : Led → Prop) (l : Led) : Prop := ∃ l', l'.Sublist l ∧ X l'
theorem Ret.here {Q : PV → Led → Prop} {p : PV} {l : Led} (h : Q p l) : Ret Q p l := ⟨l, .refl _, h⟩
theorem Ret.drop {Q : PV → Led → Prop} {p : PV} {l : Led} {x} (h : Ret Q p l) : Ret Q p (x :: l) := by obtain ⟨l', a, b⟩ := h; exact ⟨l', a.cons _, b⟩
theorem Ret.drop2 {Q : PV → Led → Prop} {p : PV} {l : Led} {x y} (h : Ret Q p (x :: l)) : Ret Q p (x :: y :: l) := by
  obtain ⟨l', a, b⟩ := h
  exact ⟨l', a.trans ((List.sublist_cons_self y l).cons₂ x), b⟩
theorem RetX.here {X : Led → Prop} {l : Led} (h : X l) : RetX X l := ⟨l, .refl _, h⟩
theorem RetX.drop {X : Led → Prop} {l : Led} {x} (h : RetX X l) : RetX X (x :: l) := by obtain ⟨l', a, b⟩ := h; exact ⟨l', a.cons _, b⟩
theorem WS_ret {c : Cx} {b : List Stmt} {Q : PV → Led → Prop} {X : Led → Prop} {vars : Vars} {led : Led} (h : WS c b (fun fl _ l => Ret Q fl.val l) (fun _ l => RetX X l) vars led) : WS c b (fun fl _ l => Q fl.val l) (fun _ l => X l) vars led := by
  intro ok fr E hP hE s hs
  refine wpAny_mono (h ok fr E hP (fun e v l s' f ⟨l', a, b⟩ => hE e v l' s' (f.wk ⟨.refl _, a⟩) b) s hs) ?_ fun _ _ x => x
  rintro fl s' ⟨v, l, S', l', a, b⟩
  exact ⟨v, l', S'.wk ⟨.refl _, a⟩, b⟩
section
variable {f : Addr} {k : Nat} {Q : PV → Led → Prop} {X : Led → Prop} {led : Led} {name qual : Str} {params : Arguments} {body : List Stmt} {scope : Scope}
    {dV kV doc pm cdv ct oc : Value} {an od : Option Addr} {osl : Array (Option Value)} {a1 a2 a3 a4 : PV}
theorem Fd_1 (n1 : Str)
    (ho : ∀ w, (KF w).lookup f = some ⟨oc, od, .func (fnOf name qual params body scope dV kV doc pm an cdv ct), osl⟩) (hcd : ∀ w, codeIn (KF w) cdv qual = true)
    (hbind : ∀ a, bindArgs (fnOf name qual params body scope dV kV doc pm an cdv ct) ⟨[a], []⟩ = pure [(n1, a)])
    (hloc : ∀ y ∈ [n1], scope.names.lookup y = some .local)
    (hb : ∀ c' : Cx, c'.room = k → c'.can = false → c'.cs = scope → c'.inC = false → WS c' body (fun fl _ l => Ret Q fl.val l) (fun _ l => RetX X l) [(n1, a1)] led)
    (hco : scope.isCoroutine = false := by rfl) (hgen : scope.isGenerator = false := by rfl) (hk : scope.kind = .function := by rfl) (hcell : ∀ x ∈ scope.names, x.2 ≠ .cell := by decide) :
    Fn f (k + 1) [a1] Q X led := Fn_1 n1 ho hcd hbind hloc (fun c' a b d e => WS_ret (hb c' a b d e)) hco hgen hk hcell
theorem Fd_2 (n1 n2 : Str)
    (ho : ∀ w, (KF w).lookup f = some ⟨oc, od, .func (fnOf name qual params body scope dV kV doc pm an cdv ct), osl⟩) (hcd : ∀ w, codeIn (KF w) cdv qual = true)
    (hbind : ∀ a b, bindArgs (fnOf name qual params body scope dV kV doc pm an cdv ct) ⟨[a, b], []⟩ = pure [(n1, a), (n2, b)])
    (hn : [n1, n2].Nodup) (hloc : ∀ y ∈ [n1, n2], scope.names.lookup y = some .local)
    (hb : ∀ c' : Cx, c'.room = k → c'.can = false → c'.cs = scope → c'.inC = false → WS c' body (fun fl _ l => Ret Q fl.val l) (fun _ l => RetX X l) [(n1, a1), (n2, a2)] led)
    (hco : scope.isCoroutine = false := by rfl) (hgen : scope.isGenerator = false := by rfl) (hk : scope.kind = .function := by rfl) (hcell : ∀ x ∈ scope.names, x.2 ≠ .cell := by decide) :
    Fn f (k + 1) [a1, a2] Q X led := Fn_2 n1 n2 ho hcd hbind hn hloc (fun c' a b d e => WS_ret (hb c' a b d e)) hco hgen hk hcell
theorem Fd_3 (n1 n2 n3 : Str)
    (ho : ∀ w, (KF w).lookup f = some ⟨oc, od, .func (fnOf name qual params body scope dV kV doc pm an cdv ct), osl⟩) (hcd : ∀ w, codeIn (KF w) cdv qual = true)
    (hbind : ∀ a b d, bindArgs (fnOf name qual params body scope dV kV doc pm an cdv ct) ⟨[a, b, d], []⟩ = pure [(n1, a), (n2, b), (n3, d)])
    (hn : [n1, n2, n3].Nodup) (hloc : ∀ y ∈ [n1, n2, n3], scope.names.lookup y = some .local)
    (hb : ∀ c' : Cx, c'.room = k → c'.can = false → c'.cs = scope → c'.inC = false → WS c' body (fun fl _ l => Ret Q fl.val l) (fun _ l => RetX X l) [(n1, a1), (n2, a2), (n3, a3)] led)
    (hco : scope.isCoroutine = false := by rfl) (hgen : scope.isGenerator = false := by rfl) (hk : scope.kind = .function := by rfl) (hcell : ∀ x ∈ scope.names, x.2 ≠ .cell := by decide) :
    Fn f (k + 1) [a1, a2, a3] Q X led := Fn_3 n1 n2 n3 ho hcd hbind hn hloc (fun c' a b d e => WS_ret (hb c' a b d e)) hco hgen hk hcell
theorem Fd_4 (n1 n2 n3 n4 : Str)
    (ho : ∀ w, (KF w).lookup f = some ⟨oc, od, .func (fnOf name qual params body scope dV kV doc pm an cdv ct), osl⟩) (hcd : ∀ w, codeIn (KF w) cdv qual = true)
    (hbind : ∀ a b d e, bindArgs (fnOf name qual params body scope dV kV doc pm an cdv ct) ⟨[a, b, d, e], []⟩ = pure [(n1, a), (n2, b), (n3, d), (n4, e)])
    (hn : [n1, n2, n3, n4].Nodup) (hloc : ∀ y ∈ [n1, n2, n3, n4], scope.names.lookup y = some .local)
    (hb : ∀ c' : Cx, c'.room = k → c'.can = false → c'.cs = scope → c'.inC = false → WS c' body (fun fl _ l => Ret Q fl.val l) (fun _ l => RetX X l) [(n1, a1), (n2, a2), (n3, a3), (n4, a4)] led)
    (hco : scope.isCoroutine = false := by rfl) (hgen : scope.isGenerator = false := by rfl) (hk : scope.kind = .function := by rfl) (hcell : ∀ x ∈ scope.names, x.2 ≠ .cell := by decide) :
    Fn f (k + 1) [a1, a2, a3, a4] Q X led := Fn_4 n1 n2 n3 n4 ho hcd hbind hn hloc (fun c' a b d e => WS_ret (hb c' a b d e)) hco hgen hk hcell
end
theorem exSet {x : Str} {p : PV} {vars vars' : Vars} {P : Vars → Prop} (h : SetV x p vars vars') (q : P vars') : ∃ vars', SetV x p vars vars' ∧ P vars' := ⟨vars', h, q⟩
theorem exSets {xs : List Str} {ps : List PV} {vars vars' : Vars} {P : Vars → Prop} (h : SetVs xs ps vars vars') (q : P vars') : ∃ vars', SetVs xs ps vars vars' ∧ P vars' := ⟨vars', h, q⟩
end
section
open PySem PySem.W PyProof.Rows PySem.Calls PySem.Builtin
theorem keys_missing : typeLookup (.type "list") "keys" = pure none := am_miss_of_fast (by decide +kernel)
theorem getAttrQ_miss_list {prog : Program} {w : World} {A : Around} {E : Value → Shared → Prop} {s : Shared} {a : Addr} {o : Obj} {xs : Array Value} {k : Nat} {Q : Option Value → Shared → Prop}
    (hx : s.heap.get? a = some o) (hc : o.cls = .type "list") (hdat : o.data = .seq xs k) (hd : o.dict = none) (hA : A.handled = none)
    (h : ∀ h' tk, (∀ b ob, s.heap.get? b = some ob → h'.get? b = some ob) → Q none { s with heap := h', toks := tk }) :
    wpAny (model prog w) A (getAttr? (.ref a) "keys") Q E s := by
  have hmiss := keys_missing
  have hname : (["__module__", "__name__", "__qualname__", "__doc__", "__annotations__"] : List Str).contains "keys" = false := by decide +kernel
  obtain ⟨c, dct, dat, sl⟩ := o
  simp only at hc hdat hd
  subst hc hdat hd
  obtain ⟨hp, g, d, tk, os⟩ := s
  have hT : ∀ tk', (⟨hp, g, d, tk', os⟩ : Shared).TypeIs (.ref a) "list" := fun _ => ⟨_, hx, rfl⟩
  have f1 := sub_AttributeError
  have f3 := F.slot_list_getattribute.lookup
  have f4 := F.slot_list_getattribute.bind (.ref a)
  have f5 := am_list_getattr_none
  unfold getAttr? getAttrBy? getAttrBy
  repeat (any_goals (first | assumption | exact hT _ | ((with_reducible show wpAny _ _ (call (Value.builtin "list.__getattribute__") _ _) _ _ _); refine call_meets F.slot_list_getattribute (hT _) am_entry_list_getattribute (F.args_list_getattribute_2 _ _) (meets_getattribute_miss_list a xs k sl "keys" _ hmiss hname (by size_fits)) ⟨hx, hA, fun h' tk' e hx' => ?_⟩) | wp_step))
  obtain ⟨t', u', he⟩ := hx'.there
  show wpAny _ _ (getattributeRaised _ _ _ _ _ _ _) _ _ _
  unfold getattributeRaised
  repeat (any_goals (first | assumption | wp_step))
  exact h _ _ hx'.keeps
/-- what an update with pairs makes -/
noncomputable def updF (f : Int → Option PV) : List (Int × Int) → Int → Option PV
  | [] => f
  | (k, v) :: r => updF (fun x => if x = k then some (.int v) else f x) r
theorem valueAt_stored (kvs : List (Int × Value)) (k : Int) (v : Value) (x : Int) : valueAt (stored kvs k v) x = if x = k then some v else valueAt kvs x := by
  unfold stored
  split
  · rename_i h
    unfold valueAt
    induction kvs with
    | nil => simp at h
    | cons p r ih =>
      by_cases hp : p.1 = k
      · subst hp
        by_cases hx : x = p.1
        · subst hx; simp
        · simp only [List.map_cons, if_true, List.find?_cons, Ne.symm hx, decide_false, if_neg hx]
          by_cases hr : (r.any fun kv => decide (kv.1 = p.1)) = true
          · have := ih hr; rw [if_neg hx] at this; exact this
          · have e : r.map (fun kv => if kv.1 = p.1 then (kv.1, v) else kv) = r := by
              conv => rhs; rw [← List.map_id r]
              apply List.map_congr_left
              intro q hq
              rw [if_neg]; rfl
              intro e; exact hr (List.any_eq_true.mpr ⟨q, hq, by simpa using e⟩)
            rw [e]
      · have hr : (r.any fun kv => decide (kv.1 = k)) = true := by simpa [hp] using h
        have := ih hr
        by_cases hx : p.1 = x
        · subst hx; simp [hp]
        · simp only [List.map_cons, if_neg hp, List.find?_cons, hx, decide_false]
          exact this
  · rename_i h
    unfold valueAt
    rw [List.find?_append]
    have hn : kvs.find? (fun kv => decide (kv.1 = k)) = none := by
      rw [List.find?_eq_none]; intro q hq e; exact h (List.any_eq_true.mpr ⟨q, hq, e⟩)
    by_cases hx : x = k
    · subst hx; rw [hn]; simp
    · rw [if_neg hx]
      cases hf : kvs.find? (fun kv => decide (kv.1 = x)) with
      | some q => simp
      | none => simp [Ne.symm hx]
theorem entry_upd_loop : entryFor table "dict.update.loop" = some Builtin.«dict.update.loop» := entryFor_of_tree (by kernel_rfl)
theorem plain_upd_loop : plainId "dict.update.loop" = true := by decide +kernel
section
variable {prog : Program} {w : World} {A : Around} {R : Result → Shared → Prop}
noncomputable def TupI (h : Heap) (t : Addr) (k v : Int) : Prop := ∃ a b, h.IsTuple t #[.int k a, .int v b]
theorem TupI.at {h h' : Heap} {t : Addr} {k v : Int} (x : TupI h t k v) (hk : ∀ o, h.get? t = some o → h'.get? t = some o) : TupI h' t k v := by
  obtain ⟨a, b, o, ho, r⟩ := x; exact ⟨a, b, o, hk o ho, r⟩
theorem update_loop {d a I : Addr} {items : Array Value} (hh : A.handled = none) (hne : a ≠ I) (hda : d ≠ a) (hdI : d ≠ I) (pairs : List (Addr × Int × Int)) (hit : items.toList = pairs.map fun p => Value.ref p.1)
    (ht : ∀ p ∈ pairs, p.1 ≠ d ∧ p.1 ≠ I) :
    ∀ (k i : Nat) (s : Shared) (kvs : List (Int × Value)) (f : Int → Option PV), pairs.length - i = k → i ≤ pairs.length → s.heap.IsListIter I a i → s.heap.IsList a items → s.heap.DictOf (intKind prog w) d kvs → kvs.length + k ≤ 1000000 →
      (∀ p ∈ pairs, TupI s.heap p.1 p.2.1 p.2.2) → (∀ x, (valueAt kvs x).map er = f x) →
      (∀ h' tk kvs', h'.DictOf (intKind prog w) d kvs' → kvs'.length ≤ kvs.length + k → (∀ x, (valueAt kvs' x).map er = updF f ((pairs.drop i).map (·.2)) x) → (∀ b o, b ≠ d → b ≠ I → s.heap.get? b = some o → h'.get? b = some o) → R (.ok (.ret .none)) { s with heap := h', toks := tk }) →
      codeAny (model prog w) A (.builtin "dict.update.loop" ⟨[.ref d, .ref I, rawInt i, .none], []⟩) R s := by
  have W := Walks.list (prog := prog) (w := w) (A := A.in1) hh I a hne items
  have hsz : items.size = pairs.length := by rw [← Array.length_toList, hit, List.length_map]
  intro k
  induction k with
  | zero =>
    intro i s kvs f hk hi hI hl hd hz htp hf hR
    have e : i = items.size := by lia
    subst e
    refine codeAny_builtin entry_upd_loop ?_
    rw [Around.under_plainId plain_upd_loop _]
    show wpAny _ A.in1 (pyNext (.ref I) >>= _) _ _ s
    refine wpAny_bind (W.done s _ _ ⟨hI, hl⟩ fun h' tk hm => ?_)
    show wpAny _ A.in1 (Builtin.Dict.addKeywords d [] >>= _) _ _ _
    refine wpAny_bind (wpAny_pure ?_)
    refine wpAny_pure (hR h' tk kvs ?_ (by lia) (fun x => ?_) fun b o hb1 hb2 e => hm b o (by simp [hb2]) e)
    · obtain ⟨o, es, ep, ho, r⟩ := hd
      exact ⟨o, es, ep, hm d o (by simp [hdI]) ho, r⟩
    · rw [List.drop_of_length_le (by lia)]; exact hf x
  | succ k ih =>
    intro i s kvs f hk hi hI hl hd hz htp hf hR
    have hlt : i < pairs.length := by lia
    refine codeAny_builtin entry_upd_loop ?_
    rw [Around.under_plainId plain_upd_loop _]
    show wpAny _ A.in1 (pyNext (.ref I) >>= _) _ _ s
    refine wpAny_bind (W.item i s _ _ (by lia) ⟨hI, hl⟩ fun v h' tk hP hst hm => ?_)
    obtain ⟨p, hp⟩ : ∃ p, pairs[i]? = some p := ⟨_, List.getElem?_eq_getElem hlt⟩
    have hv : v = .ref p.1 := by
      have h1 : items.toList[i]? = some v := by simpa using hP
      rw [hit, List.getElem?_map, hp] at h1
      exact (Option.some.inj h1).symm
    subst hv
    have hpm : p ∈ pairs := List.mem_of_getElem? hp
    have keep : ∀ b o, b ≠ I → s.heap.get? b = some o → h'.get? b = some o := fun b o hb e => hm b o (by simp [hb]) e
    obtain ⟨t1, t2, hT⟩ := (htp p hpm).at fun o e => keep _ o (ht p hpm).2 e
    have hd' : h'.DictOf (intKind prog w) d kvs := by
      obtain ⟨o, es, ep, ho, r⟩ := hd
      exact ⟨o, es, ep, keep d o hdI ho, r⟩
    obtain ⟨o, ho, hc, n, hdt⟩ := id hT
    show wpAny _ A.in1 (holding [Value.ref p.1] _ >>= _) _ _ { s with heap := h', toks := tk }
    refine wpAny_bind (wpAny_holding ?_)
    have ht0 : s.heap.IsListIter I a i := hI
    refine wpAny_bind (wpAny_tryCatch ?_)
    unfold Dict.pairItems
    refine wpAny_bind (wpAny_typeOf (s := { s with heap := h', toks := tk }) (T := "tuple") ⟨o, ho, hc⟩ ?_)
    rw [if_pos (by decide)]
    refine wpAny_bind (wpAny_seqItems (s := { s with heap := h', toks := tk }) ho hdt (wpAny_pure ?_))
    show wpAny _ A.in1 (holding _ (dictSet d (.int p.2.1 t1) (.int p.2.2 t2))) _ _ _
    refine wpAny_holding (wpAny_dictSet_pairs (s := { s with heap := h', toks := tk }) (k := p.2.1) (intKind_is _ _ _ _) hd' (fun h2 hd2 hsb => ?_) (by rw [sizeLine_eq]; lia))
    refine wpAny_pure ⟨plainId_quiet plain_upd_loop _, ?_⟩
    have e1 : rawInt ((i : Int) + 1) = rawInt ((i + 1 : Nat) : Int) := rfl
    rw [e1]
    have keep2 : ∀ b o, b ≠ d → h'.get? b = some o → h2.get? b = some o := fun b o hb e => by rw [hsb.2 b hb]; exact e
    refine ih (i + 1) _ (stored kvs p.2.1 (.int p.2.2 t2)) (fun x => if x = p.2.1 then some (.int p.2.2) else f x) (by lia) hlt (hst.1.at fun o e => keep2 _ _ (Ne.symm hdI) e) (hst.2.at fun o e => keep2 _ _ (Ne.symm hda) e) hd2 (by have := stored_length_le kvs p.2.1 (.int p.2.2 t2); lia) (fun q hq => ((htp q hq).at fun o e => keep _ _ (ht q hq).2 e).at fun o e => keep2 _ _ (ht q hq).1 e) (fun x => ?_) fun h3 tk3 kvs3 hd3 hl3 hf3 hk3 => ?_
    · rw [valueAt_stored]
      by_cases hx : x = p.2.1
      · rw [if_pos hx, if_pos hx]; rfl
      · rw [if_neg hx, if_neg hx]; exact hf x
    · refine hR h3 tk3 kvs3 hd3 (by have := stored_length_le kvs p.2.1 (.int p.2.2 t2); lia) (fun x => ?_) fun b o h1 h2 e => hk3 b o h1 h2 (keep2 b o h1 (keep b o h2 e))
      rw [hf3 x, List.drop_eq_getElem_cons hlt]
      have : pairs[i] = p := by rw [List.getElem?_eq_getElem hlt] at hp; exact Option.some.inj hp
      rw [this]; rfl
end
section
variable {c : Cx} {X : Vars → Led → Prop} {vars : Vars} {led led' : Led} {Q : PV → Led → Prop}
theorem Bi_update {d a : Addr} {f : Int → Option PV} {n : Nat} {pairs : List (Addr × Int × Int)} (hm : (a, .list (pairs.map fun p => .ref p.1)) ∈ led) (hp : ∀ p ∈ pairs, (p.1, .tuple [.int p.2.1, .int p.2.2]) ∈ led) (U : UpdL d (.dict f n) (.dict (updF f (pairs.map (·.2))) (n + pairs.length)) led led') (hz : n + pairs.length ≤ 1000000)
    (h : Q .none led') : Bi c (.builtin "dict.update") [.ref d, .ref a] Q X vars led := by
  intro vals hv' ok fr E hP hE s hs
  obtain ⟨v, u, rfl, hv, hu⟩ := map2 hv'
  obtain rfl := er_ref hv; obtain rfl := er_ref hu
  have hs' := hs
  obtain ⟨h₀, m, news, G, F, N, V, Lk, S⟩ := id hs
  obtain ⟨oa, hoa, xs, na, rfl, hxs⟩ := Lk.mem hm
  obtain ⟨od, ⟨ks, hd, hfr, hkl, hkf⟩, hgd, k⟩ := hs'.raw1 U
  have hD : s.heap.DictOf (intKind PG c.w) d ks := Heap.dictOf_iff.mpr ⟨od, hgd, hd⟩
  have hL := N.isList hoa
  have hda : d ≠ a := fun e => by
    have h1 := (N _ hoa).1
    rw [← e, hgd] at h1
    obtain ⟨_, _, hc, _⟩ := hd
    have := hc.1
    rw [Option.some.inj h1] at this
    simp at this
  have hnd : ∀ p ∈ pairs, TupI s.heap p.1 p.2.1 p.2.2 := fun p hq => by
    obtain ⟨o, ho, xs, n, rfl, hx⟩ := Lk.mem (hp p hq)
    have := N.isTup ho
    obtain ⟨x, y, hl, hx⟩ : ∃ x y, xs.toList = [x, y] ∧ er x = .int p.2.1 ∧ er y = .int p.2.2 := by
      generalize xs.toList = l at hx
      rcases l with _ | ⟨x, _ | ⟨y, _ | ⟨z, l⟩⟩⟩
      · cases hx
      · simp at hx
      · exact ⟨x, y, rfl, by simpa using hx⟩
      · simp at hx
    · 
      obtain ⟨t1, rfl⟩ := er_int hx.1
      obtain ⟨t2, rfl⟩ := er_int hx.2
      exact ⟨t1, t2, by rw [show xs = #[.int p.2.1 t1, .int p.2.2 t2] by rw [← Array.toArray_toList (xs := xs), hl]] at this; exact this⟩
  have hit : xs.toList = pairs.map fun p => Value.ref p.1 := by
    clear hp U hz hm hoa hL hnd k
    generalize xs.toList = l at hxs
    induction pairs generalizing l with
    | nil => cases l with | nil => rfl | cons => simp at hxs
    | cons p r ih => cases l with
      | nil => simp at hxs
      | cons y l =>
        simp at hxs
        obtain rfl := er_ref hxs.1
        rw [List.map_cons, ih l (by simpa using hxs.2)]
  refine call_meetsIn PySem.F.slot_dict_update hD.typeIs PySem.F.entry_dict_update (PySem.F.args_dict_update_2 _ _) (S := fun A R s' => s' = s ∧ A = c.A ∧ R = wants (fun a s' => Out c fr (fun v l => v = vars ∧ Q (er a) l) s') E) ?_ ⟨rfl, rfl, rfl⟩
  rintro A R s₁ ⟨rfl, rfl, rfl⟩
  unfold Builtin.«dict.update»
  refine wpAny_bind ?_
  unfold Builtin.Dict.selfAndRest
  refine wpAny_bind (wpAny_notOrdered_dict hD.typeIs ?_)
  show wpAny _ _ (pure (d, [Value.ref a])) _ _ _
  refine wpAny_pure ?_
  show wpAny _ _ (Builtin.Dict.updateFrom "dict.update" d (.ref a) [] .none) _ _ _
  unfold Builtin.Dict.updateFrom
  refine wpAny_bind (wpAny_typeOf hL.typeIs ?_)
  rw [if_pos (by decide)]
  refine wpAny_bind (getAttrQ_miss_list (N _ hoa).1 rfl rfl rfl ok.handled fun h1 tk1 hk1 => ?_)
  have hL1 : h1.IsList a xs := hL.at fun o e => hk1 _ _ e
  refine wpAny_bind (wpAny_rule (wpAny_bind (wpAny_pyIter_list (s := { s₁ with heap := h1, toks := tk1 }) hL1 ?_)))
  have lt : ∀ {b o}, s₁.heap.get? b = some o → b ≠ h1.objs.size := fun {b o} e => Nat.ne_of_lt (Heap.lt_size (hk1 _ _ e))
  have kp : ∀ b o, s₁.heap.get? b = some o → (h1.push { cls := .type "list_iterator", data := .fields #[.ref a, .int 0 0] }).get? b = some o := fun b o e => Heap.get?_push_of_some _ (hk1 _ _ e)
  refine wpAny_pure ⟨plainId_quiet plain_upd_loop _, ?_⟩
  refine update_loop (prog := PG) (w := c.w) (A := c.A) (a := a) (items := xs) ok.handled (lt (N _ hoa).1) hda (lt hgd) pairs hit (fun p hq => ⟨?_, ?_⟩) pairs.length 0 _ ks f (by lia) (by lia) ⟨_, Heap.get?_push_size _ rfl, rfl, rfl⟩ (hL1.push _) ?_ (by lia) (fun p hq => (hnd p hq).at fun o e => kp _ _ e) hkf ?_
  · obtain ⟨_, _, o, ho, hc, _⟩ := hnd p hq
    intro e
    rw [e, hgd] at ho
    cases ho
    obtain ⟨_, _, hc', _⟩ := hd
    have := hc'.1
    rw [hc] at this
    simp at this
  · obtain ⟨_, _, o, ho, hc, _⟩ := hnd p hq
    exact lt ho
  · obtain ⟨o, es, ep, ho, r⟩ := hD
    exact ⟨o, es, ep, kp _ _ ho, r⟩
  · intro h2 tk2 kvs' hd2 hl2 hf2 hk2
    obtain ⟨o', ho', hdo'⟩ := Heap.dictOf_iff.mp hd2
    obtain ⟨k1, _⟩ := k h2 tk2 o' ⟨kvs', hdo', (Heap.get?_some_iff.mp ho').2, by lia, by simpa using hf2⟩ ho' (fun b ob hb e => hk2 b ob hb (lt e) (kp _ _ e))
    exact ⟨vars, _, k1, rfl, h⟩
end
end
section
section
variable {c : Cx} {X : Vars → Led → Prop} {vars : Vars} {led : Led} {Q : PF → Vars → Led → Prop}
theorem fitsR {i : Int} (h1 : -100000000 ≤ i) (h2 : i ≤ 100000000) : Builtin.Range.rangeFitsLong i = true := by
  unfold Builtin.Range.rangeFitsLong; simp; lia
theorem size_up (a b : Int) : Builtin.Range.rangeSize a b 1 = ((b - a).toNat : Int) := by
  unfold Builtin.Range.rangeSize; simp; split <;> lia
theorem size_down (a b : Int) : Builtin.Range.rangeSize a b (-1) = ((a - b).toNat : Int) := by
  unfold Builtin.Range.rangeSize; simp; split <;> lia
noncomputable def ups (a : Int) (n : Nat) : List PV := (List.range n).map fun (i : Nat) => .int (a + i)
noncomputable def downs (a : Int) (n : Nat) : List PV := (List.range n).map fun (i : Nat) => .int (a - i)
theorem small_up {a b : Int} (h1 : -1000000 ≤ a) (h2 : a ≤ 1000000) (h3 : -1000000 ≤ b) (h4 : b ≤ 1000000) : Builtin.Range.small a b 1 = true := by
  unfold Builtin.Range.small
  rw [size_up, fitsR (by lia) (by lia), fitsR (by lia) (by lia), fitsR (by lia) (by lia), fitsR (by lia) (by lia), if_pos (by decide), fitsR (by lia) (by lia)]; simp
theorem small_down {a b : Int} (h1 : -1000000 ≤ a) (h2 : a ≤ 1000000) (h3 : -1000000 ≤ b) (h4 : b ≤ 1000000) : Builtin.Range.small a b (-1) = true := by
  unfold Builtin.Range.small
  rw [size_down, fitsR (by lia) (by lia), fitsR (by lia) (by lia), fitsR (by lia) (by lia), fitsR (by lia) (by lia), if_neg (by decide), fitsR (by lia) (by lia)]; simp
/-- the items of a range of the ledger -/
inductive RItems : Int → Int → Int → List PV → Prop
  | up {a b} (h1 : -1000000 ≤ a) (h2 : a ≤ 1000000) (h3 : -1000000 ≤ b) (h4 : b ≤ 1000000) : RItems a b 1 (ups a (b - a).toNat)
  | down {a b} (h1 : -1000000 ≤ a) (h2 : a ≤ 1000000) (h3 : -1000000 ≤ b) (h4 : b ≤ 1000000) : RItems a b (-1) (downs a (a - b).toNat)
theorem RItems.core {a b d : Int} {its : List PV} (h : RItems a b d its) : Builtin.Range.small a b d = true ∧ Builtin.Range.rangeSize a b d = (its.length : Int) ∧ ∀ i : Nat, i < its.length → its[i]? = some (.int (a + i * d)) := by
  cases h with
  | up h1 h2 h3 h4 => exact ⟨small_up h1 h2 h3 h4, by rw [size_up]; simp [ups], fun i hi => by simp only [ups, List.length_map, List.length_range] at hi; simp [ups, hi]⟩
  | down h1 h2 h3 h4 => exact ⟨small_down h1 h2 h3 h4, by rw [size_down]; simp [downs], fun i hi => by simp only [downs, List.length_map, List.length_range] at hi; simp [downs, hi]; lia⟩
/-- for over a range -/
noncomputable abbrev KFr (x : Str) (body : List Stmt) (c : Cx) (Q : PF → Vars → Led → Prop) (X : Vars → Led → Prop) (vars : Vars) : PV → Led → Prop := fun p l => (E5 fun r a b d its => A2 (p = .ref r) (A3 ((r, .range a b d) ∈ l) (RItems a b d its) (WFor c x body Q X its vars l)))
theorem S_for_range {x : Str} {iter : Expr} {body : List Stmt} {px pos : Pos} (hi : c.inC = false) (hcan : c.can = false) (hx : c.cs.names.lookup x = some .local) (hs : ∀ env x, foldedSetIterable iter env x = pure x)
    (h : WE c iter (KFr x body c Q X vars) X vars led) : WS1 c (.For (.Name x px) iter body [] pos) Q X vars led := by
  refine For_w hi hcan hx hs (W_mono h ?_)
  rintro v v' l ⟨rfl, r, a, b, d, its, hb, hm, hit, hw⟩
  refine ⟨rfl, fun v hv ok fr E hP hE s hst h₀ m news G F N V Lk S => ?_⟩
  obtain rfl := er_ref (hv.trans hb)
  obtain ⟨o, ho, t, u, w', rfl⟩ := Lk.mem hm
  obtain ⟨k1, k2, k3⟩ := hit.core
  refine wpAny_pyIter_range (N _ ho).1 k1 ?_
  have W := (Walks.range (prog := PG) (w := c.w) ok.handled s.heap.objs.size a d its.length).bound
  refine loop_at ok hcan W rfl ?_ (fun _ _ st => ⟨_, st⟩) hE hi hP G (F.push _) (fun p hp => ⟨Heap.get?_push_of_some _ (N p hp).1, (N p hp).2⟩) V Lk (S.up _ s.toks) ?_ (next_newI F) ?_ (fun b hb => .inl (List.mem_singleton.mp hb)) (by rw [k2]; show IsRangeIter _ _ _ _ _; simpa using Heap.get?_push_size _ rfl) hw
  · rintro i v ⟨hlt, t', rfl⟩
    rw [k3 i hlt]; rfl
  · intro hm
    exact absurd F.ns.lt ((List.mem_singleton.mp hm) ▸ Nat.lt_irrefl _)
  · intro p hp hI
    exact absurd (Heap.lt_size (N p hp).1) (hI ▸ Nat.lt_irrefl _)
/-! a target that lies in a cell -/
theorem St.storeC {x : Str} {a : Addr} {old : Option PV} {p : PV} {v : Value} {led' : Led} {s : Shared} {fr : List (Addr × Obj)} {E : Value → Shared → Prop} {R : Unit → Shared → Prop} (hs : St c fr vars led s) (ok : c.Ok) (hi : c.inC = false) (hv : er v = p) (ha : c.cl.lookup x = some a) (hx : c.cs.names.lookup x = some .cell)
    (U : UpdL a (.cell old) (.cell (some p)) led led') (k : ∀ s', St c fr vars led' s' → R () s') : wpAny c.M c.A (storeName c.env x v) R E s := by
  obtain ⟨o, ⟨y, hd, _⟩, hg, kk⟩ := hs.raw1 U
  show wpAny _ _ (storeName c.ev x v) _ _ _
  rw [(ok.here hi).1]
  refine wpAny_storeName_cell (c := a) (v₀ := y) ok.fun_ hx ha ⟨o, hg, hd⟩ fun h' hc hsb => ?_
  obtain ⟨o', ho', hd'⟩ := hc
  exact k _ (kk h' s.toks o' ⟨some v, hd', by rw [← hv]; rfl⟩ ho' fun b ob hb e => by rw [hsb.2 b hb]; exact e).1
noncomputable def WForC (c : Cx) (a : Addr) (body : List Stmt) (Q : PF → Vars → Led → Prop) (X : Vars → Led → Prop) : List PV → Vars → Led → Prop
  | [], vars, led => (E2 fun v l => A2 (Wk vars led v l) (Q .next v l))
  | p :: rest, vars, led => (E2 fun v l => A2 (Wk vars led v l) ((E2 fun old l' => A2 (UpdL a (.cell old) (.cell (some p)) l l') (WS c body (fun f v' l'' => f = .next ∧ WForC c a body Q X rest v' l'') X v l'))))
theorem WForC_inv {a body} (P : List PV → Vars → Led → Prop) (fin : ∀ v l, P [] v l → Q .next v l)
    (step : ∀ p rest v l, P (p :: rest) v l → (E2 fun old l' => A2 (UpdL a (.cell old) (.cell (some p)) l l') (WS c body (fun f v' l' => f = .next ∧ (E2 fun v l => A2 (Wk v' l' v l) (P rest v l))) X v l'))) :
    ∀ its v l, ((E2 fun v' l' => A2 (Wk v l v' l') (P its v' l'))) → WForC c a body Q X its v l := by
  intro its
  induction its with
  | nil => rintro v l ⟨v', l', w, h⟩; exact ⟨v', l', w, fin _ _ h⟩
  | cons p rest ih =>
    rintro v l ⟨v', l', w, h⟩
    obtain ⟨old, l'', hs, hb⟩ := step _ _ _ _ h
    exact ⟨v', l', w, old, l'', hs, W_mono hb fun f v l ⟨hf, h⟩ => ⟨hf, ih _ _ h⟩⟩
theorem St.turnI {I : Addr} {o o' : Obj} {fr : List (Addr × Obj)} {s : Shared} {h' : Heap} (h : St c ((I, o) :: fr) vars led s) (hoff : ∀ q ∈ fr, q.1 ≠ I) (hg : h'.get? I = some o') (hk : ∀ b ob, b ≠ I → s.heap.get? b = some ob → h'.get? b = some ob) (tk : Nat) :
    St c ((I, o') :: fr) vars led { s with heap := h', toks := tk } := by
  obtain ⟨h₀, m, news, G, F, N, V, Lk, S⟩ := h
  have hI : (I, o) ∈ news := Lk.fr _ (.head _)
  have z := N _ hI
  obtain ⟨n₂, h1, h2⟩ := Lk.shrink (own := [(I, o)])
  have ne : ∀ p ∈ n₂, p.1 ≠ I := fun p hp e => by
    have hm' : p.1 ∈ n₂.map (·.1) := List.mem_map_of_mem hp
    rw [h2.addr, List.mem_append] at hm'
    rcases hm' with hm' | hm'
    · obtain ⟨y, hy, ey⟩ := List.mem_map.mp hm'
      exact Lk.off y hy (I, o) (.head _) (by rw [ey, e])
    · obtain ⟨y, hy, ey⟩ := List.mem_map.mp hm'
      exact hoff y hy (by rw [ey, e])
  obtain ⟨n₃, h3, h4⟩ := h2.grow [(I, o')] fun p hp q hq e => by
    obtain rfl := List.mem_singleton.mp hq
    obtain ⟨ob, hob, _⟩ := h2.mem hp
    exact ne _ hob e.symm
  refine ⟨h₀, m, n₃, G, ⟨F.ns.at' fun ob e => hk _ ob z.2.1.symm e, fun b ob e => hk b ob (fun q => by rw [q, z.2.2] at e; cases e) (F.keep b ob e), F.above⟩, fun p hp => ?_, V, h4, S.up _ _⟩
  rcases List.mem_append.mp (h3 p hp) with hp | hp
  · obtain rfl := List.mem_singleton.mp hp
    exact ⟨hg, z.2⟩
  · have y := N p (h1 p hp)
    exact ⟨hk _ _ (ne p hp) y.1, y.2⟩
theorem St.dropI {I : Addr} {o : Obj} {fr : List (Addr × Obj)} {s : Shared} {h' : Heap} (h : St c ((I, o) :: fr) vars led s) (hoff : ∀ q ∈ fr, q.1 ≠ I) (hk : ∀ b ob, b ≠ I → s.heap.get? b = some ob → h'.get? b = some ob) (tk : Nat) :
    St c fr vars led { s with heap := h', toks := tk } := by
  obtain ⟨h₀, m, news, G, F, N, V, Lk, S⟩ := h
  have z := N _ (Lk.fr _ (.head _))
  obtain ⟨n₂, h1, h2⟩ := Lk.shrink (own := [(I, o)])
  have ne : ∀ p ∈ n₂, p.1 ≠ I := fun p hp e => by
    have hm' : p.1 ∈ n₂.map (·.1) := List.mem_map_of_mem hp
    rw [h2.addr, List.mem_append] at hm'
    rcases hm' with hm' | hm'
    · obtain ⟨y, hy, ey⟩ := List.mem_map.mp hm'
      exact Lk.off y hy (I, o) (.head _) (by rw [ey, e])
    · obtain ⟨y, hy, ey⟩ := List.mem_map.mp hm'
      exact hoff y hy (by rw [ey, e])
  exact ⟨h₀, m, n₂, G, ⟨F.ns.at' fun ob e => hk _ ob z.2.1.symm e, fun b ob e => hk b ob (fun q => by rw [q, z.2.2] at e; cases e) (F.keep b ob e), F.above⟩, fun p hp => ⟨hk _ _ (ne p hp) (N p (h1 p hp)).1, (N p (h1 p hp)).2⟩, V, h2, S.up _ _⟩
theorem St.newFr {fr : List (Addr × Obj)} {s : Shared} {o : Obj} (h : St c fr vars led s) (hf : o.isFreed = false) (k : Nat) : St c ((s.heap.objs.size, o) :: fr) vars led { s with heap := s.heap.push o, toks := k } ∧ ∀ q ∈ fr, q.1 ≠ s.heap.objs.size := by
  obtain ⟨h₀, m, news, G, F, N, V, Lk, S⟩ := h
  obtain ⟨n₃, h3, h4⟩ := Lk.grow [(s.heap.objs.size, o)] fun p hp q hq e => by
    obtain rfl := List.mem_singleton.mp hq
    obtain ⟨ob, hob, _⟩ := Lk.mem hp
    exact absurd (Heap.lt_size (N _ hob).1) (e ▸ Nat.lt_irrefl _)
  refine ⟨⟨h₀, m, n₃, G, F.push o, fun p hp => N.push F o hf p (h3 p hp), V, h4, S.up _ _⟩, fun q hq e => absurd (Heap.lt_size (N q (Lk.fr q hq)).1) (e ▸ Nat.lt_irrefl _)⟩
/-- for over a range whose target lies in a cell -/
theorem S_for_rangeC {x : Str} {a : Addr} {iter : Expr} {body : List Stmt} {px pos : Pos} (hi : c.inC = false) (ha : c.cl.lookup x = some a) (hx : c.cs.names.lookup x = some .cell) (hs : ∀ env x, foldedSetIterable iter env x = pure x)
    (h : WE c iter (fun p l => (E5 fun r i j d its => A2 (p = .ref r) (A3 ((r, .range i j d) ∈ l) (RItems i j d its) (WForC c a body Q X its vars l)))) X vars led) : WS1 c (.For (.Name x px) iter body [] pos) Q X vars led := by
  intro ok fr E hP hE s hst
  refine wpAny_For (wpAny_mono (h ok fr E hP hE s hst) ?_ fun _ _ x => x) (hs _)
  rintro v s₁ ⟨_, l, S₁, rfl, r, i₀, j₀, d, its, hb, hm, hit, hw⟩
  obtain rfl := er_ref hb
  obtain ⟨h₀, m, news, G, F, N, V, Lk, S⟩ := id S₁
  obtain ⟨o, ho, t, u, w', rfl⟩ := Lk.mem hm
  obtain ⟨k1, k2, k3⟩ := hit.core
  refine wpAny_pyIter_range (N _ ho).1 k1 ?_
  have W := (Walks.range (prog := PG) (w := c.w) ok.handled s₁.heap.objs.size i₀ d its.length)
  generalize hIe : s₁.heap.objs.size = I at W
  let it : Nat → Obj := fun i => { cls := .type "range_iterator", dict := none, data := .fields #[rawInt (i₀ + (i : Nat) * d), rawInt ((its.length : Int) - (i : Nat)), rawInt d], slots := #[] }
  obtain ⟨S₂, hoff⟩ := S₁.newFr (o := it 0) rfl s₁.toks
  rw [hIe] at S₂ hoff
  have hpush : { cls := .type "range_iterator", data := .fields #[rawInt i₀, rawInt (Builtin.Range.rangeSize i₀ j₀ d), rawInt d] } = it 0 := by
    show _ = ({ cls := _, dict := none, data := _, slots := #[] } : Obj)
    rw [k2]; simp
  rw [hpush]
  refine codeAny_forLoop_any (fun k s' => (E3 fun i v l => A4 (k = its.length - i) (i ≤ its.length) (St c ((I, it i) :: fr) v l s') (WForC c a body Q X (its.drop i) v l))) ?_ its.length ⟨0, _, l, by lia, by lia, S₂, by simpa using hw⟩
  rintro k s' ⟨i, v, l', rfl, hle, S', hw'⟩
  have hpo := hP.2 hi
  have hitr : IsRangeIter s'.heap I (i₀ + (i : Nat) * d) ((its.length : Int) - (i : Nat)) d := by
    obtain ⟨h₁, m₁, n₁, G₁, F₁, N₁, V₁, L₁, Sm₁⟩ := S'
    exact (N₁ _ (L₁.fr _ (.head _))).1
  by_cases hlt : i < its.length
  · rw [List.drop_eq_getElem_cons hlt] at hw'
    obtain ⟨v₂, l₂, wk, old, l₃, hU, hbody⟩ := hw'
    refine W.item i s' _ _ hlt hitr fun y h' tk hPy st' hk => ?_
    obtain ⟨t', rfl⟩ := hPy
    have S₃ := (S'.wk wk).turnI hoff st' (fun b ob hb e => hk b ob (by simp [hb]) e) tk
    refine wpAny_pure ?_
    have hitem : its[i] = .int (i₀ + (i : Nat) * d) := by have := k3 i hlt; rw [List.getElem?_eq_getElem hlt] at this; exact Option.some.inj this
    refine PyProof.Rows.assign_Name (wpAny_mono (S₃.storeC (E := E) (R := fun _ s₄ => ∃ s₅, s₄ = s₅ ∧ St c ((I, it (i + 1)) :: fr) v₂ l₃ s₄) ok hi (by rw [hitem]; rfl) ha hx hU fun s₄ S₄ => ⟨_, rfl, S₄⟩) ?_ hpo)
    rintro _ s₄ ⟨_, _, S₄⟩
    refine wpAny_mono (hbody ok ((I, it (i + 1)) :: fr) E ⟨fun q hq => .tail _ (hP.1 q hq), hP.2⟩ (fun e v l s' f hx => hE e v l s' (f.shrink (own := [(I, it (i + 1))])) hx) s₄ S₄) ?_ hpo
    rintro f s₅ ⟨v₅, l₅, S₅, hf, hw₅⟩
    cases f with
    | next => exact ⟨its.length - (i + 1), by lia, i + 1, v₅, l₅, rfl, hlt, S₅, hw₅⟩
    | cont => cases hf
    | brk => cases hf
    | ret r => cases hf
  · have e : i = its.length := by lia
    subst e
    rw [List.drop_length] at hw'
    obtain ⟨v₂, l₂, wk, hq⟩ := hw'
    refine W.done s' _ _ hitr fun h' tk hk => ?_
    refine wpAny_execs_nil ⟨v₂, l₂, ?_, hq⟩
    exact (S'.wk wk).dropI hoff (fun b ob hb e => hk b ob (by simp [hb]) e) tk
end
end
section
section
variable {c : Cx} {X : Vars → Led → Prop} {vars : Vars} {led : Led}
/-! a def with one cell -/
noncomputable def Cx.intoX (c : Cx) (qual : Str) (scope : Scope) (f : Addr) (cdv : Value) (L' : Addr) (g : Heap) (room : Nat) (cl : List (Str × Addr)) : Cx :=
  { c with A := c.A.deeper (envX qual scope L' f cdv cl), A₀ := c.A, cn := qual, cs := scope, a := f, cd := cdv, L := L', outer := c.own :: c.outer, G₀ := g, can := false, room := room, cl := cl, ev := envX qual scope L' f cdv cl, inC := false, keepo := [], cm := none }
theorem Fn_cell {f : Addr} {k : Nat} {a1 : PV} {Q : PV → Led → Prop} {X : Led → Prop} {name qual : Str} {params : Arguments} {body : List Stmt} {scope : Scope}
    {dV kV doc pm cdv ct oc : Value} {an od : Option Addr} {osl : Array (Option Value)} (n1 x : Str)
    (ho : ∀ w, (KF w).lookup f = some ⟨oc, od, .func (fnOf name qual params body scope dV kV doc pm an cdv ct), osl⟩) (hcd : ∀ w, codeIn (KF w) cdv qual = true)
    (hbind : ∀ a, bindArgs (fnOf name qual params body scope dV kV doc pm an cdv ct) ⟨[a], []⟩ = pure [(n1, a)])
    (hloc : scope.names.lookup n1 = some .local) (hcl : ∀ n, cellsFrom n scope.names [] = [(x, n)])
    (hb : ∀ (c' : Cx) a, c'.room = k → c'.can = false → c'.cs = scope → c'.inC = false → c'.cl = [(x, a)] → WS c' body (fun fl _ l => Ret Q fl.val l) (fun _ _ => False) [(n1, a1)] ((a, .cell none) :: led))
    (hco : scope.isCoroutine = false := by rfl) (hgen : scope.isGenerator = false := by rfl) (hk : scope.kind = .function := by rfl) :
    Fn f (k + 1) [a1] Q X led := by
  refine FnC.fn ?_
  intro c vars vals hroom hvals ok fr E hE s hs
  obtain ⟨v1, rfl, hv1⟩ := map1 hvals
  obtain ⟨h₀, m, news, G, F, N, V, Lk, S⟩ := id hs
  have XK := G.K.keeps F.keep
  refine callX_cells (env := c.own) (A₀ := c.A₀) (base := c.base) (outer := c.outer) (binds := [(n1, v1)]) G.below F N G.top.nolimit ok.frames rfl ok.fun_ (XK _ _ (ho _)) rfl (codeRec_of XK (hcd _)) (by have := ok.depth; lia) (BindsTo.of_eq (hbind v1))
    (fun n y hy => by obtain rfl := List.mem_singleton.mp hy; exact .inl hloc) (by rw [hcl]; simp) (fun g L' h₁ tk cells FG F' N' CA B' st hlt => ?_) hco hgen hk
  have hcl' := hcl (L' + 1)
  rw [hcl'] at CA
  obtain ⟨o, rfl, hod⟩ := CA.one
  have ownE : envOfC qual scope L' f cdv = (c.intoX qual scope f cdv L' g k [(x, L' + 1)]).own := by
    show envOfC _ _ _ _ _ = envX _ _ _ _ _ _
    unfold envOfC; rw [hcl']; rfl
  have ok' : (c.intoX qual scope f cdv L' g k [(x, L' + 1)]).Ok := ⟨ok.handled, by show (c.A.deeper _).frames = _; rw [Around.frames_deeper ok.frames]; rfl, fun _ => ⟨rfl, rfl⟩, fun h => (by cases h), hk, by have := ok.depth; show c.A.depth + 1 + k < _; lia, by have := ok.units; show c.A.units + 3 + 10 * k + 100 < _; lia, ok.baseK, ok.baseT⟩
  have gr : (c.intoX qual scope f cdv L' g k [(x, L' + 1)]).Gr g := ⟨B', G.K.keeps st, G.top.keeps st, rfl, fun b hb => by
    rcases kts_mem (name := c.cn) (scope := c.cs) (L := c.L) (a := c.a) (cd := c.cd) (outer := c.outer) hb with rfl | hb
    · obtain ⟨o, es, ep, ho, hd, _⟩ := FG.ns
      exact ⟨o, es, ep, ho, hd⟩
    · obtain ⟨o, es, n, ho, hd⟩ := G.dicts b hb
      exact ⟨o, es, n, FG.keep b o ho, hd⟩⟩
  have hkind : (envOfC qual scope L' f cdv).kindOf n1 = some .local := hloc
  have S' : St (c.intoX qual scope f cdv L' g k [(x, L' + 1)]) fr [(n1, a1)] ((L' + 1, .cell none) :: led) { s with heap := h₁, toks := tk } := by
    refine ⟨g, _, _, gr, F', N', ?_, .cons (fun q hq e => ?_) (po := .cell none) ⟨none, ?_, rfl⟩ Lk, S.up _ _⟩
    · show VOk none (bindL _ [(n1, v1)] _) _
      simp only [bindL, hkind, if_true]
      refine ⟨by simp, fun p hp => ?_, fun _ h => (nomatch h)⟩
      obtain rfl := List.mem_singleton.mp hp
      exact ⟨v1, by simp, hv1⟩
    · have h1 : q.1 < L' := hlt q hq
      have h2 : q.1 = L' + 1 := e
      rw [h2] at h1; exact absurd h1 (by exact Nat.not_lt.mpr (Nat.le_succ _))
    · rw [hod]; simp only [bindC, hkind, if_true]
  rw [ownE]
  refine wpAny_mono (WS_ret (Q := Q) (X := fun _ => False) (W_monoX (hb _ _ rfl rfl rfl rfl rfl) (fun _ _ h => h.elim)) ok' fr _ ⟨fun _ h => (nomatch h), fun _ => PassesOwn.leaving⟩ (fun _ _ _ _ _ hx => hx.elim) _ S') ?_ fun _ _ x => x
  rintro fl s' ⟨v, l, ⟨g', m', news', G', F'', N'', V'', Lk', Sm⟩, hq⟩
  obtain rfl : g' = g := G'.turn
  refine leaveK_ F'' N'' fun Fr' Nw' => ?_
  refine ⟨vars, l, ⟨h₀, m, news', G, Fr', Nw', V, Lk', Sm⟩, ⟨rfl, ?_⟩⟩
  cases fl <;> exact hq
/-! a def that catches, called from a frame with no other below it -/
noncomputable def FnS (f : Addr) (k : Nat) (args : List PV) (Q : PV → Led → Prop) (led : Led) : Prop :=
  ∀ (c : Cx) (vars : Vars) (vals : List Value), k ≤ c.room → c.outer = [] → c.cl = [] → vals.map er = args → WV c (call (.ref f) vals) Q (fun _ _ => False) vars led
noncomputable def Cx.intoS (c : Cx) (qual : Str) (scope : Scope) (f : Addr) (cdv : Value) (L' : Addr) (g : Heap) (room : Nat) : Cx := { c.into qual scope f cdv L' g room with can := true }
theorem FnS_1 {f : Addr} {k : Nat} {a1 : PV} {Q : PV → Led → Prop} {name qual : Str} {params : Arguments} {body : List Stmt} {scope : Scope}
    {dV kV doc pm cdv ct oc : Value} {an od : Option Addr} {osl : Array (Option Value)} (n1 : Str)
    (ho : ∀ w, (KF w).lookup f = some ⟨oc, od, .func (fnOf name qual params body scope dV kV doc pm an cdv ct), osl⟩) (hcd : ∀ w, codeIn (KF w) cdv qual = true)
    (hbind : ∀ a, bindArgs (fnOf name qual params body scope dV kV doc pm an cdv ct) ⟨[a], []⟩ = pure [(n1, a)])
    (hloc : scope.names.lookup n1 = some .local)
    (hb : ∀ c' : Cx, c'.room = k → c'.can = true → c'.cs = scope → c'.inC = false → c'.cl = [] → c'.A = c'.A₀.deeper c'.own → WS c' body (fun fl _ l => Ret Q fl.val l) (fun _ _ => False) [(n1, a1)] led)
    (hco : scope.isCoroutine = false := by rfl) (hgen : scope.isGenerator = false := by rfl) (hk : scope.kind = .function := by rfl) (hcell : ∀ x ∈ scope.names, x.2 ≠ .cell := by decide) :
    FnS f (k + 1) [a1] Q led := by
  intro c vars vals hroom hout hcl hvals ok fr E _ hE s hs
  obtain ⟨v1, rfl, hv1⟩ := map1 hvals
  obtain ⟨h₀, m, news, G, F, N, V, Lk, S⟩ := id hs
  have hown : c.own = envOf c.cn c.cs c.L c.a c.cd := by unfold Cx.own; rw [hcl]; rfl
  have hfr := ok.frames
  rw [hown, hout] at hfr
  have hbel := G.below
  rw [hout] at hbel
  refine wpAny_call (code_defS0 (binds := [(n1, v1)]) (A₀ := c.A₀) (base := c.base) (K := KF c.w) hbel F G.K N G.top hfr (ho _) (hcd _) (by have := ok.depth; lia)
    (BindsTo.of_eq (hbind v1)) (fun y hy => by obtain rfl := List.mem_singleton.mp hy; exact hloc) (fun g L' h₁ FG F' N' B' X' T' D' => ?_) ok.fun_ hco hgen hk hcell)
  have ok' : (c.intoS qual scope f cdv L' g k).Ok := ⟨ok.handled, by show (c.A.deeper _).frames = _; rw [Around.frames_deeper ok.frames]; rfl, fun _ => ⟨rfl, rfl⟩, fun h => (by cases h), hk, by have := ok.depth; show c.A.depth + 1 + k < _; lia, by have := ok.units; show c.A.units + 3 + 10 * k + 100 < _; lia, ok.baseK, ok.baseT⟩
  have hfs : (c.intoS qual scope f cdv L' g k).fs = [envOf c.cn c.cs c.L c.a c.cd].filterMap (·.frame) := by
    show (c.own :: c.outer).filterMap _ = _
    rw [hown, hout]
  have gr : (c.intoS qual scope f cdv L' g k).Gr g := ⟨by show Below c.A c.base (c.own :: c.outer) g; rw [hown, hout]; exact B', X', T', KtsTurn.refl, by rw [hfs]; exact D'⟩
  have S' : St (c.intoS qual scope f cdv L' g k) fr [(n1, a1)] led { s with heap := h₁, toks := s.toks + 1 } :=
    ⟨g, _, news, gr, F', N', by have := vok_binds [n1] [v1] (by simp) rfl; rw [show ([n1] : List Str).zip ([v1].map er) = [(n1, a1)] by simp [hv1]] at this; exact this, Lk, S.up _ _⟩
  refine wpAny_mono (WS_ret (Q := Q) (X := fun _ => False) (W_monoX (hb (c.intoS qual scope f cdv L' g k) rfl rfl rfl rfl rfl rfl) (fun _ _ h => h.elim)) ok' fr _ ⟨fun _ h => (nomatch h), fun _ => PassesOwn.leaving⟩ (fun _ _ _ _ _ hx => hx.elim) _ S') ?_ fun _ _ x => x
  rintro fl s' ⟨v, l, ⟨g', m', news', G', F'', N'', V'', Lk', Sm⟩, hq⟩
  refine leaveS0_ F'' N'' (by rw [← hfs]; exact G'.turn) fun Fr' Nw' => ?_
  refine ⟨vars, l, ⟨h₀, m, news', G, Fr', Nw', V, Lk', Sm⟩, rfl, ?_⟩
  cases fl <;> exact hq
theorem E_fnS {fn : Str} {np pos : Pos} {e : Expr} {es : List Expr} {f : Addr} {k : Nat} {Q : PV → Led → Prop} (hname : WE c (.Name fn np) (KNm (.ref f) led) X vars led) (hkp : ∀ w, keepIn (KF w) (.ref f) = true)
    (hroom : k ≤ c.room) (hout : c.outer = []) (hcl : c.cl = [])
    (he : ∀ env, starEach (e :: es) env = (false, eval e env) :: starEach es env) (hplain : ∀ env, (backTo pos (starEach es env)).any (·.1) = false)
    (h : WL c (e :: es) pos (fun ps l => FnS f k ps Q l) X vars led) : WE c (.Call (.Name fn np) (e :: es) [] pos) Q X vars led := by
  intro ok fr E hP hE s hs
  refine Call_ (wpAny_mono (hname ok fr E hP hE s hs) ?_ fun _ _ x => x)
  rintro a s₁ ⟨_, l, S₁, rfl, ha, rfl⟩
  obtain rfl := er_ref ha
  obtain ⟨h₀, m, news, G, F, N, V, Lk, S⟩ := id S₁
  refine callWith_K (K := KF c.w) (h₀ := h₀) G.K (hkp _) (wpAny_mono (h ok fr E hP hE s₁ S₁) ?_ fun _ _ x => x) (he _) (hplain _)
  rintro vs s₂ ⟨_, l₂, S₂, e, h₂⟩
  subst e
  obtain ⟨h₀', m', news', G', F', N', V', Lk', S'⟩ := id S₂
  refine ⟨G'.K.keeps F'.keep, ?_⟩
  exact W_monoX (h₂ c _ vs hroom hout hcl rfl) (fun v l h => h.elim) ok fr E hP hE s₂ S₂
/-! a try that adds one to a name where a WordFault comes -/
theorem S_try {Q : PF → Vars → Led → Prop} {body : List Stmt} {x : Str} {np p1 p2 p3 p4 p5 hpos pos : Pos} {kk : Nat} (hi : c.inC = false) (hcan : c.can = true) (hA : c.A = c.A₀.deeper c.own) (hcl : c.cl = [])
    (hx : c.cs.names.lookup x = some .local) (hw : c.cs.names.lookup ("WordFault" : Str) = some .globalImplicit) (hd : (x == ("__debug__" : Str)) = false)
    (hsw : ∀ env, swapsWith (.BinOp (.Name x p2) .Add (.Constant (.int 1) kk p3) p4) (some (.Name x p1)) p5.line env = pure false)
    (h : WS c body Q (fun v l => ∃ i, (x, .int i) ∈ v ∧ ∃ v', SetV x (.int (i + 1)) v v' ∧ Q .next v' l) vars led) :
    WS1 c (.Try body [.ExceptHandler (some (.Name "WordFault" np)) none [.Assign [.Name x p1] (.BinOp (.Name x p2) .Add (.Constant (.int 1) kk p3) p4) p5] hpos] [] [] pos) Q X vars led := by
  intro ok fr E hP hE s hs
  have hown : c.own = envOf c.cn c.cs c.L c.a c.cd := by unfold Cx.own; rw [hcl]; rfl
  have hev : c.env = c.own := (ok.here hi).1
  refine wpAny_mono (E := fun _ _ => False) ?_ (fun _ _ x => x) (fun _ _ x => x.elim)
  refine wpAny_Try_except (wpAny_mono (h ok fr _ ⟨hP.1, fun _ => PassesOwn.looking⟩ ?_ s hs) ?_ fun _ _ x => x)
  · rintro e v l s' hf ⟨i, hm, v', hset, hq⟩
    obtain ⟨g, m, news, ea, rfl, G, V, Lk, S, hh⟩ := hf
    rcases hh with ⟨hc, _⟩ | ⟨GG, t, vs, F, R, hsm⟩
    · rw [hcan] at hc; cases hc
    rw [hev, hown]
    have hturn := G.turn
    rw [hcan] at hturn
    simp only [if_true] at hturn
    have R' : RaisedS c.base GG (envOf c.cn c.cs c.L c.a c.cd :: c.outer) ea (.ref 52) t vs news s'.heap := hown ▸ R
    rw [hA, hown]
    refine caught_SO0 (KF := KF c.w) (g₀ := c.G₀) (C := 52) (A₀ := c.A₀) R' F G.below hsm ok.baseK ok.baseT G.dicts hturn (by exact rfl) (by exact rfl) (fun h' g' news₂ T' F' N₂ _ N' B' K' P' D' => ?_) ok.fun_ hw
    obtain ⟨u, hu, hue⟩ := V.2 _ hm
    obtain ⟨tk, rfl⟩ := er_int hue
    refine wpAny_execs_cons (wpAny_Assign_Name (wpAny_BinOp (nameX_L F' hu (wpAny_Constant_int (PyProof.Rows.add_int ?_)) ok.fun_ hx hd)) (hsw _))
    refine storeX_L F' N' (fun h'' F'' N'' => ?_) ok.fun_ hx
    refine wpAny_execs_nil ?_
    have e0 := (ok.here hi).2
    rw [e0] at V
    exact ⟨v', l, ⟨g', _, news, ⟨B', K', P', by rw [hcan]; exact T', D'⟩, F'', N'', by rw [e0]; exact hset.ok rfl V, Lk, S.up _ _⟩, hq⟩
  · rintro f s₁ ⟨v, l, S₁, hq⟩
    cases f with
    | next => exact wpAny_execs_nil ⟨v, l, S₁, hq⟩
    | _ => exact ⟨v, l, S₁, hq⟩
end
end
section
/-- the script lies below -/
noncomputable def HasScript (c : Cx) (a : Addr) (ns : List Int) : Prop := ∃ vs : List Value, c.base.IsList a vs.toArray ∧ IntsAre vs ns
theorem locs_of {c : Cx} {sc : Scope} (h : c.cs = sc) {l : List Str} (e : ∀ x ∈ l, sc.names.lookup x = some .local) : ∀ x ∈ l, c.cs.names.lookup x = some .local := h ▸ e
section
variable {c : Cx} {X : Vars → Led → Prop} {vars : Vars} {led : Led}
noncomputable def FnB (f : Addr) (k : Nat) (sa : Addr) (ns : List Int) (args : List PV) (Q : PV → Led → Prop) (led : Led) : Prop :=
  ∀ (c : Cx) (vars : Vars) (vals : List Value), k ≤ c.room → HasScript c sa ns → vals.map er = args → WV c (call (.ref f) vals) Q (fun _ _ => False) vars led
theorem FnB_1 {f : Addr} {k : Nat} {sa : Addr} {ns : List Int} {a1 : PV} {Q : PV → Led → Prop} {name qual : Str} {params : Arguments} {body : List Stmt} {scope : Scope}
    {dV kV doc pm cdv ct oc : Value} {an od : Option Addr} {osl : Array (Option Value)} (n1 : Str)
    (ho : ∀ w, (KF w).lookup f = some ⟨oc, od, .func (fnOf name qual params body scope dV kV doc pm an cdv ct), osl⟩) (hcd : ∀ w, codeIn (KF w) cdv qual = true)
    (hbind : ∀ a, bindArgs (fnOf name qual params body scope dV kV doc pm an cdv ct) ⟨[a], []⟩ = pure [(n1, a)])
    (hloc : scope.names.lookup n1 = some .local)
    (hb : ∀ c' : Cx, c'.room = k → c'.can = false → c'.cs = scope → c'.inC = false → HasScript c' sa ns → WS c' body (fun fl _ l => Ret Q fl.val l) (fun _ _ => False) [(n1, a1)] led)
    (hco : scope.isCoroutine = false := by rfl) (hgen : scope.isGenerator = false := by rfl) (hk : scope.kind = .function := by rfl) (hcell : ∀ x ∈ scope.names, x.2 ≠ .cell := by decide) :
    FnB f (k + 1) sa ns [a1] Q led := by
  intro c vars vals hroom hscr hvals ok fr E _ hE s hs
  obtain ⟨v1, rfl, hv1⟩ := map1 hvals
  obtain ⟨h₀, m, news, G, F, N, V, Lk, S⟩ := id hs
  refine wpAny_call (code_def (env := c.own) (outer := c.outer) (A₀ := c.A₀) (base := c.base) (K := KF c.w) G.below F G.K N G.top ok.frames rfl ok.fun_ (ho _) (hcd _) (by have := ok.depth; lia)
    (BindsTo.of_eq (hbind v1)) (fun y hy => by obtain rfl := List.mem_singleton.mp hy; exact hloc) (fun g L' h₁ FG F' N' B' X' T' => ?_) hco hgen hk hcell)
  have ok' : (c.into qual scope f cdv L' g k).Ok := ⟨ok.handled, by show (c.A.deeper _).frames = _; rw [Around.frames_deeper ok.frames]; rfl, fun _ => ⟨rfl, rfl⟩, fun h => (by cases h), hk, by have := ok.depth; show c.A.depth + 1 + k < _; lia, by have := ok.units; show c.A.units + 3 + 10 * k + 100 < _; lia, ok.baseK, ok.baseT⟩
  have gr : (c.into qual scope f cdv L' g k).Gr g := ⟨B', X', T', rfl, fun b hb => by
    rcases kts_mem (name := c.cn) (scope := c.cs) (L := c.L) (a := c.a) (cd := c.cd) (outer := c.outer) hb with rfl | hb
    · obtain ⟨o, es, ep, ho, hd, _⟩ := FG.ns
      exact ⟨o, es, ep, ho, hd⟩
    · obtain ⟨o, es, n, ho, hd⟩ := G.dicts b hb
      exact ⟨o, es, n, FG.keep b o ho, hd⟩⟩
  have S' : St (c.into qual scope f cdv L' g k) fr [(n1, a1)] led { s with heap := h₁, toks := s.toks + 1 } :=
    ⟨g, _, news, gr, F', N', by have := vok_binds [n1] [v1] (by simp) rfl; rw [show ([n1] : List Str).zip ([v1].map er) = [(n1, a1)] by simp [hv1]] at this; exact this, Lk, S.up _ _⟩
  refine wpAny_mono (WS_ret (Q := Q) (X := fun _ => False) (W_monoX (hb (c.into qual scope f cdv L' g k) rfl rfl rfl rfl hscr) (fun _ _ h => h.elim)) ok' fr _ ⟨fun _ h => (nomatch h), fun _ => PassesOwn.leaving⟩ (fun _ _ _ _ _ hx => hx.elim) _ S') ?_ fun _ _ x => x
  rintro fl s' ⟨v, l, ⟨g', m', news', G', F'', N'', V'', Lk', Sm⟩, hq⟩
  obtain rfl : g' = g := G'.turn
  refine leaveK_ F'' N'' fun Fr' Nw' => ?_
  refine ⟨vars, l, ⟨h₀, m, news', G, Fr', Nw', V, Lk', Sm⟩, rfl, ?_⟩
  cases fl <;> exact hq
theorem E_fnB {fn : Str} {np pos : Pos} {e : Expr} {es : List Expr} {f : Addr} {k : Nat} {sa : Addr} {ns : List Int} {Q : PV → Led → Prop} (hname : WE c (.Name fn np) (KNm (.ref f) led) X vars led) (hkp : ∀ w, keepIn (KF w) (.ref f) = true)
    (hroom : k ≤ c.room) (hscr : HasScript c sa ns)
    (he : ∀ env, starEach (e :: es) env = (false, eval e env) :: starEach es env) (hplain : ∀ env, (backTo pos (starEach es env)).any (·.1) = false)
    (h : WL c (e :: es) pos (fun ps l => FnB f k sa ns ps Q l) X vars led) : WE c (.Call (.Name fn np) (e :: es) [] pos) Q X vars led := by
  intro ok fr E hP hE s hs
  refine Call_ (wpAny_mono (hname ok fr E hP hE s hs) ?_ fun _ _ x => x)
  rintro a s₁ ⟨_, l, S₁, rfl, ha, rfl⟩
  obtain rfl := er_ref ha
  obtain ⟨h₀, m, news, G, F, N, V, Lk, S⟩ := id S₁
  refine callWith_K (K := KF c.w) (h₀ := h₀) G.K (hkp _) (wpAny_mono (h ok fr E hP hE s₁ S₁) ?_ fun _ _ x => x) (he _) (hplain _)
  rintro vs s₂ ⟨_, l₂, S₂, e, h₂⟩
  subst e
  obtain ⟨h₀', m', news', G', F', N', V', Lk', S'⟩ := id S₂
  refine ⟨G'.K.keeps F'.keep, ?_⟩
  exact W_monoX (h₂ c _ vs hroom hscr rfl) (fun v l h => h.elim) ok fr E hP hE s₂ S₂
theorem ints_er : ∀ {vs : List Value} {ns : List Int}, IntsAre vs ns → vs.map er = ns.map .int
  | _, _, .nil => rfl
  | _, _, .cons n t h => by simp [er, ints_er h]
/-- the script's head -/
theorem E_sliceS {Q : PV → Led → Prop} {value hi : Expr} {pos pos'}
    (h : WE c value (fun p l => (E2 fun a ns => A2 (p = .ref a) (A3 (HasScript c a ns) (ns.length ≤ 1000) (WE c hi (fun q l' => ∃ k : Nat, q = .int k ∧ ∀ r, Q (.ref r) ((r, .list ((ns.take k).map .int)) :: l')) X vars l)))) X vars led)
    (ht : ∀ o r, letTemporaryGo value o r = pure ()) : WE c (.Subscript value (.Slice none (some hi) none pos') pos) Q X vars led := by
  intro ok fr E hP hE s hs
  refine Subscript_ (wpAny_mono (h ok fr E hP hE s hs) ?_ fun _ _ x => x)
  rintro o s₁ ⟨_, l₁, S₁, rfl, a, ns, ha, ⟨vs, hsl, hin⟩, hz, h₁⟩
  obtain rfl := er_ref ha
  refine wpAny_Slice (evalPart_none_step (evalPart_some_step (wpAny_mono (h₁ ok fr E hP hE s₁ S₁) ?_ fun _ _ x => x)))
  rintro q s₂ ⟨_, l₂, S₂, e, k, hq, h₂⟩
  subst e
  obtain ⟨t, rfl⟩ := er_int hq
  refine evalPart_none_step ?_
  obtain ⟨h₀, m, news, G, F, N, V, Lk, S⟩ := id S₂
  have hl : s₂.heap.IsList a vs.toArray := by
    obtain ⟨o, ho, r⟩ := hsl
    exact ⟨o, F.keep _ _ (G.below.stays _ _ ho), r⟩
  have hlen : vs.length = ns.length := hin.length
  refine slice_list F N hl .none (.int _ _) (fun h' F' N' => ?_) rfl (ht _) (by rw [sizeLine_eq]; simp; lia)
  refine ⟨_, _, ⟨h₀, m, _, G, F', N', V, .cons (fun q hq e => ?_) (po := .list ((ns.take k).map .int)) ⟨_, 0, rfl, ?_⟩ Lk, S.up _ s₂.toks⟩, rfl, h₂ _⟩
  · have := Heap.lt_size (N q hq).1
    exact absurd (Nat.lt_succ_of_lt this) (e ▸ Nat.lt_irrefl _)
  · have := slice_ints_uptoW hin (y := (k : Int)) (by lia)
    simpa using ints_er this
/-! a tuple of the top is unpacked -/
theorem S_unpackK {Q : PF → Vars → Led → Prop} (hi : c.inC = false) {elts : List Expr} {k tpos} {value : Expr} {pos} (ts : List (Str × Pos)) (h : WE c value (fun p l => (E5 fun a its n dd sl => A2 (p = .ref a) (A2 ((∀ w, (KF w).lookup a = some ⟨.type "tuple", dd, .seq (List.toArray its) n, sl⟩)) (∃ vars', SetVs (ts.map (·.1)) (its.map er) vars vars' ∧ Q .next vars' l)))) X vars led)
    (hx : ∀ x ∈ ts.map (·.1), c.cs.names.lookup x = some .local)
    (hs : ∀ env, swapsWithSole [.Tuple elts k tpos] value pos.line env = pure false) (hw : ∀ env, swappedStores [.Tuple elts k tpos] value env = pure none)
    (he : ∀ env, assignEach elts env = ts.map fun n => (false, assign (.Name n.1 n.2) env)) :
    WS1 c (.Assign [.Tuple elts k tpos] value pos) Q X vars led := by
  intro ok fr E hP hE s hst
  refine Assign_Tuple (wpAny_mono (h ok fr E hP hE s hst) ?_ fun _ _ x => x) (hs _) (hw _)
  rintro v s₁ ⟨_, l, S₁, e, a, its, n, dd, sl, ha, hl, vars', hset, h₁⟩
  subst e
  obtain rfl := er_ref ha
  rw [PyProof.Rows.assign_Tuple]
  refine wpAny_bind (wpAny_standAt ?_)
  unfold unpack
  rw [he]
  have e1 : ((ts.map fun n => (false, assign (.Name n.1 n.2) c.env)).findIdx? (·.1)) = none := by
    rw [List.findIdx?_eq_none_iff]; intro x hx; obtain ⟨n, _, rfl⟩ := List.mem_map.mp hx; rfl
  have e2 : (ts.map fun n => (false, assign (.Name n.1 n.2) c.env)).length = its.toArray.size := by
    have := hset.len
    rw [List.length_map, List.length_map] at this
    rw [List.length_map, this]; simp
  rw [e1, e2]
  obtain ⟨h₀, m, news, G, F, N, V, Lk, S⟩ := id S₁
  refine wpAny_bind (wpAny_holding (unpackItems_tuple ok.handled (kun_topT F G.K (hl _)) fun h' he => ?_))
  have S' := S₁.ext he
  have e3 : (ts.map fun n => (false, assign (.Name n.1 n.2) c.env)).map (·.2) = (ts.map fun n => (n.1, assign (.Name n.1 n.2) c.env)).map (·.2) := by simp
  rw [e3]
  refine S'.stores hi ok (by simpa [List.map_map, Function.comp_def] using hset) ?_ fun s' S'' => ⟨_, _, S'', h₁⟩
  intro x hx'
  obtain ⟨n, hn, rfl⟩ := List.mem_map.mp hx'
  exact ⟨hx _ (List.mem_map_of_mem hn), fun v R E s h => PyProof.Rows.assign_Name h⟩
noncomputable def rfindZ (x y : List Nat) : Int := match Builtin.Str.lastOccurrence ⟨x.toArray⟩ ⟨y.toArray⟩ 0 (Str.length ⟨x.toArray⟩) with | some i => (i : Int) | none => -1
theorem Bi_rfind {Q : PV → Led → Prop} {x y : List Nat} (h : Q (.int (rfindZ x y)) led) : Bi c (.builtin "str.rfind") [.str x, .str y] Q X vars led := by
  intro vals hv' ok fr E hP hE s hs
  obtain ⟨v, u, rfl, hv, hu⟩ := map2 hv'
  obtain ⟨t, rfl⟩ := er_str hv; obtain ⟨t', rfl⟩ := er_str hu
  exact call_gives PySem.F.slot_str_rfind (typeIs_str _ _ _) PySem.F.entry_str_rfind (PySem.F.args_str_rfind_2 _ _) (PySem.gives_str_rfind _ _ _ _) (hs.only (v := .int _ _) _ h)
end
end
section
section
variable {c : Cx} {X : Vars → Led → Prop} {vars : Vars} {led : Led} {Q : PF → Vars → Led → Prop}
theorem S_un2 {a b : Str} {pa pb : Pos} {k tpos} {value : Expr} {pos} (hi : c.inC = false) (h : WE c value (KUn [a, b] Q vars) X vars led)
    (ha : c.cs.names.lookup a = some .local) (hb : c.cs.names.lookup b = some .local)
    (hs : ∀ env, swapsWithSole [.Tuple [.Name a pa, .Name b pb] k tpos] value pos.line env = pure false) (hw : ∀ env, swappedStores [.Tuple [.Name a pa, .Name b pb] k tpos] value env = pure none) :
    WS1 c (.Assign [.Tuple [.Name a pa, .Name b pb] k tpos] value pos) Q X vars led :=
  S_unpack hi [(a, pa), (b, pb)] h (by intro x hx; simp at hx; rcases hx with rfl | rfl; exact ha; exact hb) hs hw (fun _ => rfl)
theorem S_un3 {a b d : Str} {pa pb pd : Pos} {k tpos} {value : Expr} {pos} (hi : c.inC = false) (h : WE c value (KUn [a, b, d] Q vars) X vars led)
    (ha : c.cs.names.lookup a = some .local) (hb : c.cs.names.lookup b = some .local) (hd : c.cs.names.lookup d = some .local)
    (hs : ∀ env, swapsWithSole [.Tuple [.Name a pa, .Name b pb, .Name d pd] k tpos] value pos.line env = pure false) (hw : ∀ env, swappedStores [.Tuple [.Name a pa, .Name b pb, .Name d pd] k tpos] value env = pure none) :
    WS1 c (.Assign [.Tuple [.Name a pa, .Name b pb, .Name d pd] k tpos] value pos) Q X vars led :=
  S_unpack hi [(a, pa), (b, pb), (d, pd)] h (by intro x hx; simp at hx; rcases hx with rfl | rfl | rfl; exact ha; exact hb; exact hd) hs hw (fun _ => rfl)
theorem S_un4 {a b d e : Str} {pa pb pd pe : Pos} {k tpos} {value : Expr} {pos} (hi : c.inC = false) (h : WE c value (KUn [a, b, d, e] Q vars) X vars led)
    (ha : c.cs.names.lookup a = some .local) (hb : c.cs.names.lookup b = some .local) (hd : c.cs.names.lookup d = some .local) (he : c.cs.names.lookup e = some .local)
    (hs : ∀ env, swapsWithSole [.Tuple [.Name a pa, .Name b pb, .Name d pd, .Name e pe] k tpos] value pos.line env = pure false) (hw : ∀ env, swappedStores [.Tuple [.Name a pa, .Name b pb, .Name d pd, .Name e pe] k tpos] value env = pure none) :
    WS1 c (.Assign [.Tuple [.Name a pa, .Name b pb, .Name d pd, .Name e pe] k tpos] value pos) Q X vars led :=
  S_unpack hi [(a, pa), (b, pb), (d, pd), (e, pe)] h (by intro x hx; simp at hx; rcases hx with rfl | rfl | rfl | rfl; exact ha; exact hb; exact hd; exact he) hs hw (fun _ => rfl)
theorem S_unK2 {a b : Str} {pa pb : Pos} {k tpos} {value : Expr} {pos} (hi : c.inC = false) (h : WE c value (fun p l => (E5 fun a₀ its n dd sl => A2 (p = .ref a₀) (A2 ((∀ w, (KF w).lookup a₀ = some ⟨.type "tuple", dd, .seq (List.toArray its) n, sl⟩)) (∃ vars', SetVs [a, b] (its.map er) vars vars' ∧ Q .next vars' l)))) X vars led)
    (ha : c.cs.names.lookup a = some .local) (hb : c.cs.names.lookup b = some .local)
    (hs : ∀ env, swapsWithSole [.Tuple [.Name a pa, .Name b pb] k tpos] value pos.line env = pure false) (hw : ∀ env, swappedStores [.Tuple [.Name a pa, .Name b pb] k tpos] value env = pure none) :
    WS1 c (.Assign [.Tuple [.Name a pa, .Name b pb] k tpos] value pos) Q X vars led :=
  S_unpackK hi [(a, pa), (b, pb)] h (by intro x hx; simp at hx; rcases hx with rfl | rfl; exact ha; exact hb) hs hw (fun _ => rfl)
/-- the ledger in another order -/
theorem W_perm {α : Type} {t : Sem α} {R : α → Vars → Led → Prop} {led' : Led} (h : led.Perm led') (w : W c t R X vars led') : W c t R X vars led :=
  W_weak (fun _ h => h) id (fun _ hp => h.mem_iff.mpr hp) (fun hn => (h.map _).nodup_iff.mp hn) w
theorem WS_perm {b : List Stmt} {led' : Led} (h : led.Perm led') (w : WS c b Q X vars led') : WS c b Q X vars led := W_perm h w
/-- what holds behind a statement -/
noncomputable abbrev KCut (R : Vars → Led → Prop) : PF → Vars → Led → Prop := fun f v l => f = .next ∧ (E2 fun v' l' => A2 (Wk v l v' l') (R v' l'))
theorem S_cut {st : Stmt} {rest : List Stmt} (R : Vars → Led → Prop) (h1 : WS1 c st (KCut R) X vars led) (h2 : ∀ v l, R v l → WS c rest Q X v l) : WS c (st :: rest) Q X vars led := by
  refine S_cons (W_mono h1 ?_)
  rintro f v l ⟨hf, v', l', w, hr⟩
  rw [hf]
  exact W_wk0 w (h2 _ _ hr)
/-! the pen -/
structure Pen where
  cells : List Nat
  spot : Nat
  turn : Nat
noncomputable def Pen.po (C : Addr) (st : Pen) : PO := .list [.ref C, .int st.spot, .int st.turn]
noncomputable def Pen.co (st : Pen) : PO := .list (st.cells.map fun (n : Nat) => PV.int (n : Int))
inductive PenU (P C : Addr) (st st' : Pen) : Led → Led → Prop
  | here {r} : PenU P C st st' ((P, st.po C) :: (C, st.co) :: r) ((P, st'.po C) :: (C, st'.co) :: r)
  | there {q r r'} : PenU P C st st' r r' → PenU P C st st' (q :: r) (q :: r')
end
end
section
theorem closure_at {c : Cx} {a : Addr} (hcl : c.cl = [(("at" : Str), a)]) {sc : Scope} (hn : sc.names = [((".0" : Str), .local), (("begun" : Str), .local), (("at" : Str), .free)]) : closureFor sc c.own = pure [(("at" : Str), a)] := by
  have h : c.own.cells = [(("at" : Str), a)] := hcl
  have h2 : cellOf c.own "at" = pure a := by unfold cellOf; rw [h]; rfl
  unfold closureFor
  rw [hn]
  simp only [List.forIn_cons, List.forIn_nil, pure_bind, h2]
  rfl
theorem E_cell' {c : Cx} {X : Vars → Led → Prop} {vars : Vars} {led : Led} {Q : PV → Led → Prop} {x : Str} {pos : Pos} {a : Addr} {v : PV} (hi : c.inC = false) (ha : c.cl.lookup x = some a) (hx : c.cs.names.lookup x = some .cell) (hd : (x == ("__debug__" : Str)) = false) (hm : (a, .cell (some v)) ∈ led) (h : Q v led) :
    WE c (.Name x pos) Q X vars led := E_cell hi ha hm h hx hd
theorem WS_wk0 {c : Cx} {X : Vars → Led → Prop} {vars v' : Vars} {led l' : Led} {b : List Stmt} {Q : PF → Vars → Led → Prop} (w : Wk vars led v' l') (h : WS c b Q X v' l') : WS c b Q X vars led := W_wk0 w h
/-! ledgers -/
theorem UpdL.split {a : Addr} {po po' : PO} {l l' : Led} (h : UpdL a po po' l l') : (E2 fun pre post => A2 (l = pre ++ (a, po) :: post) (l' = pre ++ (a, po') :: post)) := by
  induction h with
  | here => exact ⟨[], _, rfl, rfl⟩
  | there _ ih => obtain ⟨pre, post, e1, e2⟩ := ih; exact ⟨_ :: pre, post, by rw [e1]; rfl, by rw [e2]; rfl⟩
theorem UpdL.of_split {a : Addr} {po po' : PO} : ∀ (pre post : Led), UpdL a po po' (pre ++ (a, po) :: post) (pre ++ (a, po') :: post)
  | [], _ => .here
  | _ :: pre, post => .there (UpdL.of_split pre post)
theorem UpdL.app {a : Addr} {po po' : PO} {l l' : Led} (h : UpdL a po po' l l') : ∀ pre : Led, UpdL a po po' (pre ++ l) (pre ++ l')
  | [] => h
  | _ :: pre => .there (h.app pre)
theorem UpdL.perm {a : Addr} {po po' : PO} {l₁ l₁' l : Led} (h : UpdL a po po' l₁ l₁') (hp : l.Perm l₁) : ∃ l', UpdL a po po' l l' ∧ l'.Perm l₁' := by
  obtain ⟨pre, post, rfl, rfl⟩ := h.split
  obtain ⟨p, q, rfl⟩ := List.append_of_mem (hp.mem_iff.mpr (List.mem_append_right _ (.head _)) : (a, po) ∈ l)
  refine ⟨_, UpdL.of_split p q, ?_⟩
  have h1 : ((a, po) :: (p ++ q)).Perm ((a, po) :: (pre ++ post)) := List.perm_middle.symm.trans (hp.trans List.perm_middle)
  exact List.perm_middle.trans ((h1.cons_inv.cons _).trans List.perm_middle.symm)
/-- a comprehension that makes pairs -/
noncomputable def tups (pairs : List (Addr × Int × Int)) : Led := pairs.map fun p => (p.1, .tuple [.int p.2.1, .int p.2.2])
theorem comp_pairs' {c : Cx} {csc : Scope} {cl : List (Str × Addr)} {elt : Expr} {Q : List PV → Led → Prop} {vars : Vars} {e : Int} (l₀ : Led)
    (helt : ∀ (b : Int) (l : Led) (c' : Cx), IsComp c c' csc cl "begun" (.int b) → (∀ p ∈ l₀, p ∈ l) → ∀ R : PV → Led → Prop, (∀ t, R (.ref t) ((t, .tuple [.int b, .int e]) :: l)) → WE c' elt R (fun _ _ => False) vars l) :
    ∀ (qs : List Int) (done : List (Addr × Int × Int)), (∀ more : List (Addr × Int × Int), more.map (·.2) = qs.map (fun b => (b, e)) → Q ((done ++ more).map fun p => .ref p.1) (tups ((done ++ more).reverse) ++ l₀)) →
      WComp c csc cl "begun" none elt Q vars (qs.map .int) (done.map fun p => .ref p.1) (tups done.reverse ++ l₀)
  | [], done, h => ⟨_, .refl _, by simpa using h [] rfl⟩
  | b :: qs, done, h => ⟨_, .refl _, fun c' hc => by
      refine helt b _ c' hc (fun p hp => List.mem_append_right _ hp) _ fun t => ?_
      have := comp_pairs' l₀ helt qs (done ++ [(t, b, e)]) fun more hm => by
        have := h ((t, b, e) :: more) (by simp [hm])
        simpa using this
      simpa [tups] using this⟩
end
section
section
variable {c : Cx} {X : Vars → Led → Prop} {vars : Vars} {led : Led} {Q : PF → Vars → Led → Prop}
theorem sw_of {sc : Scope} {T : List Expr} {V : Expr} {ts : Option (List Str)} (hi : c.inC = false) (h : c.cs = sc) (e : ∀ n L a cd cl, swappedStores T V (envX n sc L a cd cl) = pure ts) : c.Ok → swappedStores T V c.env = pure ts := fun ok => by
  have : c.env = envX c.cn c.cs c.L c.a c.cd c.cl := (ok.here hi).1
  rw [this, h]; exact e _ _ _ _ _
noncomputable abbrev KR2 (a : Str) (b : Str) (Q : PF → Vars → Led → Prop) (vars : Vars) : List PV → Led → Prop := fun ps l => ps.length ≤ 1000 ∧ ∀ r, (E2 fun q1 q2 => A2 (ps = [q1, q2]) (∃ w1, SetV b q2 vars w1 ∧ ∃ w2, SetV a q1 w1 w2 ∧ Q .next w2 ((r, .tuple ps) :: l)))
noncomputable abbrev KR3 (a : Str) (b : Str) (d : Str) (Q : PF → Vars → Led → Prop) (vars : Vars) : List PV → Led → Prop := fun ps l => ps.length ≤ 1000 ∧ ∀ r, (E3 fun q1 q2 q3 => A2 (ps = [q1, q2, q3]) (∃ w1, SetV d q3 vars w1 ∧ ∃ w2, SetV b q2 w1 w2 ∧ ∃ w3, SetV a q1 w2 w3 ∧ Q .next w3 ((r, .tuple ps) :: l)))
theorem S_unR2 {a b : Str} {pa pb tpos vpos pos : Pos} {k k2 : Nat} {v1 v2 : Expr} (hi : c.inC = false)
    (h : WL c [v1, v2] vpos (KR2 a b Q vars) X vars led)
    (ha : c.cs.names.lookup a = some .local) (hb : c.cs.names.lookup b = some .local)
    (hs : ∀ env, swapsWithSole [.Tuple [.Name a pa, .Name b pb] k tpos] (.Tuple [v1, v2] k2 vpos) pos.line env = pure false)
    (hw : c.Ok → swappedStores [.Tuple [.Name a pa, .Name b pb] k tpos] (.Tuple [v1, v2] k2 vpos) c.env = pure (some [a, b])) :
    WS1 c (.Assign [.Tuple [.Name a pa, .Name b pb] k tpos] (.Tuple [v1, v2] k2 vpos) pos) Q X vars led := by
  refine S_unpackR hi [a, b] (E_tuple (W_mono h ?_)) (by intro x hx; simp at hx; rcases hx with rfl | rfl; exact ha; exact hb) hs hw
  rintro vs v l ⟨rfl, hz, h⟩
  refine ⟨rfl, hz, fun r => ⟨_, .t (.head _), ?_⟩⟩
  obtain ⟨q1, q2, e, w1, h1, w2, h2, hq⟩ := h r
  rw [e] at hq ⊢
  exact ⟨w2, .cons h1 (.cons h2 .nil), hq⟩
theorem S_unR3 {a b d : Str} {pa pb pd tpos vpos pos : Pos} {k k2 : Nat} {v1 v2 v3 : Expr} (hi : c.inC = false)
    (h : WL c [v1, v2, v3] vpos (KR3 a b d Q vars) X vars led)
    (ha : c.cs.names.lookup a = some .local) (hb : c.cs.names.lookup b = some .local) (hd : c.cs.names.lookup d = some .local)
    (hs : ∀ env, swapsWithSole [.Tuple [.Name a pa, .Name b pb, .Name d pd] k tpos] (.Tuple [v1, v2, v3] k2 vpos) pos.line env = pure false)
    (hw : c.Ok → swappedStores [.Tuple [.Name a pa, .Name b pb, .Name d pd] k tpos] (.Tuple [v1, v2, v3] k2 vpos) c.env = pure (some [a, b, d])) :
    WS1 c (.Assign [.Tuple [.Name a pa, .Name b pb, .Name d pd] k tpos] (.Tuple [v1, v2, v3] k2 vpos) pos) Q X vars led := by
  refine S_unpackR hi [a, b, d] (E_tuple (W_mono h ?_)) (by intro x hx; simp at hx; rcases hx with rfl | rfl | rfl; exact ha; exact hb; exact hd) hs hw
  rintro vs v l ⟨rfl, hz, h⟩
  refine ⟨rfl, hz, fun r => ⟨_, .t (.head _), ?_⟩⟩
  obtain ⟨q1, q2, q3, e, w1, h1, w2, h2, w3, h3, hq⟩ := h r
  rw [e] at hq ⊢
  exact ⟨w3, .cons h1 (.cons h2 (.cons h3 .nil)), hq⟩
end
theorem WComp_filter {c : Cx} {csc cl x t elt} {Q : List PV → Led → Prop} {vars : Vars} (f : PV → PV) (p : PV → Bool) (led : Led) : ∀ (its : List PV)
    (hT : ∀ q ∈ its, ∀ c', IsComp c c' csc cl x q → ∀ R : Bool → Led → Prop, R (p q) led → WT c' t R (fun _ _ => False) vars led)
    (hE : ∀ q ∈ its, p q = true → ∀ c', IsComp c c' csc cl x q → ∀ R : PV → Led → Prop, R (f q) led → WE c' elt R (fun _ _ => False) vars led)
    (ys : List PV), Q (ys ++ (its.filter p).map f) led → WComp c csc cl x (some t) elt Q vars its ys led
  | [], _, _, ys, hQ => ⟨led, .refl _, by simpa using hQ⟩
  | q :: rest, hT, hE, ys, hQ => ⟨led, .refl _, fun c' hc => hT q (.head _) c' hc _ (by
      have hT' := fun q hq => hT q (.tail _ hq)
      have hE' := fun q hq => hE q (.tail _ hq)
      cases hp : p q with
      | true =>
        simp only [if_true]
        exact hE q (.head _) hp c' hc _ (WComp_filter f p led rest hT' hE' (ys ++ [f q]) (by simpa [hp] using hQ))
      | false =>
        simp only [Bool.false_eq_true, if_false]
        exact WComp_filter f p led rest hT' hE' ys (by simpa [hp] using hQ))⟩
theorem Bi_perm {c : Cx} {X : Vars → Led → Prop} {vars : Vars} {led led' : Led} {f : Value} {ps : List PV} {Q : PV → Led → Prop} (h : led.Perm led') (b : Bi c f ps Q X vars led') : Bi c f ps Q X vars led := fun vals hv => W_perm h (b vals hv)
theorem Pick.perm {a : Addr} {po : PO} {l l₀ : Led} (h : Pick a po l l₀) : l.Perm ((a, po) :: l₀) := by
  induction h with
  | here => exact .refl _
  | there _ ih => exact (ih.cons _).trans (List.Perm.swap _ _ _)
theorem cut_sub {α : Type} {xs : List α} {lo hi : Option Int} {u : α} (h : u ∈ cut xs lo hi) : u ∈ xs := List.mem_of_mem_drop (List.mem_of_mem_take h)
theorem cut_le {α : Type} (xs : List α) (lo hi : Option Int) : (cut xs lo hi).length ≤ xs.length := by unfold cut; rw [List.length_take, List.length_drop]; lia
theorem ite_nf {A B : Prop} (h : A) : if (!false) = true then A else B := by simpa using h
theorem ite_nt {A B : Prop} (h : B) : if (!true) = true then A else B := by simpa using h
theorem ite_nd {P : Prop} [Decidable P] {A B : Prop} (h1 : ¬ P → A) (h2 : P → B) : if (!decide P) = true then A else B := by
  by_cases h : P
  · simp only [h, decide_true, Bool.not_true, Bool.false_eq_true, if_false]; exact h2 h
  · simp only [h, decide_false, Bool.not_false, if_true]; exact h1 h
theorem Bi_min' {c : Cx} {X : Vars → Led → Prop} {vars : Vars} {led : Led} {Q : PV → Led → Prop} {a b : Int} {n : Nat} (hn : (if b < a then b else a) = (n : Int)) (h : Q (.int n) led) : Bi c (.builtin "min") [.int a, .int b] Q X vars led := Bi_min (hn ▸ h)
theorem Bi_max' {c : Cx} {X : Vars → Led → Prop} {vars : Vars} {led : Led} {Q : PV → Led → Prop} {a b : Int} {n : Nat} (hn : (if b > a then b else a) = (n : Int)) (h : Q (.int n) led) : Bi c (.builtin "max") [.int a, .int b] Q X vars led := Bi_max (hn ▸ h)
end
section
/-- what is to be shown of the law's own body -/
noncomputable def LawBody (body : List Stmt) (scope : Scope) (k : Nat) : Prop :=
  ∀ (c' : Cx) sa ns, c'.room = k → c'.can = false → c'.cs = scope → c'.inC = false → c'.outer = [] → c'.cl = [] → HasScript c' sa ns → ns.length ≤ 63 →
    WS c' body (fun fl _ _ => fl = .ret (.bool true)) (fun _ _ => False) [("script", .ref sa)] []
theorem enter {w : World} {s₁ : Shared} {loose : List Str} {mean : ExcName → Option Value} {mg mb : Str → Option Value} {p : Program} {h₁ : Heap} {vs : List Value} {ns : List Int} {sa fa : Addr} {cd : Value} {body : List Stmt} {qual : Str} {scope : Scope} {cc : ClaimW} {cl : Str → Option Addr} {mean' : ExcName → Option Value} {args : List WData} {E : Value → Shared → Prop}
    (KX : (KF w).In s₁.heap) (T0 : Top p loose mean mg mb s₁.heap) (F0 : Fr s₁.heap s₁.heap.objs.size h₁ fun x => List.lookup x [(("script" : Str), Value.ref sa)].reverse) (N0 : News s₁.heap s₁.heap.objs.size h₁ []) (hI : IntsAre vs ns) (hL : s₁.heap.IsList sa vs.toArray) (hB : Below callerA s₁.heap [] s₁.heap) (hlen : ¬ (63 : Int) < (ns.length : Int)) (hg : s₁.gens = #[])
    (hn : ∀ cls, cc.raises args cls = false) (hp : cc.post args (.bool true) args = true) (hk : scope.kind = .function) (hE : PassesOwn (model PG w) (callerA.deeper (envOf qual scope s₁.heap.objs.size fa cd)) (envOf qual scope s₁.heap.objs.size fa cd) E)
    (h : LawBody body scope 20) (n : Nat) :
    wpAny (model PG w) (callerA.deeper (envOf qual scope s₁.heap.objs.size fa cd)) (execs body (envOf qual scope s₁.heap.objs.size fa cd)) (fun f s' => GoodW cc cl mean' args s₁ (.ok (.ret (match f with | .ret v => v | _ => .none))) s') E { s₁ with heap := h₁, toks := n } := by
  let c : Cx := { w := w, A := callerA.deeper (envOf qual scope s₁.heap.objs.size fa cd), A₀ := callerA, cn := qual, cs := scope, a := fa, cd := cd, L := s₁.heap.objs.size, outer := [], base := s₁.heap, G₀ := s₁.heap, can := false, s₀ := s₁, p := p, loose := loose, mean := mean, mg := mg, mb := mb, room := 20, cl := [], ev := envOf qual scope s₁.heap.objs.size fa cd, inC := false, keepo := [], cm := none, csc := scope, ccl := [], cvars := [] }
  have ok : c.Ok := ⟨rfl, by show (callerA.deeper _).frames = _; rw [Around.frames_deeper hB.stack]; rfl, fun _ => ⟨rfl, rfl⟩, fun h => (by cases h), hk, by show callerA.depth + 1 + 20 < _; decide, by show callerA.units + 3 + 10 * 20 + 100 < _; decide, KX, T0⟩
  have hs : St c [] [("script", .ref sa)] [] { s₁ with heap := h₁, toks := n } := ⟨s₁.heap, _, [], ⟨hB, KX, T0, rfl, ktsDicts_nil⟩, F0, N0, ⟨by simp, fun p hp => by
    obtain rfl := List.mem_singleton.mp hp; exact ⟨.ref sa, by simp, rfl⟩, fun _ h => (nomatch h)⟩, .nil, rfl⟩
  refine wpAny_mono (h c sa ns rfl rfl rfl rfl rfl rfl ⟨vs, hL, hI⟩ (by lia) ok [] E ⟨fun _ h => (nomatch h), fun _ => hE⟩ (fun _ _ _ _ _ h => h.elim) _ hs) ?_ fun _ _ x => x
  rintro f s' ⟨v, l, ⟨h₀', m', news', G', F', N', V', L', Sm⟩, hq⟩
  obtain rfl : h₀' = s₁.heap := G'.turn
  cases f with
  | ret r =>
    have : er r = .bool true := by injection hq
    obtain rfl := er_bool this
    have e : s' = { s₁ with heap := s'.heap, toks := s'.toks } := Sm
    exact goodW_bool F' (by rw [e]; exact hg) hn hp (by rw [e])
  | _ => cases hq
end
set_option compiler.extract_closed false
local macro_rules | `(tactic| wtm_at "mt") => `(tactic| (intros; with_unfolding_all rfl))
local macro_rules | `(tactic| wtm_at "pv") => `(tactic| first | exact PVof.ref | exact PVof.int | exact PVof.bytes | exact PVof.str)
local macro_rules | `(tactic| wtm_at "mem") => `(tactic| first | exact List.mem_cons_self | (refine List.mem_cons_of_mem _ ?_; wtm_at "mem"))
local macro_rules | `(tactic| wtm_at "loc") => `(tactic| (apply loc_of; assumption; with_unfolding_all rfl))
local macro_rules | `(tactic| wtm_at "setv") => `(tactic| first | exact SetV.here | exact SetV.nil | (apply SetV.there; decide; wtm_at "setv"))
local macro_rules | `(tactic| wtm_at "setvs") => `(tactic| first | exact SetVs.nil | (apply SetVs.cons; wtm_at "setv"; wtm_at "setvs"))
local macro_rules | `(tactic| wtm_at "upd") => `(tactic| first | exact UpdL.here | (apply UpdL.there; wtm_at "upd"))
local macro_rules | `(tactic| wtm_at "pick") => `(tactic| first | exact Pick.here | (apply Pick.there; wtm_at "pick"))
local macro_rules | `(tactic| wtm_at "dbg") => `(tactic| with_unfolding_all decide)
local macro_rules | `(tactic| wtm_at "side") => `(tactic| first | assumption | lia | (simp at *; lia))
local macro_rules | `(tactic| wtm_at "name") => `(tactic| first
  | ((with_reducible refine' E_loc ?_ ?_ ?_ ?_ ?_); rotate_left; assumption; wtm_at "mem"; rotate_left; wtm_at "loc"; wtm_at "dbg")
  | ((with_reducible refine' E_topP ?_ ?_ ?_ ?_ ?_ ?_); rotate_left 2; assumption; wtm_at "loc"; rotate_left; (exact fun w => by with_unfolding_all exact rfl); wtm_at "pv"; wtm_at "dbg")
  | ((with_reducible refine' E_blt ?_ ?_ ?_ ?_ ?_ ?_ ?_); rotate_left; assumption; wtm_at "loc"; rotate_left; (exact fun w => by with_unfolding_all exact rfl); (with_unfolding_all rfl); decide; wtm_at "dbg"))
local macro_rules | `(tactic| wtm_at "cname") => `(tactic| first
  | ((with_reducible refine' C_var ?_ ?_ ?_ ?_ ?_); rotate_left; exact IsComp.inC (by assumption); rw [IsComp.cv (by assumption)]; wtm_at "mem"; rotate_left; rw [IsComp.csc (by assumption)]; (with_unfolding_all rfl); wtm_at "dbg")
  | ((with_reducible refine' C_topP ?_ ?_ ?_ ?_ ?_ ?_); rotate_left 2; exact IsComp.inC (by assumption); rw [IsComp.csc (by assumption)]; (with_unfolding_all rfl); rotate_left; (exact fun w => by with_unfolding_all exact rfl); wtm_at "pv"; wtm_at "dbg")
  | ((with_reducible refine' C_blt ?_ ?_ ?_ ?_ ?_ ?_ ?_); rotate_left; exact IsComp.inC (by assumption); rw [IsComp.csc (by assumption)]; (with_unfolding_all rfl); rotate_left; (exact fun w => by with_unfolding_all exact rfl); (with_unfolding_all rfl); decide; wtm_at "dbg"))
local macro_rules | `(tactic| wtm_at "nm") => `(tactic| focus ((first | wtm_at "name" | wtm_at "cname"); with_unfolding_all exact ⟨rfl, rfl⟩))
local macro_rules | `(tactic| wtm_at "meth") => `(tactic| first
  | ((with_reducible (first
    | refine' E_meth (o := .Constant (.str _) _ _) F.plainAttrs_str F.slot_str_join F.type_str_join ?_ ?_ ?_ ?_ ?_
    | refine' E_meth (o := .Constant (.bytes _) _ _) FB.plainAttrs_bytes slot_bytes_join type_bytes_join ?_ ?_ ?_ ?_ ?_
    | refine' E_meth F.plainAttrs_list F.slot_list_append F.type_list_append ?_ ?_ ?_ ?_ ?_
    | refine' E_meth F.plainAttrs_str F.slot_str_rfind F.type_str_rfind ?_ ?_ ?_ ?_ ?_
    | refine' E_meth F.plainAttrs_str F.slot_str_split F.type_str_split ?_ ?_ ?_ ?_ ?_
    | refine' E_meth F.plainAttrs_dict F.slot_dict_get F.type_dict_get ?_ ?_ ?_ ?_ ?_
    | refine' E_meth F.plainAttrs_dict F.slot_dict_update F.type_dict_update ?_ ?_ ?_ ?_ ?_)); rotate_left; wtm_at "mt"; wtm_at "mt"; wtm_at "mt"; rotate_left)
  | ((with_reducible refine' E_meth0 F.plainAttrs_list F.slot_list_pop F.type_list_pop ?_ ?_ ?_); rotate_left; wtm_at "mt"; rotate_left))
local macro_rules | `(tactic| wtm_at "sw") => `(tactic| (apply sw_of; assumption; assumption; intros; with_unfolding_all rfl))
local macro_rules | `(tactic| wtm_at "sz") => `(tactic| first | assumption | lia | (simp only [List.length_map, List.length_flatten, List.length_append, List.length_cons, List.length_nil, List.length_replicate, List.length_take, List.length_drop] at *; lia))
local macro_rules | `(tactic| wtm_at "subl") => `(tactic| first | exact List.Sublist.refl _ | (refine List.Sublist.cons_cons _ ?_; wtm_at "subl") | (refine List.Sublist.cons _ ?_; wtm_at "subl"))
local macro_rules | `(tactic| wtm_at "wk") => `(tactic| (constructor <;> wtm_at "subl"))
section
noncomputable def lowerN (c : Nat) : Nat := if 65 ≤ c ∧ c ≤ 90 then c + 32 else c
noncomputable def atomSigns : List UInt8 := [33, 35, 36, 37, 38, 39, 42, 43, 45, 47, 61, 63, 94, 95, 96, 123, 124, 125, 126]
noncomputable def isAtom (c : Nat) : Bool := decide (48 ≤ c ∧ c ≤ 57) || decide (65 ≤ c ∧ c ≤ 90) || decide (97 ≤ c ∧ c ≤ 122) || decide (127 < c) || decide (UInt8.ofNat c ∈ atomSigns)
noncomputable def isRunC (c : Nat) : Bool := decide (c < 127) && (decide (c = 46) || isAtom c)
section
variable {Q : PV → Led → Prop} {X : Led → Prop} {led : Led}
theorem finB {b b' : Bool} (h : Q (.bool b') led) (e : b = b') : Q (PF.val (.ret (.bool b))) led := e ▸ h
theorem finI {b b' : Int} (h : Q (.int b') led) (e : b = b') : Q (PF.val (.ret (.int b))) led := e ▸ h
theorem c_lower_code {n : Nat} (h : Q (.int (lowerN n)) led) : Fn 61 1 [.int n] Q X led := by
  refine Fn_1 "code" (fun w => by exact rfl) (fun w => by exact rfl) (fun _ => rfl) (by decide) (fun c' hr hc hs hi => ?_)
  repeat' (focus (first | with_reducible (first | refine Thn_ret ?_ | refine S_cons ?_ | refine S_ret ?_ | refine E_int ?_ | refine E_bin ?_ | refine E_if ?_ | refine E_op ?_ | refine E_op1 ?_ | refine E_or ?_ | refine B_add ?_ | refine C_le ?_ | refine C_gt ?_ | refine Tr_bool ?_ | refine ite_f ?_ | refine ite_d (fun _ => ?_) (fun _ => ?_)) | ((with_reducible refine' ⟨?_, fun _ => ?_⟩); exact Nat.le_of_ble_eq_true rfl) | (with_reducible refine ⟨_, rfl, ?_⟩) | (with_reducible refine ⟨_, _, rfl, ?_⟩) | (with_reducible refine ⟨_, _, _, rfl, ?_⟩) | ((with_reducible (first | refine' E_cmp ?_ ?_ | refine' T_chain ?_ ?_ | refine' E_chain ?_ ?_)); rotate_left; wtm_at "mt") | wtm_at "name"))
  · show Q (.int ((n : Int) + 32)) led
    rw [show ((n : Int) + 32) = ((lowerN n : Nat) : Int) by unfold lowerN; rw [if_pos (by lia)]; rfl]; exact h
  · show Q (.int n) led
    rw [show n = lowerN n by unfold lowerN; rw [if_neg (by lia)]]; exact h
  · show Q (.int n) led
    rw [show n = lowerN n by unfold lowerN; rw [if_neg (by lia)]]; exact h
theorem c_is_atom {n : Nat} (hn : n < 256) (h : Q (.bool (isAtom n)) led) : Fn 74 1 [.int n] Q X led := by
  refine Fn_1 "code" (fun w => by exact rfl) (fun w => by exact rfl) (fun _ => rfl) (by decide) (fun c' hr hc hs hi => ?_)
  repeat' (first | (focus (first | with_reducible (first | refine Thn_ret ?_ | refine S_cons ?_ | refine S_ret ?_ | refine E_int ?_ | refine E_bin ?_ | refine E_if ?_ | refine E_op ?_ | refine E_op1 ?_ | refine E_or ?_ | refine B_add ?_ | refine C_le ?_ | refine C_gt ?_ | refine Tr_bool ?_ | refine ite_f ?_ | refine ite_d (fun _ => ?_) (fun _ => ?_)) | ((with_reducible refine' ⟨?_, fun _ => ?_⟩); exact Nat.le_of_ble_eq_true rfl) | (with_reducible refine ⟨_, rfl, ?_⟩) | (with_reducible refine ⟨_, _, rfl, ?_⟩) | (with_reducible refine ⟨_, _, _, rfl, ?_⟩) | ((with_reducible (first | refine' E_cmp ?_ ?_ | refine' T_chain ?_ ?_ | refine' E_chain ?_ ?_)); rotate_left; wtm_at "mt") | wtm_at "name")) | refine C_inB ⟨by lia, by lia⟩ ?_)
  all_goals (refine finB h ?_; simp only [isAtom, Int.toNat_natCast, atomSigns]; grind)
end
end
section
section
variable {Q : PV → Led → Prop} {X : Led → Prop} {led : Led}
theorem cut_1 {α : Type} (xs : List α) (i : Nat) : cut xs (some (i : Int)) (some ((i : Int) + 1)) = (xs.drop i).take 1 := by
  have := cut_nat xs i (i + 1)
  rw [show (i : Int) + 1 = ((i + 1 : Nat) : Int) by lia, this, show i + 1 - i = 1 by lia]
theorem cut_2 {α : Type} (xs : List α) (i : Nat) : cut xs (some (i : Int)) (some ((i : Int) + 2)) = (xs.drop i).take 2 := by
  have := cut_nat xs i (i + 2)
  rw [show (i : Int) + 2 = ((i + 2 : Nat) : Int) by lia, this, show i + 2 - i = 2 by lia]
theorem cut_11 {α : Type} (xs : List α) (i : Nat) : cut xs (some ((i : Int) + 1)) (some ((i : Int) + 2)) = (xs.drop (i + 1)).take 1 := by
  have := cut_nat xs (i + 1) (i + 2)
  rw [show (i : Int) + 2 = ((i + 2 : Nat) : Int) by lia, show (i : Int) + 1 = ((i + 1 : Nat) : Int) by lia, this, show i + 2 - (i + 1) = 1 by lia]
theorem sum_ones {α β : Type} (f : α → β) : ∀ l : List α, (l.map ((fun x => x.length) ∘ fun u => [f u])).sum = l.length
  | [] => rfl
  | a :: r => by simp [sum_ones f r]; lia
theorem emptyS : (Str.ofString "").cps.toList = [] := by rfl
theorem joinL_nil {α : Type} : ∀ l : List (List α), joinL [] l = l.flatten
  | [] => rfl
  | [x] => by simp [joinL]
  | x :: y :: r => by rw [joinL, joinL_nil (y :: r)]; simp
/-- a line's end at the head -/
noncomputable def lineE : List UInt8 → Option Nat
  | 10 :: _ => some 1
  | 13 :: 10 :: _ => some 2
  | _ => none
theorem lineE_eq (l : List UInt8) : lineE l = if l.take 1 = [10] then some 1 else if l.take 2 = [13, 10] then some 2 else none := by
  unfold lineE
  split
  · simp
  · simp
  · rename_i h1 h2
    match l with
    | [] => simp
    | [x] => simp; intro h; exact absurd rfl (h1 [] |> fun f => by subst h; exact f)
    | x :: y :: r =>
      have a1 : ¬ x = 10 := fun h => h1 (y :: r) (by rw [h])
      have a2 : ¬ (x = 13 ∧ y = 10) := fun h => h2 r (by rw [h.1, h.2])
      simp [a1, a2]
theorem c_line_end {d : List UInt8} {i : Nat} (hd : d.length ≤ 100000)
    (h : Q (.int (match lineE (d.drop i) with | some n => (i + n : Nat) | none => -1)) led) : Fn 81 1 [.bytes d, .int i] Q X led := by
  refine Fn_2 "data" "at" (fun w => by exact rfl) (fun w => by exact rfl) (fun _ _ => rfl) (by decide) (by decide) (fun c' hr hc hs hi => ?_)
  rw [lineE_eq] at h
  repeat' (focus (first | with_reducible (first | refine Thn_next ?_ | refine Thn_ret ?_ | refine S_nil ?_ | refine S_cons ?_ | refine S_ret ?_ | refine S_if ?_ | refine E_int ?_ | refine E_str ?_ | refine E_bytes ?_ | refine L_nil ?_ | refine E_bin ?_ | refine E_slice ?_ | refine P_some ?_ | refine E_if ?_ | refine E_neg ?_ | refine E_op ?_ | refine E_op1 ?_ | refine E_and ?_ | refine E_or ?_ | refine B_add ?_ | refine C_lt ?_ | refine C_eq ?_ | refine C_eqB ?_ | refine Tr_bool ?_ | refine ite_d (fun _ => ?_) (fun _ => ?_) | refine ⟨Recv.str, ?_⟩) | ((with_reducible refine' ⟨_, Cuts.b ?_, ?_⟩); wtm_at "side") | ((with_reducible refine' ⟨?_, fun _ => ?_⟩); exact Nat.le_of_ble_eq_true rfl) | (with_reducible refine ⟨_, rfl, ?_⟩) | (with_reducible refine ⟨_, _, rfl, ?_⟩) | (with_reducible refine ⟨_, _, _, rfl, ?_⟩) | ((with_reducible (first | refine' L_cons ?_ ?_ | refine' E_cmp ?_ ?_ | refine' T_cmp ?_ ?_)); rotate_left; wtm_at "mt") | wtm_at "name" | ((with_reducible refine' E_fn ?_ ?_ ?_ ?_ ?_ ?_); rotate_left 2; wtm_at "nm"; (exact fun w => by with_unfolding_all exact rfl); rotate_left; wtm_at "mt"; wtm_at "mt"; rotate_left) | ((with_reducible refine' E_bf ?_ ?_ ?_ ?_); rotate_left; wtm_at "nm"; wtm_at "mt"; wtm_at "mt") | wtm_at "cname" | ((with_reducible refine' E_meth (o := .Constant (.str _) _ _) PySem.F.plainAttrs_str PySem.F.slot_str_join PySem.F.type_str_join ?_ ?_ ?_ ?_ ?_); rotate_left; wtm_at "mt"; wtm_at "mt"; wtm_at "mt"; rotate_left)))
  · rename_i e; rw [cut_1] at e; refine finI h ?_
    rw [if_pos e]; simp
  · rename_i e1 e2; rw [cut_1] at e1; rw [cut_2] at e2; refine finI h ?_
    rw [if_neg e1, if_pos e2]; simp
  · rename_i e1 e2; rw [cut_1] at e1; rw [cut_2] at e2; refine finI h ?_
    rw [if_neg e1, if_neg e2]
theorem c_is_run_code {n : Nat} (hn : n < 256) (h : Q (.bool (isRunC n)) led) : Fn 110 2 [.int n] Q X led := by
  refine Fn_1 "code" (fun w => by exact rfl) (fun w => by exact rfl) (fun _ => rfl) (by decide) (fun c' hr hc hs hi => ?_)
  repeat' (first | (focus (first | with_reducible (first | refine Thn_next ?_ | refine Thn_ret ?_ | refine S_nil ?_ | refine S_cons ?_ | refine S_ret ?_ | refine S_if ?_ | refine E_int ?_ | refine E_str ?_ | refine E_bytes ?_ | refine L_nil ?_ | refine E_bin ?_ | refine E_slice ?_ | refine P_some ?_ | refine E_if ?_ | refine E_neg ?_ | refine E_op ?_ | refine E_op1 ?_ | refine E_and ?_ | refine E_or ?_ | refine B_add ?_ | refine C_lt ?_ | refine C_eq ?_ | refine C_eqB ?_ | refine Tr_bool ?_ | refine ite_d (fun _ => ?_) (fun _ => ?_) | refine ⟨Recv.str, ?_⟩) | ((with_reducible refine' ⟨_, Cuts.b ?_, ?_⟩); wtm_at "side") | ((with_reducible refine' ⟨?_, fun _ => ?_⟩); exact Nat.le_of_ble_eq_true rfl) | (with_reducible refine ⟨_, rfl, ?_⟩) | (with_reducible refine ⟨_, _, rfl, ?_⟩) | (with_reducible refine ⟨_, _, _, rfl, ?_⟩) | ((with_reducible (first | refine' L_cons ?_ ?_ | refine' E_cmp ?_ ?_ | refine' T_cmp ?_ ?_)); rotate_left; wtm_at "mt") | wtm_at "name" | ((with_reducible refine' E_fn ?_ ?_ ?_ ?_ ?_ ?_); rotate_left 2; wtm_at "nm"; (exact fun w => by with_unfolding_all exact rfl); rotate_left; wtm_at "mt"; wtm_at "mt"; rotate_left) | ((with_reducible refine' E_bf ?_ ?_ ?_ ?_); rotate_left; wtm_at "nm"; wtm_at "mt"; wtm_at "mt") | wtm_at "cname" | ((with_reducible refine' E_meth (o := .Constant (.str _) _ _) PySem.F.plainAttrs_str PySem.F.slot_str_join PySem.F.type_str_join ?_ ?_ ?_ ?_ ?_); rotate_left; wtm_at "mt"; wtm_at "mt"; wtm_at "mt"; rotate_left))) | refine c_is_atom (by lia) ?_)
  all_goals (first | (rw [hr]; decide) | (refine finB h ?_; simp only [isRunC]; grind))
theorem c_lower_text {x : List Nat} (hz : x.length ≤ 100000) (hx : ∀ u ∈ x, u < 0x110000) (h : Q (.str (x.map lowerN)) led) : Fn 66 2 [.str x] Q X led := by
  refine Fd_1 "text" (fun w => by exact rfl) (fun w => by exact rfl) (fun _ => rfl) (by decide) (fun c' hr hc hs hi => ?_)
  repeat' (first | (focus (first | with_reducible (first | refine Thn_next ?_ | refine Thn_ret ?_ | refine S_nil ?_ | refine S_cons ?_ | refine S_ret ?_ | refine S_if ?_ | refine E_int ?_ | refine E_str ?_ | refine E_bytes ?_ | refine L_nil ?_ | refine E_bin ?_ | refine E_slice ?_ | refine P_some ?_ | refine E_if ?_ | refine E_neg ?_ | refine E_op ?_ | refine E_op1 ?_ | refine E_and ?_ | refine E_or ?_ | refine B_add ?_ | refine C_lt ?_ | refine C_eq ?_ | refine C_eqB ?_ | refine Tr_bool ?_ | refine ite_d (fun _ => ?_) (fun _ => ?_) | refine ⟨Recv.str, ?_⟩) | ((with_reducible refine' ⟨_, Cuts.b ?_, ?_⟩); wtm_at "side") | ((with_reducible refine' ⟨?_, fun _ => ?_⟩); exact Nat.le_of_ble_eq_true rfl) | (with_reducible refine ⟨_, rfl, ?_⟩) | (with_reducible refine ⟨_, _, rfl, ?_⟩) | (with_reducible refine ⟨_, _, _, rfl, ?_⟩) | ((with_reducible (first | refine' L_cons ?_ ?_ | refine' E_cmp ?_ ?_ | refine' T_cmp ?_ ?_)); rotate_left; wtm_at "mt") | wtm_at "name" | ((with_reducible refine' E_fn ?_ ?_ ?_ ?_ ?_ ?_); rotate_left 2; wtm_at "nm"; (exact fun w => by with_unfolding_all exact rfl); rotate_left; wtm_at "mt"; wtm_at "mt"; rotate_left) | ((with_reducible refine' E_bf ?_ ?_ ?_ ?_); rotate_left; wtm_at "nm"; wtm_at "mt"; wtm_at "mt") | wtm_at "cname" | ((with_reducible refine' E_meth (o := .Constant (.str _) _ _) PySem.F.plainAttrs_str PySem.F.slot_str_join PySem.F.type_str_join ?_ ?_ ?_ ?_ ?_); rotate_left; wtm_at "mt"; wtm_at "mt"; wtm_at "mt"; rotate_left))) | (focus ((with_reducible apply E_compS0); assumption; assumption; exact closureFor_none (by decide); exact relab_free (by decide); rfl; decide; decide; wtm_at "mt"; wtm_at "mt")))
  refine ⟨by lia, WComp_map (fun p => match p with | .str [u] => .str [lowerN u] | p => p) led _ (fun p hp c₂ hcc R hR => ?_) [] (fun r => ?_)⟩
  · obtain ⟨u, hu, rfl⟩ := List.mem_map.mp hp
    repeat' (first | (focus (first | with_reducible (first | refine Thn_next ?_ | refine Thn_ret ?_ | refine S_nil ?_ | refine S_cons ?_ | refine S_ret ?_ | refine S_if ?_ | refine E_int ?_ | refine E_str ?_ | refine E_bytes ?_ | refine L_nil ?_ | refine E_bin ?_ | refine E_slice ?_ | refine P_some ?_ | refine E_if ?_ | refine E_neg ?_ | refine E_op ?_ | refine E_op1 ?_ | refine E_and ?_ | refine E_or ?_ | refine B_add ?_ | refine C_lt ?_ | refine C_eq ?_ | refine C_eqB ?_ | refine Tr_bool ?_ | refine ite_d (fun _ => ?_) (fun _ => ?_) | refine ⟨Recv.str, ?_⟩) | ((with_reducible refine' ⟨_, Cuts.b ?_, ?_⟩); wtm_at "side") | ((with_reducible refine' ⟨?_, fun _ => ?_⟩); exact Nat.le_of_ble_eq_true rfl) | (with_reducible refine ⟨_, rfl, ?_⟩) | (with_reducible refine ⟨_, _, rfl, ?_⟩) | (with_reducible refine ⟨_, _, _, rfl, ?_⟩) | ((with_reducible (first | refine' L_cons ?_ ?_ | refine' E_cmp ?_ ?_ | refine' T_cmp ?_ ?_)); rotate_left; wtm_at "mt") | wtm_at "name" | ((with_reducible refine' E_fn ?_ ?_ ?_ ?_ ?_ ?_); rotate_left 2; wtm_at "nm"; (exact fun w => by with_unfolding_all exact rfl); rotate_left; wtm_at "mt"; wtm_at "mt"; rotate_left) | ((with_reducible refine' E_bf ?_ ?_ ?_ ?_); rotate_left; wtm_at "nm"; wtm_at "mt"; wtm_at "mt") | wtm_at "cname" | ((with_reducible refine' E_meth (o := .Constant (.str _) _ _) PySem.F.plainAttrs_str PySem.F.slot_str_join PySem.F.type_str_join ?_ ?_ ?_ ?_ ?_); rotate_left; wtm_at "mt"; wtm_at "mt"; wtm_at "mt"; rotate_left))) | refine c_lower_code ?_ | refine Bi_ord ?_ | refine Bi_chr ?_ (by lia) ?_)
    · rw [hcc.room, hr]; decide
    · simpa using hR
    · have := hx u hu; unfold lowerN; split <;> lia
  · repeat' (focus (first | with_reducible (first | refine Thn_next ?_ | refine Thn_ret ?_ | refine S_nil ?_ | refine S_cons ?_ | refine S_ret ?_ | refine S_if ?_ | refine E_int ?_ | refine E_str ?_ | refine E_bytes ?_ | refine L_nil ?_ | refine E_bin ?_ | refine E_slice ?_ | refine P_some ?_ | refine E_if ?_ | refine E_neg ?_ | refine E_op ?_ | refine E_op1 ?_ | refine E_and ?_ | refine E_or ?_ | refine B_add ?_ | refine C_lt ?_ | refine C_eq ?_ | refine C_eqB ?_ | refine Tr_bool ?_ | refine ite_d (fun _ => ?_) (fun _ => ?_) | refine ⟨Recv.str, ?_⟩) | ((with_reducible refine' ⟨_, Cuts.b ?_, ?_⟩); wtm_at "side") | ((with_reducible refine' ⟨?_, fun _ => ?_⟩); exact Nat.le_of_ble_eq_true rfl) | (with_reducible refine ⟨_, rfl, ?_⟩) | (with_reducible refine ⟨_, _, rfl, ?_⟩) | (with_reducible refine ⟨_, _, _, rfl, ?_⟩) | ((with_reducible (first | refine' L_cons ?_ ?_ | refine' E_cmp ?_ ?_ | refine' T_cmp ?_ ?_)); rotate_left; wtm_at "mt") | wtm_at "name" | ((with_reducible refine' E_fn ?_ ?_ ?_ ?_ ?_ ?_); rotate_left 2; wtm_at "nm"; (exact fun w => by with_unfolding_all exact rfl); rotate_left; wtm_at "mt"; wtm_at "mt"; rotate_left) | ((with_reducible refine' E_bf ?_ ?_ ?_ ?_); rotate_left; wtm_at "nm"; wtm_at "mt"; wtm_at "mt") | wtm_at "cname" | ((with_reducible refine' E_meth (o := .Constant (.str _) _ _) PySem.F.plainAttrs_str PySem.F.slot_str_join PySem.F.type_str_join ?_ ?_ ?_ ?_ ?_); rotate_left; wtm_at "mt"; wtm_at "mt"; wtm_at "mt"; rotate_left)))
    refine Bi_joinS (ss := x.map fun u => [lowerN u]) List.mem_cons_self (by simp) (by rw [emptyS]; simp [sum_ones]; lia) ?_
    repeat' (focus (first | with_reducible (first | refine Thn_next ?_ | refine Thn_ret ?_ | refine S_nil ?_ | refine S_cons ?_ | refine S_ret ?_ | refine S_if ?_ | refine E_int ?_ | refine E_str ?_ | refine E_bytes ?_ | refine L_nil ?_ | refine E_bin ?_ | refine E_slice ?_ | refine P_some ?_ | refine E_if ?_ | refine E_neg ?_ | refine E_op ?_ | refine E_op1 ?_ | refine E_and ?_ | refine E_or ?_ | refine B_add ?_ | refine C_lt ?_ | refine C_eq ?_ | refine C_eqB ?_ | refine Tr_bool ?_ | refine ite_d (fun _ => ?_) (fun _ => ?_) | refine ⟨Recv.str, ?_⟩) | ((with_reducible refine' ⟨_, Cuts.b ?_, ?_⟩); wtm_at "side") | ((with_reducible refine' ⟨?_, fun _ => ?_⟩); exact Nat.le_of_ble_eq_true rfl) | (with_reducible refine ⟨_, rfl, ?_⟩) | (with_reducible refine ⟨_, _, rfl, ?_⟩) | (with_reducible refine ⟨_, _, _, rfl, ?_⟩) | ((with_reducible (first | refine' L_cons ?_ ?_ | refine' E_cmp ?_ ?_ | refine' T_cmp ?_ ?_)); rotate_left; wtm_at "mt") | wtm_at "name" | ((with_reducible refine' E_fn ?_ ?_ ?_ ?_ ?_ ?_); rotate_left 2; wtm_at "nm"; (exact fun w => by with_unfolding_all exact rfl); rotate_left; wtm_at "mt"; wtm_at "mt"; rotate_left) | ((with_reducible refine' E_bf ?_ ?_ ?_ ?_); rotate_left; wtm_at "nm"; wtm_at "mt"; wtm_at "mt") | wtm_at "cname" | ((with_reducible refine' E_meth (o := .Constant (.str _) _ _) PySem.F.plainAttrs_str PySem.F.slot_str_join PySem.F.type_str_join ?_ ?_ ?_ ?_ ?_); rotate_left; wtm_at "mt"; wtm_at "mt"; wtm_at "mt"; rotate_left)))
    refine Ret.drop (Ret.here ?_)
    show Q (.str (joinL (Str.ofString "").cps.toList _)) led
    rw [emptyS, joinL_nil]
    have e : (x.map fun u => [lowerN u]).flatten = x.map lowerN := by clear h hx hz; induction x with | nil => rfl | cons a r ih => simp [ih]
    rw [e]; exact h
end
end
section
section
variable {Q : PV → Led → Prop} {X : Led → Prop} {led : Led}
theorem c_init {e t0 : Addr} {m : List Nat} {i : Int} (h : ∀ t d, Q .none ((d, .attrs ["at", "what"]) :: (t, .tuple [.str m]) :: (e, .fault t (some d)) :: led)) : FnC 29 1 [.ref e, .str m, .int i] Q X ((e, .fault t0 none) :: led) := by
  refine Fn_defC (names := ["self", "what", "at"]) (fun w => by exact rfl) (fun w => by exact rfl) (fun vals hv w s hK => ?_) rfl (by decide) (by decide) (fun c' hr hc hs hi => ?_)
  · obtain ⟨a, b, d, rfl⟩ := len3 hv
    exact binds_K (T := 22) hK rfl (by exact rfl) rfl (by exact rfl) (by exact rfl)
  refine WS_ret ?_
  show WS c' _ _ _ [("self", PV.ref e), ("what", PV.str m), ("at", PV.int i)] _
  repeat' (focus (first | with_reducible (first | refine Thn_next ?_ | refine S_nil ?_ | refine S_cons ?_ | refine L_nil ?_) | ((with_reducible refine' S_expr ?_ ?_ ?_); assumption; rotate_left; wtm_at "mt") | ((with_reducible refine' ⟨?_, fun _ => ?_⟩); exact Nat.le_of_ble_eq_true rfl) | (with_reducible refine ⟨_, rfl, ?_⟩) | (with_reducible refine ⟨_, _, rfl, ?_⟩) | (with_reducible refine ⟨_, _, _, rfl, ?_⟩) | ((with_reducible (first | refine' S_attr ?_ ?_ | refine' L_cons ?_ ?_)); rotate_left; wtm_at "mt") | wtm_at "name"))
  refine E_tmeth (T := "Exception") (id := "Exception.__init__") (by exact rfl) (by decide +kernel) (fun w => by exact rfl) (by exact rfl) ?pl ?hm ?he ?hp ?_
  case hm => wtm_at "mt"
  case he => wtm_at "mt"
  case hp => wtm_at "mt"
  wtm_at "name"
  refine ⟨by exact rfl, ?_⟩
  repeat' (focus (first | with_reducible (first | refine Thn_next ?_ | refine S_nil ?_ | refine S_cons ?_ | refine L_nil ?_) | ((with_reducible refine' S_expr ?_ ?_ ?_); assumption; rotate_left; wtm_at "mt") | ((with_reducible refine' ⟨?_, fun _ => ?_⟩); exact Nat.le_of_ble_eq_true rfl) | (with_reducible refine ⟨_, rfl, ?_⟩) | (with_reducible refine ⟨_, _, rfl, ?_⟩) | (with_reducible refine ⟨_, _, _, rfl, ?_⟩) | ((with_reducible (first | refine' S_attr ?_ ?_ | refine' L_cons ?_ ?_)); rotate_left; wtm_at "mt") | wtm_at "name"))
  refine Bi_init (fun t' => by wtm_at "upd") (fun t' => ?_)
  repeat' (focus (first | with_reducible (first | refine Thn_next ?_ | refine S_nil ?_ | refine S_cons ?_ | refine L_nil ?_) | ((with_reducible refine' S_expr ?_ ?_ ?_); assumption; rotate_left; wtm_at "mt") | ((with_reducible refine' ⟨?_, fun _ => ?_⟩); exact Nat.le_of_ble_eq_true rfl) | (with_reducible refine ⟨_, rfl, ?_⟩) | (with_reducible refine ⟨_, _, rfl, ?_⟩) | (with_reducible refine ⟨_, _, _, rfl, ?_⟩) | ((with_reducible (first | refine' S_attr ?_ ?_ | refine' L_cons ?_ ?_)); rotate_left; wtm_at "mt") | wtm_at "name"))
  refine Set_first (fun w => by exact rfl) (fun d => UpdL.there UpdL.here) (fun d => ?_)
  repeat' (focus (first | with_reducible (first | refine Thn_next ?_ | refine S_nil ?_ | refine S_cons ?_ | refine L_nil ?_) | ((with_reducible refine' S_expr ?_ ?_ ?_); assumption; rotate_left; wtm_at "mt") | ((with_reducible refine' ⟨?_, fun _ => ?_⟩); exact Nat.le_of_ble_eq_true rfl) | (with_reducible refine ⟨_, rfl, ?_⟩) | (with_reducible refine ⟨_, _, rfl, ?_⟩) | (with_reducible refine ⟨_, _, _, rfl, ?_⟩) | ((with_reducible (first | refine' S_attr ?_ ?_ | refine' L_cons ?_ ?_)); rotate_left; wtm_at "mt") | wtm_at "name"))
  refine Set_next (fun w => by exact rfl) (by wtm_at "mem") UpdL.here (by decide) ?_
  repeat' (focus (first | with_reducible (first | refine Thn_next ?_ | refine S_nil ?_ | refine S_cons ?_ | refine L_nil ?_) | ((with_reducible refine' S_expr ?_ ?_ ?_); assumption; rotate_left; wtm_at "mt") | ((with_reducible refine' ⟨?_, fun _ => ?_⟩); exact Nat.le_of_ble_eq_true rfl) | (with_reducible refine ⟨_, rfl, ?_⟩) | (with_reducible refine ⟨_, _, rfl, ?_⟩) | (with_reducible refine ⟨_, _, _, rfl, ?_⟩) | ((with_reducible (first | refine' S_attr ?_ ?_ | refine' L_cons ?_ ?_)); rotate_left; wtm_at "mt") | wtm_at "name"))
  exact Ret.here (h _ _)
end
section
variable {c : Cx} {X : Vars → Led → Prop} {vars : Vars} {led : Led}
noncomputable def Cx.in1 (c : Cx) (vals : List Value) : Cx := { c with A := c.A.under (.builtin "type.__call__" ⟨.ref 52 :: vals, []⟩), room := c.room - 1 }
theorem Cx.in1_ok (vals : List Value) (ok : c.Ok) (hr : 1 ≤ c.room) : (c.in1 vals).Ok :=
  ⟨ok.handled, by have := ok.frames; show pushEnvs [] c.A.frames = _; rw [this]; rfl, ok.here, (fun h => let ⟨sc, C, oC, m₂, e1, e2, hk, hC, hns, hv⟩ := ok.comp h; ⟨sc, C, oC, m₂, e1, e2, hk, hC, hns, hv⟩), ok.fun_, by have := ok.depth; show c.A.depth + 1 + (c.room - 1) < _; lia, by have := ok.units; show c.A.units + 1 + 10 * (c.room - 1) + 100 < _; lia, ok.baseK, ok.baseT⟩
theorem St.in1 {fr vars led s} (vs : List Value) (h : St c fr vars led s) : St (c.in1 vs) fr vars led s := by
  obtain ⟨h₀, m, news, G, F, N, V, Lk, S⟩ := h
  exact ⟨h₀, m, news, ⟨G.below, G.K, G.top, G.turn, G.dicts⟩, F, N, V, Lk, S⟩
theorem St.out1 {fr vars led s} {vs : List Value} (h : St (c.in1 vs) fr vars led s) : St c fr vars led s := by
  obtain ⟨h₀, m, news, G, F, N, V, Lk, S⟩ := h
  exact ⟨h₀, m, news, ⟨G.below, G.K, G.top, G.turn, G.dicts⟩, F, N, V, Lk, S⟩
/-- the class is called -/
theorem call_fault {m : List Nat} {i : Int} (hroom : 2 ≤ c.room) (vals : List Value) (hv : vals.map er = [.str m, .int i]) :
    WV c (call (.ref 52) vals) (fun v l => (E3 fun e t d => A2 (v = .ref e) (l = (d, .attrs ["at", "what"]) :: (t, .tuple [.str m]) :: (e, .fault t (some d)) :: led))) X vars led := by
  intro ok fr E hP hE s hs
  obtain ⟨hp, g, d, tk, os⟩ := s
  have hlen : vals.length = 2 := by have := congrArg List.length hv; simpa using this
  refine wpAny_call (exc_make hs.K (by rw [hlen, sizeLine_eq]; decide) ?_)
  have S1 := hs.new (o := tupObj vals) (po := .tuple (vals.map er)) ⟨vals.toArray, 0, rfl, by simp⟩ tk
  have S2 := S1.new (o := excObj hp.objs.size) (po := .fault hp.objs.size none) ⟨rfl, rfl, rfl⟩ tk
  have hz : (hp.push (tupObj vals)).objs.size = hp.objs.size + 1 := Heap.size_push _ _
  have S3 : St c fr vars ((hp.objs.size + 1, .fault hp.objs.size none) :: led) ⟨(hp.push (tupObj vals)).push (excObj hp.objs.size), g, d, tk, os⟩ := by
    have := S2.wk (v' := vars) (l' := ((hp.push (tupObj vals)).objs.size, .fault hp.objs.size none) :: led) ⟨.refl _, (List.sublist_cons_self _ _).cons_cons _⟩
    rw [hz] at this
    exact this
  have key := c_init (Q := fun v l => v = .none ∧ ∃ t d, l = (d, .attrs ["at", "what"]) :: (t, .tuple [.str m]) :: (hp.objs.size + 1, .fault t (some d)) :: led) (X := fun _ => False) (e := hp.objs.size + 1) (t0 := hp.objs.size) (m := m) (i := i) (led := led) (fun t d => ⟨rfl, t, d, rfl⟩)
    (c.in1 vals) vars (.ref (hp.objs.size + 1) :: vals) (by show 1 ≤ c.room - 1; lia) (by rw [List.map_cons, hv]; rfl) (Cx.in1_ok vals ok (by lia)) fr E (fun _ _ _ _ h => h.elim) _ (S3.in1 vals)
  refine codeAny_mono key fun r s' z => ?_
  match r, z with
  | .error e, z => exact z
  | .ok .next, z => exact z.elim
  | .ok .brk, z => exact z.elim
  | .ok .cont, z => exact z.elim
  | .ok (.ret v), z =>
    obtain ⟨v', l, S', rfl, hv', t', d', rfl⟩ := z
    obtain rfl := er_none hv'
    exact ⟨rfl, _, _, S'.out1, rfl, _, _, _, rfl, rfl⟩
theorem S_raise {np cpos pos : Pos} {e : Expr} {es : List Expr} {Q : PF → Vars → Led → Prop} (hi : c.inC = false) (hcan : c.can = false) (hroom : 2 ≤ c.room) (hname : WE c (.Name "WordFault" np) (fun p l => p = .ref 52 ∧ l = led) X vars led)
    (he : ∀ env, starEach (e :: es) env = (false, eval e env) :: starEach es env) (hplain : ∀ env, (backTo cpos (starEach es env)).any (·.1) = false)
    (h : WL c (e :: es) cpos (fun ps l => (E2 fun m i => A2 (ps = [.str m, .int i]) (X vars l))) X vars led) : WS1 c (.Raise (some (.Call (.Name "WordFault" np) (e :: es) [] cpos)) none pos) Q X vars led := by
  intro ok fr E hP hE s hs
  show wpAny _ _ (exec _ c.env) _ _ _
  rw [arm_exec_Raise]
  refine wpAny_bind (wpAny_standAt ?_)
  have key : WE c (.Call (.Name "WordFault" np) (e :: es) [] cpos) (fun v l => (E5 fun e t d m l₀ => A3 (v = .ref e) (l = (d, .attrs ["at", "what"]) :: (t, .tuple [.str m]) :: (e, .fault t (some d)) :: l₀) (X vars l₀))) X vars led := by
    intro ok fr E hP hE s hs
    refine Call_ (wpAny_mono (hname ok fr E hP hE s hs) ?_ fun _ _ x => x)
    rintro a s₁ ⟨_, l, S₁, rfl, ha, rfl⟩
    obtain rfl := er_ref ha
    obtain ⟨h₀, m, news, G, F, N, V, Lk, S⟩ := id S₁
    refine callWith_K (K := KF c.w) (h₀ := h₀) G.K (by exact rfl) (wpAny_mono (h ok fr E hP hE s₁ S₁) ?_ fun _ _ x => x) (he _) (hplain _)
    rintro vs s₂ ⟨_, l₂, S₂, e, mm, i, hps, hx⟩
    subst e
    obtain ⟨h₀', m', news', G', F', N', V', Lk', S'⟩ := id S₂
    refine ⟨G'.K.keeps F'.keep, ?_⟩
    refine W_mono (call_fault (m := mm) (i := i) hroom vs hps) ?_ ok fr E hP hE s₂ S₂
    rintro a v l ⟨rfl, e, t, d, ha, rfl⟩
    exact ⟨rfl, e, t, d, mm, _, ha, rfl, hx⟩
  refine raise_made (vars := vars) ok hcan hE (wpAny_bind (wpAny_mono (key ok fr E hP hE s hs) ?_ fun _ _ x => x))
  rintro v s₁ ⟨_, l, S₁, e, ee, t, d, mm, l₀, hv, rfl, hx⟩
  subst e
  refine wpAny_bind (wpAny_standAt (wpAny_pure ?_))
  exact ⟨ee, t, some d, _, l₀, er_ref hv, S₁.wk ⟨.refl _, List.sublist_cons_self _ _⟩, hx⟩
end
end
section
/-- what stands at the head within quotes or brackets: its octets and how many are read -/
noncomputable def insideS : List UInt8 → Option (List UInt8 × Nat)
  | [] => none
  | 92 :: [] => none
  | 92 :: x :: _ => if x = 0 ∨ x = 10 ∨ x = 13 then none else some ([x], 2)
  | 10 :: _ => some ([], 1)
  | 13 :: 10 :: _ => some ([], 2)
  | x :: _ => if x = 0 ∨ x = 10 ∨ x = 13 then none else some ([x], 1)
theorem insideS_cons (x : UInt8) (r : List UInt8) : insideS (x :: r) = if x = 92 then (match r with | [] => none | y :: _ => if y = 0 ∨ y = 10 ∨ y = 13 then none else some ([y], 2))
    else match lineE (x :: r) with | some n => some ([], n) | none => if x = 0 ∨ x = 10 ∨ x = 13 then none else some ([x], 1) := by
  by_cases h : x = 92
  · subst h; cases r <;> simp [insideS]
  · rw [if_neg h]
    by_cases h2 : x = 10
    · subst h2; simp [insideS, lineE]
    · by_cases h3 : x = 13
      · subst h3
        cases r with
        | nil => simp [insideS, lineE]
        | cons y r =>
          by_cases h4 : y = 10
          · subst h4; simp [insideS, lineE]
          · simp [insideS, lineE, h4]
      · simp [insideS, lineE, h, h2, h3]
theorem drop_cons {d : List UInt8} {i : Nat} (h : i < d.length) : d.drop i = d.getD i 0 :: d.drop (i + 1) := by
  rw [List.drop_eq_getElem_cons h]; simp [h]
theorem insideS_at {d : List UInt8} {i : Nat} (h : i < d.length) : insideS (d.drop i) = if d.getD i 0 = 92 then (if i + 1 < d.length then (if d.getD (i + 1) 0 = 0 ∨ d.getD (i + 1) 0 = 10 ∨ d.getD (i + 1) 0 = 13 then none else some ([d.getD (i + 1) 0], 2)) else none)
    else match lineE (d.drop i) with | some n => some ([], n) | none => if d.getD i 0 = 0 ∨ d.getD i 0 = 10 ∨ d.getD i 0 = 13 then none else some ([d.getD i 0], 1) := by
  have e := drop_cons h
  rw [e, insideS_cons]
  by_cases h1 : i + 1 < d.length
  · rw [drop_cons h1, if_pos h1]
  · rw [List.drop_of_length_le (by lia), if_neg h1]
theorem insideS_end {d : List UInt8} {i : Nat} (h : d.length ≤ i) : insideS (d.drop i) = none := by rw [List.drop_of_length_le h]; rfl
theorem u8i_92 (u : UInt8) : ((u.toNat : Int) = 92) ↔ u = 92 := by rw [← UInt8.toNat_inj]; simp; lia
theorem u8i_0 (u : UInt8) : ((u.toNat : Int) = 0) ↔ u = 0 := by rw [← UInt8.toNat_inj]; simp
theorem u8i_10 (u : UInt8) : ((u.toNat : Int) = 10) ↔ u = 10 := by rw [← UInt8.toNat_inj]; simp; lia
theorem u8i_13 (u : UInt8) : ((u.toNat : Int) = 13) ↔ u = 13 := by rw [← UInt8.toNat_inj]; simp; lia
theorem finT {Q : PV → Led → Prop} {led : Led} {r : Addr} {b b' : List UInt8} {j j' : Int} (h : Q (.ref r) ((r, .tuple [.bytes b', .int j']) :: led)) (e1 : b = b') (e2 : j = j') : Q (PF.val (.ret (.ref r))) ((r, .tuple [.bytes b, .int j]) :: led) := by subst e1; subst e2; exact h
theorem take1_drop {d : List UInt8} {i : Nat} (h : i < d.length) : (d.drop i).take 1 = [d.getD i 0] := by rw [drop_cons h]; rfl
theorem toNat_s (i : Nat) : ((i : Int) + 1).toNat = i + 1 := by lia
section
variable {Q : PV → Led → Prop} {X : Led → Prop} {led : Led}
theorem never_at : (E4 fun a b d n => ∀ w, (KF w).lookup 67 = some ⟨.type "tuple", none, .seq ([.int 0 a, .int 10 b, .int 13 d] : List Value).toArray n, #[]⟩) := ⟨_, _, _, _, fun w => by exact rfl⟩
theorem C_never {c : Cx} {X : Vars → Led → Prop} {vars : Vars} {x : Int} (h : Q (.bool (decide (x ∈ [0, 10, 13]))) led) : WCmp c .In (.int x) (.ref 67) Q X vars led := by
  obtain ⟨a, b, d, n, hl⟩ := never_at
  exact C_inT hl (.cons _ _ (.cons _ _ (.cons _ _ .nil))) h
theorem c_inside {d : List UInt8} {i : Nat} {b : Int} (hd : d.length ≤ 100000)
    (h0 : insideS (d.drop i) = none → X led) (h1 : ∀ o n, insideS (d.drop i) = some (o, n) → ∀ r, Q (.ref r) ((r, .tuple [.bytes o, .int ((i + n : Nat) : Int)]) :: led)) : Fn 88 4 [.bytes d, .int i, .int b] Q X led := by
  refine Fd_3 "data" "at" "begun" (fun w => by exact rfl) (fun w => by exact rfl) (fun _ _ _ => rfl) (by decide) (by decide) (fun c' hr hc hs hi => ?_)
  repeat' (first | (focus (first | with_reducible (first | refine Thn_next ?_ | refine Thn_ret ?_ | refine S_nil ?_ | refine S_cons ?_ | refine S_ret ?_ | refine S_if ?_ | refine E_int ?_ | refine E_str ?_ | refine E_bytes ?_ | refine L_nil ?_ | refine E_bin ?_ | refine E_slice ?_ | refine P_some ?_ | refine T_op ?_ | refine T_and ?_ | refine T_and0 ?_ | refine T_or ?_ | refine T_or0 ?_ | refine E_tuple ?_ | refine B_add ?_ | refine C_ge ?_ | refine C_eq ?_ | refine Tr_bool ?_ | refine ite_t ?_ | refine ite_f ?_ | refine ite_d (fun _ => ?_) (fun _ => ?_)) | ((with_reducible refine' S_set ?_ ?_ ?_ ?_); assumption; rotate_left; wtm_at "loc"; wtm_at "mt") | ((with_reducible refine' Bi_lenB ?_ ?_); rotate_left; wtm_at "sz") | ((with_reducible refine' ⟨_, Cuts.b ?_, ?_⟩); wtm_at "side") | ((with_reducible apply exSet); wtm_at "setv") | ((with_reducible refine' ⟨?_, fun _ => ?_⟩); exact Nat.le_of_ble_eq_true rfl) | (with_reducible refine ⟨_, rfl, ?_⟩) | (with_reducible refine ⟨_, _, rfl, ?_⟩) | (with_reducible refine ⟨_, _, _, rfl, ?_⟩) | ((with_reducible (first | refine' L_cons ?_ ?_ | refine' T_cmp ?_ ?_ | refine' E_item ?_ ?_)); rotate_left; wtm_at "mt") | wtm_at "name" | ((with_reducible refine' E_fn ?_ ?_ ?_ ?_ ?_ ?_); rotate_left 2; wtm_at "nm"; (exact fun w => by with_unfolding_all exact rfl); rotate_left; wtm_at "mt"; wtm_at "mt"; rotate_left) | ((with_reducible refine' E_bf ?_ ?_ ?_ ?_); rotate_left; wtm_at "nm"; wtm_at "mt"; wtm_at "mt"))) | (focus ((with_reducible refine' S_raise ?_ ?_ ?_ ?_ ?_ ?_ ?_); assumption; assumption; rotate_left; wtm_at "nm"; wtm_at "mt"; wtm_at "mt"; rotate_left)) | refine Bi_lenB ?_ (by lia) | refine It_bytes (by lia) (by lia) (by lia) ?_ | refine c_line_end (by lia) ?_ | refine C_never ?_)
  all_goals (try (rw [hr]; decide))
  all_goals first
    | (refine RetX.here (h0 ?_))
    | (refine Ret.here ?_)
  all_goals (try simp only [cut_1, cut_11, u8i_92, u8i_0, u8i_10, u8i_13, List.mem_cons, List.not_mem_nil, or_false, Int.toNat_natCast, toNat_s] at *)
  · exact insideS_end (by lia)
  all_goals (rw [insideS_at (by lia)] at *)
  all_goals (rcases hl : lineE (d.drop i) with _ | n <;> simp only [hl] at *)
  all_goals first
    | lia
    | (exfalso; grind)
    | grind
    | (refine finT (h1 [] n (if_neg (by assumption)) _) ?_ ?_ <;> first | rfl | (rw [take1_drop (by lia)]) | lia)
    | (refine finT (h1 [d.getD (i + 1) 0] 2 (by grind) _) ?_ ?_ <;> first | rfl | (rw [take1_drop (by lia)]) | lia)
    | (refine finT (h1 [d.getD i 0] 1 (by grind) _) ?_ ?_ <;> first | rfl | (rw [take1_drop (by lia)]) | lia)
end
end
section
theorem insideS_pos {l : List UInt8} {o : List UInt8} {n : Nat} (h : insideS l = some (o, n)) : 0 < n ∧ n ≤ l.length ∧ o.length ≤ 1 := by
  match l with
  | [] => simp [insideS] at h
  | x :: r =>
    rw [insideS_cons] at h
    by_cases hx : x = 92
    · rw [if_pos hx] at h
      match r with
      | [] => simp at h
      | y :: r' =>
        simp only at h
        split at h
        · cases h
        · cases h; simp
    · rw [if_neg hx] at h
      cases hl : lineE (x :: r) with
      | some k =>
        rw [hl] at h; cases h
        unfold lineE at hl
        split at hl
        · cases hl; simp
        · cases hl; rename_i e; cases e; simp
        · cases hl
      | none =>
        rw [hl] at h
        simp only at h
        split at h
        · cases h
        · cases h; simp
/-- what stands up to the closing sign, and how many octets are read -/
noncomputable def closedS (q : UInt8) (bar : List UInt8) (l : List UInt8) : Option (List UInt8 × Nat) :=
  match l with
  | [] => none
  | x :: r => if x = q then some ([], 1) else if x ∈ bar then none else
    match h : insideS (x :: r) with
    | none => none
    | some (o, n) => (closedS q bar ((x :: r).drop n)).map fun p => (o ++ p.1, n + p.2)
termination_by l.length
decreasing_by have := insideS_pos h; simp; lia
theorem closedS_nil {q bar} : closedS q bar [] = none := by rw [closedS]
theorem closedS_cons {q bar} {x : UInt8} {r : List UInt8} : closedS q bar (x :: r) = if x = q then some ([], 1) else if x ∈ bar then none else
    match insideS (x :: r) with
    | none => none
    | some (o, n) => (closedS q bar ((x :: r).drop n)).map fun p => (o ++ p.1, n + p.2) := by
  rw [closedS]
  split
  · rfl
  · split
    · rfl
    · split <;> rename_i h <;> simp [h]
theorem u8r (u : UInt8) : 0 ≤ (u.toNat : Int) ∧ (u.toNat : Int) < 256 := ⟨by lia, by have := u.toNat_lt; lia⟩
theorem ofNat_i (u : UInt8) : UInt8.ofNat ((u.toNat : Int)).toNat = u := by simp
theorem closedS_at {q bar} {d : List UInt8} {j : Nat} (h : j < d.length) : closedS q bar (d.drop j) = if d.getD j 0 = q then some ([], 1) else if d.getD j 0 ∈ bar then none else
    match insideS (d.drop j) with
    | none => none
    | some (o, n) => (closedS q bar (d.drop (j + n))).map fun p => (o ++ p.1, n + p.2) := by
  rw [drop_cons h, closedS_cons, ← drop_cons h]
  simp only [List.drop_drop]
section
variable {Q : PV → Led → Prop} {X : Led → Prop} {led : Led}
theorem c_closed {d : List UInt8} {q : UInt8} {bar : List UInt8} {i : Nat} (hd : d.length ≤ 100000) (hi : i < d.length)
    (h0 : closedS q bar (d.drop (i + 1)) = none → X led) (h1 : ∀ o n, closedS q bar (d.drop (i + 1)) = some (o, n) → ∀ r, Q (.ref r) ((r, .tuple [.bytes o, .int ((i + 1 + n : Nat) : Int)]) :: led)) : Fn 95 5 [.bytes d, .int i, .bytes [q], .bytes bar] Q X led := by
  refine Fd_4 "data" "begun" "closing" "barred" (fun w => by exact rfl) (fun w => by exact rfl) (fun _ _ _ _ => rfl) (by decide) (by decide) (fun c' hr hc hs hi => ?_)
  repeat' (first | (focus (first | with_reducible (first | refine Thn_next ?_ | refine Thn_ret ?_ | refine Trn_next ?_ | refine S_nil ?_ | refine S_cons ?_ | refine S_ret ?_ | refine S_if ?_ | refine E_int ?_ | refine E_str ?_ | refine E_bytes ?_ | refine L_nil ?_ | refine E_bin ?_ | refine E_slice ?_ | refine P_some ?_ | refine T_op ?_ | refine T_and ?_ | refine T_and0 ?_ | refine E_tuple ?_ | refine E_list ?_ | refine B_add ?_ | refine C_lt ?_ | refine C_neB ?_ | refine Tr_bool ?_ | refine ite_t ?_ | refine ite_f ?_ | refine ite_d (fun _ => ?_) (fun _ => ?_) | refine ⟨Recv.bytes, ?_⟩) | ((with_reducible refine' S_set ?_ ?_ ?_ ?_); assumption; rotate_left; wtm_at "loc"; wtm_at "mt") | ((with_reducible refine' S_un2 ?_ ?_ ?_ ?_ ?_ ?_); assumption; rotate_left; wtm_at "loc"; wtm_at "loc"; wtm_at "mt"; wtm_at "mt") | ((with_reducible apply Bi_append); wtm_at "upd"; wtm_at "sz") | ((with_reducible refine' Bi_lenB ?_ ?_); rotate_left; wtm_at "sz") | ((with_reducible refine' S_expr ?_ ?_ ?_); assumption; rotate_left; wtm_at "mt") | ((with_reducible refine' ⟨_, Cuts.b ?_, ?_⟩); wtm_at "side") | ((with_reducible apply exSet); wtm_at "setv") | ((with_reducible apply exSets); wtm_at "setvs") | ((with_reducible refine' ⟨?_, fun _ => ?_⟩); exact Nat.le_of_ble_eq_true rfl) | ((with_reducible refine' ⟨_, TupL.t ?_, ?_⟩); rotate_left; wtm_at "mem") | ((with_reducible refine' ⟨Recv.list ?_, ?_⟩); rotate_left; wtm_at "mem") | (with_reducible refine ⟨_, rfl, ?_⟩) | (with_reducible refine ⟨_, _, rfl, ?_⟩) | (with_reducible refine ⟨_, _, _, rfl, ?_⟩) | ((with_reducible (first | refine' L_cons ?_ ?_ | refine' T_cmp ?_ ?_ | refine' E_item ?_ ?_)); rotate_left; wtm_at "mt") | wtm_at "name" | ((with_reducible refine' E_fn ?_ ?_ ?_ ?_ ?_ ?_); rotate_left 2; wtm_at "nm"; (exact fun w => by with_unfolding_all exact rfl); rotate_left; wtm_at "mt"; wtm_at "mt"; rotate_left) | ((with_reducible refine' E_bf ?_ ?_ ?_ ?_); rotate_left; wtm_at "nm"; wtm_at "mt"; wtm_at "mt") | ((with_reducible (first | refine' E_meth (o := .Constant (.bytes _) _ _) FB.plainAttrs_bytes slot_bytes_join type_bytes_join ?_ ?_ ?_ ?_ ?_ | refine' E_meth PySem.F.plainAttrs_list PySem.F.slot_list_append PySem.F.type_list_append ?_ ?_ ?_ ?_ ?_)); rotate_left; wtm_at "mt"; wtm_at "mt"; wtm_at "mt"; rotate_left))))
  refine S_while hi (fun n v l => (E3 fun (r : Addr) (j : Nat) (ps : List (List UInt8)) => A9 (n = d.length - j) (i + 1 ≤ j) (j ≤ d.length) (ps.flatten.length ≤ j) (ps.length ≤ j) (v = ([("data", .bytes d), ("begun", .int i), ("closing", .bytes [q]), ("barred", .bytes bar), ("parts", .ref r), ("at", .int j)] : Vars)) (l = (r, .list (ps.map .bytes)) :: led) ((closedS q bar (d.drop j) = none → X led)) ((∀ o n, closedS q bar (d.drop j) = some (o, n) → ∀ r, Q (.ref r) ((r, .tuple [.bytes (ps.flatten ++ o), .int ((j + n : Nat) : Int)]) :: led))))) (d.length - (i + 1)) ?_ ?_
  · rename_i r
    exact ⟨_, _, Wk.refl, r, i + 1, [], rfl, Nat.le_refl _, by lia, by simp, by simp, rfl, rfl, h0, by simpa using h1⟩
  · rintro n v l ⟨r, j, ps, rfl, hj1, hj2, hl1, hl2, rfl, rfl, k0, k1⟩
    repeat' (first | (focus (first | with_reducible (first | refine Thn_next ?_ | refine Thn_ret ?_ | refine Trn_next ?_ | refine S_nil ?_ | refine S_cons ?_ | refine S_ret ?_ | refine S_if ?_ | refine E_int ?_ | refine E_str ?_ | refine E_bytes ?_ | refine L_nil ?_ | refine E_bin ?_ | refine E_slice ?_ | refine P_some ?_ | refine T_op ?_ | refine T_and ?_ | refine T_and0 ?_ | refine E_tuple ?_ | refine E_list ?_ | refine B_add ?_ | refine C_lt ?_ | refine C_neB ?_ | refine Tr_bool ?_ | refine ite_t ?_ | refine ite_f ?_ | refine ite_d (fun _ => ?_) (fun _ => ?_) | refine ⟨Recv.bytes, ?_⟩) | ((with_reducible refine' S_set ?_ ?_ ?_ ?_); assumption; rotate_left; wtm_at "loc"; wtm_at "mt") | ((with_reducible refine' S_un2 ?_ ?_ ?_ ?_ ?_ ?_); assumption; rotate_left; wtm_at "loc"; wtm_at "loc"; wtm_at "mt"; wtm_at "mt") | ((with_reducible apply Bi_append); wtm_at "upd"; wtm_at "sz") | ((with_reducible refine' Bi_lenB ?_ ?_); rotate_left; wtm_at "sz") | ((with_reducible refine' S_expr ?_ ?_ ?_); assumption; rotate_left; wtm_at "mt") | ((with_reducible refine' ⟨_, Cuts.b ?_, ?_⟩); wtm_at "side") | ((with_reducible apply exSet); wtm_at "setv") | ((with_reducible apply exSets); wtm_at "setvs") | ((with_reducible refine' ⟨?_, fun _ => ?_⟩); exact Nat.le_of_ble_eq_true rfl) | ((with_reducible refine' ⟨_, TupL.t ?_, ?_⟩); rotate_left; wtm_at "mem") | ((with_reducible refine' ⟨Recv.list ?_, ?_⟩); rotate_left; wtm_at "mem") | (with_reducible refine ⟨_, rfl, ?_⟩) | (with_reducible refine ⟨_, _, rfl, ?_⟩) | (with_reducible refine ⟨_, _, _, rfl, ?_⟩) | ((with_reducible (first | refine' L_cons ?_ ?_ | refine' T_cmp ?_ ?_ | refine' E_item ?_ ?_)); rotate_left; wtm_at "mt") | wtm_at "name" | ((with_reducible refine' E_fn ?_ ?_ ?_ ?_ ?_ ?_); rotate_left 2; wtm_at "nm"; (exact fun w => by with_unfolding_all exact rfl); rotate_left; wtm_at "mt"; wtm_at "mt"; rotate_left) | ((with_reducible refine' E_bf ?_ ?_ ?_ ?_); rotate_left; wtm_at "nm"; wtm_at "mt"; wtm_at "mt") | ((with_reducible (first | refine' E_meth (o := .Constant (.bytes _) _ _) FB.plainAttrs_bytes slot_bytes_join type_bytes_join ?_ ?_ ?_ ?_ ?_ | refine' E_meth PySem.F.plainAttrs_list PySem.F.slot_list_append PySem.F.type_list_append ?_ ?_ ?_ ?_ ?_)); rotate_left; wtm_at "mt"; wtm_at "mt"; wtm_at "mt"; rotate_left))) | (focus ((with_reducible refine' S_raise ?_ ?_ ?_ ?_ ?_ ?_ ?_); assumption; assumption; rotate_left; wtm_at "nm"; wtm_at "mt"; wtm_at "mt"; rotate_left)) | refine It_bytes (by lia) (by lia) (by lia) ?_ | refine C_inB (u8r _) ?_ | refine c_inside (by lia) (fun e => ?_) (fun o n e r' => ?_) | refine Bi_joinB (by wtm_at "mem") rfl ?_ ?_)
    all_goals try (rw [hr]; decide)
    all_goals (simp only [cut_1, UInt8.ofNat_toNat, Int.toNat_natCast] at *)
    · rename (List.take 1 _ ≠ [q]) => e1; rename (_ ∈ bar) => e3
      refine RetX.drop (RetX.here (k0 ?_))
      rw [take1_drop (by lia)] at e1
      rw [closedS_at (by lia), if_neg (by simpa using e1), if_pos e3]
    · rename (List.take 1 _ ≠ [q]) => e1; rename (¬ _ ∈ bar) => e3
      refine RetX.drop (RetX.here (k0 ?_))
      rw [take1_drop (by lia)] at e1
      rw [closedS_at (by lia), if_neg (by simpa using e1), if_neg e3, e]
    · rename (List.take 1 _ ≠ [q]) => e1; rename (¬ _ ∈ bar) => e3
      have hp := insideS_pos e
      rw [take1_drop (by lia)] at e1
      rw [closedS_at (by lia), if_neg (by simpa using e1), if_neg e3, e] at k0 k1
      rw [List.length_drop] at hp
      have g1 : (ps ++ [o]).flatten.length ≤ j + n := by rw [List.flatten_append, List.length_append, List.flatten_singleton]; lia
      have g2 : (ps ++ [o]).length ≤ j + n := by rw [List.length_append, List.length_singleton]; lia
      refine ⟨_, _, ?_, _, ?_, r, j + n, ps ++ [o], rfl, by lia, by lia, g1, g2, rfl, by rw [List.map_append], fun h => k0 (by show Option.map _ (closedS q bar (d.drop (j + n))) = _; rw [h]; rfl), fun o' n' h r => ?_⟩
      · wtm_at "wk"
      · lia
      · have := k1 (o ++ o') (n + n') (by show Option.map _ (closedS q bar (d.drop (j + n))) = _; rw [h]; rfl) r
        simpa [Nat.add_assoc] using this
    · refine RetX.drop (RetX.here (k0 ?_))
      rw [List.drop_of_length_le (by lia)]; exact closedS_nil
    · rw [insideS_end (by lia)] at e; cases e
    · have e : (List.map (fun x => x.length) ps).sum = ps.flatten.length := (List.length_flatten).symm
      rw [e]; show 0 * ps.length + _ ≤ _; lia
    · rename_i e1
      have hlt : j < d.length := by
        rcases Nat.lt_or_ge j d.length with h | h
        · exact h
        · rw [List.drop_of_length_le h] at e1; simp at e1
      rw [take1_drop hlt] at e1
      rw [closedS_at hlt, if_pos (by simpa using e1)] at k1
      rw [joinL_nil]
      refine Ret.drop2 (Ret.here ?_)
      show Q (.ref _) _
      simpa using k1 [] 1 rfl _
end
end
section
/-- how many octets of a run stand at the head -/
noncomputable def runN : List UInt8 → Nat
  | [] => 0
  | x :: r => if isRunC x.toNat then runN r + 1 else 0
theorem runN_le : ∀ l : List UInt8, runN l ≤ l.length
  | [] => Nat.le_refl _
  | x :: r => by unfold runN; have := runN_le r; split <;> simp <;> lia
theorem runN_at {d : List UInt8} {j : Nat} (h : j < d.length) : runN (d.drop j) = if isRunC (d.getD j 0).toNat then runN (d.drop (j + 1)) + 1 else 0 := by rw [drop_cons h]; rfl
theorem u8lt (u : UInt8) : u.toNat < 256 := u.toNat_lt
noncomputable def plainC (u : UInt8) : Bool := decide (u.toNat ≤ 126) && (decide (32 ≤ u.toNat) || decide (u.toNat = 9))
section
variable {Q : PV → Led → Prop} {X : Led → Prop} {led : Led}
theorem c_run_at {d : List UInt8} {i : Nat} (hd : d.length ≤ 100000) (hil : i ≤ 100000)
    (h0 : runN (d.drop i) = 0 → X led) (h1 : runN (d.drop i) ≠ 0 → ∀ r, Q (.ref r) ((r, .tuple [.bytes ((d.drop i).take (runN (d.drop i))), .int ((i + runN (d.drop i) : Nat) : Int)]) :: led)) : Fn 122 4 [.bytes d, .int i] Q X led := by
  refine Fd_2 "data" "at" (fun w => by exact rfl) (fun w => by exact rfl) (fun _ _ => rfl) (by decide) (by decide) (fun c' hr hc hs hi => ?_)
  repeat' (first | (focus (first | with_reducible (first | refine Thn_next ?_ | refine Thn_ret ?_ | refine Trn_next ?_ | refine S_nil ?_ | refine S_cons ?_ | refine S_ret ?_ | refine S_if ?_ | refine E_int ?_ | refine E_str ?_ | refine L_nil ?_ | refine E_bin ?_ | refine E_slice ?_ | refine P_some ?_ | refine T_op ?_ | refine T_and ?_ | refine T_and0 ?_ | refine T_or ?_ | refine T_or0 ?_ | refine E_tuple ?_ | refine B_add ?_ | refine C_lt ?_ | refine C_gt ?_ | refine C_eq ?_ | refine C_ne ?_ | refine Tr_bool ?_ | refine ite_t ?_ | refine ite_f ?_ | refine ite_d (fun _ => ?_) (fun _ => ?_) | refine ite_b (fun _ => ?_) (fun _ => ?_)) | ((with_reducible refine' S_set ?_ ?_ ?_ ?_); assumption; rotate_left; wtm_at "loc"; wtm_at "mt") | ((with_reducible refine' Bi_lenB ?_ ?_); rotate_left; wtm_at "sz") | ((with_reducible refine' ⟨_, Cuts.b ?_, ?_⟩); wtm_at "side") | ((with_reducible apply exSet); wtm_at "setv") | ((with_reducible refine' ⟨?_, fun _ => ?_⟩); exact Nat.le_of_ble_eq_true rfl) | (with_reducible refine ⟨_, rfl, ?_⟩) | (with_reducible refine ⟨_, _, rfl, ?_⟩) | (with_reducible refine ⟨_, _, _, rfl, ?_⟩) | ((with_reducible (first | refine' L_cons ?_ ?_ | refine' T_cmp ?_ ?_ | refine' E_item ?_ ?_)); rotate_left; wtm_at "mt") | wtm_at "name" | ((with_reducible refine' E_fn ?_ ?_ ?_ ?_ ?_ ?_); rotate_left 2; wtm_at "nm"; (exact fun w => by with_unfolding_all exact rfl); rotate_left; wtm_at "mt"; wtm_at "mt"; rotate_left) | ((with_reducible refine' E_bf ?_ ?_ ?_ ?_); rotate_left; wtm_at "nm"; wtm_at "mt"; wtm_at "mt") | ((with_reducible refine' T_plain ?_ ?_); rotate_left; wtm_at "mt"))))
  refine S_while hi (fun n v l => (E1 fun (j : Nat) => A5 (n = d.length - j) (i ≤ j) (j - i + runN (d.drop j) = runN (d.drop i)) (v = ([("data", .bytes d), ("at", .int i), ("end", .int j)] : Vars)) (l = led))) (d.length - i) ?_ ?_
  · exact ⟨_, _, Wk.refl, i, rfl, Nat.le_refl _, by lia, rfl, rfl⟩
  · rintro n v l ⟨j, rfl, hj1, hj2, rfl, rfl⟩
    repeat' (first | (focus (first | with_reducible (first | refine Thn_next ?_ | refine Thn_ret ?_ | refine Trn_next ?_ | refine S_nil ?_ | refine S_cons ?_ | refine S_ret ?_ | refine S_if ?_ | refine E_int ?_ | refine E_str ?_ | refine L_nil ?_ | refine E_bin ?_ | refine E_slice ?_ | refine P_some ?_ | refine T_op ?_ | refine T_and ?_ | refine T_and0 ?_ | refine T_or ?_ | refine T_or0 ?_ | refine E_tuple ?_ | refine B_add ?_ | refine C_lt ?_ | refine C_gt ?_ | refine C_eq ?_ | refine C_ne ?_ | refine Tr_bool ?_ | refine ite_t ?_ | refine ite_f ?_ | refine ite_d (fun _ => ?_) (fun _ => ?_) | refine ite_b (fun _ => ?_) (fun _ => ?_)) | ((with_reducible refine' S_set ?_ ?_ ?_ ?_); assumption; rotate_left; wtm_at "loc"; wtm_at "mt") | ((with_reducible refine' Bi_lenB ?_ ?_); rotate_left; wtm_at "sz") | ((with_reducible refine' ⟨_, Cuts.b ?_, ?_⟩); wtm_at "side") | ((with_reducible apply exSet); wtm_at "setv") | ((with_reducible refine' ⟨?_, fun _ => ?_⟩); exact Nat.le_of_ble_eq_true rfl) | (with_reducible refine ⟨_, rfl, ?_⟩) | (with_reducible refine ⟨_, _, rfl, ?_⟩) | (with_reducible refine ⟨_, _, _, rfl, ?_⟩) | ((with_reducible (first | refine' L_cons ?_ ?_ | refine' T_cmp ?_ ?_ | refine' E_item ?_ ?_)); rotate_left; wtm_at "mt") | wtm_at "name" | ((with_reducible refine' E_fn ?_ ?_ ?_ ?_ ?_ ?_); rotate_left 2; wtm_at "nm"; (exact fun w => by with_unfolding_all exact rfl); rotate_left; wtm_at "mt"; wtm_at "mt"; rotate_left) | ((with_reducible refine' E_bf ?_ ?_ ?_ ?_); rotate_left; wtm_at "nm"; wtm_at "mt"; wtm_at "mt") | ((with_reducible refine' T_plain ?_ ?_); rotate_left; wtm_at "mt"))) | (focus ((with_reducible refine' S_raise ?_ ?_ ?_ ?_ ?_ ?_ ?_); assumption; assumption; rotate_left; wtm_at "nm"; wtm_at "mt"; wtm_at "mt"; rotate_left)) | refine It_bytes (by lia) (by lia) (by lia) ?_ | refine c_is_run_code (u8lt _) ?_)
    all_goals try (rw [hr]; decide)
    all_goals (try simp only [Int.toNat_natCast] at *)
    · rename (isRunC _ = true) => x
      have hlt : j < d.length := by lia
      rw [runN_at hlt, if_pos x] at hj2
      exact ⟨_, _, by wtm_at "wk", _, by lia, j + 1, rfl, by lia, by lia, rfl, rfl⟩
    · rename (isRunC _ = false) => x
      have hlt : j < d.length := by lia
      obtain rfl : j = i := by lia
      exact RetX.here (h0 (by rw [runN_at hlt, if_neg (ne_true_of_eq_false x)]))
    · rename (isRunC _ = false) => x
      have hlt : j < d.length := by lia
      rw [runN_at hlt, if_neg (ne_true_of_eq_false x)] at hj2
      exact Ret.here (finT (h1 (by lia) _) (by rw [cut_nat]; congr 1) (by lia))
    · obtain rfl : j = i := by lia
      exact RetX.here (h0 (by rw [List.drop_of_length_le (by lia)]; rfl))
    · rw [List.drop_of_length_le (show d.length ≤ j by lia), show runN [] = 0 from rfl] at hj2
      exact Ret.here (finT (h1 (by lia) _) (by rw [cut_nat]; congr 1) (by lia))
theorem c_check_plain {d : List UInt8} {i : Int} (h0 : d.all plainC = false → X led) (h1 : d.all plainC = true → Q .none led) : Fn 129 3 [.bytes d, .int i] Q X led := by
  refine Fd_2 "octets" "at" (fun w => by exact rfl) (fun w => by exact rfl) (fun _ _ => rfl) (by decide) (by decide) (fun c' hr hc hs hi => ?_)
  repeat' (first | (focus (first | with_reducible (first | refine Thn_next ?_ | refine Thn_ret ?_ | refine Trn_next ?_ | refine S_nil ?_ | refine S_cons ?_ | refine S_ret ?_ | refine S_if ?_ | refine E_int ?_ | refine E_str ?_ | refine L_nil ?_ | refine E_bin ?_ | refine E_slice ?_ | refine P_some ?_ | refine T_op ?_ | refine T_and ?_ | refine T_and0 ?_ | refine T_or ?_ | refine T_or0 ?_ | refine E_tuple ?_ | refine B_add ?_ | refine C_lt ?_ | refine C_gt ?_ | refine C_eq ?_ | refine C_ne ?_ | refine Tr_bool ?_ | refine ite_t ?_ | refine ite_f ?_ | refine ite_d (fun _ => ?_) (fun _ => ?_) | refine ite_b (fun _ => ?_) (fun _ => ?_)) | ((with_reducible refine' S_set ?_ ?_ ?_ ?_); assumption; rotate_left; wtm_at "loc"; wtm_at "mt") | ((with_reducible refine' Bi_lenB ?_ ?_); rotate_left; wtm_at "sz") | ((with_reducible refine' ⟨_, Cuts.b ?_, ?_⟩); wtm_at "side") | ((with_reducible apply exSet); wtm_at "setv") | ((with_reducible refine' ⟨?_, fun _ => ?_⟩); exact Nat.le_of_ble_eq_true rfl) | (with_reducible refine ⟨_, rfl, ?_⟩) | (with_reducible refine ⟨_, _, rfl, ?_⟩) | (with_reducible refine ⟨_, _, _, rfl, ?_⟩) | ((with_reducible (first | refine' L_cons ?_ ?_ | refine' T_cmp ?_ ?_ | refine' E_item ?_ ?_)); rotate_left; wtm_at "mt") | wtm_at "name" | ((with_reducible refine' E_fn ?_ ?_ ?_ ?_ ?_ ?_); rotate_left 2; wtm_at "nm"; (exact fun w => by with_unfolding_all exact rfl); rotate_left; wtm_at "mt"; wtm_at "mt"; rotate_left) | ((with_reducible refine' E_bf ?_ ?_ ?_ ?_); rotate_left; wtm_at "nm"; wtm_at "mt"; wtm_at "mt") | ((with_reducible refine' T_plain ?_ ?_); rotate_left; wtm_at "mt"))))
  (focus ((with_reducible refine' S_for_bytes ?_ ?_ ?_ ?_ ?_); assumption; assumption; wtm_at "loc"; wtm_at "mt"))
  repeat' (first | (focus (first | with_reducible (first | refine Thn_next ?_ | refine Thn_ret ?_ | refine Trn_next ?_ | refine S_nil ?_ | refine S_cons ?_ | refine S_ret ?_ | refine S_if ?_ | refine E_int ?_ | refine E_str ?_ | refine L_nil ?_ | refine E_bin ?_ | refine E_slice ?_ | refine P_some ?_ | refine T_op ?_ | refine T_and ?_ | refine T_and0 ?_ | refine T_or ?_ | refine T_or0 ?_ | refine E_tuple ?_ | refine B_add ?_ | refine C_lt ?_ | refine C_gt ?_ | refine C_eq ?_ | refine C_ne ?_ | refine Tr_bool ?_ | refine ite_t ?_ | refine ite_f ?_ | refine ite_d (fun _ => ?_) (fun _ => ?_) | refine ite_b (fun _ => ?_) (fun _ => ?_)) | ((with_reducible refine' S_set ?_ ?_ ?_ ?_); assumption; rotate_left; wtm_at "loc"; wtm_at "mt") | ((with_reducible refine' Bi_lenB ?_ ?_); rotate_left; wtm_at "sz") | ((with_reducible refine' ⟨_, Cuts.b ?_, ?_⟩); wtm_at "side") | ((with_reducible apply exSet); wtm_at "setv") | ((with_reducible refine' ⟨?_, fun _ => ?_⟩); exact Nat.le_of_ble_eq_true rfl) | (with_reducible refine ⟨_, rfl, ?_⟩) | (with_reducible refine ⟨_, _, rfl, ?_⟩) | (with_reducible refine ⟨_, _, _, rfl, ?_⟩) | ((with_reducible (first | refine' L_cons ?_ ?_ | refine' T_cmp ?_ ?_ | refine' E_item ?_ ?_)); rotate_left; wtm_at "mt") | wtm_at "name" | ((with_reducible refine' E_fn ?_ ?_ ?_ ?_ ?_ ?_); rotate_left 2; wtm_at "nm"; (exact fun w => by with_unfolding_all exact rfl); rotate_left; wtm_at "mt"; wtm_at "mt"; rotate_left) | ((with_reducible refine' E_bf ?_ ?_ ?_ ?_); rotate_left; wtm_at "nm"; wtm_at "mt"; wtm_at "mt") | ((with_reducible refine' T_plain ?_ ?_); rotate_left; wtm_at "mt"))))
  refine WFor_inv (fun its v l => (E1 fun (rest : List UInt8) => A4 (its = rest.map (fun u => PV.int (u.toNat : Int))) (d.all plainC = rest.all plainC) (v = ([("octets", .bytes d), ("at", .int i)] : Vars)) (l = led))) ?_ ?_ _ _ _ ?_
  · rintro v l ⟨rest, h, h2, rfl, rfl⟩
    cases rest with | cons => cases h | nil => ?_
    repeat' (first | (focus (first | with_reducible (first | refine Thn_next ?_ | refine Thn_ret ?_ | refine Trn_next ?_ | refine S_nil ?_ | refine S_cons ?_ | refine S_ret ?_ | refine S_if ?_ | refine E_int ?_ | refine E_str ?_ | refine L_nil ?_ | refine E_bin ?_ | refine E_slice ?_ | refine P_some ?_ | refine T_op ?_ | refine T_and ?_ | refine T_and0 ?_ | refine T_or ?_ | refine T_or0 ?_ | refine E_tuple ?_ | refine B_add ?_ | refine C_lt ?_ | refine C_gt ?_ | refine C_eq ?_ | refine C_ne ?_ | refine Tr_bool ?_ | refine ite_t ?_ | refine ite_f ?_ | refine ite_d (fun _ => ?_) (fun _ => ?_) | refine ite_b (fun _ => ?_) (fun _ => ?_)) | ((with_reducible refine' S_set ?_ ?_ ?_ ?_); assumption; rotate_left; wtm_at "loc"; wtm_at "mt") | ((with_reducible refine' Bi_lenB ?_ ?_); rotate_left; wtm_at "sz") | ((with_reducible refine' ⟨_, Cuts.b ?_, ?_⟩); wtm_at "side") | ((with_reducible apply exSet); wtm_at "setv") | ((with_reducible refine' ⟨?_, fun _ => ?_⟩); exact Nat.le_of_ble_eq_true rfl) | (with_reducible refine ⟨_, rfl, ?_⟩) | (with_reducible refine ⟨_, _, rfl, ?_⟩) | (with_reducible refine ⟨_, _, _, rfl, ?_⟩) | ((with_reducible (first | refine' L_cons ?_ ?_ | refine' T_cmp ?_ ?_ | refine' E_item ?_ ?_)); rotate_left; wtm_at "mt") | wtm_at "name" | ((with_reducible refine' E_fn ?_ ?_ ?_ ?_ ?_ ?_); rotate_left 2; wtm_at "nm"; (exact fun w => by with_unfolding_all exact rfl); rotate_left; wtm_at "mt"; wtm_at "mt"; rotate_left) | ((with_reducible refine' E_bf ?_ ?_ ?_ ?_); rotate_left; wtm_at "nm"; wtm_at "mt"; wtm_at "mt") | ((with_reducible refine' T_plain ?_ ?_); rotate_left; wtm_at "mt"))))
    exact Ret.here (h1 h2)
  · rintro p its v l ⟨rest, h, h2, rfl, rfl⟩
    cases rest with | nil => cases h | cons u rest => ?_
    obtain ⟨rfl, rfl⟩ := List.cons.inj h
    refine ⟨_, by wtm_at "setv", ?_⟩
    repeat' (first | (focus (first | with_reducible (first | refine Thn_next ?_ | refine Thn_ret ?_ | refine Trn_next ?_ | refine S_nil ?_ | refine S_cons ?_ | refine S_ret ?_ | refine S_if ?_ | refine E_int ?_ | refine E_str ?_ | refine L_nil ?_ | refine E_bin ?_ | refine E_slice ?_ | refine P_some ?_ | refine T_op ?_ | refine T_and ?_ | refine T_and0 ?_ | refine T_or ?_ | refine T_or0 ?_ | refine E_tuple ?_ | refine B_add ?_ | refine C_lt ?_ | refine C_gt ?_ | refine C_eq ?_ | refine C_ne ?_ | refine Tr_bool ?_ | refine ite_t ?_ | refine ite_f ?_ | refine ite_d (fun _ => ?_) (fun _ => ?_) | refine ite_b (fun _ => ?_) (fun _ => ?_)) | ((with_reducible refine' S_set ?_ ?_ ?_ ?_); assumption; rotate_left; wtm_at "loc"; wtm_at "mt") | ((with_reducible refine' Bi_lenB ?_ ?_); rotate_left; wtm_at "sz") | ((with_reducible refine' ⟨_, Cuts.b ?_, ?_⟩); wtm_at "side") | ((with_reducible apply exSet); wtm_at "setv") | ((with_reducible refine' ⟨?_, fun _ => ?_⟩); exact Nat.le_of_ble_eq_true rfl) | (with_reducible refine ⟨_, rfl, ?_⟩) | (with_reducible refine ⟨_, _, rfl, ?_⟩) | (with_reducible refine ⟨_, _, _, rfl, ?_⟩) | ((with_reducible (first | refine' L_cons ?_ ?_ | refine' T_cmp ?_ ?_ | refine' E_item ?_ ?_)); rotate_left; wtm_at "mt") | wtm_at "name" | ((with_reducible refine' E_fn ?_ ?_ ?_ ?_ ?_ ?_); rotate_left 2; wtm_at "nm"; (exact fun w => by with_unfolding_all exact rfl); rotate_left; wtm_at "mt"; wtm_at "mt"; rotate_left) | ((with_reducible refine' E_bf ?_ ?_ ?_ ?_); rotate_left; wtm_at "nm"; wtm_at "mt"; wtm_at "mt") | ((with_reducible refine' T_plain ?_ ?_); rotate_left; wtm_at "mt"))) | (focus ((with_reducible refine' S_raise ?_ ?_ ?_ ?_ ?_ ?_ ?_); assumption; assumption; rotate_left; wtm_at "nm"; wtm_at "mt"; wtm_at "mt"; rotate_left)))
    all_goals try (rw [hr]; decide)
    all_goals (simp only [List.all_cons, plainC] at h2)
    · exact RetX.here (h0 (by rw [h2]; simp; lia))
    · exact RetX.here (h0 (by rw [h2]; simp; lia))
    · exact ⟨_, _, by wtm_at "wk", rest, rfl, by rw [h2]; simp; lia, rfl, rfl⟩
    · exact ⟨_, _, by wtm_at "wk", rest, rfl, by rw [h2]; simp; lia, rfl, rfl⟩
  · exact ⟨_, _, Wk.refl, d, rfl, rfl, rfl, rfl⟩
end
end
section
inductive PenF (P C : Addr) (st : Pen) : Led → (Pen → Led) → Prop
  | here {r} : PenF P C st ((P, st.po C) :: (C, st.co) :: r) (fun st' => (P, st'.po C) :: (C, st'.co) :: r)
  | there {q r f} : PenF P C st r f → PenF P C st (q :: r) (fun st' => q :: f st')
theorem PenF.next {P C : Addr} {st : Pen} {led : Led} {f : Pen → Led} (h : PenF P C st led f) (st1 : Pen) : PenF P C st1 (f st1) f := by
  induction h with
  | here => exact .here
  | there _ ih => exact .there ih
theorem PenF.self {P C : Addr} {st : Pen} {led : Led} {f : Pen → Led} (h : PenF P C st led f) : f st = led := by
  induction h with
  | here => rfl
  | there _ ih => simp [ih]
theorem PenF.memP {P C : Addr} {st : Pen} {led : Led} {f : Pen → Led} (h : PenF P C st led f) : (P, .list [.ref C, .int st.spot, .int st.turn]) ∈ led := by
  induction h with
  | here => exact .head _
  | there _ ih => exact .tail _ ih
theorem PenF.memC {P C : Addr} {st : Pen} {led : Led} {f : Pen → Led} (h : PenF P C st led f) : (C, .list (st.cells.map fun (n : Nat) => PV.int (n : Int))) ∈ led := by
  induction h with
  | here => exact .tail _ (.head _)
  | there _ ih => exact .tail _ ih
theorem PenF.upC {P C : Addr} {st : Pen} {led : Led} {f : Pen → Led} (h : PenF P C st led f) (cs : List Nat) : UpdL C (.list (st.cells.map fun (n : Nat) => PV.int (n : Int))) (.list (cs.map fun (n : Nat) => PV.int (n : Int))) led (f { st with cells := cs }) := by
  induction h with
  | here => exact .there .here
  | there _ ih => exact .there ih
theorem PenF.upP {P C : Addr} {st : Pen} {led : Led} {f : Pen → Led} (h : PenF P C st led f) (sp tu : Nat) : UpdL P (.list [.ref C, .int st.spot, .int st.turn]) (.list [.ref C, .int sp, .int tu]) led (f { st with spot := sp, turn := tu }) := by
  induction h with
  | here => exact .here
  | there _ ih => exact .there ih
theorem smallMul {a b : Int} (h : a.natAbs < 2 ^ 60) : IntMulOk a b := IntMulOk.of_left (by
  unfold Builtin.Int.intBits
  split
  · lia
  · rename_i h0
    have := (Nat.log2_lt (n := a.natAbs) (k := 60) (by simpa using h0)).mpr h
    lia)
noncomputable def PenOk (B : Nat) (st : Pen) : Prop := st.cells.length ≤ 40 ∧ st.turn ≤ B
section
variable {Q : PV → Led → Prop} {X : Led → Prop} {led : Led}
theorem c_drawn {P C : Addr} {st : Pen} {f : Pen → Led} {many B : Nat} (hm : 0 < many) (hm2 : many ≤ 1000000) (hB : B ≤ 100000) (ok : PenOk B st) (U : PenF P C st led f) (h : ∀ (v : Nat) st', v < many → PenOk (B + 1) st' → Q (.int v) (f st')) : Fn 237 1 [.ref P, .int many] Q X led := by
  refine Fd_2 "pen" "many" (fun w => by exact rfl) (fun w => by exact rfl) (fun _ _ => rfl) (by decide) (by decide) (fun c' hr hc hs hi => ?_)
  obtain ⟨o1, o2⟩ := ok
  have mP := U.memP
  have mC := U.memC
  repeat' (first | (focus (first | with_reducible (first | refine Thn_next ?_ | refine Thn_ret ?_ | refine S_nil ?_ | refine S_cons ?_ | refine S_ret ?_ | refine S_if ?_ | refine E_int ?_ | refine L_nil ?_ | refine E_bin ?_ | refine E_if ?_ | refine B_add ?_ | refine C_lt ?_ | refine Tr_bool ?_ | refine ite_d (fun _ => ?_) (fun _ => ?_)) | ((with_reducible refine' S_set ?_ ?_ ?_ ?_); assumption; rotate_left; wtm_at "loc"; wtm_at "mt") | ((with_reducible refine' S_un3 ?_ ?_ ?_ ?_ ?_ ?_ ?_); assumption; rotate_left; wtm_at "loc"; wtm_at "loc"; wtm_at "loc"; wtm_at "mt"; wtm_at "mt") | ((with_reducible apply exSet); wtm_at "setv") | ((with_reducible apply exSets); wtm_at "setvs") | ((with_reducible refine' ⟨?_, fun _ => ?_⟩); exact Nat.le_of_ble_eq_true rfl) | ((with_reducible refine' ⟨_, TupL.l ?_, ?_⟩); rotate_left; wtm_at "mem") | (with_reducible refine ⟨_, rfl, ?_⟩) | (with_reducible refine ⟨_, _, rfl, ?_⟩) | (with_reducible refine ⟨_, _, _, rfl, ?_⟩) | ((with_reducible (first | refine' L_cons ?_ ?_ | refine' T_cmp ?_ ?_ | refine' E_item ?_ ?_ | refine' S_setitem ?_ ?_)); rotate_left; wtm_at "mt") | wtm_at "name" | ((with_reducible refine' E_bf ?_ ?_ ?_ ?_); rotate_left; wtm_at "nm"; wtm_at "mt"; wtm_at "mt"))) | refine ⟨_, TupL.l mP, ?_⟩ | refine Bi_lenL mC ?_ (by simp; lia))
  · rename (_ < _) => x
    have hsp : st.spot < st.cells.length := by simpa using x
    have hv : (st.cells.map fun (n : Nat) => PV.int (n : Int))[((st.spot : Nat) : Int).toNat]? = some (.int ((st.cells.getD st.spot 0 : Nat) : Int)) := by simp [hsp]
    refine It_list mC (by lia) hv (by simp; lia) ?_
    generalize st.cells.getD st.spot 0 = worth
    have hd : (worth : Int).fdiv (many : Int) = ((worth / many : Nat) : Int) := by rw [Int.fdiv_eq_ediv_of_nonneg _ (by lia)]; rfl
    have U1 := U.upC (st.cells.set st.spot (worth / many))
    rw [List.map_set, ← hd] at U1
    have N1 := U.next { st with cells := st.cells.set st.spot (worth / many) }
    repeat' (first | (focus (first | with_reducible (first | refine Thn_next ?_ | refine Thn_ret ?_ | refine S_nil ?_ | refine S_cons ?_ | refine S_ret ?_ | refine S_if ?_ | refine E_int ?_ | refine L_nil ?_ | refine E_bin ?_ | refine E_if ?_ | refine B_add ?_ | refine C_lt ?_ | refine Tr_bool ?_ | refine ite_d (fun _ => ?_) (fun _ => ?_)) | ((with_reducible refine' S_set ?_ ?_ ?_ ?_); assumption; rotate_left; wtm_at "loc"; wtm_at "mt") | ((with_reducible refine' S_un3 ?_ ?_ ?_ ?_ ?_ ?_ ?_); assumption; rotate_left; wtm_at "loc"; wtm_at "loc"; wtm_at "loc"; wtm_at "mt"; wtm_at "mt") | ((with_reducible apply exSet); wtm_at "setv") | ((with_reducible apply exSets); wtm_at "setvs") | ((with_reducible refine' ⟨?_, fun _ => ?_⟩); exact Nat.le_of_ble_eq_true rfl) | ((with_reducible refine' ⟨_, TupL.l ?_, ?_⟩); rotate_left; wtm_at "mem") | (with_reducible refine ⟨_, rfl, ?_⟩) | (with_reducible refine ⟨_, _, rfl, ?_⟩) | (with_reducible refine ⟨_, _, _, rfl, ?_⟩) | ((with_reducible (first | refine' L_cons ?_ ?_ | refine' T_cmp ?_ ?_ | refine' E_item ?_ ?_ | refine' S_setitem ?_ ?_)); rotate_left; wtm_at "mt") | wtm_at "name" | ((with_reducible refine' E_bf ?_ ?_ ?_ ?_); rotate_left; wtm_at "nm"; wtm_at "mt"; wtm_at "mt"))) | refine B_div ?_ (by lia) (by lia))
    refine ⟨C, st.spot, _, _, rfl, rfl, by simpa using hsp, by simp; lia, U1, ?_⟩
    repeat' (first | (focus (first | with_reducible (first | refine Thn_next ?_ | refine Thn_ret ?_ | refine S_nil ?_ | refine S_cons ?_ | refine S_ret ?_ | refine S_if ?_ | refine E_int ?_ | refine L_nil ?_ | refine E_bin ?_ | refine E_if ?_ | refine B_add ?_ | refine C_lt ?_ | refine Tr_bool ?_ | refine ite_d (fun _ => ?_) (fun _ => ?_)) | ((with_reducible refine' S_set ?_ ?_ ?_ ?_); assumption; rotate_left; wtm_at "loc"; wtm_at "mt") | ((with_reducible refine' S_un3 ?_ ?_ ?_ ?_ ?_ ?_ ?_); assumption; rotate_left; wtm_at "loc"; wtm_at "loc"; wtm_at "loc"; wtm_at "mt"; wtm_at "mt") | ((with_reducible apply exSet); wtm_at "setv") | ((with_reducible apply exSets); wtm_at "setvs") | ((with_reducible refine' ⟨?_, fun _ => ?_⟩); exact Nat.le_of_ble_eq_true rfl) | ((with_reducible refine' ⟨_, TupL.l ?_, ?_⟩); rotate_left; wtm_at "mem") | (with_reducible refine ⟨_, rfl, ?_⟩) | (with_reducible refine ⟨_, _, rfl, ?_⟩) | (with_reducible refine ⟨_, _, _, rfl, ?_⟩) | ((with_reducible (first | refine' L_cons ?_ ?_ | refine' T_cmp ?_ ?_ | refine' E_item ?_ ?_ | refine' S_setitem ?_ ?_)); rotate_left; wtm_at "mt") | wtm_at "name" | ((with_reducible refine' E_bf ?_ ?_ ?_ ?_); rotate_left; wtm_at "nm"; wtm_at "mt"; wtm_at "mt"))))
    · refine ⟨P, 1, _, _, rfl, rfl, by show 1 < 3; decide, by show 3 ≤ 16777216; decide, N1.upP (st.spot + 1) st.turn, ?_⟩
      repeat' (first | (focus (first | with_reducible (first | refine Thn_next ?_ | refine Thn_ret ?_ | refine S_nil ?_ | refine S_cons ?_ | refine S_ret ?_ | refine S_if ?_ | refine E_int ?_ | refine L_nil ?_ | refine E_bin ?_ | refine E_if ?_ | refine B_add ?_ | refine C_lt ?_ | refine Tr_bool ?_ | refine ite_d (fun _ => ?_) (fun _ => ?_)) | ((with_reducible refine' S_set ?_ ?_ ?_ ?_); assumption; rotate_left; wtm_at "loc"; wtm_at "mt") | ((with_reducible refine' S_un3 ?_ ?_ ?_ ?_ ?_ ?_ ?_); assumption; rotate_left; wtm_at "loc"; wtm_at "loc"; wtm_at "loc"; wtm_at "mt"; wtm_at "mt") | ((with_reducible apply exSet); wtm_at "setv") | ((with_reducible apply exSets); wtm_at "setvs") | ((with_reducible refine' ⟨?_, fun _ => ?_⟩); exact Nat.le_of_ble_eq_true rfl) | ((with_reducible refine' ⟨_, TupL.l ?_, ?_⟩); rotate_left; wtm_at "mem") | (with_reducible refine ⟨_, rfl, ?_⟩) | (with_reducible refine ⟨_, _, rfl, ?_⟩) | (with_reducible refine ⟨_, _, _, rfl, ?_⟩) | ((with_reducible (first | refine' L_cons ?_ ?_ | refine' T_cmp ?_ ?_ | refine' E_item ?_ ?_ | refine' S_setitem ?_ ?_)); rotate_left; wtm_at "mt") | wtm_at "name" | ((with_reducible refine' E_bf ?_ ?_ ?_ ?_); rotate_left; wtm_at "nm"; wtm_at "mt"; wtm_at "mt"))) | refine B_mod ?_ (by lia))
      refine Ret.here ?_
      rw [show ((worth : Int)).fmod (many : Int) = ((worth % many : Nat) : Int) by rw [Int.fmod_eq_emod_of_nonneg _ (by lia)]; rfl]
      exact h _ _ (Nat.mod_lt _ hm) ⟨by simpa using o1, by show st.turn ≤ B + 1; lia⟩
    · refine ⟨P, 1, _, _, rfl, rfl, by show 1 < 3; decide, by show 3 ≤ 16777216; decide, N1.upP st.spot st.turn, ?_⟩
      repeat' (first | (focus (first | with_reducible (first | refine Thn_next ?_ | refine Thn_ret ?_ | refine S_nil ?_ | refine S_cons ?_ | refine S_ret ?_ | refine S_if ?_ | refine E_int ?_ | refine L_nil ?_ | refine E_bin ?_ | refine E_if ?_ | refine B_add ?_ | refine C_lt ?_ | refine Tr_bool ?_ | refine ite_d (fun _ => ?_) (fun _ => ?_)) | ((with_reducible refine' S_set ?_ ?_ ?_ ?_); assumption; rotate_left; wtm_at "loc"; wtm_at "mt") | ((with_reducible refine' S_un3 ?_ ?_ ?_ ?_ ?_ ?_ ?_); assumption; rotate_left; wtm_at "loc"; wtm_at "loc"; wtm_at "loc"; wtm_at "mt"; wtm_at "mt") | ((with_reducible apply exSet); wtm_at "setv") | ((with_reducible apply exSets); wtm_at "setvs") | ((with_reducible refine' ⟨?_, fun _ => ?_⟩); exact Nat.le_of_ble_eq_true rfl) | ((with_reducible refine' ⟨_, TupL.l ?_, ?_⟩); rotate_left; wtm_at "mem") | (with_reducible refine ⟨_, rfl, ?_⟩) | (with_reducible refine ⟨_, _, rfl, ?_⟩) | (with_reducible refine ⟨_, _, _, rfl, ?_⟩) | ((with_reducible (first | refine' L_cons ?_ ?_ | refine' T_cmp ?_ ?_ | refine' E_item ?_ ?_ | refine' S_setitem ?_ ?_)); rotate_left; wtm_at "mt") | wtm_at "name" | ((with_reducible refine' E_bf ?_ ?_ ?_ ?_); rotate_left; wtm_at "nm"; wtm_at "mt"; wtm_at "mt"))) | refine B_mod ?_ (by lia))
      refine Ret.here ?_
      rw [show ((worth : Int)).fmod (many : Int) = ((worth % many : Nat) : Int) by rw [Int.fmod_eq_emod_of_nonneg _ (by lia)]; rfl]
      exact h _ _ (Nat.mod_lt _ hm) ⟨by simpa using o1, by show st.turn ≤ B + 1; lia⟩
  · refine ⟨P, 2, _, _, rfl, rfl, by show 2 < 3; decide, by show 3 ≤ 16777216; decide, U.upP st.spot (st.turn + 1), ?_⟩
    repeat' (first | (focus (first | with_reducible (first | refine Thn_next ?_ | refine Thn_ret ?_ | refine S_nil ?_ | refine S_cons ?_ | refine S_ret ?_ | refine S_if ?_ | refine E_int ?_ | refine L_nil ?_ | refine E_bin ?_ | refine E_if ?_ | refine B_add ?_ | refine C_lt ?_ | refine Tr_bool ?_ | refine ite_d (fun _ => ?_) (fun _ => ?_)) | ((with_reducible refine' S_set ?_ ?_ ?_ ?_); assumption; rotate_left; wtm_at "loc"; wtm_at "mt") | ((with_reducible refine' S_un3 ?_ ?_ ?_ ?_ ?_ ?_ ?_); assumption; rotate_left; wtm_at "loc"; wtm_at "loc"; wtm_at "loc"; wtm_at "mt"; wtm_at "mt") | ((with_reducible apply exSet); wtm_at "setv") | ((with_reducible apply exSets); wtm_at "setvs") | ((with_reducible refine' ⟨?_, fun _ => ?_⟩); exact Nat.le_of_ble_eq_true rfl) | ((with_reducible refine' ⟨_, TupL.l ?_, ?_⟩); rotate_left; wtm_at "mem") | (with_reducible refine ⟨_, rfl, ?_⟩) | (with_reducible refine ⟨_, _, rfl, ?_⟩) | (with_reducible refine ⟨_, _, _, rfl, ?_⟩) | ((with_reducible (first | refine' L_cons ?_ ?_ | refine' T_cmp ?_ ?_ | refine' E_item ?_ ?_ | refine' S_setitem ?_ ?_)); rotate_left; wtm_at "mt") | wtm_at "name" | ((with_reducible refine' E_bf ?_ ?_ ?_ ?_); rotate_left; wtm_at "nm"; wtm_at "mt"; wtm_at "mt"))) | refine B_mod ?_ (by lia) | refine B_mul ?_ (smallMul (by lia)))
    refine Ret.here ?_
    rw [show ((53 * (st.turn : Int) * st.turn + 23 * st.turn + 13).fmod 10061).fmod (many : Int) = (((53 * st.turn * st.turn + 23 * st.turn + 13) % 10061 % many : Nat) : Int) by
      rw [Int.fmod_eq_emod_of_nonneg _ (by lia), Int.fmod_eq_emod_of_nonneg _ (by lia)]; rfl]
    exact h _ _ (Nat.mod_lt _ hm) ⟨o1, by show st.turn + 1 ≤ B + 1; lia⟩
end
end
section
/-- a side of an id: in quotes, in brackets, or a run -/
noncomputable def sideS (q cl : UInt8) (bar : List UInt8) (l : List UInt8) : Option (List UInt8 × Nat) :=
  if l.take 1 = [q] then (closedS cl bar (l.drop 1)).map fun p => (p.1, p.2 + 1)
  else if runN l = 0 then none else some (l.take (runN l), runN l)
/-- an id at the head of l (whose first sign is the opening one): its octets and how many are read -/
noncomputable def idS (l : List UInt8) : Option (List UInt8 × Nat) :=
  match sideS 34 34 [] (l.drop 1) with
  | none => none
  | some (le, n) =>
    if ((l.drop (1 + n)).take 1) ≠ [64] then none else
    match sideS 91 93 [91] (l.drop (1 + n + 1)) with
    | none => none
    | some (ri, m) =>
      let ri' := if (l.drop (1 + n + 1)).take 1 = [91] then [91] ++ ri ++ [93] else ri
      if (l.drop (1 + n + 1 + m)).take 1 ≠ [62] then none else
      if (le ++ ri').all plainC then some (le ++ [64] ++ ri', 1 + n + 1 + m + 1) else none
theorem closedS_bd {q : UInt8} {bar : List UInt8} : ∀ (k : Nat) (l : List UInt8), l.length ≤ k → ∀ {o n}, closedS q bar l = some (o, n) → n ≤ l.length ∧ o.length ≤ n ∧ 0 < n := by
  intro k
  induction k with
  | zero => intro l hl o n h; have : l = [] := List.length_eq_zero_iff.mp (by lia); subst this; rw [closedS_nil] at h; cases h
  | succ k ih =>
    intro l hl o n h
    match l with
    | [] => rw [closedS_nil] at h; cases h
    | x :: r =>
      rw [closedS_cons] at h
      split at h
      · cases h; simp
      · split at h
        · cases h
        · cases hi : insideS (x :: r) with
          | none => rw [hi] at h; cases h
          | some p =>
            obtain ⟨o1, n1⟩ := p
            rw [hi] at h
            have hp := insideS_pos hi
            cases hc : closedS q bar ((x :: r).drop n1) with
            | none => simp only [hc] at h; cases h
            | some p =>
              obtain ⟨o2, n2⟩ := p
              simp only [hc] at h
              cases h
              have := ih _ (by rw [List.length_drop]; lia) hc
              rw [List.length_drop] at this
              simp only [List.length_append]
              lia
theorem idS_at {d : List UInt8} {i : Nat} : idS (d.drop i) = match sideS 34 34 [] (d.drop (i + 1)) with
  | none => none
  | some (le, n) =>
    if ((d.drop (i + 1 + n)).take 1) ≠ [64] then none else
    match sideS 91 93 [91] (d.drop (i + 1 + n + 1)) with
    | none => none
    | some (ri, m) =>
      let ri' := if (d.drop (i + 1 + n + 1)).take 1 = [91] then [91] ++ ri ++ [93] else ri
      if (d.drop (i + 1 + n + 1 + m)).take 1 ≠ [62] then none else
      if (le ++ ri').all plainC then some (le ++ [64] ++ ri', 1 + n + 1 + m + 1) else none := by
  unfold idS
  simp only [List.drop_drop, Nat.add_assoc]
theorem len_of_take {d : List UInt8} {i : Nat} {x : UInt8} (h : (d.drop i).take 1 = [x]) : i < d.length := by
  rcases Nat.lt_or_ge i d.length with h' | h'
  · exact h'
  · rw [List.drop_of_length_le h'] at h; cases h
section
variable {Q : PV → Led → Prop} {X : Led → Prop} {led : Led}
theorem c_closed' {d : List UInt8} {q : UInt8} {bar : List UInt8} {i : Nat} (hd : d.length ≤ 100000) (hi : i < d.length)
    (h0 : closedS q bar (d.drop (i + 1)) = none → X led) (h1 : ∀ o n, closedS q bar (d.drop (i + 1)) = some (o, n) → o.length ≤ d.length ∧ i + 1 + n ≤ d.length → ∀ r, Q (.ref r) ((r, .tuple [.bytes o, .int ((i + 1 + n : Nat) : Int)]) :: led)) : Fn 95 5 [.bytes d, .int i, .bytes [q], .bytes bar] Q X led :=
  c_closed hd hi h0 fun o n e r => by
    have hb := closedS_bd _ _ (Nat.le_refl _) e
    rw [List.length_drop] at hb
    exact h1 o n e ⟨by lia, by lia⟩ r
theorem c_id_at {d : List UInt8} {i : Nat} (hd : d.length ≤ 100000) (hi0 : i < d.length)
    (h0 : idS (d.drop i) = none → X led) (h1 : ∀ o n, idS (d.drop i) = some (o, n) → ∀ r, Q (.ref r) ((r, .tuple [.str (o.map UInt8.toNat), .int ((i + n : Nat) : Int)]) :: led)) : Fn 134 6 [.bytes d, .int i] Q X led := by
  refine Fd_2 "data" "at" (fun w => by exact rfl) (fun w => by exact rfl) (fun _ _ => rfl) (by decide) (by decide) (fun c' hr hc hs hi => ?_)
  refine S_cut (fun v l => (E2 fun le n => A5 (sideS 34 34 [] (d.drop (i + 1)) = some (le, n)) (le.length ≤ d.length) (i + 1 + n ≤ d.length) (v = ([("data", .bytes d), ("at", .int i), ("left", .bytes le), ("spot", .int ((i + 1 + n : Nat) : Int))] : Vars)) (led = l))) ?_ ?_
  · repeat' (first | (focus (first | with_reducible (first | refine Thn_next ?_ | refine Thn_ret ?_ | refine S_nil ?_ | refine S_cons ?_ | refine S_ret ?_ | refine S_if ?_ | refine E_int ?_ | refine E_str ?_ | refine E_bytes ?_ | refine L_nil ?_ | refine E_bin ?_ | refine E_slice ?_ | refine P_some ?_ | refine E_tuple ?_ | refine B_add ?_ | refine C_eqB ?_ | refine C_neB ?_ | refine Tr_bool ?_ | refine ite_d (fun _ => ?_) (fun _ => ?_) | refine ⟨Recv.str, ?_⟩) | ((with_reducible refine' S_set ?_ ?_ ?_ ?_); assumption; rotate_left; wtm_at "loc"; wtm_at "mt") | ((with_reducible refine' S_un2 ?_ ?_ ?_ ?_ ?_ ?_); assumption; rotate_left; wtm_at "loc"; wtm_at "loc"; wtm_at "mt"; wtm_at "mt") | ((with_reducible refine' B_addB ?_ ?_); rotate_left; wtm_at "sz") | ((with_reducible refine' S_expr ?_ ?_ ?_); assumption; rotate_left; wtm_at "mt") | ((with_reducible refine' ⟨_, Cuts.b ?_, ?_⟩); wtm_at "side") | ((with_reducible apply exSet); wtm_at "setv") | ((with_reducible apply exSets); wtm_at "setvs") | ((with_reducible refine' ⟨?_, fun _ => ?_⟩); exact Nat.le_of_ble_eq_true rfl) | ((with_reducible refine' ⟨_, TupL.t ?_, ?_⟩); rotate_left; wtm_at "mem") | (with_reducible refine ⟨_, rfl, ?_⟩) | (with_reducible refine ⟨_, _, rfl, ?_⟩) | (with_reducible refine ⟨_, _, _, rfl, ?_⟩) | ((with_reducible (first | refine' L_cons ?_ ?_ | refine' T_cmp ?_ ?_)); rotate_left; wtm_at "mt") | wtm_at "name" | ((with_reducible refine' E_fn ?_ ?_ ?_ ?_ ?_ ?_); rotate_left 2; wtm_at "nm"; (exact fun w => by with_unfolding_all exact rfl); rotate_left; wtm_at "mt"; wtm_at "mt"; rotate_left) | ((with_reducible refine' E_bf ?_ ?_ ?_ ?_); rotate_left; wtm_at "nm"; wtm_at "mt"; wtm_at "mt") | wtm_at "cname" | ((with_reducible refine' E_meth (o := .Constant (.str _) _ _) PySem.F.plainAttrs_str PySem.F.slot_str_join PySem.F.type_str_join ?_ ?_ ?_ ?_ ?_); rotate_left; wtm_at "mt"; wtm_at "mt"; wtm_at "mt"; rotate_left))) | refine c_closed (i := i + 1) (by lia) ?_ (fun e => ?_) (fun o n e r' => ?_) | refine c_run_at (i := i + 1) (by lia) (by lia) (fun e => ?_) (fun e r' => ?_))
    all_goals try (rw [hr]; decide)
    all_goals try simp only [cut_11] at *
    · exact len_of_take (by assumption)
    · rename (List.take 1 _ = [34]) => x
      refine RetX.here (h0 ?_)
      rw [idS_at]; simp only [sideS, x, List.drop_drop, e]; rfl
    · rename (List.take 1 _ = [34]) => x
      have hb := closedS_bd _ _ (Nat.le_refl _) e
      rw [List.length_drop] at hb
      refine ⟨by trivial, _, _, by wtm_at "wk", o, n + 1, ?_, by lia, by lia, ?_, rfl⟩
      · simp only [sideS, x, List.drop_drop, e]; rfl
      · rw [show i + 1 + (n + 1) = i + 1 + 1 + n by lia]
    · rename (¬ _ = [34]) => x
      refine RetX.here (h0 ?_)
      rw [idS_at]; simp only [sideS, if_neg x, if_pos e]
    · rename (¬ _ = [34]) => x
      have hb := runN_le (d.drop (i + 1))
      rw [List.length_drop] at hb
      exact ⟨by trivial, _, _, by wtm_at "wk", _, _, by simp only [sideS, if_neg x, if_neg e], by simp; lia, by lia, rfl, rfl⟩
  · rintro v l ⟨le, n, e1, hle, hn, rfl, rfl⟩
    generalize hsp : i + 1 + n = sp at hn
    refine S_cut (fun v l => (d.drop sp).take 1 = [64] ∧ v = ([("data", .bytes d), ("at", .int i), ("left", .bytes le), ("spot", .int (sp : Int))] : Vars) ∧ led = l) ?_ ?_
    · repeat' (first | (focus (first | with_reducible (first | refine Thn_next ?_ | refine Thn_ret ?_ | refine S_nil ?_ | refine S_cons ?_ | refine S_ret ?_ | refine S_if ?_ | refine E_int ?_ | refine E_str ?_ | refine E_bytes ?_ | refine L_nil ?_ | refine E_bin ?_ | refine E_slice ?_ | refine P_some ?_ | refine E_tuple ?_ | refine B_add ?_ | refine C_eqB ?_ | refine C_neB ?_ | refine Tr_bool ?_ | refine ite_d (fun _ => ?_) (fun _ => ?_) | refine ⟨Recv.str, ?_⟩) | ((with_reducible refine' S_set ?_ ?_ ?_ ?_); assumption; rotate_left; wtm_at "loc"; wtm_at "mt") | ((with_reducible refine' S_un2 ?_ ?_ ?_ ?_ ?_ ?_); assumption; rotate_left; wtm_at "loc"; wtm_at "loc"; wtm_at "mt"; wtm_at "mt") | ((with_reducible refine' B_addB ?_ ?_); rotate_left; wtm_at "sz") | ((with_reducible refine' S_expr ?_ ?_ ?_); assumption; rotate_left; wtm_at "mt") | ((with_reducible refine' ⟨_, Cuts.b ?_, ?_⟩); wtm_at "side") | ((with_reducible apply exSet); wtm_at "setv") | ((with_reducible apply exSets); wtm_at "setvs") | ((with_reducible refine' ⟨?_, fun _ => ?_⟩); exact Nat.le_of_ble_eq_true rfl) | ((with_reducible refine' ⟨_, TupL.t ?_, ?_⟩); rotate_left; wtm_at "mem") | (with_reducible refine ⟨_, rfl, ?_⟩) | (with_reducible refine ⟨_, _, rfl, ?_⟩) | (with_reducible refine ⟨_, _, _, rfl, ?_⟩) | ((with_reducible (first | refine' L_cons ?_ ?_ | refine' T_cmp ?_ ?_)); rotate_left; wtm_at "mt") | wtm_at "name" | ((with_reducible refine' E_fn ?_ ?_ ?_ ?_ ?_ ?_); rotate_left 2; wtm_at "nm"; (exact fun w => by with_unfolding_all exact rfl); rotate_left; wtm_at "mt"; wtm_at "mt"; rotate_left) | ((with_reducible refine' E_bf ?_ ?_ ?_ ?_); rotate_left; wtm_at "nm"; wtm_at "mt"; wtm_at "mt") | wtm_at "cname" | ((with_reducible refine' E_meth (o := .Constant (.str _) _ _) PySem.F.plainAttrs_str PySem.F.slot_str_join PySem.F.type_str_join ?_ ?_ ?_ ?_ ?_); rotate_left; wtm_at "mt"; wtm_at "mt"; wtm_at "mt"; rotate_left))) | (focus ((with_reducible refine' S_raise ?_ ?_ ?_ ?_ ?_ ?_ ?_); assumption; assumption; rotate_left; wtm_at "nm"; wtm_at "mt"; wtm_at "mt"; rotate_left)))
      all_goals try (rw [hr]; decide)
      all_goals try simp only [cut_1] at *
      · rename (_ ≠ [64]) => x
        refine RetX.here (h0 ?_)
        rw [idS_at, e1]; simp only [hsp, if_pos x]
      · rename (¬ _ ≠ [64]) => x
        exact ⟨by trivial, _, _, Wk.refl, by simpa using x, rfl, rfl⟩
    · rintro v l ⟨x1, rfl, rfl⟩
      have hsp1 := len_of_take x1
      refine S_cut (fun v l => (E2 fun ri m => A5 (sideS 91 93 [91] (d.drop (sp + 1)) = some (ri, m)) (ri.length ≤ d.length) (sp + 1 + m ≤ d.length) (v = ([("data", .bytes d), ("at", .int i), ("left", .bytes le), ("spot", .int (sp : Int)), ("right", .bytes (if (d.drop (sp + 1)).take 1 = [91] then [91] ++ ri ++ [93] else ri)), ("behind", .int ((sp + 1 + m : Nat) : Int))] : Vars)) (led = l))) ?_ ?_
      · repeat' (first | (focus (first | with_reducible (first | refine Thn_next ?_ | refine Thn_ret ?_ | refine S_nil ?_ | refine S_cons ?_ | refine S_ret ?_ | refine S_if ?_ | refine E_int ?_ | refine E_str ?_ | refine E_bytes ?_ | refine L_nil ?_ | refine E_bin ?_ | refine E_slice ?_ | refine P_some ?_ | refine E_tuple ?_ | refine B_add ?_ | refine C_eqB ?_ | refine C_neB ?_ | refine Tr_bool ?_ | refine ite_d (fun _ => ?_) (fun _ => ?_) | refine ⟨Recv.str, ?_⟩) | ((with_reducible refine' S_set ?_ ?_ ?_ ?_); assumption; rotate_left; wtm_at "loc"; wtm_at "mt") | ((with_reducible refine' S_un2 ?_ ?_ ?_ ?_ ?_ ?_); assumption; rotate_left; wtm_at "loc"; wtm_at "loc"; wtm_at "mt"; wtm_at "mt") | ((with_reducible refine' B_addB ?_ ?_); rotate_left; wtm_at "sz") | ((with_reducible refine' S_expr ?_ ?_ ?_); assumption; rotate_left; wtm_at "mt") | ((with_reducible refine' ⟨_, Cuts.b ?_, ?_⟩); wtm_at "side") | ((with_reducible apply exSet); wtm_at "setv") | ((with_reducible apply exSets); wtm_at "setvs") | ((with_reducible refine' ⟨?_, fun _ => ?_⟩); exact Nat.le_of_ble_eq_true rfl) | ((with_reducible refine' ⟨_, TupL.t ?_, ?_⟩); rotate_left; wtm_at "mem") | (with_reducible refine ⟨_, rfl, ?_⟩) | (with_reducible refine ⟨_, _, rfl, ?_⟩) | (with_reducible refine ⟨_, _, _, rfl, ?_⟩) | ((with_reducible (first | refine' L_cons ?_ ?_ | refine' T_cmp ?_ ?_)); rotate_left; wtm_at "mt") | wtm_at "name" | ((with_reducible refine' E_fn ?_ ?_ ?_ ?_ ?_ ?_); rotate_left 2; wtm_at "nm"; (exact fun w => by with_unfolding_all exact rfl); rotate_left; wtm_at "mt"; wtm_at "mt"; rotate_left) | ((with_reducible refine' E_bf ?_ ?_ ?_ ?_); rotate_left; wtm_at "nm"; wtm_at "mt"; wtm_at "mt") | wtm_at "cname" | ((with_reducible refine' E_meth (o := .Constant (.str _) _ _) PySem.F.plainAttrs_str PySem.F.slot_str_join PySem.F.type_str_join ?_ ?_ ?_ ?_ ?_); rotate_left; wtm_at "mt"; wtm_at "mt"; wtm_at "mt"; rotate_left))) | refine c_closed' (i := sp + 1) (by lia) ?_ (fun e => ?_) (fun o n e hb r' => ?_) | refine c_run_at (i := sp + 1) (by lia) (by lia) (fun e => ?_) (fun e r' => ?_))
        all_goals try (rw [hr]; decide)
        all_goals try simp only [cut_11] at *
        · exact len_of_take (by assumption)
        · rename (List.take 1 _ = [91]) => x
          refine RetX.here (h0 ?_)
          rw [idS_at, e1]; simp only [hsp, if_neg (fun k : ¬ _ = _ => k x1), sideS, x, List.drop_drop, e]; rfl
        · rename (List.take 1 _ = [91]) => x
          refine ⟨by trivial, _, _, by wtm_at "wk", o, n + 1, ?_, by lia, by lia, ?_, rfl⟩
          · simp only [sideS, x, List.drop_drop, e]; rfl
          · rw [if_pos x, show sp + 1 + (n + 1) = sp + 1 + 1 + n by lia]
        · rename (¬ _ = [91]) => x
          refine RetX.here (h0 ?_)
          rw [idS_at, e1]; simp only [hsp, if_neg (fun k : ¬ _ = _ => k x1), sideS, if_neg x, if_pos e]
        · rename (¬ _ = [91]) => x
          have hb := runN_le (d.drop (sp + 1))
          rw [List.length_drop] at hb
          exact ⟨by trivial, _, _, by wtm_at "wk", (d.drop (sp + 1)).take (runN (d.drop (sp + 1))), runN (d.drop (sp + 1)), by simp only [sideS, if_neg x, if_neg e], by simp; lia, by lia, by rw [if_neg x], rfl⟩
      · rintro v l ⟨ri, m, e2, hri, hm, rfl, rfl⟩
        generalize hri' : (if (d.drop (sp + 1)).take 1 = [91] then [91] ++ ri ++ [93] else ri) = ri'
        have hl : ri'.length ≤ d.length + 2 := by
          rw [← hri']; split
          · simp; lia
          · lia
        refine S_cut (fun v l => (d.drop (sp + 1 + m)).take 1 = [62] ∧ v = ([("data", .bytes d), ("at", .int i), ("left", .bytes le), ("spot", .int (sp : Int)), ("right", .bytes ri'), ("behind", .int ((sp + 1 + m : Nat) : Int))] : Vars) ∧ led = l) ?_ ?_
        · repeat' (first | (focus (first | with_reducible (first | refine Thn_next ?_ | refine Thn_ret ?_ | refine S_nil ?_ | refine S_cons ?_ | refine S_ret ?_ | refine S_if ?_ | refine E_int ?_ | refine E_str ?_ | refine E_bytes ?_ | refine L_nil ?_ | refine E_bin ?_ | refine E_slice ?_ | refine P_some ?_ | refine E_tuple ?_ | refine B_add ?_ | refine C_eqB ?_ | refine C_neB ?_ | refine Tr_bool ?_ | refine ite_d (fun _ => ?_) (fun _ => ?_) | refine ⟨Recv.str, ?_⟩) | ((with_reducible refine' S_set ?_ ?_ ?_ ?_); assumption; rotate_left; wtm_at "loc"; wtm_at "mt") | ((with_reducible refine' S_un2 ?_ ?_ ?_ ?_ ?_ ?_); assumption; rotate_left; wtm_at "loc"; wtm_at "loc"; wtm_at "mt"; wtm_at "mt") | ((with_reducible refine' B_addB ?_ ?_); rotate_left; wtm_at "sz") | ((with_reducible refine' S_expr ?_ ?_ ?_); assumption; rotate_left; wtm_at "mt") | ((with_reducible refine' ⟨_, Cuts.b ?_, ?_⟩); wtm_at "side") | ((with_reducible apply exSet); wtm_at "setv") | ((with_reducible apply exSets); wtm_at "setvs") | ((with_reducible refine' ⟨?_, fun _ => ?_⟩); exact Nat.le_of_ble_eq_true rfl) | ((with_reducible refine' ⟨_, TupL.t ?_, ?_⟩); rotate_left; wtm_at "mem") | (with_reducible refine ⟨_, rfl, ?_⟩) | (with_reducible refine ⟨_, _, rfl, ?_⟩) | (with_reducible refine ⟨_, _, _, rfl, ?_⟩) | ((with_reducible (first | refine' L_cons ?_ ?_ | refine' T_cmp ?_ ?_)); rotate_left; wtm_at "mt") | wtm_at "name" | ((with_reducible refine' E_fn ?_ ?_ ?_ ?_ ?_ ?_); rotate_left 2; wtm_at "nm"; (exact fun w => by with_unfolding_all exact rfl); rotate_left; wtm_at "mt"; wtm_at "mt"; rotate_left) | ((with_reducible refine' E_bf ?_ ?_ ?_ ?_); rotate_left; wtm_at "nm"; wtm_at "mt"; wtm_at "mt") | wtm_at "cname" | ((with_reducible refine' E_meth (o := .Constant (.str _) _ _) PySem.F.plainAttrs_str PySem.F.slot_str_join PySem.F.type_str_join ?_ ?_ ?_ ?_ ?_); rotate_left; wtm_at "mt"; wtm_at "mt"; wtm_at "mt"; rotate_left))) | (focus ((with_reducible refine' S_raise ?_ ?_ ?_ ?_ ?_ ?_ ?_); assumption; assumption; rotate_left; wtm_at "nm"; wtm_at "mt"; wtm_at "mt"; rotate_left)))
          all_goals try (rw [hr]; decide)
          all_goals try simp only [cut_1] at *
          · rename (_ ≠ [62]) => x
            refine RetX.here (h0 ?_)
            rw [idS_at, e1]; simp only [hsp, if_neg (fun k : ¬ _ = _ => k x1), e2, if_pos x]
          · rename (¬ _ ≠ [62]) => x
            exact ⟨by trivial, _, _, Wk.refl, by simpa using x, rfl, rfl⟩
        · rintro v l ⟨x2, rfl, rfl⟩
          repeat' (first | (focus (first | with_reducible (first | refine Thn_next ?_ | refine Thn_ret ?_ | refine S_nil ?_ | refine S_cons ?_ | refine S_ret ?_ | refine S_if ?_ | refine E_int ?_ | refine E_str ?_ | refine E_bytes ?_ | refine L_nil ?_ | refine E_bin ?_ | refine E_slice ?_ | refine P_some ?_ | refine E_tuple ?_ | refine B_add ?_ | refine C_eqB ?_ | refine C_neB ?_ | refine Tr_bool ?_ | refine ite_d (fun _ => ?_) (fun _ => ?_) | refine ⟨Recv.str, ?_⟩) | ((with_reducible refine' S_set ?_ ?_ ?_ ?_); assumption; rotate_left; wtm_at "loc"; wtm_at "mt") | ((with_reducible refine' S_un2 ?_ ?_ ?_ ?_ ?_ ?_); assumption; rotate_left; wtm_at "loc"; wtm_at "loc"; wtm_at "mt"; wtm_at "mt") | ((with_reducible refine' B_addB ?_ ?_); rotate_left; wtm_at "sz") | ((with_reducible refine' S_expr ?_ ?_ ?_); assumption; rotate_left; wtm_at "mt") | ((with_reducible refine' ⟨_, Cuts.b ?_, ?_⟩); wtm_at "side") | ((with_reducible apply exSet); wtm_at "setv") | ((with_reducible apply exSets); wtm_at "setvs") | ((with_reducible refine' ⟨?_, fun _ => ?_⟩); exact Nat.le_of_ble_eq_true rfl) | ((with_reducible refine' ⟨_, TupL.t ?_, ?_⟩); rotate_left; wtm_at "mem") | (with_reducible refine ⟨_, rfl, ?_⟩) | (with_reducible refine ⟨_, _, rfl, ?_⟩) | (with_reducible refine ⟨_, _, _, rfl, ?_⟩) | ((with_reducible (first | refine' L_cons ?_ ?_ | refine' T_cmp ?_ ?_)); rotate_left; wtm_at "mt") | wtm_at "name" | ((with_reducible refine' E_fn ?_ ?_ ?_ ?_ ?_ ?_); rotate_left 2; wtm_at "nm"; (exact fun w => by with_unfolding_all exact rfl); rotate_left; wtm_at "mt"; wtm_at "mt"; rotate_left) | ((with_reducible refine' E_bf ?_ ?_ ?_ ?_); rotate_left; wtm_at "nm"; wtm_at "mt"; wtm_at "mt") | wtm_at "cname" | ((with_reducible refine' E_meth (o := .Constant (.str _) _ _) PySem.F.plainAttrs_str PySem.F.slot_str_join PySem.F.type_str_join ?_ ?_ ?_ ?_ ?_); rotate_left; wtm_at "mt"; wtm_at "mt"; wtm_at "mt"; rotate_left))) | refine c_check_plain (fun e => ?_) (fun e => ?_) | (focus ((with_reducible apply E_compB0); assumption; assumption; exact closureFor_none (by decide); exact relab_free (by decide); rfl; decide; decide; wtm_at "mt"; wtm_at "mt")))
          all_goals try (rw [hr]; decide)
          · refine RetX.here (h0 ?_)
            rw [idS_at, e1]; simp only [hsp, if_neg (fun k : ¬ _ = _ => k x1), e2, if_neg (fun k : ¬ _ = _ => k x2), hri', e]
            rfl
          · have hid : idS (d.drop i) = some (le ++ [64] ++ ri', 1 + n + 1 + m + 1) := by
              rw [idS_at, e1]; simp only [hsp, if_neg (fun k : ¬ _ = _ => k x1), e2, if_neg (fun k : ¬ _ = _ => k x2), hri', e, if_true]
            generalize hw : le ++ [64] ++ ri' = wd at hid
            have hwl : wd.length ≤ 300000 := by rw [← hw]; simp only [List.length_append, List.length_singleton]; lia
            refine ⟨by lia, WComp_map (fun p => match p with | .int z => .str [z.toNat] | p => p) led _ (fun p hp c₂ hcc R hR => ?_) [] (fun r => ?_)⟩
            · obtain ⟨u, hu, rfl⟩ := List.mem_map.mp hp
              repeat' (first | (focus (first | with_reducible (first | refine Thn_next ?_ | refine Thn_ret ?_ | refine S_nil ?_ | refine S_cons ?_ | refine S_ret ?_ | refine S_if ?_ | refine E_int ?_ | refine E_str ?_ | refine E_bytes ?_ | refine L_nil ?_ | refine E_bin ?_ | refine E_slice ?_ | refine P_some ?_ | refine E_tuple ?_ | refine B_add ?_ | refine C_eqB ?_ | refine C_neB ?_ | refine Tr_bool ?_ | refine ite_d (fun _ => ?_) (fun _ => ?_) | refine ⟨Recv.str, ?_⟩) | ((with_reducible refine' S_set ?_ ?_ ?_ ?_); assumption; rotate_left; wtm_at "loc"; wtm_at "mt") | ((with_reducible refine' S_un2 ?_ ?_ ?_ ?_ ?_ ?_); assumption; rotate_left; wtm_at "loc"; wtm_at "loc"; wtm_at "mt"; wtm_at "mt") | ((with_reducible refine' B_addB ?_ ?_); rotate_left; wtm_at "sz") | ((with_reducible refine' S_expr ?_ ?_ ?_); assumption; rotate_left; wtm_at "mt") | ((with_reducible refine' ⟨_, Cuts.b ?_, ?_⟩); wtm_at "side") | ((with_reducible apply exSet); wtm_at "setv") | ((with_reducible apply exSets); wtm_at "setvs") | ((with_reducible refine' ⟨?_, fun _ => ?_⟩); exact Nat.le_of_ble_eq_true rfl) | ((with_reducible refine' ⟨_, TupL.t ?_, ?_⟩); rotate_left; wtm_at "mem") | (with_reducible refine ⟨_, rfl, ?_⟩) | (with_reducible refine ⟨_, _, rfl, ?_⟩) | (with_reducible refine ⟨_, _, _, rfl, ?_⟩) | ((with_reducible (first | refine' L_cons ?_ ?_ | refine' T_cmp ?_ ?_)); rotate_left; wtm_at "mt") | wtm_at "name" | ((with_reducible refine' E_fn ?_ ?_ ?_ ?_ ?_ ?_); rotate_left 2; wtm_at "nm"; (exact fun w => by with_unfolding_all exact rfl); rotate_left; wtm_at "mt"; wtm_at "mt"; rotate_left) | ((with_reducible refine' E_bf ?_ ?_ ?_ ?_); rotate_left; wtm_at "nm"; wtm_at "mt"; wtm_at "mt") | wtm_at "cname" | ((with_reducible refine' E_meth (o := .Constant (.str _) _ _) PySem.F.plainAttrs_str PySem.F.slot_str_join PySem.F.type_str_join ?_ ?_ ?_ ?_ ?_); rotate_left; wtm_at "mt"; wtm_at "mt"; wtm_at "mt"; rotate_left))) | refine Bi_chr ?_ (by lia) ?_)
              · exact hR
              · have := u.toNat_lt; lia
            · repeat' (focus (first | with_reducible (first | refine Thn_next ?_ | refine Thn_ret ?_ | refine S_nil ?_ | refine S_cons ?_ | refine S_ret ?_ | refine S_if ?_ | refine E_int ?_ | refine E_str ?_ | refine E_bytes ?_ | refine L_nil ?_ | refine E_bin ?_ | refine E_slice ?_ | refine P_some ?_ | refine E_tuple ?_ | refine B_add ?_ | refine C_eqB ?_ | refine C_neB ?_ | refine Tr_bool ?_ | refine ite_d (fun _ => ?_) (fun _ => ?_) | refine ⟨Recv.str, ?_⟩) | ((with_reducible refine' S_set ?_ ?_ ?_ ?_); assumption; rotate_left; wtm_at "loc"; wtm_at "mt") | ((with_reducible refine' S_un2 ?_ ?_ ?_ ?_ ?_ ?_); assumption; rotate_left; wtm_at "loc"; wtm_at "loc"; wtm_at "mt"; wtm_at "mt") | ((with_reducible refine' B_addB ?_ ?_); rotate_left; wtm_at "sz") | ((with_reducible refine' S_expr ?_ ?_ ?_); assumption; rotate_left; wtm_at "mt") | ((with_reducible refine' ⟨_, Cuts.b ?_, ?_⟩); wtm_at "side") | ((with_reducible apply exSet); wtm_at "setv") | ((with_reducible apply exSets); wtm_at "setvs") | ((with_reducible refine' ⟨?_, fun _ => ?_⟩); exact Nat.le_of_ble_eq_true rfl) | ((with_reducible refine' ⟨_, TupL.t ?_, ?_⟩); rotate_left; wtm_at "mem") | (with_reducible refine ⟨_, rfl, ?_⟩) | (with_reducible refine ⟨_, _, rfl, ?_⟩) | (with_reducible refine ⟨_, _, _, rfl, ?_⟩) | ((with_reducible (first | refine' L_cons ?_ ?_ | refine' T_cmp ?_ ?_)); rotate_left; wtm_at "mt") | wtm_at "name" | ((with_reducible refine' E_fn ?_ ?_ ?_ ?_ ?_ ?_); rotate_left 2; wtm_at "nm"; (exact fun w => by with_unfolding_all exact rfl); rotate_left; wtm_at "mt"; wtm_at "mt"; rotate_left) | ((with_reducible refine' E_bf ?_ ?_ ?_ ?_); rotate_left; wtm_at "nm"; wtm_at "mt"; wtm_at "mt") | wtm_at "cname" | ((with_reducible refine' E_meth (o := .Constant (.str _) _ _) PySem.F.plainAttrs_str PySem.F.slot_str_join PySem.F.type_str_join ?_ ?_ ?_ ?_ ?_); rotate_left; wtm_at "mt"; wtm_at "mt"; wtm_at "mt"; rotate_left)))
              refine Bi_joinS (ss := wd.map fun u => [u.toNat]) List.mem_cons_self (by simp) (by rw [emptyS]; simp [sum_ones]; lia) ?_
              repeat' (focus (first | with_reducible (first | refine Thn_next ?_ | refine Thn_ret ?_ | refine S_nil ?_ | refine S_cons ?_ | refine S_ret ?_ | refine S_if ?_ | refine E_int ?_ | refine E_str ?_ | refine E_bytes ?_ | refine L_nil ?_ | refine E_bin ?_ | refine E_slice ?_ | refine P_some ?_ | refine E_tuple ?_ | refine B_add ?_ | refine C_eqB ?_ | refine C_neB ?_ | refine Tr_bool ?_ | refine ite_d (fun _ => ?_) (fun _ => ?_) | refine ⟨Recv.str, ?_⟩) | ((with_reducible refine' S_set ?_ ?_ ?_ ?_); assumption; rotate_left; wtm_at "loc"; wtm_at "mt") | ((with_reducible refine' S_un2 ?_ ?_ ?_ ?_ ?_ ?_); assumption; rotate_left; wtm_at "loc"; wtm_at "loc"; wtm_at "mt"; wtm_at "mt") | ((with_reducible refine' B_addB ?_ ?_); rotate_left; wtm_at "sz") | ((with_reducible refine' S_expr ?_ ?_ ?_); assumption; rotate_left; wtm_at "mt") | ((with_reducible refine' ⟨_, Cuts.b ?_, ?_⟩); wtm_at "side") | ((with_reducible apply exSet); wtm_at "setv") | ((with_reducible apply exSets); wtm_at "setvs") | ((with_reducible refine' ⟨?_, fun _ => ?_⟩); exact Nat.le_of_ble_eq_true rfl) | ((with_reducible refine' ⟨_, TupL.t ?_, ?_⟩); rotate_left; wtm_at "mem") | (with_reducible refine ⟨_, rfl, ?_⟩) | (with_reducible refine ⟨_, _, rfl, ?_⟩) | (with_reducible refine ⟨_, _, _, rfl, ?_⟩) | ((with_reducible (first | refine' L_cons ?_ ?_ | refine' T_cmp ?_ ?_)); rotate_left; wtm_at "mt") | wtm_at "name" | ((with_reducible refine' E_fn ?_ ?_ ?_ ?_ ?_ ?_); rotate_left 2; wtm_at "nm"; (exact fun w => by with_unfolding_all exact rfl); rotate_left; wtm_at "mt"; wtm_at "mt"; rotate_left) | ((with_reducible refine' E_bf ?_ ?_ ?_ ?_); rotate_left; wtm_at "nm"; wtm_at "mt"; wtm_at "mt") | wtm_at "cname" | ((with_reducible refine' E_meth (o := .Constant (.str _) _ _) PySem.F.plainAttrs_str PySem.F.slot_str_join PySem.F.type_str_join ?_ ?_ ?_ ?_ ?_); rotate_left; wtm_at "mt"; wtm_at "mt"; wtm_at "mt"; rotate_left)))
              refine Ret.drop2 (Ret.here ?_)
              rw [emptyS, joinL_nil, show (wd.map fun u => [u.toNat]).flatten = wd.map UInt8.toNat by clear hwl hw hid; induction wd with | nil => rfl | cons a r ih => simp [ih]]
              have := h1 _ _ hid
              rw [show i + (1 + n + 1 + m + 1) = sp + 1 + m + 1 by lia] at this
              exact this _
end
end
section
/-- where quotes and brackets end -/
structure WSt where
  found : Nat → Option Nat
  quotes : List Nat
  levels : List (List Nat)
  taken : Bool
noncomputable def setAll (f : Nat → Option Nat) (qs : List Nat) (e : Nat) : Nat → Option Nat := fun x => if x ∈ qs then some e else f x
noncomputable def WSt.mid (s : WSt) (i : Nat) (u : UInt8) : WSt :=
  if u = 34 then (if s.taken then { s with quotes := s.quotes ++ [i] } else { s with found := setAll s.found s.quotes (i + 1), quotes := [i] })
  else if u = 40 then (if s.taken then { s with levels := match s.levels with | t :: r => (t ++ [i]) :: r | [] => [] } else { s with levels := [i] :: s.levels })
  else if u = 41 ∧ s.taken = false then { s with found := setAll s.found (s.levels.headD []) (i + 1), levels := match s.levels with | _ :: y :: r => y :: r | _ => [[]] }
  else s
noncomputable def WSt.step (s : WSt) (i : Nat) (u : UInt8) : WSt := { s.mid i u with taken := decide (u = 92) && !s.taken }
noncomputable def weGo : List UInt8 → Nat → WSt → WSt
  | [], _, s => s
  | u :: r, i, s => weGo r (i + 1) (s.step i u)
noncomputable def weS (d : List UInt8) : Nat → Option Nat := (weGo d 0 ⟨fun _ => none, [], [[]], false⟩).found
noncomputable def toF (f : Nat → Option Nat) : Int → Option PV := fun i => if 0 ≤ i then (f i.toNat).map (fun (n : Nat) => PV.int (n : Int)) else none
theorem updF_setAll (e : Nat) : ∀ (qs : List Nat) (f : Nat → Option Nat), updF (toF f) (qs.map fun (b : Nat) => ((b : Int), (e : Int))) = toF (setAll f qs e)
  | [], f => by
    have : setAll f [] e = f := by funext x; simp [setAll]
    rw [this]; rfl
  | b :: r, f => by
    have h : (fun x => if x = (b : Int) then some (PV.int (e : Int)) else toF f x) = toF (setAll f [b] e) := by
      funext x
      simp only [toF, setAll, List.mem_singleton]
      by_cases hx : x = (b : Int)
      · subst hx; simp
      · rw [if_neg hx]
        by_cases h0 : 0 ≤ x
        · rw [if_pos h0, if_pos h0, if_neg (by lia)]
        · rw [if_neg h0, if_neg h0]
    have h2 : setAll (setAll f [b] e) r e = setAll f (b :: r) e := by
      funext x
      simp only [setAll, List.mem_singleton, List.mem_cons]
      by_cases h1 : x = b <;> by_cases h3 : x ∈ r <;> simp [h1, h3]
    rw [List.map_cons, updF, h, updF_setAll e r, h2]
noncomputable def nums (qs : List Nat) : List PV := qs.map fun (n : Nat) => PV.int (n : Int)
theorem nums_eq (qs : List Nat) : nums qs = (qs.map fun (n : Nat) => (n : Int)).map .int := by simp [nums]
noncomputable def lvLed (lv : List (Addr × List Nat)) : Led := lv.map fun p => (p.1, .list (nums p.2))
theorem lvLed_cons (r : Addr) (t : List Nat) (m : List (Addr × List Nat)) : lvLed ((r, t) :: m) = (r, .list (nums t)) :: lvLed m := rfl
noncomputable def canon (F Qa La a : Addr) (i : Option PV) (lv : List (Addr × List Nat)) (n : Nat) (s : WSt) : Led :=
  (F, .dict (toF s.found) n) :: (Qa, .list (nums s.quotes)) :: (La, .list ((lv.map fun p => PV.ref p.1).reverse)) :: (a, .cell i) :: lvLed lv
noncomputable def WSt.weight (s : WSt) : Nat := s.quotes.length + (s.levels.map List.length).sum
section
variable {Q : PV → Led → Prop} {X : Led → Prop} {led : Led}
structure WInv (led : Led) (a : Addr) (d : List UInt8) (i : Nat) (s : WSt) (vars : Vars) (l : Led) (c : Option PV) : Prop where
  ex : (E5 fun F Qa La lv n => A7 (l.Perm (canon F Qa La a c lv n s ++ led)) (lv.map (·.2) = s.levels) (lv ≠ []) (lv.length ≤ i + 1) (n + s.weight ≤ i) ((F == sysModules) = false) (vars = ([("data", .bytes d), ("found", .ref F), ("quotes", .ref Qa), ("levels", .ref La), ("is_taken", .bool s.taken)] : Vars)))
theorem ups_succ (i : Nat) (k : Nat) : ups (i : Int) (k + 1) = .int (i : Int) :: ups ((i + 1 : Nat) : Int) k := by
  simp only [ups, List.range_succ_eq_map, List.map_cons, List.map_map]
  congr 1
  · apply List.map_congr_left
    intro x _
    show PV.int ((i : Int) + ((x + 1 : Nat) : Int)) = PV.int (((i + 1 : Nat) : Int) + x)
    congr 1; lia
theorem p5 {α : Type} (A B C D E : α) (l : List α) : (A :: B :: C :: D :: E :: l).Perm (D :: C :: A :: E :: B :: l) :=
  (List.perm_middle (a := D) (l₁ := [A, B, C]) (l₂ := E :: l)).trans (((List.perm_middle (a := C) (l₁ := [A, B]) (l₂ := E :: l)).cons D).trans ((((List.Perm.swap E B l).cons A).cons C).cons D))
theorem p5' {α : Type} (A B C D E : α) (l : List α) : (A :: B :: C :: D :: E :: l).Perm (C :: D :: A :: E :: B :: l) :=
  (List.perm_middle (a := C) (l₁ := [A, B]) (l₂ := D :: E :: l)).trans (((List.perm_middle (a := D) (l₁ := [A, B]) (l₂ := E :: l)).cons C).trans ((((List.Perm.swap E B l).cons A).cons D).cons C))
theorem toF_none : toF (fun _ => none) = fun _ => none := by funext i; simp [toF]
theorem mid_taken (s : WSt) (i : Nat) (u : UInt8) : (s.mid i u).taken = s.taken := by
  unfold WSt.mid; split
  · split <;> rfl
  · split
    · split <;> rfl
    · split <;> rfl
theorem mem_tups {pairs : List (Addr × Int × Int)} {l : Led} : ∀ p ∈ pairs, (p.1, PO.tuple [.int p.2.1, .int p.2.2]) ∈ tups pairs.reverse ++ l := fun p hp =>
  List.mem_append_left _ (List.mem_map.mpr ⟨p, List.mem_reverse.mpr hp, rfl⟩)
theorem nums_len (qs : List Nat) : (nums qs).length = qs.length := by simp [nums]
theorem nums_snoc (qs : List Nat) (i : Nat) : nums qs ++ [.int (i : Int)] = nums (qs ++ [i]) := by simp [nums]
theorem u8i_34 (u : UInt8) : ((u.toNat : Int) = 34) ↔ u = 34 := by rw [← UInt8.toNat_inj]; simp; lia
theorem u8i_40 (u : UInt8) : ((u.toNat : Int) = 40) ↔ u = 40 := by rw [← UInt8.toNat_inj]; simp; lia
theorem u8i_41 (u : UInt8) : ((u.toNat : Int) = 41) ↔ u = 41 := by rw [← UInt8.toNat_inj]; simp; lia
theorem u8i_92' (u : UInt8) : ((u.toNat : Int) = 92) ↔ u = 92 := by rw [← UInt8.toNat_inj]; simp; lia
theorem canonCell {F Qa La a : Addr} {c c' : Option PV} {lv n s} : UpdL a (.cell c) (.cell c') (canon F Qa La a c lv n s ++ led) (canon F Qa La a c' lv n s ++ led) := .there (.there (.there .here))
theorem c_word_ends {d : List UInt8} (hd : d.length ≤ 100000) (h : ∀ r n, (r == sysModules) = false → Q (.ref r) ((r, .dict (toF (weS d)) n) :: led)) : Fn 139 3 [.bytes d] Q X led := by
  refine Fn_cell "data" "at" (fun w => by exact rfl) (fun w => by exact rfl) (fun _ => rfl) (by decide) (fun n => rfl) (fun c' a hr hc hs hi hcl => ?_)
  repeat' (first | (focus (first | with_reducible (first | refine Thn_next ?_ | refine Thn_ret ?_ | refine S_nil ?_ | refine S_cons ?_ | refine S_ret ?_ | refine S_if ?_ | refine E_int ?_ | refine E_bool ?_ | refine L_nil ?_ | refine E_bin ?_ | refine T_op ?_ | refine T_and ?_ | refine T_and0 ?_ | refine T_not ?_ | refine E_if ?_ | refine E_not ?_ | refine E_neg ?_ | refine E_op ?_ | refine E_op1 ?_ | refine E_and ?_ | refine E_tuple ?_ | refine E_list ?_ | refine E_dict0 (fun _ _ => ?_) | refine B_add ?_ | refine C_eq ?_ | refine Tr_bool ?_ | refine ite_t ?_ | refine ite_f ?_ | refine ite_d (fun _ => ?_) (fun _ => ?_) | refine ite_b (fun _ => ?_) (fun _ => ?_)) | ((with_reducible refine' S_set ?_ ?_ ?_ ?_); assumption; rotate_left; wtm_at "loc"; wtm_at "mt") | ((with_reducible refine' S_un4 ?_ ?_ ?_ ?_ ?_ ?_ ?_ ?_); assumption; rotate_left; wtm_at "loc"; wtm_at "loc"; wtm_at "loc"; wtm_at "loc"; wtm_at "mt"; wtm_at "mt") | ((with_reducible apply Bi_append); wtm_at "upd"; wtm_at "sz") | ((with_reducible refine' Bi_lenB ?_ ?_); rotate_left; wtm_at "sz") | ((with_reducible refine' S_expr ?_ ?_ ?_); assumption; rotate_left; wtm_at "mt") | ((with_reducible apply exSet); wtm_at "setv") | ((with_reducible apply exSets); wtm_at "setvs") | ((with_reducible refine' ⟨?_, fun _ => ?_⟩); exact Nat.le_of_ble_eq_true rfl) | ((with_reducible refine' ⟨_, TupL.t ?_, ?_⟩); rotate_left; wtm_at "mem") | ((with_reducible refine' ⟨Recv.list ?_, ?_⟩); rotate_left; wtm_at "mem") | ((with_reducible refine' ⟨Recv.dict ?_, ?_⟩); rotate_left 2; wtm_at "mem") | (with_reducible refine ⟨_, rfl, ?_⟩) | (with_reducible refine ⟨_, _, rfl, ?_⟩) | (with_reducible refine ⟨_, _, _, rfl, ?_⟩) | (with_reducible refine Bi_range1 (fun _ => ?_)) | ((with_reducible (first | refine' L_cons ?_ ?_ | refine' E_cmp ?_ ?_ | refine' T_cmp ?_ ?_ | refine' E_item ?_ ?_)); rotate_left; wtm_at "mt") | wtm_at "name" | ((with_reducible refine' E_bf ?_ ?_ ?_ ?_); rotate_left; wtm_at "nm"; wtm_at "mt"; wtm_at "mt") | ((with_reducible refine' E_bt ?_ ?_ ?_ ?_); rotate_left; wtm_at "nm"; wtm_at "mt"; wtm_at "mt") | wtm_at "cname" | ((with_reducible (first | refine' E_meth PySem.F.plainAttrs_list PySem.F.slot_list_append PySem.F.type_list_append ?_ ?_ ?_ ?_ ?_ | refine' E_meth PySem.F.plainAttrs_dict PySem.F.slot_dict_update PySem.F.type_dict_update ?_ ?_ ?_ ?_ ?_)); rotate_left; wtm_at "mt"; wtm_at "mt"; wtm_at "mt"; rotate_left) | ((with_reducible refine' E_meth0 PySem.F.plainAttrs_list PySem.F.slot_list_pop PySem.F.type_list_pop ?_ ?_ ?_); rotate_left; wtm_at "mt"; rotate_left) | ((with_reducible refine' T_plain ?_ ?_); rotate_left; wtm_at "mt"))))
  refine S_for_rangeC hi (by rw [hcl]; rfl) (by rw [hs]; rfl) (fun _ _ => by with_unfolding_all rfl) ?_
  repeat' (first | (focus (first | with_reducible (first | refine Thn_next ?_ | refine Thn_ret ?_ | refine S_nil ?_ | refine S_cons ?_ | refine S_ret ?_ | refine S_if ?_ | refine E_int ?_ | refine E_bool ?_ | refine L_nil ?_ | refine E_bin ?_ | refine T_op ?_ | refine T_and ?_ | refine T_and0 ?_ | refine T_not ?_ | refine E_if ?_ | refine E_not ?_ | refine E_neg ?_ | refine E_op ?_ | refine E_op1 ?_ | refine E_and ?_ | refine E_tuple ?_ | refine E_list ?_ | refine E_dict0 (fun _ _ => ?_) | refine B_add ?_ | refine C_eq ?_ | refine Tr_bool ?_ | refine ite_t ?_ | refine ite_f ?_ | refine ite_d (fun _ => ?_) (fun _ => ?_) | refine ite_b (fun _ => ?_) (fun _ => ?_)) | ((with_reducible refine' S_set ?_ ?_ ?_ ?_); assumption; rotate_left; wtm_at "loc"; wtm_at "mt") | ((with_reducible refine' S_un4 ?_ ?_ ?_ ?_ ?_ ?_ ?_ ?_); assumption; rotate_left; wtm_at "loc"; wtm_at "loc"; wtm_at "loc"; wtm_at "loc"; wtm_at "mt"; wtm_at "mt") | ((with_reducible apply Bi_append); wtm_at "upd"; wtm_at "sz") | ((with_reducible refine' Bi_lenB ?_ ?_); rotate_left; wtm_at "sz") | ((with_reducible refine' S_expr ?_ ?_ ?_); assumption; rotate_left; wtm_at "mt") | ((with_reducible apply exSet); wtm_at "setv") | ((with_reducible apply exSets); wtm_at "setvs") | ((with_reducible refine' ⟨?_, fun _ => ?_⟩); exact Nat.le_of_ble_eq_true rfl) | ((with_reducible refine' ⟨_, TupL.t ?_, ?_⟩); rotate_left; wtm_at "mem") | ((with_reducible refine' ⟨Recv.list ?_, ?_⟩); rotate_left; wtm_at "mem") | ((with_reducible refine' ⟨Recv.dict ?_, ?_⟩); rotate_left 2; wtm_at "mem") | (with_reducible refine ⟨_, rfl, ?_⟩) | (with_reducible refine ⟨_, _, rfl, ?_⟩) | (with_reducible refine ⟨_, _, _, rfl, ?_⟩) | (with_reducible refine Bi_range1 (fun _ => ?_)) | ((with_reducible (first | refine' L_cons ?_ ?_ | refine' E_cmp ?_ ?_ | refine' T_cmp ?_ ?_ | refine' E_item ?_ ?_)); rotate_left; wtm_at "mt") | wtm_at "name" | ((with_reducible refine' E_bf ?_ ?_ ?_ ?_); rotate_left; wtm_at "nm"; wtm_at "mt"; wtm_at "mt") | ((with_reducible refine' E_bt ?_ ?_ ?_ ?_); rotate_left; wtm_at "nm"; wtm_at "mt"; wtm_at "mt") | wtm_at "cname" | ((with_reducible (first | refine' E_meth PySem.F.plainAttrs_list PySem.F.slot_list_append PySem.F.type_list_append ?_ ?_ ?_ ?_ ?_ | refine' E_meth PySem.F.plainAttrs_dict PySem.F.slot_dict_update PySem.F.type_dict_update ?_ ?_ ?_ ?_ ?_)); rotate_left; wtm_at "mt"; wtm_at "mt"; wtm_at "mt"; rotate_left) | ((with_reducible refine' E_meth0 PySem.F.plainAttrs_list PySem.F.slot_list_pop PySem.F.type_list_pop ?_ ?_ ?_); rotate_left; wtm_at "mt"; rotate_left) | ((with_reducible refine' T_plain ?_ ?_); rotate_left; wtm_at "mt"))))
  rename_i F hF Qa L0 La T0 R0
  refine ⟨_, _, _, _, _, rfl, .head _, RItems.up (by lia) (by lia) (by lia) (by lia), ?_⟩
  rw [show ((d.length : Int) - 0).toNat = d.length by lia]
  refine WForC_inv (fun its v l => (E3 fun i s c => A4 (i ≤ d.length) (its = ups (i : Int) (d.length - i)) (WInv led a d i s v l c) (weGo (d.drop i) i s = weGo d 0 ⟨fun _ => none, [], [[]], false⟩))) ?_ ?_ _ _ _ ?_
  · rintro v l ⟨i, s, c, hi1, hu, ⟨F, Qa, La, lv, n, hp, hlv, hne, hll, hw, hF, rfl⟩, hgo⟩
    have : i = d.length := by
      rcases Nat.lt_or_ge i d.length with h | h
      · rw [show d.length - i = (d.length - i - 1) + 1 by lia, ups_succ] at hu; cases hu
      · lia
    subst this
    rw [List.drop_length] at hgo
    refine Thn_next (WS_perm hp ?_)
    repeat' (first | (focus (first | with_reducible (first | refine Thn_next ?_ | refine Thn_ret ?_ | refine S_nil ?_ | refine S_cons ?_ | refine S_ret ?_ | refine S_if ?_ | refine E_int ?_ | refine E_bool ?_ | refine L_nil ?_ | refine E_bin ?_ | refine T_op ?_ | refine T_and ?_ | refine T_and0 ?_ | refine T_not ?_ | refine E_if ?_ | refine E_not ?_ | refine E_neg ?_ | refine E_op ?_ | refine E_op1 ?_ | refine E_and ?_ | refine E_tuple ?_ | refine E_list ?_ | refine E_dict0 (fun _ _ => ?_) | refine B_add ?_ | refine C_eq ?_ | refine Tr_bool ?_ | refine ite_t ?_ | refine ite_f ?_ | refine ite_d (fun _ => ?_) (fun _ => ?_) | refine ite_b (fun _ => ?_) (fun _ => ?_)) | ((with_reducible refine' S_set ?_ ?_ ?_ ?_); assumption; rotate_left; wtm_at "loc"; wtm_at "mt") | ((with_reducible refine' S_un4 ?_ ?_ ?_ ?_ ?_ ?_ ?_ ?_); assumption; rotate_left; wtm_at "loc"; wtm_at "loc"; wtm_at "loc"; wtm_at "loc"; wtm_at "mt"; wtm_at "mt") | ((with_reducible apply Bi_append); wtm_at "upd"; wtm_at "sz") | ((with_reducible refine' Bi_lenB ?_ ?_); rotate_left; wtm_at "sz") | ((with_reducible refine' S_expr ?_ ?_ ?_); assumption; rotate_left; wtm_at "mt") | ((with_reducible apply exSet); wtm_at "setv") | ((with_reducible apply exSets); wtm_at "setvs") | ((with_reducible refine' ⟨?_, fun _ => ?_⟩); exact Nat.le_of_ble_eq_true rfl) | ((with_reducible refine' ⟨_, TupL.t ?_, ?_⟩); rotate_left; wtm_at "mem") | ((with_reducible refine' ⟨Recv.list ?_, ?_⟩); rotate_left; wtm_at "mem") | ((with_reducible refine' ⟨Recv.dict ?_, ?_⟩); rotate_left 2; wtm_at "mem") | (with_reducible refine ⟨_, rfl, ?_⟩) | (with_reducible refine ⟨_, _, rfl, ?_⟩) | (with_reducible refine ⟨_, _, _, rfl, ?_⟩) | (with_reducible refine Bi_range1 (fun _ => ?_)) | ((with_reducible (first | refine' L_cons ?_ ?_ | refine' E_cmp ?_ ?_ | refine' T_cmp ?_ ?_ | refine' E_item ?_ ?_)); rotate_left; wtm_at "mt") | wtm_at "name" | ((with_reducible refine' E_bf ?_ ?_ ?_ ?_); rotate_left; wtm_at "nm"; wtm_at "mt"; wtm_at "mt") | ((with_reducible refine' E_bt ?_ ?_ ?_ ?_); rotate_left; wtm_at "nm"; wtm_at "mt"; wtm_at "mt") | wtm_at "cname" | ((with_reducible (first | refine' E_meth PySem.F.plainAttrs_list PySem.F.slot_list_append PySem.F.type_list_append ?_ ?_ ?_ ?_ ?_ | refine' E_meth PySem.F.plainAttrs_dict PySem.F.slot_dict_update PySem.F.type_dict_update ?_ ?_ ?_ ?_ ?_)); rotate_left; wtm_at "mt"; wtm_at "mt"; wtm_at "mt"; rotate_left) | ((with_reducible refine' E_meth0 PySem.F.plainAttrs_list PySem.F.slot_list_pop PySem.F.type_list_pop ?_ ?_ ?_); rotate_left; wtm_at "mt"; rotate_left) | ((with_reducible refine' T_plain ?_ ?_); rotate_left; wtm_at "mt"))))
    refine ⟨(F, .dict (toF s.found) n) :: led, ?_, ?_⟩
    · exact (List.sublist_append_right _ _).cons_cons _
    · have e : weS d = s.found := by unfold weS; rw [← hgo]; rfl
      rw [← e]; exact h _ _ hF
  · rintro p rest v l ⟨i, s, c, hi1, hu, ⟨F, Qa, La, lv, n, hp, hlv, hne, hll, hw, hF, rfl⟩, hgo⟩
    have hlt : i < d.length := by
      rcases Nat.lt_or_ge i d.length with h | h
      · exact h
      · rw [show d.length - i = 0 by lia] at hu; cases hu
    rw [show d.length - i = (d.length - (i + 1)) + 1 by lia, ups_succ] at hu
    obtain ⟨rfl, rfl⟩ := List.cons.inj hu
    obtain ⟨l', hU, hp'⟩ := (canonCell (led := led) (c' := some (.int (i : Int)))).perm hp
    refine ⟨c, l', hU, WS_perm hp' ?_⟩
    refine S_cut (fun v l => WInv led a d (i + 1) (s.mid i (d.getD i 0)) v l (some (.int (i : Int)))) ?_ ?_
    · clear hp hU hp' hgo hu
      obtain ⟨⟨rt, top⟩, mo, rfl⟩ : ∃ p m, lv = p :: m := by cases lv with | nil => exact absurd rfl hne | cons p m => exact ⟨p, m, rfl⟩
      clear hne
      obtain ⟨fd, qs, lvs, tk⟩ := s
      simp only [List.map_cons] at hlv
      subst hlv
      simp only [WSt.weight, List.map_cons, List.sum_cons, List.length_cons] at hw hll
      simp only [canon, lvLed_cons, List.map_cons, List.reverse_cons, List.cons_append]
      repeat' (first | (focus (first | with_reducible (first | refine Thn_next ?_ | refine Thn_ret ?_ | refine S_nil ?_ | refine S_cons ?_ | refine S_ret ?_ | refine S_if ?_ | refine E_int ?_ | refine E_bool ?_ | refine L_nil ?_ | refine E_bin ?_ | refine T_op ?_ | refine T_and ?_ | refine T_and0 ?_ | refine T_not ?_ | refine E_if ?_ | refine E_not ?_ | refine E_neg ?_ | refine E_op ?_ | refine E_op1 ?_ | refine E_and ?_ | refine E_tuple ?_ | refine E_list ?_ | refine E_dict0 (fun _ _ => ?_) | refine B_add ?_ | refine C_eq ?_ | refine Tr_bool ?_ | refine ite_t ?_ | refine ite_f ?_ | refine ite_d (fun _ => ?_) (fun _ => ?_) | refine ite_b (fun _ => ?_) (fun _ => ?_)) | ((with_reducible refine' S_set ?_ ?_ ?_ ?_); assumption; rotate_left; wtm_at "loc"; wtm_at "mt") | ((with_reducible refine' S_un4 ?_ ?_ ?_ ?_ ?_ ?_ ?_ ?_); assumption; rotate_left; wtm_at "loc"; wtm_at "loc"; wtm_at "loc"; wtm_at "loc"; wtm_at "mt"; wtm_at "mt") | ((with_reducible apply Bi_append); wtm_at "upd"; wtm_at "sz") | ((with_reducible refine' Bi_lenB ?_ ?_); rotate_left; wtm_at "sz") | ((with_reducible refine' S_expr ?_ ?_ ?_); assumption; rotate_left; wtm_at "mt") | ((with_reducible apply exSet); wtm_at "setv") | ((with_reducible apply exSets); wtm_at "setvs") | ((with_reducible refine' ⟨?_, fun _ => ?_⟩); exact Nat.le_of_ble_eq_true rfl) | ((with_reducible refine' ⟨_, TupL.t ?_, ?_⟩); rotate_left; wtm_at "mem") | ((with_reducible refine' ⟨Recv.list ?_, ?_⟩); rotate_left; wtm_at "mem") | ((with_reducible refine' ⟨Recv.dict ?_, ?_⟩); rotate_left 2; wtm_at "mem") | (with_reducible refine ⟨_, rfl, ?_⟩) | (with_reducible refine ⟨_, _, rfl, ?_⟩) | (with_reducible refine ⟨_, _, _, rfl, ?_⟩) | (with_reducible refine Bi_range1 (fun _ => ?_)) | ((with_reducible (first | refine' L_cons ?_ ?_ | refine' E_cmp ?_ ?_ | refine' T_cmp ?_ ?_ | refine' E_item ?_ ?_)); rotate_left; wtm_at "mt") | wtm_at "name" | ((with_reducible refine' E_bf ?_ ?_ ?_ ?_); rotate_left; wtm_at "nm"; wtm_at "mt"; wtm_at "mt") | ((with_reducible refine' E_bt ?_ ?_ ?_ ?_); rotate_left; wtm_at "nm"; wtm_at "mt"; wtm_at "mt") | wtm_at "cname" | ((with_reducible (first | refine' E_meth PySem.F.plainAttrs_list PySem.F.slot_list_append PySem.F.type_list_append ?_ ?_ ?_ ?_ ?_ | refine' E_meth PySem.F.plainAttrs_dict PySem.F.slot_dict_update PySem.F.type_dict_update ?_ ?_ ?_ ?_ ?_)); rotate_left; wtm_at "mt"; wtm_at "mt"; wtm_at "mt"; rotate_left) | ((with_reducible refine' E_meth0 PySem.F.plainAttrs_list PySem.F.slot_list_pop PySem.F.type_list_pop ?_ ?_ ?_); rotate_left; wtm_at "mt"; rotate_left) | ((with_reducible refine' T_plain ?_ ?_); rotate_left; wtm_at "mt"))) | (focus ((with_reducible apply E_cell'); assumption; rw [‹Cx.cl _ = _›]; rfl; wtm_at "loc"; wtm_at "dbg"; wtm_at "mem")) | refine It_bytes (by lia) (by lia) (by lia) ?_)
      all_goals (try (exfalso; lia))
      all_goals (simp only [Int.toNat_natCast, u8i_34, u8i_40, u8i_41, Bool.not_eq_true', Bool.not_eq_false'] at *)
      · rename (tk = false) => htk
        rename (d.getD i 0 = 34) => h34
        subst htk
        have hmid : WSt.mid ⟨fd, qs, top :: mo.map (·.2), false⟩ i (d.getD i 0) = ⟨setAll fd qs (i + 1), [i], top :: mo.map (·.2), false⟩ := by rw [h34]; rfl
        refine E_compL0 hi hc (closure_at hcl rfl) rfl rfl (by decide) (by decide) rfl (fun _ _ => by with_unfolding_all rfl) ?_
        (focus (first | with_reducible (first | refine Thn_next ?_ | refine Thn_ret ?_ | refine S_nil ?_ | refine S_cons ?_ | refine S_ret ?_ | refine S_if ?_ | refine E_int ?_ | refine E_bool ?_ | refine L_nil ?_ | refine E_bin ?_ | refine T_op ?_ | refine T_and ?_ | refine T_and0 ?_ | refine T_not ?_ | refine E_if ?_ | refine E_not ?_ | refine E_neg ?_ | refine E_op ?_ | refine E_op1 ?_ | refine E_and ?_ | refine E_tuple ?_ | refine E_list ?_ | refine E_dict0 (fun _ _ => ?_) | refine B_add ?_ | refine C_eq ?_ | refine Tr_bool ?_ | refine ite_t ?_ | refine ite_f ?_ | refine ite_d (fun _ => ?_) (fun _ => ?_) | refine ite_b (fun _ => ?_) (fun _ => ?_)) | ((with_reducible refine' S_set ?_ ?_ ?_ ?_); assumption; rotate_left; wtm_at "loc"; wtm_at "mt") | ((with_reducible refine' S_un4 ?_ ?_ ?_ ?_ ?_ ?_ ?_ ?_); assumption; rotate_left; wtm_at "loc"; wtm_at "loc"; wtm_at "loc"; wtm_at "loc"; wtm_at "mt"; wtm_at "mt") | ((with_reducible apply Bi_append); wtm_at "upd"; wtm_at "sz") | ((with_reducible refine' Bi_lenB ?_ ?_); rotate_left; wtm_at "sz") | ((with_reducible refine' S_expr ?_ ?_ ?_); assumption; rotate_left; wtm_at "mt") | ((with_reducible apply exSet); wtm_at "setv") | ((with_reducible apply exSets); wtm_at "setvs") | ((with_reducible refine' ⟨?_, fun _ => ?_⟩); exact Nat.le_of_ble_eq_true rfl) | ((with_reducible refine' ⟨_, TupL.t ?_, ?_⟩); rotate_left; wtm_at "mem") | ((with_reducible refine' ⟨Recv.list ?_, ?_⟩); rotate_left; wtm_at "mem") | ((with_reducible refine' ⟨Recv.dict ?_, ?_⟩); rotate_left 2; wtm_at "mem") | (with_reducible refine ⟨_, rfl, ?_⟩) | (with_reducible refine ⟨_, _, rfl, ?_⟩) | (with_reducible refine ⟨_, _, _, rfl, ?_⟩) | (with_reducible refine Bi_range1 (fun _ => ?_)) | ((with_reducible (first | refine' L_cons ?_ ?_ | refine' E_cmp ?_ ?_ | refine' T_cmp ?_ ?_ | refine' E_item ?_ ?_)); rotate_left; wtm_at "mt") | wtm_at "name" | ((with_reducible refine' E_bf ?_ ?_ ?_ ?_); rotate_left; wtm_at "nm"; wtm_at "mt"; wtm_at "mt") | ((with_reducible refine' E_bt ?_ ?_ ?_ ?_); rotate_left; wtm_at "nm"; wtm_at "mt"; wtm_at "mt") | wtm_at "cname" | ((with_reducible (first | refine' E_meth PySem.F.plainAttrs_list PySem.F.slot_list_append PySem.F.type_list_append ?_ ?_ ?_ ?_ ?_ | refine' E_meth PySem.F.plainAttrs_dict PySem.F.slot_dict_update PySem.F.type_dict_update ?_ ?_ ?_ ?_ ?_)); rotate_left; wtm_at "mt"; wtm_at "mt"; wtm_at "mt"; rotate_left) | ((with_reducible refine' E_meth0 PySem.F.plainAttrs_list PySem.F.slot_list_pop PySem.F.type_list_pop ?_ ?_ ?_); rotate_left; wtm_at "mt"; rotate_left) | ((with_reducible refine' T_plain ?_ ?_); rotate_left; wtm_at "mt")))
        refine ⟨Qa, nums qs, _, rfl, .there .here, by rw [nums_len]; lia, ?_⟩
        rw [nums_eq]
        refine comp_pairs' (e := ((i + 1 : Nat) : Int)) _ (fun b l c₂ hcc hsub R hR => ?_) (qs.map fun (n : Nat) => (n : Int)) [] (fun more hmore => ?_)
        · repeat' (first | (focus (first | with_reducible (first | refine Thn_next ?_ | refine Thn_ret ?_ | refine S_nil ?_ | refine S_cons ?_ | refine S_ret ?_ | refine S_if ?_ | refine E_int ?_ | refine E_bool ?_ | refine L_nil ?_ | refine E_bin ?_ | refine T_op ?_ | refine T_and ?_ | refine T_and0 ?_ | refine T_not ?_ | refine E_if ?_ | refine E_not ?_ | refine E_neg ?_ | refine E_op ?_ | refine E_op1 ?_ | refine E_and ?_ | refine E_tuple ?_ | refine E_list ?_ | refine E_dict0 (fun _ _ => ?_) | refine B_add ?_ | refine C_eq ?_ | refine Tr_bool ?_ | refine ite_t ?_ | refine ite_f ?_ | refine ite_d (fun _ => ?_) (fun _ => ?_) | refine ite_b (fun _ => ?_) (fun _ => ?_)) | ((with_reducible refine' S_set ?_ ?_ ?_ ?_); assumption; rotate_left; wtm_at "loc"; wtm_at "mt") | ((with_reducible refine' S_un4 ?_ ?_ ?_ ?_ ?_ ?_ ?_ ?_); assumption; rotate_left; wtm_at "loc"; wtm_at "loc"; wtm_at "loc"; wtm_at "loc"; wtm_at "mt"; wtm_at "mt") | ((with_reducible apply Bi_append); wtm_at "upd"; wtm_at "sz") | ((with_reducible refine' Bi_lenB ?_ ?_); rotate_left; wtm_at "sz") | ((with_reducible refine' S_expr ?_ ?_ ?_); assumption; rotate_left; wtm_at "mt") | ((with_reducible apply exSet); wtm_at "setv") | ((with_reducible apply exSets); wtm_at "setvs") | ((with_reducible refine' ⟨?_, fun _ => ?_⟩); exact Nat.le_of_ble_eq_true rfl) | ((with_reducible refine' ⟨_, TupL.t ?_, ?_⟩); rotate_left; wtm_at "mem") | ((with_reducible refine' ⟨Recv.list ?_, ?_⟩); rotate_left; wtm_at "mem") | ((with_reducible refine' ⟨Recv.dict ?_, ?_⟩); rotate_left 2; wtm_at "mem") | (with_reducible refine ⟨_, rfl, ?_⟩) | (with_reducible refine ⟨_, _, rfl, ?_⟩) | (with_reducible refine ⟨_, _, _, rfl, ?_⟩) | (with_reducible refine Bi_range1 (fun _ => ?_)) | ((with_reducible (first | refine' L_cons ?_ ?_ | refine' E_cmp ?_ ?_ | refine' T_cmp ?_ ?_ | refine' E_item ?_ ?_)); rotate_left; wtm_at "mt") | wtm_at "name" | ((with_reducible refine' E_bf ?_ ?_ ?_ ?_); rotate_left; wtm_at "nm"; wtm_at "mt"; wtm_at "mt") | ((with_reducible refine' E_bt ?_ ?_ ?_ ?_); rotate_left; wtm_at "nm"; wtm_at "mt"; wtm_at "mt") | wtm_at "cname" | ((with_reducible (first | refine' E_meth PySem.F.plainAttrs_list PySem.F.slot_list_append PySem.F.type_list_append ?_ ?_ ?_ ?_ ?_ | refine' E_meth PySem.F.plainAttrs_dict PySem.F.slot_dict_update PySem.F.type_dict_update ?_ ?_ ?_ ?_ ?_)); rotate_left; wtm_at "mt"; wtm_at "mt"; wtm_at "mt"; rotate_left) | ((with_reducible refine' E_meth0 PySem.F.plainAttrs_list PySem.F.slot_list_pop PySem.F.type_list_pop ?_ ?_ ?_); rotate_left; wtm_at "mt"; rotate_left) | ((with_reducible refine' T_plain ?_ ?_); rotate_left; wtm_at "mt"))) | (with_reducible show WE _ (Expr.Name _ _) _ _ _ _; refine C_free (a := a) (v := .int (i : Int)) hcc.inC (by rw [hcc.ccl]; with_unfolding_all rfl) (hsub _ (by wtm_at "mem")) ?_ (by rw [hcc.csc]; unfold relab; rw [hs]; with_unfolding_all rfl) (by with_unfolding_all decide)))
          exact hR _
        · simp only [List.nil_append]
          intro r
          repeat' (first | (focus (first | with_reducible (first | refine Thn_next ?_ | refine Thn_ret ?_ | refine S_nil ?_ | refine S_cons ?_ | refine S_ret ?_ | refine S_if ?_ | refine E_int ?_ | refine E_bool ?_ | refine L_nil ?_ | refine E_bin ?_ | refine T_op ?_ | refine T_and ?_ | refine T_and0 ?_ | refine T_not ?_ | refine E_if ?_ | refine E_not ?_ | refine E_neg ?_ | refine E_op ?_ | refine E_op1 ?_ | refine E_and ?_ | refine E_tuple ?_ | refine E_list ?_ | refine E_dict0 (fun _ _ => ?_) | refine B_add ?_ | refine C_eq ?_ | refine Tr_bool ?_ | refine ite_t ?_ | refine ite_f ?_ | refine ite_d (fun _ => ?_) (fun _ => ?_) | refine ite_b (fun _ => ?_) (fun _ => ?_)) | ((with_reducible refine' S_set ?_ ?_ ?_ ?_); assumption; rotate_left; wtm_at "loc"; wtm_at "mt") | ((with_reducible refine' S_un4 ?_ ?_ ?_ ?_ ?_ ?_ ?_ ?_); assumption; rotate_left; wtm_at "loc"; wtm_at "loc"; wtm_at "loc"; wtm_at "loc"; wtm_at "mt"; wtm_at "mt") | ((with_reducible apply Bi_append); wtm_at "upd"; wtm_at "sz") | ((with_reducible refine' Bi_lenB ?_ ?_); rotate_left; wtm_at "sz") | ((with_reducible refine' S_expr ?_ ?_ ?_); assumption; rotate_left; wtm_at "mt") | ((with_reducible apply exSet); wtm_at "setv") | ((with_reducible apply exSets); wtm_at "setvs") | ((with_reducible refine' ⟨?_, fun _ => ?_⟩); exact Nat.le_of_ble_eq_true rfl) | ((with_reducible refine' ⟨_, TupL.t ?_, ?_⟩); rotate_left; wtm_at "mem") | ((with_reducible refine' ⟨Recv.list ?_, ?_⟩); rotate_left; wtm_at "mem") | ((with_reducible refine' ⟨Recv.dict ?_, ?_⟩); rotate_left 2; wtm_at "mem") | (with_reducible refine ⟨_, rfl, ?_⟩) | (with_reducible refine ⟨_, _, rfl, ?_⟩) | (with_reducible refine ⟨_, _, _, rfl, ?_⟩) | (with_reducible refine Bi_range1 (fun _ => ?_)) | ((with_reducible (first | refine' L_cons ?_ ?_ | refine' E_cmp ?_ ?_ | refine' T_cmp ?_ ?_ | refine' E_item ?_ ?_)); rotate_left; wtm_at "mt") | wtm_at "name" | ((with_reducible refine' E_bf ?_ ?_ ?_ ?_); rotate_left; wtm_at "nm"; wtm_at "mt"; wtm_at "mt") | ((with_reducible refine' E_bt ?_ ?_ ?_ ?_); rotate_left; wtm_at "nm"; wtm_at "mt"; wtm_at "mt") | wtm_at "cname" | ((with_reducible (first | refine' E_meth PySem.F.plainAttrs_list PySem.F.slot_list_append PySem.F.type_list_append ?_ ?_ ?_ ?_ ?_ | refine' E_meth PySem.F.plainAttrs_dict PySem.F.slot_dict_update PySem.F.type_dict_update ?_ ?_ ?_ ?_ ?_)); rotate_left; wtm_at "mt"; wtm_at "mt"; wtm_at "mt"; rotate_left) | ((with_reducible refine' E_meth0 PySem.F.plainAttrs_list PySem.F.slot_list_pop PySem.F.type_list_pop ?_ ?_ ?_); rotate_left; wtm_at "mt"; rotate_left) | ((with_reducible refine' T_plain ?_ ?_); rotate_left; wtm_at "mt"))))
          have hlen : more.length = qs.length := by have := congrArg List.length hmore; simpa using this
          have hupd : updF (toF fd) (more.map (·.2)) = toF (setAll fd qs (i + 1)) := by rw [hmore, List.map_map]; exact updF_setAll (i + 1) qs fd
          refine Bi_update (.head _) (fun p hp => .tail _ (.tail _ (mem_tups p hp))) (.there (.there (UpdL.here.app (tups more.reverse)))) (by lia) ?_
          rw [hupd, hlen]
          refine Thn_next (WS_wk0 ⟨.refl _, ((List.sublist_append_right _ _).cons _).cons _⟩ ?_)
          repeat' (first | (focus (first | with_reducible (first | refine Thn_next ?_ | refine Thn_ret ?_ | refine S_nil ?_ | refine S_cons ?_ | refine S_ret ?_ | refine S_if ?_ | refine E_int ?_ | refine E_bool ?_ | refine L_nil ?_ | refine E_bin ?_ | refine T_op ?_ | refine T_and ?_ | refine T_and0 ?_ | refine T_not ?_ | refine E_if ?_ | refine E_not ?_ | refine E_neg ?_ | refine E_op ?_ | refine E_op1 ?_ | refine E_and ?_ | refine E_tuple ?_ | refine E_list ?_ | refine E_dict0 (fun _ _ => ?_) | refine B_add ?_ | refine C_eq ?_ | refine Tr_bool ?_ | refine ite_t ?_ | refine ite_f ?_ | refine ite_d (fun _ => ?_) (fun _ => ?_) | refine ite_b (fun _ => ?_) (fun _ => ?_)) | ((with_reducible refine' S_set ?_ ?_ ?_ ?_); assumption; rotate_left; wtm_at "loc"; wtm_at "mt") | ((with_reducible refine' S_un4 ?_ ?_ ?_ ?_ ?_ ?_ ?_ ?_); assumption; rotate_left; wtm_at "loc"; wtm_at "loc"; wtm_at "loc"; wtm_at "loc"; wtm_at "mt"; wtm_at "mt") | ((with_reducible apply Bi_append); wtm_at "upd"; wtm_at "sz") | ((with_reducible refine' Bi_lenB ?_ ?_); rotate_left; wtm_at "sz") | ((with_reducible refine' S_expr ?_ ?_ ?_); assumption; rotate_left; wtm_at "mt") | ((with_reducible apply exSet); wtm_at "setv") | ((with_reducible apply exSets); wtm_at "setvs") | ((with_reducible refine' ⟨?_, fun _ => ?_⟩); exact Nat.le_of_ble_eq_true rfl) | ((with_reducible refine' ⟨_, TupL.t ?_, ?_⟩); rotate_left; wtm_at "mem") | ((with_reducible refine' ⟨Recv.list ?_, ?_⟩); rotate_left; wtm_at "mem") | ((with_reducible refine' ⟨Recv.dict ?_, ?_⟩); rotate_left 2; wtm_at "mem") | (with_reducible refine ⟨_, rfl, ?_⟩) | (with_reducible refine ⟨_, _, rfl, ?_⟩) | (with_reducible refine ⟨_, _, _, rfl, ?_⟩) | (with_reducible refine Bi_range1 (fun _ => ?_)) | ((with_reducible (first | refine' L_cons ?_ ?_ | refine' E_cmp ?_ ?_ | refine' T_cmp ?_ ?_ | refine' E_item ?_ ?_)); rotate_left; wtm_at "mt") | wtm_at "name" | ((with_reducible refine' E_bf ?_ ?_ ?_ ?_); rotate_left; wtm_at "nm"; wtm_at "mt"; wtm_at "mt") | ((with_reducible refine' E_bt ?_ ?_ ?_ ?_); rotate_left; wtm_at "nm"; wtm_at "mt"; wtm_at "mt") | wtm_at "cname" | ((with_reducible (first | refine' E_meth PySem.F.plainAttrs_list PySem.F.slot_list_append PySem.F.type_list_append ?_ ?_ ?_ ?_ ?_ | refine' E_meth PySem.F.plainAttrs_dict PySem.F.slot_dict_update PySem.F.type_dict_update ?_ ?_ ?_ ?_ ?_)); rotate_left; wtm_at "mt"; wtm_at "mt"; wtm_at "mt"; rotate_left) | ((with_reducible refine' E_meth0 PySem.F.plainAttrs_list PySem.F.slot_list_pop PySem.F.type_list_pop ?_ ?_ ?_); rotate_left; wtm_at "mt"; rotate_left) | ((with_reducible refine' T_plain ?_ ?_); rotate_left; wtm_at "mt"))) | (focus ((with_reducible apply E_cell'); assumption; rw [‹Cx.cl _ = _›]; rfl; wtm_at "loc"; wtm_at "dbg"; wtm_at "mem")))
          rename_i Q2
          refine ⟨by trivial, _, _, Wk.refl, F, Q2, La, (rt, top) :: mo, n + qs.length, ?_, by rw [hmid]; rfl, by simp, by simp; lia, ?_, hF, by rw [hmid]⟩
          · rw [hmid]
            simp only [canon, lvLed_cons, List.map_cons, List.reverse_cons, List.cons_append]
            exact List.Perm.swap _ _ _
          · rw [hmid]; simp only [WSt.weight, List.length_singleton, List.map_cons, List.sum_cons]; lia
      · rename (tk = true) => htk
        rename (d.getD i 0 = 34) => h34
        subst htk
        have hmid : WSt.mid ⟨fd, qs, top :: mo.map (·.2), true⟩ i (d.getD i 0) = ⟨fd, qs ++ [i], top :: mo.map (·.2), true⟩ := by rw [h34]; rfl
        refine Bi_append (.there .here) (by rw [nums_len]; lia) ?_
        rw [nums_snoc]
        repeat' (first | (focus (first | with_reducible (first | refine Thn_next ?_ | refine Thn_ret ?_ | refine S_nil ?_ | refine S_cons ?_ | refine S_ret ?_ | refine S_if ?_ | refine E_int ?_ | refine E_bool ?_ | refine L_nil ?_ | refine E_bin ?_ | refine T_op ?_ | refine T_and ?_ | refine T_and0 ?_ | refine T_not ?_ | refine E_if ?_ | refine E_not ?_ | refine E_neg ?_ | refine E_op ?_ | refine E_op1 ?_ | refine E_and ?_ | refine E_tuple ?_ | refine E_list ?_ | refine E_dict0 (fun _ _ => ?_) | refine B_add ?_ | refine C_eq ?_ | refine Tr_bool ?_ | refine ite_t ?_ | refine ite_f ?_ | refine ite_d (fun _ => ?_) (fun _ => ?_) | refine ite_b (fun _ => ?_) (fun _ => ?_)) | ((with_reducible refine' S_set ?_ ?_ ?_ ?_); assumption; rotate_left; wtm_at "loc"; wtm_at "mt") | ((with_reducible refine' S_un4 ?_ ?_ ?_ ?_ ?_ ?_ ?_ ?_); assumption; rotate_left; wtm_at "loc"; wtm_at "loc"; wtm_at "loc"; wtm_at "loc"; wtm_at "mt"; wtm_at "mt") | ((with_reducible apply Bi_append); wtm_at "upd"; wtm_at "sz") | ((with_reducible refine' Bi_lenB ?_ ?_); rotate_left; wtm_at "sz") | ((with_reducible refine' S_expr ?_ ?_ ?_); assumption; rotate_left; wtm_at "mt") | ((with_reducible apply exSet); wtm_at "setv") | ((with_reducible apply exSets); wtm_at "setvs") | ((with_reducible refine' ⟨?_, fun _ => ?_⟩); exact Nat.le_of_ble_eq_true rfl) | ((with_reducible refine' ⟨_, TupL.t ?_, ?_⟩); rotate_left; wtm_at "mem") | ((with_reducible refine' ⟨Recv.list ?_, ?_⟩); rotate_left; wtm_at "mem") | ((with_reducible refine' ⟨Recv.dict ?_, ?_⟩); rotate_left 2; wtm_at "mem") | (with_reducible refine ⟨_, rfl, ?_⟩) | (with_reducible refine ⟨_, _, rfl, ?_⟩) | (with_reducible refine ⟨_, _, _, rfl, ?_⟩) | (with_reducible refine Bi_range1 (fun _ => ?_)) | ((with_reducible (first | refine' L_cons ?_ ?_ | refine' E_cmp ?_ ?_ | refine' T_cmp ?_ ?_ | refine' E_item ?_ ?_)); rotate_left; wtm_at "mt") | wtm_at "name" | ((with_reducible refine' E_bf ?_ ?_ ?_ ?_); rotate_left; wtm_at "nm"; wtm_at "mt"; wtm_at "mt") | ((with_reducible refine' E_bt ?_ ?_ ?_ ?_); rotate_left; wtm_at "nm"; wtm_at "mt"; wtm_at "mt") | wtm_at "cname" | ((with_reducible (first | refine' E_meth PySem.F.plainAttrs_list PySem.F.slot_list_append PySem.F.type_list_append ?_ ?_ ?_ ?_ ?_ | refine' E_meth PySem.F.plainAttrs_dict PySem.F.slot_dict_update PySem.F.type_dict_update ?_ ?_ ?_ ?_ ?_)); rotate_left; wtm_at "mt"; wtm_at "mt"; wtm_at "mt"; rotate_left) | ((with_reducible refine' E_meth0 PySem.F.plainAttrs_list PySem.F.slot_list_pop PySem.F.type_list_pop ?_ ?_ ?_); rotate_left; wtm_at "mt"; rotate_left) | ((with_reducible refine' T_plain ?_ ?_); rotate_left; wtm_at "mt"))))
        refine ⟨by trivial, _, _, Wk.refl, F, Qa, La, (rt, top) :: mo, n, ?_, by rw [hmid]; rfl, by simp, by simp; lia, ?_, hF, by rw [hmid]⟩
        · rw [hmid]
          simp only [canon, lvLed_cons, List.map_cons, List.reverse_cons, List.cons_append]
          exact .refl _
        · rw [hmid]; simp only [WSt.weight, List.length_append, List.length_singleton, List.map_cons, List.sum_cons]; lia
      · rename (tk = false) => htk
        rename (d.getD i 0 = 40) => h40
        subst htk
        have hmid : WSt.mid ⟨fd, qs, top :: mo.map (·.2), false⟩ i (d.getD i 0) = ⟨fd, qs, [i] :: top :: mo.map (·.2), false⟩ := by rw [h40]; rfl
        refine Bi_append (.there (.there (.there .here))) (by simp; lia) ?_
        repeat' (first | (focus (first | with_reducible (first | refine Thn_next ?_ | refine Thn_ret ?_ | refine S_nil ?_ | refine S_cons ?_ | refine S_ret ?_ | refine S_if ?_ | refine E_int ?_ | refine E_bool ?_ | refine L_nil ?_ | refine E_bin ?_ | refine T_op ?_ | refine T_and ?_ | refine T_and0 ?_ | refine T_not ?_ | refine E_if ?_ | refine E_not ?_ | refine E_neg ?_ | refine E_op ?_ | refine E_op1 ?_ | refine E_and ?_ | refine E_tuple ?_ | refine E_list ?_ | refine E_dict0 (fun _ _ => ?_) | refine B_add ?_ | refine C_eq ?_ | refine Tr_bool ?_ | refine ite_t ?_ | refine ite_f ?_ | refine ite_d (fun _ => ?_) (fun _ => ?_) | refine ite_b (fun _ => ?_) (fun _ => ?_)) | ((with_reducible refine' S_set ?_ ?_ ?_ ?_); assumption; rotate_left; wtm_at "loc"; wtm_at "mt") | ((with_reducible refine' S_un4 ?_ ?_ ?_ ?_ ?_ ?_ ?_ ?_); assumption; rotate_left; wtm_at "loc"; wtm_at "loc"; wtm_at "loc"; wtm_at "loc"; wtm_at "mt"; wtm_at "mt") | ((with_reducible apply Bi_append); wtm_at "upd"; wtm_at "sz") | ((with_reducible refine' Bi_lenB ?_ ?_); rotate_left; wtm_at "sz") | ((with_reducible refine' S_expr ?_ ?_ ?_); assumption; rotate_left; wtm_at "mt") | ((with_reducible apply exSet); wtm_at "setv") | ((with_reducible apply exSets); wtm_at "setvs") | ((with_reducible refine' ⟨?_, fun _ => ?_⟩); exact Nat.le_of_ble_eq_true rfl) | ((with_reducible refine' ⟨_, TupL.t ?_, ?_⟩); rotate_left; wtm_at "mem") | ((with_reducible refine' ⟨Recv.list ?_, ?_⟩); rotate_left; wtm_at "mem") | ((with_reducible refine' ⟨Recv.dict ?_, ?_⟩); rotate_left 2; wtm_at "mem") | (with_reducible refine ⟨_, rfl, ?_⟩) | (with_reducible refine ⟨_, _, rfl, ?_⟩) | (with_reducible refine ⟨_, _, _, rfl, ?_⟩) | (with_reducible refine Bi_range1 (fun _ => ?_)) | ((with_reducible (first | refine' L_cons ?_ ?_ | refine' E_cmp ?_ ?_ | refine' T_cmp ?_ ?_ | refine' E_item ?_ ?_)); rotate_left; wtm_at "mt") | wtm_at "name" | ((with_reducible refine' E_bf ?_ ?_ ?_ ?_); rotate_left; wtm_at "nm"; wtm_at "mt"; wtm_at "mt") | ((with_reducible refine' E_bt ?_ ?_ ?_ ?_); rotate_left; wtm_at "nm"; wtm_at "mt"; wtm_at "mt") | wtm_at "cname" | ((with_reducible (first | refine' E_meth PySem.F.plainAttrs_list PySem.F.slot_list_append PySem.F.type_list_append ?_ ?_ ?_ ?_ ?_ | refine' E_meth PySem.F.plainAttrs_dict PySem.F.slot_dict_update PySem.F.type_dict_update ?_ ?_ ?_ ?_ ?_)); rotate_left; wtm_at "mt"; wtm_at "mt"; wtm_at "mt"; rotate_left) | ((with_reducible refine' E_meth0 PySem.F.plainAttrs_list PySem.F.slot_list_pop PySem.F.type_list_pop ?_ ?_ ?_); rotate_left; wtm_at "mt"; rotate_left) | ((with_reducible refine' T_plain ?_ ?_); rotate_left; wtm_at "mt"))))
        rename Addr => r
        refine ⟨by trivial, _, _, Wk.refl, F, Qa, La, (r, [i]) :: (rt, top) :: mo, n, ?_, by rw [hmid]; rfl, by simp, by simp; lia, ?_, hF, by rw [hmid]⟩
        · rw [hmid]
          simp only [canon, lvLed_cons, List.map_cons, List.reverse_cons, List.cons_append]
          exact (List.perm_middle (a := (r, PO.list (nums [i]))) (l₁ := [_, _, _, _]) (l₂ := _)).symm
        · rw [hmid]; simp only [WSt.weight, List.length_singleton, List.map_cons, List.sum_cons]; lia
      · rename (tk = true) => htk
        rename (d.getD i 0 = 40) => h40
        subst htk
        have hmid : WSt.mid ⟨fd, qs, top :: mo.map (·.2), true⟩ i (d.getD i 0) = ⟨fd, qs, (top ++ [i]) :: mo.map (·.2), true⟩ := by rw [h40]; rfl
        refine It_last (by wtm_at "mem") (by simp; rfl) (by simp; lia) ?_
        repeat' (first | (focus (first | with_reducible (first | refine Thn_next ?_ | refine Thn_ret ?_ | refine S_nil ?_ | refine S_cons ?_ | refine S_ret ?_ | refine S_if ?_ | refine E_int ?_ | refine E_bool ?_ | refine L_nil ?_ | refine E_bin ?_ | refine T_op ?_ | refine T_and ?_ | refine T_and0 ?_ | refine T_not ?_ | refine E_if ?_ | refine E_not ?_ | refine E_neg ?_ | refine E_op ?_ | refine E_op1 ?_ | refine E_and ?_ | refine E_tuple ?_ | refine E_list ?_ | refine E_dict0 (fun _ _ => ?_) | refine B_add ?_ | refine C_eq ?_ | refine Tr_bool ?_ | refine ite_t ?_ | refine ite_f ?_ | refine ite_d (fun _ => ?_) (fun _ => ?_) | refine ite_b (fun _ => ?_) (fun _ => ?_)) | ((with_reducible refine' S_set ?_ ?_ ?_ ?_); assumption; rotate_left; wtm_at "loc"; wtm_at "mt") | ((with_reducible refine' S_un4 ?_ ?_ ?_ ?_ ?_ ?_ ?_ ?_); assumption; rotate_left; wtm_at "loc"; wtm_at "loc"; wtm_at "loc"; wtm_at "loc"; wtm_at "mt"; wtm_at "mt") | ((with_reducible apply Bi_append); wtm_at "upd"; wtm_at "sz") | ((with_reducible refine' Bi_lenB ?_ ?_); rotate_left; wtm_at "sz") | ((with_reducible refine' S_expr ?_ ?_ ?_); assumption; rotate_left; wtm_at "mt") | ((with_reducible apply exSet); wtm_at "setv") | ((with_reducible apply exSets); wtm_at "setvs") | ((with_reducible refine' ⟨?_, fun _ => ?_⟩); exact Nat.le_of_ble_eq_true rfl) | ((with_reducible refine' ⟨_, TupL.t ?_, ?_⟩); rotate_left; wtm_at "mem") | ((with_reducible refine' ⟨Recv.list ?_, ?_⟩); rotate_left; wtm_at "mem") | ((with_reducible refine' ⟨Recv.dict ?_, ?_⟩); rotate_left 2; wtm_at "mem") | (with_reducible refine ⟨_, rfl, ?_⟩) | (with_reducible refine ⟨_, _, rfl, ?_⟩) | (with_reducible refine ⟨_, _, _, rfl, ?_⟩) | (with_reducible refine Bi_range1 (fun _ => ?_)) | ((with_reducible (first | refine' L_cons ?_ ?_ | refine' E_cmp ?_ ?_ | refine' T_cmp ?_ ?_ | refine' E_item ?_ ?_)); rotate_left; wtm_at "mt") | wtm_at "name" | ((with_reducible refine' E_bf ?_ ?_ ?_ ?_); rotate_left; wtm_at "nm"; wtm_at "mt"; wtm_at "mt") | ((with_reducible refine' E_bt ?_ ?_ ?_ ?_); rotate_left; wtm_at "nm"; wtm_at "mt"; wtm_at "mt") | wtm_at "cname" | ((with_reducible (first | refine' E_meth PySem.F.plainAttrs_list PySem.F.slot_list_append PySem.F.type_list_append ?_ ?_ ?_ ?_ ?_ | refine' E_meth PySem.F.plainAttrs_dict PySem.F.slot_dict_update PySem.F.type_dict_update ?_ ?_ ?_ ?_ ?_)); rotate_left; wtm_at "mt"; wtm_at "mt"; wtm_at "mt"; rotate_left) | ((with_reducible refine' E_meth0 PySem.F.plainAttrs_list PySem.F.slot_list_pop PySem.F.type_list_pop ?_ ?_ ?_); rotate_left; wtm_at "mt"; rotate_left) | ((with_reducible refine' T_plain ?_ ?_); rotate_left; wtm_at "mt"))) | (focus ((with_reducible apply E_cell'); assumption; rw [‹Cx.cl _ = _›]; rfl; wtm_at "loc"; wtm_at "dbg"; wtm_at "mem")))
        refine Bi_append (.there (.there (.there (.there .here)))) (by rw [nums_len]; lia) ?_
        rw [nums_snoc]
        repeat' (first | (focus (first | with_reducible (first | refine Thn_next ?_ | refine Thn_ret ?_ | refine S_nil ?_ | refine S_cons ?_ | refine S_ret ?_ | refine S_if ?_ | refine E_int ?_ | refine E_bool ?_ | refine L_nil ?_ | refine E_bin ?_ | refine T_op ?_ | refine T_and ?_ | refine T_and0 ?_ | refine T_not ?_ | refine E_if ?_ | refine E_not ?_ | refine E_neg ?_ | refine E_op ?_ | refine E_op1 ?_ | refine E_and ?_ | refine E_tuple ?_ | refine E_list ?_ | refine E_dict0 (fun _ _ => ?_) | refine B_add ?_ | refine C_eq ?_ | refine Tr_bool ?_ | refine ite_t ?_ | refine ite_f ?_ | refine ite_d (fun _ => ?_) (fun _ => ?_) | refine ite_b (fun _ => ?_) (fun _ => ?_)) | ((with_reducible refine' S_set ?_ ?_ ?_ ?_); assumption; rotate_left; wtm_at "loc"; wtm_at "mt") | ((with_reducible refine' S_un4 ?_ ?_ ?_ ?_ ?_ ?_ ?_ ?_); assumption; rotate_left; wtm_at "loc"; wtm_at "loc"; wtm_at "loc"; wtm_at "loc"; wtm_at "mt"; wtm_at "mt") | ((with_reducible apply Bi_append); wtm_at "upd"; wtm_at "sz") | ((with_reducible refine' Bi_lenB ?_ ?_); rotate_left; wtm_at "sz") | ((with_reducible refine' S_expr ?_ ?_ ?_); assumption; rotate_left; wtm_at "mt") | ((with_reducible apply exSet); wtm_at "setv") | ((with_reducible apply exSets); wtm_at "setvs") | ((with_reducible refine' ⟨?_, fun _ => ?_⟩); exact Nat.le_of_ble_eq_true rfl) | ((with_reducible refine' ⟨_, TupL.t ?_, ?_⟩); rotate_left; wtm_at "mem") | ((with_reducible refine' ⟨Recv.list ?_, ?_⟩); rotate_left; wtm_at "mem") | ((with_reducible refine' ⟨Recv.dict ?_, ?_⟩); rotate_left 2; wtm_at "mem") | (with_reducible refine ⟨_, rfl, ?_⟩) | (with_reducible refine ⟨_, _, rfl, ?_⟩) | (with_reducible refine ⟨_, _, _, rfl, ?_⟩) | (with_reducible refine Bi_range1 (fun _ => ?_)) | ((with_reducible (first | refine' L_cons ?_ ?_ | refine' E_cmp ?_ ?_ | refine' T_cmp ?_ ?_ | refine' E_item ?_ ?_)); rotate_left; wtm_at "mt") | wtm_at "name" | ((with_reducible refine' E_bf ?_ ?_ ?_ ?_); rotate_left; wtm_at "nm"; wtm_at "mt"; wtm_at "mt") | ((with_reducible refine' E_bt ?_ ?_ ?_ ?_); rotate_left; wtm_at "nm"; wtm_at "mt"; wtm_at "mt") | wtm_at "cname" | ((with_reducible (first | refine' E_meth PySem.F.plainAttrs_list PySem.F.slot_list_append PySem.F.type_list_append ?_ ?_ ?_ ?_ ?_ | refine' E_meth PySem.F.plainAttrs_dict PySem.F.slot_dict_update PySem.F.type_dict_update ?_ ?_ ?_ ?_ ?_)); rotate_left; wtm_at "mt"; wtm_at "mt"; wtm_at "mt"; rotate_left) | ((with_reducible refine' E_meth0 PySem.F.plainAttrs_list PySem.F.slot_list_pop PySem.F.type_list_pop ?_ ?_ ?_); rotate_left; wtm_at "mt"; rotate_left) | ((with_reducible refine' T_plain ?_ ?_); rotate_left; wtm_at "mt"))))
        refine ⟨by trivial, _, _, Wk.refl, F, Qa, La, (rt, top ++ [i]) :: mo, n, ?_, by rw [hmid]; rfl, by simp, by simp; lia, ?_, hF, by rw [hmid]⟩
        · rw [hmid]
          simp only [canon, lvLed_cons, List.map_cons, List.reverse_cons, List.cons_append]
          exact .refl _
        · rw [hmid]; simp only [WSt.weight, List.length_append, List.length_singleton, List.map_cons, List.sum_cons]; lia
      · rename (tk = false) => htk
        rename (d.getD i 0 = 41) => h41
        subst htk
        refine E_compL0 hi hc (closure_at hcl rfl) rfl rfl (by decide) (by decide) rfl (fun _ _ => by with_unfolding_all rfl) ?_
        repeat' (first | (focus (first | with_reducible (first | refine Thn_next ?_ | refine Thn_ret ?_ | refine S_nil ?_ | refine S_cons ?_ | refine S_ret ?_ | refine S_if ?_ | refine E_int ?_ | refine E_bool ?_ | refine L_nil ?_ | refine E_bin ?_ | refine T_op ?_ | refine T_and ?_ | refine T_and0 ?_ | refine T_not ?_ | refine E_if ?_ | refine E_not ?_ | refine E_neg ?_ | refine E_op ?_ | refine E_op1 ?_ | refine E_and ?_ | refine E_tuple ?_ | refine E_list ?_ | refine E_dict0 (fun _ _ => ?_) | refine B_add ?_ | refine C_eq ?_ | refine Tr_bool ?_ | refine ite_t ?_ | refine ite_f ?_ | refine ite_d (fun _ => ?_) (fun _ => ?_) | refine ite_b (fun _ => ?_) (fun _ => ?_)) | ((with_reducible refine' S_set ?_ ?_ ?_ ?_); assumption; rotate_left; wtm_at "loc"; wtm_at "mt") | ((with_reducible refine' S_un4 ?_ ?_ ?_ ?_ ?_ ?_ ?_ ?_); assumption; rotate_left; wtm_at "loc"; wtm_at "loc"; wtm_at "loc"; wtm_at "loc"; wtm_at "mt"; wtm_at "mt") | ((with_reducible apply Bi_append); wtm_at "upd"; wtm_at "sz") | ((with_reducible refine' Bi_lenB ?_ ?_); rotate_left; wtm_at "sz") | ((with_reducible refine' S_expr ?_ ?_ ?_); assumption; rotate_left; wtm_at "mt") | ((with_reducible apply exSet); wtm_at "setv") | ((with_reducible apply exSets); wtm_at "setvs") | ((with_reducible refine' ⟨?_, fun _ => ?_⟩); exact Nat.le_of_ble_eq_true rfl) | ((with_reducible refine' ⟨_, TupL.t ?_, ?_⟩); rotate_left; wtm_at "mem") | ((with_reducible refine' ⟨Recv.list ?_, ?_⟩); rotate_left; wtm_at "mem") | ((with_reducible refine' ⟨Recv.dict ?_, ?_⟩); rotate_left 2; wtm_at "mem") | (with_reducible refine ⟨_, rfl, ?_⟩) | (with_reducible refine ⟨_, _, rfl, ?_⟩) | (with_reducible refine ⟨_, _, _, rfl, ?_⟩) | (with_reducible refine Bi_range1 (fun _ => ?_)) | ((with_reducible (first | refine' L_cons ?_ ?_ | refine' E_cmp ?_ ?_ | refine' T_cmp ?_ ?_ | refine' E_item ?_ ?_)); rotate_left; wtm_at "mt") | wtm_at "name" | ((with_reducible refine' E_bf ?_ ?_ ?_ ?_); rotate_left; wtm_at "nm"; wtm_at "mt"; wtm_at "mt") | ((with_reducible refine' E_bt ?_ ?_ ?_ ?_); rotate_left; wtm_at "nm"; wtm_at "mt"; wtm_at "mt") | wtm_at "cname" | ((with_reducible (first | refine' E_meth PySem.F.plainAttrs_list PySem.F.slot_list_append PySem.F.type_list_append ?_ ?_ ?_ ?_ ?_ | refine' E_meth PySem.F.plainAttrs_dict PySem.F.slot_dict_update PySem.F.type_dict_update ?_ ?_ ?_ ?_ ?_)); rotate_left; wtm_at "mt"; wtm_at "mt"; wtm_at "mt"; rotate_left) | ((with_reducible refine' E_meth0 PySem.F.plainAttrs_list PySem.F.slot_list_pop PySem.F.type_list_pop ?_ ?_ ?_); rotate_left; wtm_at "mt"; rotate_left) | ((with_reducible refine' T_plain ?_ ?_); rotate_left; wtm_at "mt"))))
        refine Bi_pop (.there (.there .here)) (by simp; lia) ?_
        refine ⟨rt, nums top, _, rfl, .there (.there (.there (.there .here))), by rw [nums_len]; lia, ?_⟩
        rw [nums_eq]
        refine comp_pairs' (e := ((i + 1 : Nat) : Int)) _ (fun b l c₂ hcc hsub R hR => ?_) (top.map fun (n : Nat) => (n : Int)) [] (fun more hmore => ?_)
        · repeat' (first | (focus (first | with_reducible (first | refine Thn_next ?_ | refine Thn_ret ?_ | refine S_nil ?_ | refine S_cons ?_ | refine S_ret ?_ | refine S_if ?_ | refine E_int ?_ | refine E_bool ?_ | refine L_nil ?_ | refine E_bin ?_ | refine T_op ?_ | refine T_and ?_ | refine T_and0 ?_ | refine T_not ?_ | refine E_if ?_ | refine E_not ?_ | refine E_neg ?_ | refine E_op ?_ | refine E_op1 ?_ | refine E_and ?_ | refine E_tuple ?_ | refine E_list ?_ | refine E_dict0 (fun _ _ => ?_) | refine B_add ?_ | refine C_eq ?_ | refine Tr_bool ?_ | refine ite_t ?_ | refine ite_f ?_ | refine ite_d (fun _ => ?_) (fun _ => ?_) | refine ite_b (fun _ => ?_) (fun _ => ?_)) | ((with_reducible refine' S_set ?_ ?_ ?_ ?_); assumption; rotate_left; wtm_at "loc"; wtm_at "mt") | ((with_reducible refine' S_un4 ?_ ?_ ?_ ?_ ?_ ?_ ?_ ?_); assumption; rotate_left; wtm_at "loc"; wtm_at "loc"; wtm_at "loc"; wtm_at "loc"; wtm_at "mt"; wtm_at "mt") | ((with_reducible apply Bi_append); wtm_at "upd"; wtm_at "sz") | ((with_reducible refine' Bi_lenB ?_ ?_); rotate_left; wtm_at "sz") | ((with_reducible refine' S_expr ?_ ?_ ?_); assumption; rotate_left; wtm_at "mt") | ((with_reducible apply exSet); wtm_at "setv") | ((with_reducible apply exSets); wtm_at "setvs") | ((with_reducible refine' ⟨?_, fun _ => ?_⟩); exact Nat.le_of_ble_eq_true rfl) | ((with_reducible refine' ⟨_, TupL.t ?_, ?_⟩); rotate_left; wtm_at "mem") | ((with_reducible refine' ⟨Recv.list ?_, ?_⟩); rotate_left; wtm_at "mem") | ((with_reducible refine' ⟨Recv.dict ?_, ?_⟩); rotate_left 2; wtm_at "mem") | (with_reducible refine ⟨_, rfl, ?_⟩) | (with_reducible refine ⟨_, _, rfl, ?_⟩) | (with_reducible refine ⟨_, _, _, rfl, ?_⟩) | (with_reducible refine Bi_range1 (fun _ => ?_)) | ((with_reducible (first | refine' L_cons ?_ ?_ | refine' E_cmp ?_ ?_ | refine' T_cmp ?_ ?_ | refine' E_item ?_ ?_)); rotate_left; wtm_at "mt") | wtm_at "name" | ((with_reducible refine' E_bf ?_ ?_ ?_ ?_); rotate_left; wtm_at "nm"; wtm_at "mt"; wtm_at "mt") | ((with_reducible refine' E_bt ?_ ?_ ?_ ?_); rotate_left; wtm_at "nm"; wtm_at "mt"; wtm_at "mt") | wtm_at "cname" | ((with_reducible (first | refine' E_meth PySem.F.plainAttrs_list PySem.F.slot_list_append PySem.F.type_list_append ?_ ?_ ?_ ?_ ?_ | refine' E_meth PySem.F.plainAttrs_dict PySem.F.slot_dict_update PySem.F.type_dict_update ?_ ?_ ?_ ?_ ?_)); rotate_left; wtm_at "mt"; wtm_at "mt"; wtm_at "mt"; rotate_left) | ((with_reducible refine' E_meth0 PySem.F.plainAttrs_list PySem.F.slot_list_pop PySem.F.type_list_pop ?_ ?_ ?_); rotate_left; wtm_at "mt"; rotate_left) | ((with_reducible refine' T_plain ?_ ?_); rotate_left; wtm_at "mt"))) | (with_reducible show WE _ (Expr.Name _ _) _ _ _ _; refine C_free (a := a) (v := .int (i : Int)) hcc.inC (by rw [hcc.ccl]; with_unfolding_all rfl) (hsub _ (by wtm_at "mem")) ?_ (by rw [hcc.csc]; unfold relab; rw [hs]; with_unfolding_all rfl) (by with_unfolding_all decide)))
          exact hR _
        · simp only [List.nil_append]
          intro r
          repeat' (first | (focus (first | with_reducible (first | refine Thn_next ?_ | refine Thn_ret ?_ | refine S_nil ?_ | refine S_cons ?_ | refine S_ret ?_ | refine S_if ?_ | refine E_int ?_ | refine E_bool ?_ | refine L_nil ?_ | refine E_bin ?_ | refine T_op ?_ | refine T_and ?_ | refine T_and0 ?_ | refine T_not ?_ | refine E_if ?_ | refine E_not ?_ | refine E_neg ?_ | refine E_op ?_ | refine E_op1 ?_ | refine E_and ?_ | refine E_tuple ?_ | refine E_list ?_ | refine E_dict0 (fun _ _ => ?_) | refine B_add ?_ | refine C_eq ?_ | refine Tr_bool ?_ | refine ite_t ?_ | refine ite_f ?_ | refine ite_d (fun _ => ?_) (fun _ => ?_) | refine ite_b (fun _ => ?_) (fun _ => ?_)) | ((with_reducible refine' S_set ?_ ?_ ?_ ?_); assumption; rotate_left; wtm_at "loc"; wtm_at "mt") | ((with_reducible refine' S_un4 ?_ ?_ ?_ ?_ ?_ ?_ ?_ ?_); assumption; rotate_left; wtm_at "loc"; wtm_at "loc"; wtm_at "loc"; wtm_at "loc"; wtm_at "mt"; wtm_at "mt") | ((with_reducible apply Bi_append); wtm_at "upd"; wtm_at "sz") | ((with_reducible refine' Bi_lenB ?_ ?_); rotate_left; wtm_at "sz") | ((with_reducible refine' S_expr ?_ ?_ ?_); assumption; rotate_left; wtm_at "mt") | ((with_reducible apply exSet); wtm_at "setv") | ((with_reducible apply exSets); wtm_at "setvs") | ((with_reducible refine' ⟨?_, fun _ => ?_⟩); exact Nat.le_of_ble_eq_true rfl) | ((with_reducible refine' ⟨_, TupL.t ?_, ?_⟩); rotate_left; wtm_at "mem") | ((with_reducible refine' ⟨Recv.list ?_, ?_⟩); rotate_left; wtm_at "mem") | ((with_reducible refine' ⟨Recv.dict ?_, ?_⟩); rotate_left 2; wtm_at "mem") | (with_reducible refine ⟨_, rfl, ?_⟩) | (with_reducible refine ⟨_, _, rfl, ?_⟩) | (with_reducible refine ⟨_, _, _, rfl, ?_⟩) | (with_reducible refine Bi_range1 (fun _ => ?_)) | ((with_reducible (first | refine' L_cons ?_ ?_ | refine' E_cmp ?_ ?_ | refine' T_cmp ?_ ?_ | refine' E_item ?_ ?_)); rotate_left; wtm_at "mt") | wtm_at "name" | ((with_reducible refine' E_bf ?_ ?_ ?_ ?_); rotate_left; wtm_at "nm"; wtm_at "mt"; wtm_at "mt") | ((with_reducible refine' E_bt ?_ ?_ ?_ ?_); rotate_left; wtm_at "nm"; wtm_at "mt"; wtm_at "mt") | wtm_at "cname" | ((with_reducible (first | refine' E_meth PySem.F.plainAttrs_list PySem.F.slot_list_append PySem.F.type_list_append ?_ ?_ ?_ ?_ ?_ | refine' E_meth PySem.F.plainAttrs_dict PySem.F.slot_dict_update PySem.F.type_dict_update ?_ ?_ ?_ ?_ ?_)); rotate_left; wtm_at "mt"; wtm_at "mt"; wtm_at "mt"; rotate_left) | ((with_reducible refine' E_meth0 PySem.F.plainAttrs_list PySem.F.slot_list_pop PySem.F.type_list_pop ?_ ?_ ?_); rotate_left; wtm_at "mt"; rotate_left) | ((with_reducible refine' T_plain ?_ ?_); rotate_left; wtm_at "mt"))))
          have hlen : more.length = top.length := by have := congrArg List.length hmore; simpa using this
          have hupd : updF (toF fd) (more.map (·.2)) = toF (setAll fd top (i + 1)) := by rw [hmore, List.map_map]; exact updF_setAll (i + 1) top fd
          refine Bi_update (.head _) (fun p hp => .tail _ (.tail _ (mem_tups p hp))) (.there (.there (UpdL.here.app (tups more.reverse)))) (by lia) ?_
          rw [hupd, hlen]
          refine Thn_next (WS_wk0 ⟨.refl _, ((List.sublist_append_right _ _).cons _).cons _⟩ ?_)
          repeat' (first | (focus (first | with_reducible (first | refine Thn_next ?_ | refine Thn_ret ?_ | refine S_nil ?_ | refine S_cons ?_ | refine S_ret ?_ | refine S_if ?_ | refine E_int ?_ | refine E_bool ?_ | refine L_nil ?_ | refine E_bin ?_ | refine T_op ?_ | refine T_and ?_ | refine T_and0 ?_ | refine T_not ?_ | refine E_if ?_ | refine E_not ?_ | refine E_neg ?_ | refine E_op ?_ | refine E_op1 ?_ | refine E_and ?_ | refine E_tuple ?_ | refine E_list ?_ | refine E_dict0 (fun _ _ => ?_) | refine B_add ?_ | refine C_eq ?_ | refine Tr_bool ?_ | refine ite_t ?_ | refine ite_f ?_ | refine ite_d (fun _ => ?_) (fun _ => ?_) | refine ite_b (fun _ => ?_) (fun _ => ?_)) | ((with_reducible refine' S_set ?_ ?_ ?_ ?_); assumption; rotate_left; wtm_at "loc"; wtm_at "mt") | ((with_reducible refine' S_un4 ?_ ?_ ?_ ?_ ?_ ?_ ?_ ?_); assumption; rotate_left; wtm_at "loc"; wtm_at "loc"; wtm_at "loc"; wtm_at "loc"; wtm_at "mt"; wtm_at "mt") | ((with_reducible apply Bi_append); wtm_at "upd"; wtm_at "sz") | ((with_reducible refine' Bi_lenB ?_ ?_); rotate_left; wtm_at "sz") | ((with_reducible refine' S_expr ?_ ?_ ?_); assumption; rotate_left; wtm_at "mt") | ((with_reducible apply exSet); wtm_at "setv") | ((with_reducible apply exSets); wtm_at "setvs") | ((with_reducible refine' ⟨?_, fun _ => ?_⟩); exact Nat.le_of_ble_eq_true rfl) | ((with_reducible refine' ⟨_, TupL.t ?_, ?_⟩); rotate_left; wtm_at "mem") | ((with_reducible refine' ⟨Recv.list ?_, ?_⟩); rotate_left; wtm_at "mem") | ((with_reducible refine' ⟨Recv.dict ?_, ?_⟩); rotate_left 2; wtm_at "mem") | (with_reducible refine ⟨_, rfl, ?_⟩) | (with_reducible refine ⟨_, _, rfl, ?_⟩) | (with_reducible refine ⟨_, _, _, rfl, ?_⟩) | (with_reducible refine Bi_range1 (fun _ => ?_)) | ((with_reducible (first | refine' L_cons ?_ ?_ | refine' E_cmp ?_ ?_ | refine' T_cmp ?_ ?_ | refine' E_item ?_ ?_)); rotate_left; wtm_at "mt") | wtm_at "name" | ((with_reducible refine' E_bf ?_ ?_ ?_ ?_); rotate_left; wtm_at "nm"; wtm_at "mt"; wtm_at "mt") | ((with_reducible refine' E_bt ?_ ?_ ?_ ?_); rotate_left; wtm_at "nm"; wtm_at "mt"; wtm_at "mt") | wtm_at "cname" | ((with_reducible (first | refine' E_meth PySem.F.plainAttrs_list PySem.F.slot_list_append PySem.F.type_list_append ?_ ?_ ?_ ?_ ?_ | refine' E_meth PySem.F.plainAttrs_dict PySem.F.slot_dict_update PySem.F.type_dict_update ?_ ?_ ?_ ?_ ?_)); rotate_left; wtm_at "mt"; wtm_at "mt"; wtm_at "mt"; rotate_left) | ((with_reducible refine' E_meth0 PySem.F.plainAttrs_list PySem.F.slot_list_pop PySem.F.type_list_pop ?_ ?_ ?_); rotate_left; wtm_at "mt"; rotate_left) | ((with_reducible refine' T_plain ?_ ?_); rotate_left; wtm_at "mt"))) | (focus ((with_reducible apply E_cell'); assumption; rw [‹Cx.cl _ = _›]; rfl; wtm_at "loc"; wtm_at "dbg"; wtm_at "mem")) | refine C_neL0 (by wtm_at "mem") (by wtm_at "mem") ?_)
          all_goals cases mo with
            | nil => ?_
            | cons y mo' => ?_
          · rename (_ = true) => hx; simp at hx
          · obtain ⟨ry, ty⟩ := y
            have hmid : WSt.mid ⟨fd, qs, top :: ((ry, ty) :: mo').map (·.2), false⟩ i (d.getD i 0) = ⟨setAll fd top (i + 1), qs, ty :: mo'.map (·.2), false⟩ := by rw [h41]; rfl
            simp only [List.map_cons, List.sum_cons, List.length_cons] at hw hll
            refine ⟨by trivial, _, _, ⟨.refl _, (List.Sublist.refl _).cons _⟩, F, Qa, La, (ry, ty) :: mo', n + top.length, ?_, by rw [hmid]; rfl, by simp, by simp; lia, ?_, hF, by rw [hmid]⟩
            · rw [hmid]
              simp only [canon, lvLed_cons, List.map_cons, List.reverse_cons, List.cons_append]
              exact .refl _
            · rw [hmid]; simp only [WSt.weight, List.map_cons, List.sum_cons]; lia
          · rename_i x3 x2 x1 xc
            have hmid : WSt.mid ⟨fd, qs, top :: ([] : List (Addr × List Nat)).map (·.2), false⟩ i (d.getD i 0) = ⟨setAll fd top (i + 1), qs, [[]], false⟩ := by rw [h41]; rfl
            refine ⟨by trivial, _, (x1, .list [.ref x2]) :: (x2, .list []) :: (F, .dict (toF (setAll fd top (i + 1))) (n + top.length)) :: (Qa, .list (nums qs)) :: (a, .cell (some (.int (i : Int)))) :: led, ⟨.refl _, ?_⟩, F, Qa, x1, [(x2, [])], n + top.length, ?_, by rw [hmid]; rfl, by simp, by simp, ?_, hF, by rw [hmid]⟩
            · exact (((((((List.Sublist.refl _).cons_cons _).cons _).cons_cons _).cons_cons _).cons _).cons_cons _).cons_cons _
            · rw [hmid]; exact p5' _ _ _ _ _ _
            · rw [hmid]; simp only [WSt.weight, List.map_cons, List.map_nil, List.sum_cons, List.sum_nil, List.length_nil] at *; lia
          · rename (_ = false) => hx; simp at hx
      · rename (tk = true) => htk
        rename (d.getD i 0 = 41) => h41
        subst htk
        have hmid : WSt.mid ⟨fd, qs, top :: mo.map (·.2), true⟩ i (d.getD i 0) = ⟨fd, qs, top :: mo.map (·.2), true⟩ := by rw [h41]; rfl
        refine ⟨by trivial, _, _, Wk.refl, F, Qa, La, (rt, top) :: mo, n, ?_, by rw [hmid]; rfl, by simp, by simp; lia, ?_, hF, by rw [hmid]⟩
        · rw [hmid]
          simp only [canon, lvLed_cons, List.map_cons, List.reverse_cons, List.cons_append]
          exact .refl _
        · rw [hmid]; simp only [WSt.weight, List.map_cons, List.sum_cons]; lia
      · rename (¬ d.getD i 0 = 34) => h34
        rename (¬ d.getD i 0 = 40) => h40
        rename (¬ d.getD i 0 = 41) => h41
        have hmid : WSt.mid ⟨fd, qs, top :: mo.map (·.2), tk⟩ i (d.getD i 0) = ⟨fd, qs, top :: mo.map (·.2), tk⟩ := by
          unfold WSt.mid; rw [if_neg h34, if_neg h40, if_neg (fun h => h41 h.1)]
        refine ⟨by trivial, _, _, Wk.refl, F, Qa, La, (rt, top) :: mo, n, ?_, by rw [hmid]; rfl, by simp, by simp; lia, ?_, hF, by rw [hmid]⟩
        · rw [hmid]
          simp only [canon, lvLed_cons, List.map_cons, List.reverse_cons, List.cons_append]
          exact .refl _
        · rw [hmid]; simp only [WSt.weight, List.map_cons, List.sum_cons]; lia
    · rintro v l ⟨F, Qa, La, lv, n, hp, hlv, hne, hll, hw, hF, rfl⟩
      refine WS_perm hp ?_
      simp only [canon, mid_taken, List.cons_append]
      have hst : ∀ tk', tk' = (s.step i (d.getD i 0)).taken → WInv led a d (i + 1) (s.step i (d.getD i 0)) ([("data", .bytes d), ("found", .ref F), ("quotes", .ref Qa), ("levels", .ref La), ("is_taken", .bool tk')] : Vars) (canon F Qa La a (some (.int (i : Int))) lv n (s.mid i (d.getD i 0)) ++ led) (some (.int (i : Int))) :=
        fun tk' e => ⟨F, Qa, La, lv, n, .refl _, hlv, hne, hll, hw, hF, by rw [e]⟩
      have hgo' : weGo (d.drop (i + 1)) (i + 1) (s.step i (d.getD i 0)) = weGo d 0 ⟨fun _ => none, [], [[]], false⟩ := by
        rw [← hgo, drop_cons hlt]; rfl
      repeat' (first | (focus (first | with_reducible (first | refine Thn_next ?_ | refine Thn_ret ?_ | refine S_nil ?_ | refine S_cons ?_ | refine S_ret ?_ | refine S_if ?_ | refine E_int ?_ | refine E_bool ?_ | refine L_nil ?_ | refine E_bin ?_ | refine T_op ?_ | refine T_and ?_ | refine T_and0 ?_ | refine T_not ?_ | refine E_if ?_ | refine E_not ?_ | refine E_neg ?_ | refine E_op ?_ | refine E_op1 ?_ | refine E_and ?_ | refine E_tuple ?_ | refine E_list ?_ | refine E_dict0 (fun _ _ => ?_) | refine B_add ?_ | refine C_eq ?_ | refine Tr_bool ?_ | refine ite_t ?_ | refine ite_f ?_ | refine ite_d (fun _ => ?_) (fun _ => ?_) | refine ite_b (fun _ => ?_) (fun _ => ?_)) | ((with_reducible refine' S_set ?_ ?_ ?_ ?_); assumption; rotate_left; wtm_at "loc"; wtm_at "mt") | ((with_reducible refine' S_un4 ?_ ?_ ?_ ?_ ?_ ?_ ?_ ?_); assumption; rotate_left; wtm_at "loc"; wtm_at "loc"; wtm_at "loc"; wtm_at "loc"; wtm_at "mt"; wtm_at "mt") | ((with_reducible apply Bi_append); wtm_at "upd"; wtm_at "sz") | ((with_reducible refine' Bi_lenB ?_ ?_); rotate_left; wtm_at "sz") | ((with_reducible refine' S_expr ?_ ?_ ?_); assumption; rotate_left; wtm_at "mt") | ((with_reducible apply exSet); wtm_at "setv") | ((with_reducible apply exSets); wtm_at "setvs") | ((with_reducible refine' ⟨?_, fun _ => ?_⟩); exact Nat.le_of_ble_eq_true rfl) | ((with_reducible refine' ⟨_, TupL.t ?_, ?_⟩); rotate_left; wtm_at "mem") | ((with_reducible refine' ⟨Recv.list ?_, ?_⟩); rotate_left; wtm_at "mem") | ((with_reducible refine' ⟨Recv.dict ?_, ?_⟩); rotate_left 2; wtm_at "mem") | (with_reducible refine ⟨_, rfl, ?_⟩) | (with_reducible refine ⟨_, _, rfl, ?_⟩) | (with_reducible refine ⟨_, _, _, rfl, ?_⟩) | (with_reducible refine Bi_range1 (fun _ => ?_)) | ((with_reducible (first | refine' L_cons ?_ ?_ | refine' E_cmp ?_ ?_ | refine' T_cmp ?_ ?_ | refine' E_item ?_ ?_)); rotate_left; wtm_at "mt") | wtm_at "name" | ((with_reducible refine' E_bf ?_ ?_ ?_ ?_); rotate_left; wtm_at "nm"; wtm_at "mt"; wtm_at "mt") | ((with_reducible refine' E_bt ?_ ?_ ?_ ?_); rotate_left; wtm_at "nm"; wtm_at "mt"; wtm_at "mt") | wtm_at "cname" | ((with_reducible (first | refine' E_meth PySem.F.plainAttrs_list PySem.F.slot_list_append PySem.F.type_list_append ?_ ?_ ?_ ?_ ?_ | refine' E_meth PySem.F.plainAttrs_dict PySem.F.slot_dict_update PySem.F.type_dict_update ?_ ?_ ?_ ?_ ?_)); rotate_left; wtm_at "mt"; wtm_at "mt"; wtm_at "mt"; rotate_left) | ((with_reducible refine' E_meth0 PySem.F.plainAttrs_list PySem.F.slot_list_pop PySem.F.type_list_pop ?_ ?_ ?_); rotate_left; wtm_at "mt"; rotate_left) | ((with_reducible refine' T_plain ?_ ?_); rotate_left; wtm_at "mt"))) | (focus ((with_reducible apply E_cell'); assumption; rw [‹Cx.cl _ = _›]; rfl; wtm_at "loc"; wtm_at "dbg"; wtm_at "mem")) | refine It_bytes (by lia) (by lia) (by lia) ?_)
      all_goals (simp only [Int.toNat_natCast, u8i_92'] at *)
      all_goals refine ⟨by trivial, _, _, Wk.refl, i + 1, _, _, by lia, rfl, hst _ ?_, hgo'⟩
      · rename (d.getD i 0 = 92) => h92
        show (!s.taken) = (decide (d.getD i 0 = 92) && !s.taken)
        rw [h92]; simp
      · rename (¬ d.getD i 0 = 92) => h92
        show decide (d.getD i 0 = 92) = (decide (d.getD i 0 = 92) && !s.taken)
        rw [decide_eq_false h92]; rfl
  · refine ⟨_, (La, .list [.ref L0]) :: (L0, .list []) :: (Qa, .list []) :: (F, .dict (fun _ => none) 0) :: (a, .cell none) :: led, ⟨.refl _, ((List.Sublist.refl _).cons _).cons _⟩, 0, ⟨fun _ => none, [], [[]], false⟩, none, by lia, rfl, ⟨F, Qa, La, [(L0, [])], 0, ?_, rfl, by simp, by simp, by decide, hF, rfl⟩, rfl⟩
    have := p5 (La, PO.list [.ref L0]) (L0, PO.list []) (Qa, PO.list []) (F, PO.dict (fun _ => none) 0) (a, PO.cell none) led
    rw [← toF_none] at this ⊢
    exact this
end
end
section
/-- what is read from place j on -/
inductive Reads' (d : List UInt8) (f : Nat → Option Nat) : Nat → List (List Nat) → Prop
  | stop {j} : d.length ≤ j → Reads' d f j []
  | id {j o n ts} : j < d.length → d.getD j 0 = 60 → idS (d.drop j) = some (o, n) → Reads' d f (j + n) ts → Reads' d f j (o.map UInt8.toNat :: ts)
  | torn {j ts} : j < d.length → d.getD j 0 = 60 → idS (d.drop j) = none → Reads' d f (j + 1) ts → Reads' d f j ts
  | other {j ts} : j < d.length → d.getD j 0 ≠ 60 → Reads' d f ((f j).getD (j + 1)) ts → Reads' d f j ts
theorem idS_pos {l : List UInt8} {o : List UInt8} {n : Nat} (h : idS l = some (o, n)) : 0 < n := by
  simp only [idS] at h
  (repeat' split at h) <;> first | (injection h with h; injection h with _ h; lia) | cases h
theorem WSt.later {i : Nat} {u : UInt8} {s : WSt} (hq : ∀ x ∈ s.quotes, x < i) (hl : ∀ t ∈ s.levels, ∀ x ∈ t, x < i) (hf : ∀ j e, s.found j = some e → j < e) :
    (∀ x ∈ (s.step i u).quotes, x < i + 1) ∧ (∀ t ∈ (s.step i u).levels, ∀ x ∈ t, x < i + 1) ∧ (∀ j e, (s.step i u).found j = some e → j < e) := by
  have hset : ∀ qs : List Nat, (∀ x ∈ qs, x < i) → ∀ j e, setAll s.found qs (i + 1) j = some e → j < e := by
    intro qs h j e he
    unfold setAll at he
    split at he
    · cases he; have := h j (by assumption); lia
    · exact hf j e he
  have hl' : ∀ t ∈ s.levels, ∀ x ∈ t, x < i + 1 := fun t ht x hx => Nat.lt_succ_of_lt (hl t ht x hx)
  have hq' : ∀ x ∈ s.quotes, x < i + 1 := fun x hx => Nat.lt_succ_of_lt (hq x hx)
  unfold WSt.step WSt.mid
  split
  · split
    · refine ⟨fun x hx => ?_, hl', hf⟩
      rcases List.mem_append.mp hx with h | h
      · exact hq' x h
      · rw [List.mem_singleton.mp h]; lia
    · exact ⟨fun x hx => by rw [List.mem_singleton.mp hx]; lia, hl', hset _ hq⟩
  · split
    · split
      · refine ⟨hq', fun t ht x hx => ?_, hf⟩
        simp only at ht
        split at ht
        · rename_i t0 r0 e
          rcases List.mem_cons.mp ht with rfl | ht
          · rcases List.mem_append.mp hx with h | h
            · exact hl' t0 (by rw [e]; exact .head _) x h
            · rw [List.mem_singleton.mp h]; lia
          · exact hl' t (by rw [e]; exact .tail _ ht) x hx
        · cases ht
      · refine ⟨hq', fun t ht x hx => ?_, hf⟩
        rcases List.mem_cons.mp ht with rfl | ht
        · rw [List.mem_singleton.mp hx]; lia
        · exact hl' t ht x hx
    · split
      · refine ⟨hq', fun t ht x hx => ?_, hset _ ?_⟩
        · simp only at ht
          split at ht
          · rename_i t0 y r e
            exact hl' t (by rw [e]; exact .tail _ ht) x hx
          · rw [List.mem_singleton.mp ht] at hx; cases hx
        · intro x hx
          cases hlv : s.levels with
          | nil => rw [hlv] at hx; cases hx
          | cons t r => rw [hlv] at hx; exact hl t (by rw [hlv]; exact .head _) x hx
      · exact ⟨hq', hl', hf⟩
theorem weGo_later : ∀ (d : List UInt8) (i : Nat) (s : WSt), (∀ x ∈ s.quotes, x < i) → (∀ t ∈ s.levels, ∀ x ∈ t, x < i) → (∀ j e, s.found j = some e → j < e) → ∀ j e, (weGo d i s).found j = some e → j < e
  | [], _, _, _, _, h => h
  | u :: r, i, s, h1, h2, h3 => by
    obtain ⟨a, b, c⟩ := WSt.later (u := u) h1 h2 h3
    exact weGo_later r (i + 1) _ a b c
theorem weS_later {d : List UInt8} {j e : Nat} (h : weS d j = some e) : j < e :=
  weGo_later d 0 _ (by simp) (by simp) (by simp) j e h
theorem u8i_60 (u : UInt8) : ((u.toNat : Int) = 60) ↔ u = 60 := by rw [← UInt8.toNat_inj]; simp; lia
section
variable {Q : PV → Led → Prop} {led : Led}
theorem c_read_ids {d : List UInt8} (hd : d.length ≤ 100000) (h : ∀ ts, Reads' d (weS d) 0 ts → ∀ r, Q (.ref r) ((r, .list (ts.map .str)) :: led)) : FnS 146 8 [.bytes d] Q led := by
  refine FnS_1 "octets" (fun w => by exact rfl) (fun w => by exact rfl) (fun _ => rfl) (by decide) (fun c' hr hc hs hi hcl hA => ?_)
  repeat' (first | (focus (first | with_reducible (first | refine Thn_next ?_ | refine Thn_ret ?_ | refine Trn_next ?_ | refine S_nil ?_ | refine S_cons ?_ | refine S_ret ?_ | refine S_if ?_ | refine E_int ?_ | refine L_nil ?_ | refine E_bin ?_ | refine E_list ?_ | refine B_add ?_ | refine C_lt ?_ | refine C_eq ?_ | refine Tr_bool ?_ | refine ite_d (fun _ => ?_) (fun _ => ?_)) | ((with_reducible refine' S_set ?_ ?_ ?_ ?_); assumption; rotate_left; wtm_at "loc"; wtm_at "mt") | ((with_reducible refine' S_unR2 ?_ ?_ ?_ ?_ ?_ ?_); assumption; rotate_left; wtm_at "loc"; wtm_at "loc"; wtm_at "mt"; wtm_at "sw") | ((with_reducible refine' S_un2 ?_ ?_ ?_ ?_ ?_ ?_); assumption; rotate_left; wtm_at "loc"; wtm_at "loc"; wtm_at "mt"; wtm_at "mt") | ((with_reducible apply Bi_append); wtm_at "upd"; wtm_at "sz") | ((with_reducible refine' Bi_lenB ?_ ?_); rotate_left; wtm_at "sz") | ((with_reducible refine' S_expr ?_ ?_ ?_); assumption; rotate_left; wtm_at "mt") | ((with_reducible apply exSet); wtm_at "setv") | ((with_reducible apply exSets); wtm_at "setvs") | ((with_reducible refine' ⟨?_, fun _ => ?_⟩); exact Nat.le_of_ble_eq_true rfl) | ((with_reducible refine' ⟨_, TupL.t ?_, ?_⟩); rotate_left; wtm_at "mem") | ((with_reducible refine' ⟨Recv.list ?_, ?_⟩); rotate_left; wtm_at "mem") | ((with_reducible refine' ⟨Recv.dict ?_, ?_⟩); rotate_left 2; wtm_at "mem") | (with_reducible refine ⟨_, rfl, ?_⟩) | (with_reducible refine ⟨_, _, rfl, ?_⟩) | (with_reducible refine ⟨_, _, _, rfl, ?_⟩) | ((with_reducible (first | refine' L_cons ?_ ?_ | refine' T_cmp ?_ ?_ | refine' E_item ?_ ?_)); rotate_left; wtm_at "mt") | wtm_at "name" | ((with_reducible refine' E_fn ?_ ?_ ?_ ?_ ?_ ?_); rotate_left 2; wtm_at "nm"; (exact fun w => by with_unfolding_all exact rfl); rotate_left; wtm_at "mt"; wtm_at "mt"; rotate_left) | ((with_reducible refine' E_bf ?_ ?_ ?_ ?_); rotate_left; wtm_at "nm"; wtm_at "mt"; wtm_at "mt") | ((with_reducible (first | refine' E_meth PySem.F.plainAttrs_list PySem.F.slot_list_append PySem.F.type_list_append ?_ ?_ ?_ ?_ ?_ | refine' E_meth PySem.F.plainAttrs_dict PySem.F.slot_dict_get PySem.F.type_dict_get ?_ ?_ ?_ ?_ ?_)); rotate_left; wtm_at "mt"; wtm_at "mt"; wtm_at "mt"; rotate_left))) | refine c_word_ends (by lia) (fun En n hEn => ?_))
  all_goals try (rw [hr]; decide)
  rename_i Fd T0
  refine S_while hi (fun m v l => (E2 fun (j : Nat) (done : List (List Nat)) => A5 (m = d.length - j) (done.length ≤ j) ((∀ ts, Reads' d (weS d) j ts → Reads' d (weS d) 0 (done ++ ts))) (v = ([("octets", .bytes d), ("ends", .ref En), ("found", .ref Fd), ("at", .int j)] : Vars)) (l = (En, .dict (toF (weS d)) n) :: (Fd, .list (done.map .str)) :: led))) d.length ?_ ?_
  · exact ⟨_, _, ⟨.refl _, (List.Sublist.refl _).cons _⟩, 0, [], rfl, by simp, fun ts h => h, rfl, rfl⟩
  · rintro m v l ⟨j, done, rfl, hj, hk, rfl, rfl⟩
    repeat' (first | (focus (first | with_reducible (first | refine Thn_next ?_ | refine Thn_ret ?_ | refine Trn_next ?_ | refine S_nil ?_ | refine S_cons ?_ | refine S_ret ?_ | refine S_if ?_ | refine E_int ?_ | refine L_nil ?_ | refine E_bin ?_ | refine E_list ?_ | refine B_add ?_ | refine C_lt ?_ | refine C_eq ?_ | refine Tr_bool ?_ | refine ite_d (fun _ => ?_) (fun _ => ?_)) | ((with_reducible refine' S_set ?_ ?_ ?_ ?_); assumption; rotate_left; wtm_at "loc"; wtm_at "mt") | ((with_reducible refine' S_unR2 ?_ ?_ ?_ ?_ ?_ ?_); assumption; rotate_left; wtm_at "loc"; wtm_at "loc"; wtm_at "mt"; wtm_at "sw") | ((with_reducible refine' S_un2 ?_ ?_ ?_ ?_ ?_ ?_); assumption; rotate_left; wtm_at "loc"; wtm_at "loc"; wtm_at "mt"; wtm_at "mt") | ((with_reducible apply Bi_append); wtm_at "upd"; wtm_at "sz") | ((with_reducible refine' Bi_lenB ?_ ?_); rotate_left; wtm_at "sz") | ((with_reducible refine' S_expr ?_ ?_ ?_); assumption; rotate_left; wtm_at "mt") | ((with_reducible apply exSet); wtm_at "setv") | ((with_reducible apply exSets); wtm_at "setvs") | ((with_reducible refine' ⟨?_, fun _ => ?_⟩); exact Nat.le_of_ble_eq_true rfl) | ((with_reducible refine' ⟨_, TupL.t ?_, ?_⟩); rotate_left; wtm_at "mem") | ((with_reducible refine' ⟨Recv.list ?_, ?_⟩); rotate_left; wtm_at "mem") | ((with_reducible refine' ⟨Recv.dict ?_, ?_⟩); rotate_left 2; wtm_at "mem") | (with_reducible refine ⟨_, rfl, ?_⟩) | (with_reducible refine ⟨_, _, rfl, ?_⟩) | (with_reducible refine ⟨_, _, _, rfl, ?_⟩) | ((with_reducible (first | refine' L_cons ?_ ?_ | refine' T_cmp ?_ ?_ | refine' E_item ?_ ?_)); rotate_left; wtm_at "mt") | wtm_at "name" | ((with_reducible refine' E_fn ?_ ?_ ?_ ?_ ?_ ?_); rotate_left 2; wtm_at "nm"; (exact fun w => by with_unfolding_all exact rfl); rotate_left; wtm_at "mt"; wtm_at "mt"; rotate_left) | ((with_reducible refine' E_bf ?_ ?_ ?_ ?_); rotate_left; wtm_at "nm"; wtm_at "mt"; wtm_at "mt") | ((with_reducible (first | refine' E_meth PySem.F.plainAttrs_list PySem.F.slot_list_append PySem.F.type_list_append ?_ ?_ ?_ ?_ ?_ | refine' E_meth PySem.F.plainAttrs_dict PySem.F.slot_dict_get PySem.F.type_dict_get ?_ ?_ ?_ ?_ ?_)); rotate_left; wtm_at "mt"; wtm_at "mt"; wtm_at "mt"; rotate_left))) | refine It_bytes (by lia) (by lia) (by lia) ?_ | (refine S_try hi hc hA hcl (by rw [hs]; rfl) (by rw [hs]; rfl) (by with_unfolding_all decide) (by intro _; with_unfolding_all rfl) ?_) | refine c_id_at (by lia) (by lia) (fun e => ?_) (fun o n e r' => ?_) | refine Bi_get (by wtm_at "mem") hEn ?_)
    all_goals try (rw [hr]; decide)
    all_goals (try simp only [Int.toNat_natCast, u8i_60] at *)
    · rename (d.getD j 0 = 60) => h60
      refine ⟨j, by wtm_at "mem", _, by wtm_at "setv", ?_⟩
      repeat' (focus (first | with_reducible (first | refine Thn_next ?_ | refine Thn_ret ?_ | refine Trn_next ?_ | refine S_nil ?_ | refine S_cons ?_ | refine S_ret ?_ | refine S_if ?_ | refine E_int ?_ | refine L_nil ?_ | refine E_bin ?_ | refine E_list ?_ | refine B_add ?_ | refine C_lt ?_ | refine C_eq ?_ | refine Tr_bool ?_ | refine ite_d (fun _ => ?_) (fun _ => ?_)) | ((with_reducible refine' S_set ?_ ?_ ?_ ?_); assumption; rotate_left; wtm_at "loc"; wtm_at "mt") | ((with_reducible refine' S_unR2 ?_ ?_ ?_ ?_ ?_ ?_); assumption; rotate_left; wtm_at "loc"; wtm_at "loc"; wtm_at "mt"; wtm_at "sw") | ((with_reducible refine' S_un2 ?_ ?_ ?_ ?_ ?_ ?_); assumption; rotate_left; wtm_at "loc"; wtm_at "loc"; wtm_at "mt"; wtm_at "mt") | ((with_reducible apply Bi_append); wtm_at "upd"; wtm_at "sz") | ((with_reducible refine' Bi_lenB ?_ ?_); rotate_left; wtm_at "sz") | ((with_reducible refine' S_expr ?_ ?_ ?_); assumption; rotate_left; wtm_at "mt") | ((with_reducible apply exSet); wtm_at "setv") | ((with_reducible apply exSets); wtm_at "setvs") | ((with_reducible refine' ⟨?_, fun _ => ?_⟩); exact Nat.le_of_ble_eq_true rfl) | ((with_reducible refine' ⟨_, TupL.t ?_, ?_⟩); rotate_left; wtm_at "mem") | ((with_reducible refine' ⟨Recv.list ?_, ?_⟩); rotate_left; wtm_at "mem") | ((with_reducible refine' ⟨Recv.dict ?_, ?_⟩); rotate_left 2; wtm_at "mem") | (with_reducible refine ⟨_, rfl, ?_⟩) | (with_reducible refine ⟨_, _, rfl, ?_⟩) | (with_reducible refine ⟨_, _, _, rfl, ?_⟩) | ((with_reducible (first | refine' L_cons ?_ ?_ | refine' T_cmp ?_ ?_ | refine' E_item ?_ ?_)); rotate_left; wtm_at "mt") | wtm_at "name" | ((with_reducible refine' E_fn ?_ ?_ ?_ ?_ ?_ ?_); rotate_left 2; wtm_at "nm"; (exact fun w => by with_unfolding_all exact rfl); rotate_left; wtm_at "mt"; wtm_at "mt"; rotate_left) | ((with_reducible refine' E_bf ?_ ?_ ?_ ?_); rotate_left; wtm_at "nm"; wtm_at "mt"; wtm_at "mt") | ((with_reducible (first | refine' E_meth PySem.F.plainAttrs_list PySem.F.slot_list_append PySem.F.type_list_append ?_ ?_ ?_ ?_ ?_ | refine' E_meth PySem.F.plainAttrs_dict PySem.F.slot_dict_get PySem.F.type_dict_get ?_ ?_ ?_ ?_ ?_)); rotate_left; wtm_at "mt"; wtm_at "mt"; wtm_at "mt"; rotate_left)))
      refine ⟨_, _, Wk.refl, _, ?_, j + 1, done, rfl, by lia, fun ts h => hk ts (.torn (by lia) h60 e h), rfl, rfl⟩
      lia
    · rename (d.getD j 0 = 60) => h60
      have hp := idS_pos e
      refine ⟨_, _, ⟨by wtm_at "subl", (List.Sublist.refl _).cons _⟩, _, ?_, j + n, done ++ [o.map UInt8.toNat], rfl, ?_, fun ts h => ?_, rfl, ?_⟩
      · lia
      · simp; lia
      · have := hk _ (.id (by lia) h60 e h)
        simpa using this
      · simp
    · rename (¬ d.getD j 0 = 60) => h60
      have hg : (toF (weS d) (j : Int)).getD (.int ((j : Int) + 1)) = .int (((weS d j).getD (j + 1) : Nat) : Int) := by
        unfold toF; rw [if_pos (by lia), Int.toNat_natCast]
        cases weS d j <;> rfl
      have hgt : j < (weS d j).getD (j + 1) := by
        cases he : weS d j with
        | none => exact Nat.lt_succ_self j
        | some e => exact weS_later he
      rw [hg]
      refine ⟨_, _, Wk.refl, _, ?_, (weS d j).getD (j + 1), done, rfl, by lia, fun ts h => hk ts (.other (by lia) h60 h), rfl, rfl⟩
      lia
    · refine Ret.drop (Ret.here ?_)
      exact h done (by have := hk [] (.stop (by lia)); simpa using this) _
end
end
section
noncomputable def isRunB (o : List UInt8) : Bool := !o.isEmpty && o.all fun u => isRunC u.toNat
noncomputable def escS (signs o : List UInt8) : List UInt8 := o.flatMap fun u => if u ∈ signs then [92, u] else [u]
theorem getD_mem {o : List UInt8} {i : Nat} (h : i < o.length) : o.getD i 0 ∈ o := by simp [h]
theorem escS_cons (sg : List UInt8) (u : UInt8) (r : List UInt8) : escS sg (u :: r) = (if u ∈ sg then [92, u] else [u]) ++ escS sg r := by simp [escS]
section
variable {Q : PV → Led → Prop} {X : Led → Prop} {led : Led}
theorem c_is_run {o : List UInt8} (ho : o.length ≤ 100000) (h : Q (.bool (isRunB o)) led) : Fn 115 3 [.bytes o] Q X led := by
  refine Fd_1 "octets" (fun w => by exact rfl) (fun w => by exact rfl) (fun _ => rfl) (by decide) (fun c' hr hc hs hi => ?_)
  repeat' (first | (focus (first | with_reducible (first | refine Thn_next ?_ | refine Thn_ret ?_ | refine Trn_next ?_ | refine S_nil ?_ | refine S_cons ?_ | refine S_ret ?_ | refine S_if ?_ | refine E_int ?_ | refine E_str ?_ | refine E_bytes ?_ | refine L_nil ?_ | refine E_bin ?_ | refine E_slice ?_ | refine P_some ?_ | refine T_not ?_ | refine E_op ?_ | refine E_op1 ?_ | refine E_and ?_ | refine E_list ?_ | refine B_add ?_ | refine C_gt ?_ | refine Tr_bool ?_ | refine ite_d (fun _ => ?_) (fun _ => ?_) | refine ⟨Recv.bytes, ?_⟩) | ((with_reducible refine' S_set ?_ ?_ ?_ ?_); assumption; rotate_left; wtm_at "loc"; wtm_at "mt") | ((with_reducible apply Bi_append); wtm_at "upd"; wtm_at "sz") | ((with_reducible refine' Bi_lenB ?_ ?_); rotate_left; wtm_at "sz") | ((with_reducible refine' S_expr ?_ ?_ ?_); assumption; rotate_left; wtm_at "mt") | ((with_reducible refine' ⟨_, Cuts.b ?_, ?_⟩); wtm_at "side") | ((with_reducible apply exSet); wtm_at "setv") | ((with_reducible refine' ⟨?_, fun _ => ?_⟩); exact Nat.le_of_ble_eq_true rfl) | ((with_reducible refine' ⟨Recv.list ?_, ?_⟩); rotate_left; wtm_at "mem") | (with_reducible refine ⟨_, rfl, ?_⟩) | (with_reducible refine ⟨_, _, rfl, ?_⟩) | (with_reducible refine ⟨_, _, _, rfl, ?_⟩) | (with_reducible refine Bi_range1 (fun _ => ?_)) | ((with_reducible (first | refine' L_cons ?_ ?_ | refine' E_cmp ?_ ?_ | refine' T_cmp ?_ ?_ | refine' E_item ?_ ?_)); rotate_left; wtm_at "mt") | wtm_at "name" | ((with_reducible refine' E_fn ?_ ?_ ?_ ?_ ?_ ?_); rotate_left 2; wtm_at "nm"; (exact fun w => by with_unfolding_all exact rfl); rotate_left; wtm_at "mt"; wtm_at "mt"; rotate_left) | ((with_reducible refine' E_bf ?_ ?_ ?_ ?_); rotate_left; wtm_at "nm"; wtm_at "mt"; wtm_at "mt") | ((with_reducible refine' E_bt ?_ ?_ ?_ ?_); rotate_left; wtm_at "nm"; wtm_at "mt"; wtm_at "mt") | wtm_at "cname" | ((with_reducible (first | refine' E_meth (o := .Constant (.bytes _) _ _) FB.plainAttrs_bytes slot_bytes_join type_bytes_join ?_ ?_ ?_ ?_ ?_ | refine' E_meth PySem.F.plainAttrs_list PySem.F.slot_list_append PySem.F.type_list_append ?_ ?_ ?_ ?_ ?_)); rotate_left; wtm_at "mt"; wtm_at "mt"; wtm_at "mt"; rotate_left) | ((with_reducible refine' T_plain ?_ ?_); rotate_left; wtm_at "mt"))) | (focus ((with_reducible apply E_compB1); assumption; assumption; exact closureFor_none (by decide); exact relab_free (by decide); rfl; decide; decide; wtm_at "mt"; wtm_at "mt")))
  · refine ⟨by lia, WComp_filter (fun p => p) (fun p => match p with | .int z => !isRunC z.toNat | _ => false) led _ (fun q hq c₂ hcc R hR => ?_) (fun q hq _ c₂ hcc R hR => ?_) [] (fun r => ?_)⟩
    · obtain ⟨u, hu, rfl⟩ := List.mem_map.mp hq
      repeat' (first | (focus (first | with_reducible (first | refine Thn_next ?_ | refine Thn_ret ?_ | refine Trn_next ?_ | refine S_nil ?_ | refine S_cons ?_ | refine S_ret ?_ | refine S_if ?_ | refine E_int ?_ | refine E_str ?_ | refine E_bytes ?_ | refine L_nil ?_ | refine E_bin ?_ | refine E_slice ?_ | refine P_some ?_ | refine T_not ?_ | refine E_op ?_ | refine E_op1 ?_ | refine E_and ?_ | refine E_list ?_ | refine B_add ?_ | refine C_gt ?_ | refine Tr_bool ?_ | refine ite_d (fun _ => ?_) (fun _ => ?_) | refine ⟨Recv.bytes, ?_⟩) | ((with_reducible refine' S_set ?_ ?_ ?_ ?_); assumption; rotate_left; wtm_at "loc"; wtm_at "mt") | ((with_reducible apply Bi_append); wtm_at "upd"; wtm_at "sz") | ((with_reducible refine' Bi_lenB ?_ ?_); rotate_left; wtm_at "sz") | ((with_reducible refine' S_expr ?_ ?_ ?_); assumption; rotate_left; wtm_at "mt") | ((with_reducible refine' ⟨_, Cuts.b ?_, ?_⟩); wtm_at "side") | ((with_reducible apply exSet); wtm_at "setv") | ((with_reducible refine' ⟨?_, fun _ => ?_⟩); exact Nat.le_of_ble_eq_true rfl) | ((with_reducible refine' ⟨Recv.list ?_, ?_⟩); rotate_left; wtm_at "mem") | (with_reducible refine ⟨_, rfl, ?_⟩) | (with_reducible refine ⟨_, _, rfl, ?_⟩) | (with_reducible refine ⟨_, _, _, rfl, ?_⟩) | (with_reducible refine Bi_range1 (fun _ => ?_)) | ((with_reducible (first | refine' L_cons ?_ ?_ | refine' E_cmp ?_ ?_ | refine' T_cmp ?_ ?_ | refine' E_item ?_ ?_)); rotate_left; wtm_at "mt") | wtm_at "name" | ((with_reducible refine' E_fn ?_ ?_ ?_ ?_ ?_ ?_); rotate_left 2; wtm_at "nm"; (exact fun w => by with_unfolding_all exact rfl); rotate_left; wtm_at "mt"; wtm_at "mt"; rotate_left) | ((with_reducible refine' E_bf ?_ ?_ ?_ ?_); rotate_left; wtm_at "nm"; wtm_at "mt"; wtm_at "mt") | ((with_reducible refine' E_bt ?_ ?_ ?_ ?_); rotate_left; wtm_at "nm"; wtm_at "mt"; wtm_at "mt") | wtm_at "cname" | ((with_reducible (first | refine' E_meth (o := .Constant (.bytes _) _ _) FB.plainAttrs_bytes slot_bytes_join type_bytes_join ?_ ?_ ?_ ?_ ?_ | refine' E_meth PySem.F.plainAttrs_list PySem.F.slot_list_append PySem.F.type_list_append ?_ ?_ ?_ ?_ ?_)); rotate_left; wtm_at "mt"; wtm_at "mt"; wtm_at "mt"; rotate_left) | ((with_reducible refine' T_plain ?_ ?_); rotate_left; wtm_at "mt"))) | refine c_is_run_code (u8lt _) ?_)
      · rw [hcc.room, hr]; decide
      · exact hR
    · obtain ⟨u, hu, rfl⟩ := List.mem_map.mp hq
      repeat' (first | (focus (first | with_reducible (first | refine Thn_next ?_ | refine Thn_ret ?_ | refine Trn_next ?_ | refine S_nil ?_ | refine S_cons ?_ | refine S_ret ?_ | refine S_if ?_ | refine E_int ?_ | refine E_str ?_ | refine E_bytes ?_ | refine L_nil ?_ | refine E_bin ?_ | refine E_slice ?_ | refine P_some ?_ | refine T_not ?_ | refine E_op ?_ | refine E_op1 ?_ | refine E_and ?_ | refine E_list ?_ | refine B_add ?_ | refine C_gt ?_ | refine Tr_bool ?_ | refine ite_d (fun _ => ?_) (fun _ => ?_) | refine ⟨Recv.bytes, ?_⟩) | ((with_reducible refine' S_set ?_ ?_ ?_ ?_); assumption; rotate_left; wtm_at "loc"; wtm_at "mt") | ((with_reducible apply Bi_append); wtm_at "upd"; wtm_at "sz") | ((with_reducible refine' Bi_lenB ?_ ?_); rotate_left; wtm_at "sz") | ((with_reducible refine' S_expr ?_ ?_ ?_); assumption; rotate_left; wtm_at "mt") | ((with_reducible refine' ⟨_, Cuts.b ?_, ?_⟩); wtm_at "side") | ((with_reducible apply exSet); wtm_at "setv") | ((with_reducible refine' ⟨?_, fun _ => ?_⟩); exact Nat.le_of_ble_eq_true rfl) | ((with_reducible refine' ⟨Recv.list ?_, ?_⟩); rotate_left; wtm_at "mem") | (with_reducible refine ⟨_, rfl, ?_⟩) | (with_reducible refine ⟨_, _, rfl, ?_⟩) | (with_reducible refine ⟨_, _, _, rfl, ?_⟩) | (with_reducible refine Bi_range1 (fun _ => ?_)) | ((with_reducible (first | refine' L_cons ?_ ?_ | refine' E_cmp ?_ ?_ | refine' T_cmp ?_ ?_ | refine' E_item ?_ ?_)); rotate_left; wtm_at "mt") | wtm_at "name" | ((with_reducible refine' E_fn ?_ ?_ ?_ ?_ ?_ ?_); rotate_left 2; wtm_at "nm"; (exact fun w => by with_unfolding_all exact rfl); rotate_left; wtm_at "mt"; wtm_at "mt"; rotate_left) | ((with_reducible refine' E_bf ?_ ?_ ?_ ?_); rotate_left; wtm_at "nm"; wtm_at "mt"; wtm_at "mt") | ((with_reducible refine' E_bt ?_ ?_ ?_ ?_); rotate_left; wtm_at "nm"; wtm_at "mt"; wtm_at "mt") | wtm_at "cname" | ((with_reducible (first | refine' E_meth (o := .Constant (.bytes _) _ _) FB.plainAttrs_bytes slot_bytes_join type_bytes_join ?_ ?_ ?_ ?_ ?_ | refine' E_meth PySem.F.plainAttrs_list PySem.F.slot_list_append PySem.F.type_list_append ?_ ?_ ?_ ?_ ?_)); rotate_left; wtm_at "mt"; wtm_at "mt"; wtm_at "mt"; rotate_left) | ((with_reducible refine' T_plain ?_ ?_); rotate_left; wtm_at "mt"))))
      exact hR
    · repeat' (first | (focus (first | with_reducible (first | refine Thn_next ?_ | refine Thn_ret ?_ | refine Trn_next ?_ | refine S_nil ?_ | refine S_cons ?_ | refine S_ret ?_ | refine S_if ?_ | refine E_int ?_ | refine E_str ?_ | refine E_bytes ?_ | refine L_nil ?_ | refine E_bin ?_ | refine E_slice ?_ | refine P_some ?_ | refine T_not ?_ | refine E_op ?_ | refine E_op1 ?_ | refine E_and ?_ | refine E_list ?_ | refine B_add ?_ | refine C_gt ?_ | refine Tr_bool ?_ | refine ite_d (fun _ => ?_) (fun _ => ?_) | refine ⟨Recv.bytes, ?_⟩) | ((with_reducible refine' S_set ?_ ?_ ?_ ?_); assumption; rotate_left; wtm_at "loc"; wtm_at "mt") | ((with_reducible apply Bi_append); wtm_at "upd"; wtm_at "sz") | ((with_reducible refine' Bi_lenB ?_ ?_); rotate_left; wtm_at "sz") | ((with_reducible refine' S_expr ?_ ?_ ?_); assumption; rotate_left; wtm_at "mt") | ((with_reducible refine' ⟨_, Cuts.b ?_, ?_⟩); wtm_at "side") | ((with_reducible apply exSet); wtm_at "setv") | ((with_reducible refine' ⟨?_, fun _ => ?_⟩); exact Nat.le_of_ble_eq_true rfl) | ((with_reducible refine' ⟨Recv.list ?_, ?_⟩); rotate_left; wtm_at "mem") | (with_reducible refine ⟨_, rfl, ?_⟩) | (with_reducible refine ⟨_, _, rfl, ?_⟩) | (with_reducible refine ⟨_, _, _, rfl, ?_⟩) | (with_reducible refine Bi_range1 (fun _ => ?_)) | ((with_reducible (first | refine' L_cons ?_ ?_ | refine' E_cmp ?_ ?_ | refine' T_cmp ?_ ?_ | refine' E_item ?_ ?_)); rotate_left; wtm_at "mt") | wtm_at "name" | ((with_reducible refine' E_fn ?_ ?_ ?_ ?_ ?_ ?_); rotate_left 2; wtm_at "nm"; (exact fun w => by with_unfolding_all exact rfl); rotate_left; wtm_at "mt"; wtm_at "mt"; rotate_left) | ((with_reducible refine' E_bf ?_ ?_ ?_ ?_); rotate_left; wtm_at "nm"; wtm_at "mt"; wtm_at "mt") | ((with_reducible refine' E_bt ?_ ?_ ?_ ?_); rotate_left; wtm_at "nm"; wtm_at "mt"; wtm_at "mt") | wtm_at "cname" | ((with_reducible (first | refine' E_meth (o := .Constant (.bytes _) _ _) FB.plainAttrs_bytes slot_bytes_join type_bytes_join ?_ ?_ ?_ ?_ ?_ | refine' E_meth PySem.F.plainAttrs_list PySem.F.slot_list_append PySem.F.type_list_append ?_ ?_ ?_ ?_ ?_)); rotate_left; wtm_at "mt"; wtm_at "mt"; wtm_at "mt"; rotate_left) | ((with_reducible refine' T_plain ?_ ?_); rotate_left; wtm_at "mt"))) | refine C_eqL0 (by wtm_at "mem") (by wtm_at "mem") ?_)
      refine Ret.drop (Ret.drop (Ret.here (finB h ?_)))
      unfold isRunB
      have : o.isEmpty = false := by cases o with | nil => rename (_ < _) => x; simp at x | cons => rfl
      rw [this, Bool.eq_iff_iff]
      simp [List.isEmpty_iff]
  · refine Ret.here (finB h ?_)
    have : o = [] := List.length_eq_zero_iff.mp (by lia)
    subst this; rfl
theorem c_escaped {o sg : List UInt8} (ho : o.length ≤ 10000) (hn : ∀ u ∈ o, u ≠ 0 ∧ u ≠ 10 ∧ u ≠ 13) (h : Q (.bytes (escS sg o)) led) : Fn 102 3 [.bytes o, .bytes sg] Q X led := by
  refine Fd_2 "octets" "signs" (fun w => by exact rfl) (fun w => by exact rfl) (fun _ _ => rfl) (by decide) (by decide) (fun c' hr hc hs hi => ?_)
  repeat' (first | (focus (first | with_reducible (first | refine Thn_next ?_ | refine Thn_ret ?_ | refine Trn_next ?_ | refine S_nil ?_ | refine S_cons ?_ | refine S_ret ?_ | refine S_if ?_ | refine E_int ?_ | refine E_str ?_ | refine E_bytes ?_ | refine L_nil ?_ | refine E_bin ?_ | refine E_slice ?_ | refine P_some ?_ | refine T_not ?_ | refine E_op ?_ | refine E_op1 ?_ | refine E_and ?_ | refine E_list ?_ | refine B_add ?_ | refine C_gt ?_ | refine Tr_bool ?_ | refine ite_d (fun _ => ?_) (fun _ => ?_) | refine ⟨Recv.bytes, ?_⟩) | ((with_reducible refine' S_set ?_ ?_ ?_ ?_); assumption; rotate_left; wtm_at "loc"; wtm_at "mt") | ((with_reducible apply Bi_append); wtm_at "upd"; wtm_at "sz") | ((with_reducible refine' Bi_lenB ?_ ?_); rotate_left; wtm_at "sz") | ((with_reducible refine' S_expr ?_ ?_ ?_); assumption; rotate_left; wtm_at "mt") | ((with_reducible refine' ⟨_, Cuts.b ?_, ?_⟩); wtm_at "side") | ((with_reducible apply exSet); wtm_at "setv") | ((with_reducible refine' ⟨?_, fun _ => ?_⟩); exact Nat.le_of_ble_eq_true rfl) | ((with_reducible refine' ⟨Recv.list ?_, ?_⟩); rotate_left; wtm_at "mem") | (with_reducible refine ⟨_, rfl, ?_⟩) | (with_reducible refine ⟨_, _, rfl, ?_⟩) | (with_reducible refine ⟨_, _, _, rfl, ?_⟩) | (with_reducible refine Bi_range1 (fun _ => ?_)) | ((with_reducible (first | refine' L_cons ?_ ?_ | refine' E_cmp ?_ ?_ | refine' T_cmp ?_ ?_ | refine' E_item ?_ ?_)); rotate_left; wtm_at "mt") | wtm_at "name" | ((with_reducible refine' E_fn ?_ ?_ ?_ ?_ ?_ ?_); rotate_left 2; wtm_at "nm"; (exact fun w => by with_unfolding_all exact rfl); rotate_left; wtm_at "mt"; wtm_at "mt"; rotate_left) | ((with_reducible refine' E_bf ?_ ?_ ?_ ?_); rotate_left; wtm_at "nm"; wtm_at "mt"; wtm_at "mt") | ((with_reducible refine' E_bt ?_ ?_ ?_ ?_); rotate_left; wtm_at "nm"; wtm_at "mt"; wtm_at "mt") | wtm_at "cname" | ((with_reducible (first | refine' E_meth (o := .Constant (.bytes _) _ _) FB.plainAttrs_bytes slot_bytes_join type_bytes_join ?_ ?_ ?_ ?_ ?_ | refine' E_meth PySem.F.plainAttrs_list PySem.F.slot_list_append PySem.F.type_list_append ?_ ?_ ?_ ?_ ?_)); rotate_left; wtm_at "mt"; wtm_at "mt"; wtm_at "mt"; rotate_left) | ((with_reducible refine' T_plain ?_ ?_); rotate_left; wtm_at "mt"))) | (focus ((with_reducible refine' S_for_range ?_ ?_ ?_ ?_ ?_); assumption; assumption; wtm_at "loc"; wtm_at "mt")))
  rename_i pl R0
  refine ⟨_, _, _, _, _, rfl, .head _, RItems.up (by lia) (by lia) (by lia) (by lia), ?_⟩
  rw [show ((o.length : Int) - 0).toNat = o.length by lia]
  refine WFor_inv (fun its v l => (E2 fun (i : Nat) (ps : List (List UInt8)) => A7 (i ≤ o.length) (its = ups (i : Int) (o.length - i)) (ps.length ≤ 2 * i) (ps.flatten.length ≤ 2 * i) (ps.flatten ++ escS sg (o.drop i) = escS sg o) (v = ([("octets", .bytes o), ("signs", .bytes sg), ("parts", .ref pl)] : Vars)) (l = (pl, .list (ps.map .bytes)) :: led))) ?_ ?_ _ _ _ ?_
  · rintro v l ⟨i, ps, hi1, hu, hp1, hp2, he, rfl, rfl⟩
    have : i = o.length := by
      rcases Nat.lt_or_ge i o.length with h | h
      · rw [show o.length - i = (o.length - i - 1) + 1 by lia, ups_succ] at hu; cases hu
      · lia
    subst this
    repeat' (first | (focus (first | with_reducible (first | refine Thn_next ?_ | refine Thn_ret ?_ | refine Trn_next ?_ | refine S_nil ?_ | refine S_cons ?_ | refine S_ret ?_ | refine S_if ?_ | refine E_int ?_ | refine E_str ?_ | refine E_bytes ?_ | refine L_nil ?_ | refine E_bin ?_ | refine E_slice ?_ | refine P_some ?_ | refine T_not ?_ | refine E_op ?_ | refine E_op1 ?_ | refine E_and ?_ | refine E_list ?_ | refine B_add ?_ | refine C_gt ?_ | refine Tr_bool ?_ | refine ite_d (fun _ => ?_) (fun _ => ?_) | refine ⟨Recv.bytes, ?_⟩) | ((with_reducible refine' S_set ?_ ?_ ?_ ?_); assumption; rotate_left; wtm_at "loc"; wtm_at "mt") | ((with_reducible apply Bi_append); wtm_at "upd"; wtm_at "sz") | ((with_reducible refine' Bi_lenB ?_ ?_); rotate_left; wtm_at "sz") | ((with_reducible refine' S_expr ?_ ?_ ?_); assumption; rotate_left; wtm_at "mt") | ((with_reducible refine' ⟨_, Cuts.b ?_, ?_⟩); wtm_at "side") | ((with_reducible apply exSet); wtm_at "setv") | ((with_reducible refine' ⟨?_, fun _ => ?_⟩); exact Nat.le_of_ble_eq_true rfl) | ((with_reducible refine' ⟨Recv.list ?_, ?_⟩); rotate_left; wtm_at "mem") | (with_reducible refine ⟨_, rfl, ?_⟩) | (with_reducible refine ⟨_, _, rfl, ?_⟩) | (with_reducible refine ⟨_, _, _, rfl, ?_⟩) | (with_reducible refine Bi_range1 (fun _ => ?_)) | ((with_reducible (first | refine' L_cons ?_ ?_ | refine' E_cmp ?_ ?_ | refine' T_cmp ?_ ?_ | refine' E_item ?_ ?_)); rotate_left; wtm_at "mt") | wtm_at "name" | ((with_reducible refine' E_fn ?_ ?_ ?_ ?_ ?_ ?_); rotate_left 2; wtm_at "nm"; (exact fun w => by with_unfolding_all exact rfl); rotate_left; wtm_at "mt"; wtm_at "mt"; rotate_left) | ((with_reducible refine' E_bf ?_ ?_ ?_ ?_); rotate_left; wtm_at "nm"; wtm_at "mt"; wtm_at "mt") | ((with_reducible refine' E_bt ?_ ?_ ?_ ?_); rotate_left; wtm_at "nm"; wtm_at "mt"; wtm_at "mt") | wtm_at "cname" | ((with_reducible (first | refine' E_meth (o := .Constant (.bytes _) _ _) FB.plainAttrs_bytes slot_bytes_join type_bytes_join ?_ ?_ ?_ ?_ ?_ | refine' E_meth PySem.F.plainAttrs_list PySem.F.slot_list_append PySem.F.type_list_append ?_ ?_ ?_ ?_ ?_)); rotate_left; wtm_at "mt"; wtm_at "mt"; wtm_at "mt"; rotate_left) | ((with_reducible refine' T_plain ?_ ?_); rotate_left; wtm_at "mt"))) | refine Bi_joinB (by wtm_at "mem") rfl ?_ ?_)
    · have e : (List.map (fun x => x.length) ps).sum = ps.flatten.length := (List.length_flatten).symm
      rw [e]; show 0 * ps.length + _ ≤ _; lia
    · rw [joinL_nil]
      rw [List.drop_length, show escS sg [] = [] from rfl, List.append_nil] at he
      rw [he]; exact Ret.drop (Ret.here h)
  · rintro p its v l ⟨i, ps, hi1, hu, hp1, hp2, he, rfl, rfl⟩
    have hlt : i < o.length := by
      rcases Nat.lt_or_ge i o.length with h | h
      · exact h
      · rw [show o.length - i = 0 by lia] at hu; cases hu
    rw [show o.length - i = (o.length - (i + 1)) + 1 by lia, ups_succ] at hu
    obtain ⟨rfl, rfl⟩ := List.cons.inj hu
    refine ⟨_, by wtm_at "setv", ?_⟩
    repeat' (first | (focus (first | with_reducible (first | refine Thn_next ?_ | refine Thn_ret ?_ | refine Trn_next ?_ | refine S_nil ?_ | refine S_cons ?_ | refine S_ret ?_ | refine S_if ?_ | refine E_int ?_ | refine E_str ?_ | refine E_bytes ?_ | refine L_nil ?_ | refine E_bin ?_ | refine E_slice ?_ | refine P_some ?_ | refine T_not ?_ | refine E_op ?_ | refine E_op1 ?_ | refine E_and ?_ | refine E_list ?_ | refine B_add ?_ | refine C_gt ?_ | refine Tr_bool ?_ | refine ite_d (fun _ => ?_) (fun _ => ?_) | refine ⟨Recv.bytes, ?_⟩) | ((with_reducible refine' S_set ?_ ?_ ?_ ?_); assumption; rotate_left; wtm_at "loc"; wtm_at "mt") | ((with_reducible apply Bi_append); wtm_at "upd"; wtm_at "sz") | ((with_reducible refine' Bi_lenB ?_ ?_); rotate_left; wtm_at "sz") | ((with_reducible refine' S_expr ?_ ?_ ?_); assumption; rotate_left; wtm_at "mt") | ((with_reducible refine' ⟨_, Cuts.b ?_, ?_⟩); wtm_at "side") | ((with_reducible apply exSet); wtm_at "setv") | ((with_reducible refine' ⟨?_, fun _ => ?_⟩); exact Nat.le_of_ble_eq_true rfl) | ((with_reducible refine' ⟨Recv.list ?_, ?_⟩); rotate_left; wtm_at "mem") | (with_reducible refine ⟨_, rfl, ?_⟩) | (with_reducible refine ⟨_, _, rfl, ?_⟩) | (with_reducible refine ⟨_, _, _, rfl, ?_⟩) | (with_reducible refine Bi_range1 (fun _ => ?_)) | ((with_reducible (first | refine' L_cons ?_ ?_ | refine' E_cmp ?_ ?_ | refine' T_cmp ?_ ?_ | refine' E_item ?_ ?_)); rotate_left; wtm_at "mt") | wtm_at "name" | ((with_reducible refine' E_fn ?_ ?_ ?_ ?_ ?_ ?_); rotate_left 2; wtm_at "nm"; (exact fun w => by with_unfolding_all exact rfl); rotate_left; wtm_at "mt"; wtm_at "mt"; rotate_left) | ((with_reducible refine' E_bf ?_ ?_ ?_ ?_); rotate_left; wtm_at "nm"; wtm_at "mt"; wtm_at "mt") | ((with_reducible refine' E_bt ?_ ?_ ?_ ?_); rotate_left; wtm_at "nm"; wtm_at "mt"; wtm_at "mt") | wtm_at "cname" | ((with_reducible (first | refine' E_meth (o := .Constant (.bytes _) _ _) FB.plainAttrs_bytes slot_bytes_join type_bytes_join ?_ ?_ ?_ ?_ ?_ | refine' E_meth PySem.F.plainAttrs_list PySem.F.slot_list_append PySem.F.type_list_append ?_ ?_ ?_ ?_ ?_)); rotate_left; wtm_at "mt"; wtm_at "mt"; wtm_at "mt"; rotate_left) | ((with_reducible refine' T_plain ?_ ?_); rotate_left; wtm_at "mt"))) | (focus ((with_reducible refine' S_raise ?_ ?_ ?_ ?_ ?_ ?_ ?_); assumption; assumption; rotate_left; wtm_at "nm"; wtm_at "mt"; wtm_at "mt"; rotate_left)) | refine It_bytes (by lia) (by lia) (by lia) ?_ | refine C_never ?_ | refine C_inB (u8r _) ?_)
    all_goals try (rw [hr]; decide)
    all_goals (simp only [Int.toNat_natCast, UInt8.ofNat_toNat, cut_1] at *)
    · have := hn _ (getD_mem hlt)
      rename (_ ∈ [0, 10, 13]) => x
      simp only [List.mem_cons, List.not_mem_nil, or_false, u8i_0, u8i_10, u8i_13] at x
      rcases x with x | x | x
      · exact absurd x this.1
      · exact absurd x this.2.1
      · exact absurd x this.2.2
    · rename (_ ∈ sg) => x
      rw [take1_drop hlt]
      rw [drop_cons hlt, escS_cons, if_pos x] at he
      refine ⟨_, _, ⟨by wtm_at "subl", .refl _⟩, i + 1, ps ++ [[92]] ++ [[o.getD i 0]], by lia, rfl, by simp; lia, by simp only [List.flatten_append, List.flatten_singleton, List.length_append, List.length_singleton]; lia, ?_, rfl, by simp⟩
      simpa using he
    · rename (¬ _ ∈ sg) => x
      rw [take1_drop hlt]
      rw [drop_cons hlt, escS_cons, if_neg x] at he
      refine ⟨_, _, ⟨by wtm_at "subl", .refl _⟩, i + 1, ps ++ [[o.getD i 0]], by lia, rfl, by simp; lia, by simp only [List.flatten_append, List.flatten_singleton, List.length_append, List.length_singleton]; lia, ?_, rfl, by simp⟩
      simpa using he
  · exact ⟨_, _, ⟨.refl _, (List.Sublist.refl _).cons _⟩, 0, [], by lia, rfl, by simp, by simp, by simp, rfl, rfl⟩
end
end
section
section
variable {Q : PV → Led → Prop} {X : Led → Prop} {led : Led}
noncomputable def lastS {α : Type} (x : List α) : List α := cut x (some (-1)) none
noncomputable def spotZ (x : List Nat) : Int := if lastS x = [93] then rfindZ x [64, 91] else rfindZ x [64]
noncomputable def octs (x : List Nat) : List UInt8 := x.map fun k => UInt8.ofNat k
/-- a text that is an id -/
structure IdOk (x : List Nat) : Prop where
  len : x.length ≤ 100
  low : ∀ k ∈ x, k ≤ 126
  plain : (octs x).all plainC = true
  spot : 0 ≤ spotZ x
theorem c_sides {x : List Nat} (ok : IdOk x) (h : ∀ r, Q (.ref r) ((r, .tuple [.bytes (cut (octs x) none (some (spotZ x))), .bytes (cut (octs x) (some (spotZ x + 1)) none)]) :: led)) : Fn 151 6 [.str x] Q X led := by
  refine Fd_1 "text" (fun w => by exact rfl) (fun w => by exact rfl) (fun _ => rfl) (by decide) (fun c' hr hc hs hi => ?_)
  have hl := ok.len
  refine S_cut (fun v l => v = ([("text", .str x), ("spot", .int (spotZ x))] : Vars) ∧ led = l) ?_ ?_
  · repeat' (first | (focus (first | with_reducible (first | refine Thn_next ?_ | refine Thn_ret ?_ | refine Trn_next ?_ | refine S_nil ?_ | refine S_cons ?_ | refine S_ret ?_ | refine S_if ?_ | refine E_int ?_ | refine E_str ?_ | refine L_nil ?_ | refine E_bin ?_ | refine E_slice ?_ | refine P_none ?_ | refine P_some ?_ | refine E_if ?_ | refine E_neg ?_ | refine E_tuple ?_ | refine B_add ?_ | refine C_lt ?_ | refine C_gt ?_ | refine C_eqS ?_ | refine Tr_bool ?_ | refine ite_d (fun _ => ?_) (fun _ => ?_) | refine ⟨Recv.str, ?_⟩) | ((with_reducible refine' S_set ?_ ?_ ?_ ?_); assumption; rotate_left; wtm_at "loc"; wtm_at "mt") | ((with_reducible refine' S_expr ?_ ?_ ?_); assumption; rotate_left; wtm_at "mt") | ((with_reducible (first | refine' ⟨_, Cuts.b ?_, ?_⟩ | refine' ⟨_, Cuts.s ?_, ?_⟩)); wtm_at "side") | ((with_reducible apply exSet); wtm_at "setv") | ((with_reducible refine' ⟨?_, fun _ => ?_⟩); exact Nat.le_of_ble_eq_true rfl) | (with_reducible refine ⟨_, rfl, ?_⟩) | (with_reducible refine ⟨_, _, rfl, ?_⟩) | (with_reducible refine ⟨_, _, _, rfl, ?_⟩) | ((with_reducible (first | refine' L_cons ?_ ?_ | refine' T_cmp ?_ ?_)); rotate_left; wtm_at "mt") | wtm_at "name" | ((with_reducible refine' E_fn ?_ ?_ ?_ ?_ ?_ ?_); rotate_left 2; wtm_at "nm"; (exact fun w => by with_unfolding_all exact rfl); rotate_left; wtm_at "mt"; wtm_at "mt"; rotate_left) | ((with_reducible refine' E_bf ?_ ?_ ?_ ?_); rotate_left; wtm_at "nm"; wtm_at "mt"; wtm_at "mt") | ((with_reducible refine' E_bt ?_ ?_ ?_ ?_); rotate_left; wtm_at "nm"; wtm_at "mt"; wtm_at "mt") | wtm_at "cname" | ((with_reducible refine' E_meth PySem.F.plainAttrs_str PySem.F.slot_str_rfind PySem.F.type_str_rfind ?_ ?_ ?_ ?_ ?_); rotate_left; wtm_at "mt"; wtm_at "mt"; wtm_at "mt"; rotate_left))) | refine Bi_rfind ?_)
    · refine ⟨by trivial, _, _, Wk.refl, ?_, rfl⟩
      rename (_ = _) => e
      rw [show spotZ x = rfindZ x [64, 91] from if_pos e]; rfl
    · refine ⟨by trivial, _, _, Wk.refl, ?_, rfl⟩
      rename (¬ _ = _) => e
      rw [show spotZ x = rfindZ x [64] from if_neg e]; rfl
  · rintro v l ⟨rfl, rfl⟩
    have hsp := ok.spot
    generalize spotZ x = sp at *
    refine S_cut (fun v l => v = ([("text", .str x), ("spot", .int sp)] : Vars) ∧ led = l) ?_ ?_
    · repeat' (first | (focus (first | with_reducible (first | refine Thn_next ?_ | refine Thn_ret ?_ | refine Trn_next ?_ | refine S_nil ?_ | refine S_cons ?_ | refine S_ret ?_ | refine S_if ?_ | refine E_int ?_ | refine E_str ?_ | refine L_nil ?_ | refine E_bin ?_ | refine E_slice ?_ | refine P_none ?_ | refine P_some ?_ | refine E_if ?_ | refine E_neg ?_ | refine E_tuple ?_ | refine B_add ?_ | refine C_lt ?_ | refine C_gt ?_ | refine C_eqS ?_ | refine Tr_bool ?_ | refine ite_d (fun _ => ?_) (fun _ => ?_) | refine ⟨Recv.str, ?_⟩) | ((with_reducible refine' S_set ?_ ?_ ?_ ?_); assumption; rotate_left; wtm_at "loc"; wtm_at "mt") | ((with_reducible refine' S_expr ?_ ?_ ?_); assumption; rotate_left; wtm_at "mt") | ((with_reducible (first | refine' ⟨_, Cuts.b ?_, ?_⟩ | refine' ⟨_, Cuts.s ?_, ?_⟩)); wtm_at "side") | ((with_reducible apply exSet); wtm_at "setv") | ((with_reducible refine' ⟨?_, fun _ => ?_⟩); exact Nat.le_of_ble_eq_true rfl) | (with_reducible refine ⟨_, rfl, ?_⟩) | (with_reducible refine ⟨_, _, rfl, ?_⟩) | (with_reducible refine ⟨_, _, _, rfl, ?_⟩) | ((with_reducible (first | refine' L_cons ?_ ?_ | refine' T_cmp ?_ ?_)); rotate_left; wtm_at "mt") | wtm_at "name" | ((with_reducible refine' E_fn ?_ ?_ ?_ ?_ ?_ ?_); rotate_left 2; wtm_at "nm"; (exact fun w => by with_unfolding_all exact rfl); rotate_left; wtm_at "mt"; wtm_at "mt"; rotate_left) | ((with_reducible refine' E_bf ?_ ?_ ?_ ?_); rotate_left; wtm_at "nm"; wtm_at "mt"; wtm_at "mt") | ((with_reducible refine' E_bt ?_ ?_ ?_ ?_); rotate_left; wtm_at "nm"; wtm_at "mt"; wtm_at "mt") | wtm_at "cname" | ((with_reducible refine' E_meth PySem.F.plainAttrs_str PySem.F.slot_str_rfind PySem.F.type_str_rfind ?_ ?_ ?_ ?_ ?_); rotate_left; wtm_at "mt"; wtm_at "mt"; wtm_at "mt"; rotate_left))))
      all_goals (try (exfalso; lia))
      exact ⟨by trivial, _, _, Wk.refl, rfl, rfl⟩
    · rintro v l ⟨rfl, rfl⟩
      refine S_cut (fun v l => v = ([("text", .str x), ("spot", .int sp)] : Vars) ∧ led = l) ?_ ?_
      · repeat' (first | (focus (first | with_reducible (first | refine Thn_next ?_ | refine Thn_ret ?_ | refine Trn_next ?_ | refine S_nil ?_ | refine S_cons ?_ | refine S_ret ?_ | refine S_if ?_ | refine E_int ?_ | refine E_str ?_ | refine L_nil ?_ | refine E_bin ?_ | refine E_slice ?_ | refine P_none ?_ | refine P_some ?_ | refine E_if ?_ | refine E_neg ?_ | refine E_tuple ?_ | refine B_add ?_ | refine C_lt ?_ | refine C_gt ?_ | refine C_eqS ?_ | refine Tr_bool ?_ | refine ite_d (fun _ => ?_) (fun _ => ?_) | refine ⟨Recv.str, ?_⟩) | ((with_reducible refine' S_set ?_ ?_ ?_ ?_); assumption; rotate_left; wtm_at "loc"; wtm_at "mt") | ((with_reducible refine' S_expr ?_ ?_ ?_); assumption; rotate_left; wtm_at "mt") | ((with_reducible (first | refine' ⟨_, Cuts.b ?_, ?_⟩ | refine' ⟨_, Cuts.s ?_, ?_⟩)); wtm_at "side") | ((with_reducible apply exSet); wtm_at "setv") | ((with_reducible refine' ⟨?_, fun _ => ?_⟩); exact Nat.le_of_ble_eq_true rfl) | (with_reducible refine ⟨_, rfl, ?_⟩) | (with_reducible refine ⟨_, _, rfl, ?_⟩) | (with_reducible refine ⟨_, _, _, rfl, ?_⟩) | ((with_reducible (first | refine' L_cons ?_ ?_ | refine' T_cmp ?_ ?_)); rotate_left; wtm_at "mt") | wtm_at "name" | ((with_reducible refine' E_fn ?_ ?_ ?_ ?_ ?_ ?_); rotate_left 2; wtm_at "nm"; (exact fun w => by with_unfolding_all exact rfl); rotate_left; wtm_at "mt"; wtm_at "mt"; rotate_left) | ((with_reducible refine' E_bf ?_ ?_ ?_ ?_); rotate_left; wtm_at "nm"; wtm_at "mt"; wtm_at "mt") | ((with_reducible refine' E_bt ?_ ?_ ?_ ?_); rotate_left; wtm_at "nm"; wtm_at "mt"; wtm_at "mt") | wtm_at "cname" | ((with_reducible refine' E_meth PySem.F.plainAttrs_str PySem.F.slot_str_rfind PySem.F.type_str_rfind ?_ ?_ ?_ ?_ ?_); rotate_left; wtm_at "mt"; wtm_at "mt"; wtm_at "mt"; rotate_left))) | (focus ((with_reducible refine' S_for_str ?_ ?_ ?_ ?_ ?_); assumption; assumption; wtm_at "loc"; wtm_at "mt")))
        refine WFor_inv (fun its v l => (E1 fun (rest : List Nat) => A4 (its = rest.map (fun u => PV.str [u])) ((∀ k ∈ rest, k ≤ 126)) (v = ([("text", .str x), ("spot", .int sp)] : Vars)) (led = l))) ?_ ?_ _ _ _ ?_
        · rintro v l ⟨rest, _, _, rfl, rfl⟩
          exact ⟨by trivial, _, _, Wk.refl, rfl, rfl⟩
        · rintro p its v l ⟨rest, hrest, hlow, rfl, rfl⟩
          cases rest with | nil => cases hrest | cons u rest => ?_
          obtain ⟨rfl, rfl⟩ := List.cons.inj hrest
          have hu := hlow u (.head _)
          refine ⟨_, by wtm_at "setv", ?_⟩
          repeat' (first | (focus (first | with_reducible (first | refine Thn_next ?_ | refine Thn_ret ?_ | refine Trn_next ?_ | refine S_nil ?_ | refine S_cons ?_ | refine S_ret ?_ | refine S_if ?_ | refine E_int ?_ | refine E_str ?_ | refine L_nil ?_ | refine E_bin ?_ | refine E_slice ?_ | refine P_none ?_ | refine P_some ?_ | refine E_if ?_ | refine E_neg ?_ | refine E_tuple ?_ | refine B_add ?_ | refine C_lt ?_ | refine C_gt ?_ | refine C_eqS ?_ | refine Tr_bool ?_ | refine ite_d (fun _ => ?_) (fun _ => ?_) | refine ⟨Recv.str, ?_⟩) | ((with_reducible refine' S_set ?_ ?_ ?_ ?_); assumption; rotate_left; wtm_at "loc"; wtm_at "mt") | ((with_reducible refine' S_expr ?_ ?_ ?_); assumption; rotate_left; wtm_at "mt") | ((with_reducible (first | refine' ⟨_, Cuts.b ?_, ?_⟩ | refine' ⟨_, Cuts.s ?_, ?_⟩)); wtm_at "side") | ((with_reducible apply exSet); wtm_at "setv") | ((with_reducible refine' ⟨?_, fun _ => ?_⟩); exact Nat.le_of_ble_eq_true rfl) | (with_reducible refine ⟨_, rfl, ?_⟩) | (with_reducible refine ⟨_, _, rfl, ?_⟩) | (with_reducible refine ⟨_, _, _, rfl, ?_⟩) | ((with_reducible (first | refine' L_cons ?_ ?_ | refine' T_cmp ?_ ?_)); rotate_left; wtm_at "mt") | wtm_at "name" | ((with_reducible refine' E_fn ?_ ?_ ?_ ?_ ?_ ?_); rotate_left 2; wtm_at "nm"; (exact fun w => by with_unfolding_all exact rfl); rotate_left; wtm_at "mt"; wtm_at "mt"; rotate_left) | ((with_reducible refine' E_bf ?_ ?_ ?_ ?_); rotate_left; wtm_at "nm"; wtm_at "mt"; wtm_at "mt") | ((with_reducible refine' E_bt ?_ ?_ ?_ ?_); rotate_left; wtm_at "nm"; wtm_at "mt"; wtm_at "mt") | wtm_at "cname" | ((with_reducible refine' E_meth PySem.F.plainAttrs_str PySem.F.slot_str_rfind PySem.F.type_str_rfind ?_ ?_ ?_ ?_ ?_); rotate_left; wtm_at "mt"; wtm_at "mt"; wtm_at "mt"; rotate_left))) | refine Bi_ord ?_)
          all_goals (try (exfalso; lia))
          exact ⟨_, _, ⟨by wtm_at "subl", .refl _⟩, rest, rfl, fun k hk => hlow k (.tail _ hk), rfl, rfl⟩
        · exact ⟨_, _, Wk.refl, x, rfl, ok.low, rfl, rfl⟩
      · rintro v l ⟨rfl, rfl⟩
        repeat' (first | (focus (first | with_reducible (first | refine Thn_next ?_ | refine Thn_ret ?_ | refine Trn_next ?_ | refine S_nil ?_ | refine S_cons ?_ | refine S_ret ?_ | refine S_if ?_ | refine E_int ?_ | refine E_str ?_ | refine L_nil ?_ | refine E_bin ?_ | refine E_slice ?_ | refine P_none ?_ | refine P_some ?_ | refine E_if ?_ | refine E_neg ?_ | refine E_tuple ?_ | refine B_add ?_ | refine C_lt ?_ | refine C_gt ?_ | refine C_eqS ?_ | refine Tr_bool ?_ | refine ite_d (fun _ => ?_) (fun _ => ?_) | refine ⟨Recv.str, ?_⟩) | ((with_reducible refine' S_set ?_ ?_ ?_ ?_); assumption; rotate_left; wtm_at "loc"; wtm_at "mt") | ((with_reducible refine' S_expr ?_ ?_ ?_); assumption; rotate_left; wtm_at "mt") | ((with_reducible (first | refine' ⟨_, Cuts.b ?_, ?_⟩ | refine' ⟨_, Cuts.s ?_, ?_⟩)); wtm_at "side") | ((with_reducible apply exSet); wtm_at "setv") | ((with_reducible refine' ⟨?_, fun _ => ?_⟩); exact Nat.le_of_ble_eq_true rfl) | (with_reducible refine ⟨_, rfl, ?_⟩) | (with_reducible refine ⟨_, _, rfl, ?_⟩) | (with_reducible refine ⟨_, _, _, rfl, ?_⟩) | ((with_reducible (first | refine' L_cons ?_ ?_ | refine' T_cmp ?_ ?_)); rotate_left; wtm_at "mt") | wtm_at "name" | ((with_reducible refine' E_fn ?_ ?_ ?_ ?_ ?_ ?_); rotate_left 2; wtm_at "nm"; (exact fun w => by with_unfolding_all exact rfl); rotate_left; wtm_at "mt"; wtm_at "mt"; rotate_left) | ((with_reducible refine' E_bf ?_ ?_ ?_ ?_); rotate_left; wtm_at "nm"; wtm_at "mt"; wtm_at "mt") | ((with_reducible refine' E_bt ?_ ?_ ?_ ?_); rotate_left; wtm_at "nm"; wtm_at "mt"; wtm_at "mt") | wtm_at "cname" | ((with_reducible refine' E_meth PySem.F.plainAttrs_str PySem.F.slot_str_rfind PySem.F.type_str_rfind ?_ ?_ ?_ ?_ ?_); rotate_left; wtm_at "mt"; wtm_at "mt"; wtm_at "mt"; rotate_left))) | (focus ((with_reducible apply E_compS0); assumption; assumption; exact closureFor_none (by decide); exact relab_free (by decide); rfl; decide; decide; wtm_at "mt"; wtm_at "mt")))
        refine ⟨by lia, WComp_map (fun p => match p with | .str [u] => .int (u : Int) | p => p) led _ (fun p hp c₂ hcc R hR => ?_) [] (fun r => ?_)⟩
        · obtain ⟨u, hu, rfl⟩ := List.mem_map.mp hp
          repeat' (first | (focus (first | with_reducible (first | refine Thn_next ?_ | refine Thn_ret ?_ | refine Trn_next ?_ | refine S_nil ?_ | refine S_cons ?_ | refine S_ret ?_ | refine S_if ?_ | refine E_int ?_ | refine E_str ?_ | refine L_nil ?_ | refine E_bin ?_ | refine E_slice ?_ | refine P_none ?_ | refine P_some ?_ | refine E_if ?_ | refine E_neg ?_ | refine E_tuple ?_ | refine B_add ?_ | refine C_lt ?_ | refine C_gt ?_ | refine C_eqS ?_ | refine Tr_bool ?_ | refine ite_d (fun _ => ?_) (fun _ => ?_) | refine ⟨Recv.str, ?_⟩) | ((with_reducible refine' S_set ?_ ?_ ?_ ?_); assumption; rotate_left; wtm_at "loc"; wtm_at "mt") | ((with_reducible refine' S_expr ?_ ?_ ?_); assumption; rotate_left; wtm_at "mt") | ((with_reducible (first | refine' ⟨_, Cuts.b ?_, ?_⟩ | refine' ⟨_, Cuts.s ?_, ?_⟩)); wtm_at "side") | ((with_reducible apply exSet); wtm_at "setv") | ((with_reducible refine' ⟨?_, fun _ => ?_⟩); exact Nat.le_of_ble_eq_true rfl) | (with_reducible refine ⟨_, rfl, ?_⟩) | (with_reducible refine ⟨_, _, rfl, ?_⟩) | (with_reducible refine ⟨_, _, _, rfl, ?_⟩) | ((with_reducible (first | refine' L_cons ?_ ?_ | refine' T_cmp ?_ ?_)); rotate_left; wtm_at "mt") | wtm_at "name" | ((with_reducible refine' E_fn ?_ ?_ ?_ ?_ ?_ ?_); rotate_left 2; wtm_at "nm"; (exact fun w => by with_unfolding_all exact rfl); rotate_left; wtm_at "mt"; wtm_at "mt"; rotate_left) | ((with_reducible refine' E_bf ?_ ?_ ?_ ?_); rotate_left; wtm_at "nm"; wtm_at "mt"; wtm_at "mt") | ((with_reducible refine' E_bt ?_ ?_ ?_ ?_); rotate_left; wtm_at "nm"; wtm_at "mt"; wtm_at "mt") | wtm_at "cname" | ((with_reducible refine' E_meth PySem.F.plainAttrs_str PySem.F.slot_str_rfind PySem.F.type_str_rfind ?_ ?_ ?_ ?_ ?_); rotate_left; wtm_at "mt"; wtm_at "mt"; wtm_at "mt"; rotate_left))) | refine Bi_ord ?_)
          exact hR
        · repeat' (focus (first | with_reducible (first | refine Thn_next ?_ | refine Thn_ret ?_ | refine Trn_next ?_ | refine S_nil ?_ | refine S_cons ?_ | refine S_ret ?_ | refine S_if ?_ | refine E_int ?_ | refine E_str ?_ | refine L_nil ?_ | refine E_bin ?_ | refine E_slice ?_ | refine P_none ?_ | refine P_some ?_ | refine E_if ?_ | refine E_neg ?_ | refine E_tuple ?_ | refine B_add ?_ | refine C_lt ?_ | refine C_gt ?_ | refine C_eqS ?_ | refine Tr_bool ?_ | refine ite_d (fun _ => ?_) (fun _ => ?_) | refine ⟨Recv.str, ?_⟩) | ((with_reducible refine' S_set ?_ ?_ ?_ ?_); assumption; rotate_left; wtm_at "loc"; wtm_at "mt") | ((with_reducible refine' S_expr ?_ ?_ ?_); assumption; rotate_left; wtm_at "mt") | ((with_reducible (first | refine' ⟨_, Cuts.b ?_, ?_⟩ | refine' ⟨_, Cuts.s ?_, ?_⟩)); wtm_at "side") | ((with_reducible apply exSet); wtm_at "setv") | ((with_reducible refine' ⟨?_, fun _ => ?_⟩); exact Nat.le_of_ble_eq_true rfl) | (with_reducible refine ⟨_, rfl, ?_⟩) | (with_reducible refine ⟨_, _, rfl, ?_⟩) | (with_reducible refine ⟨_, _, _, rfl, ?_⟩) | ((with_reducible (first | refine' L_cons ?_ ?_ | refine' T_cmp ?_ ?_)); rotate_left; wtm_at "mt") | wtm_at "name" | ((with_reducible refine' E_fn ?_ ?_ ?_ ?_ ?_ ?_); rotate_left 2; wtm_at "nm"; (exact fun w => by with_unfolding_all exact rfl); rotate_left; wtm_at "mt"; wtm_at "mt"; rotate_left) | ((with_reducible refine' E_bf ?_ ?_ ?_ ?_); rotate_left; wtm_at "nm"; wtm_at "mt"; wtm_at "mt") | ((with_reducible refine' E_bt ?_ ?_ ?_ ?_); rotate_left; wtm_at "nm"; wtm_at "mt"; wtm_at "mt") | wtm_at "cname" | ((with_reducible refine' E_meth PySem.F.plainAttrs_str PySem.F.slot_str_rfind PySem.F.type_str_rfind ?_ ?_ ?_ ?_ ?_); rotate_left; wtm_at "mt"; wtm_at "mt"; wtm_at "mt"; rotate_left)))
          refine Bi_bytes (ns := x.map fun (n : Nat) => (n : Int)) (.head _) (by simp) (fun k hk => ?_) (by simp; lia) ?_
          · obtain ⟨n, hn, rfl⟩ := List.mem_map.mp hk
            have := ok.low n hn
            lia
          · have e : (x.map fun (n : Nat) => (n : Int)).map (fun k => UInt8.ofNat k.toNat) = octs x := by simp [octs]
            rw [e]
            have ho : (octs x).length = x.length := by simp [octs]
            have hpl := ok.plain
            repeat' (first | (focus (first | with_reducible (first | refine Thn_next ?_ | refine Thn_ret ?_ | refine Trn_next ?_ | refine S_nil ?_ | refine S_cons ?_ | refine S_ret ?_ | refine S_if ?_ | refine E_int ?_ | refine E_str ?_ | refine L_nil ?_ | refine E_bin ?_ | refine E_slice ?_ | refine P_none ?_ | refine P_some ?_ | refine E_if ?_ | refine E_neg ?_ | refine E_tuple ?_ | refine B_add ?_ | refine C_lt ?_ | refine C_gt ?_ | refine C_eqS ?_ | refine Tr_bool ?_ | refine ite_d (fun _ => ?_) (fun _ => ?_) | refine ⟨Recv.str, ?_⟩) | ((with_reducible refine' S_set ?_ ?_ ?_ ?_); assumption; rotate_left; wtm_at "loc"; wtm_at "mt") | ((with_reducible refine' S_expr ?_ ?_ ?_); assumption; rotate_left; wtm_at "mt") | ((with_reducible (first | refine' ⟨_, Cuts.b ?_, ?_⟩ | refine' ⟨_, Cuts.s ?_, ?_⟩)); wtm_at "side") | ((with_reducible apply exSet); wtm_at "setv") | ((with_reducible refine' ⟨?_, fun _ => ?_⟩); exact Nat.le_of_ble_eq_true rfl) | (with_reducible refine ⟨_, rfl, ?_⟩) | (with_reducible refine ⟨_, _, rfl, ?_⟩) | (with_reducible refine ⟨_, _, _, rfl, ?_⟩) | ((with_reducible (first | refine' L_cons ?_ ?_ | refine' T_cmp ?_ ?_)); rotate_left; wtm_at "mt") | wtm_at "name" | ((with_reducible refine' E_fn ?_ ?_ ?_ ?_ ?_ ?_); rotate_left 2; wtm_at "nm"; (exact fun w => by with_unfolding_all exact rfl); rotate_left; wtm_at "mt"; wtm_at "mt"; rotate_left) | ((with_reducible refine' E_bf ?_ ?_ ?_ ?_); rotate_left; wtm_at "nm"; wtm_at "mt"; wtm_at "mt") | ((with_reducible refine' E_bt ?_ ?_ ?_ ?_); rotate_left; wtm_at "nm"; wtm_at "mt"; wtm_at "mt") | wtm_at "cname" | ((with_reducible refine' E_meth PySem.F.plainAttrs_str PySem.F.slot_str_rfind PySem.F.type_str_rfind ?_ ?_ ?_ ?_ ?_); rotate_left; wtm_at "mt"; wtm_at "mt"; wtm_at "mt"; rotate_left))) | refine c_check_plain (fun e => ?_) (fun e => ?_))
            · rw [hr]; decide
            · rename (_ = false) => e; rw [hpl] at e; cases e
            · exact Ret.drop2 (Ret.here (h _))
end
end
section
/-- an id as it is written -/
noncomputable def wrId (x : List Nat) : Option (List UInt8) :=
  let le := cut (octs x) none (some (spotZ x))
  let ri := cut (octs x) (some (spotZ x + 1)) none
  let le' := if isRunB le then le else [34] ++ escS [34, 92] le ++ [34]
  if cut ri none (some 1) = [91] ∧ cut (cut ri (some 1) none) (some (-1)) none = [93] then some ([60] ++ le' ++ [64] ++ ([91] ++ escS [91, 93, 92] (cut ri (some 1) (some (-1))) ++ [93]) ++ [62])
  else if isRunB ri then some ([60] ++ le' ++ [64] ++ ri ++ [62]) else none
theorem plainC_no {u : UInt8} (h : plainC u = true) : u ≠ 0 ∧ u ≠ 10 ∧ u ≠ 13 := by
  refine ⟨?_, ?_, ?_⟩ <;> rintro rfl <;> revert h <;> decide
theorem escS_le (sg : List UInt8) : ∀ o : List UInt8, (escS sg o).length ≤ 2 * o.length
  | [] => by simp [escS]
  | u :: r => by rw [escS_cons, List.length_append]; have := escS_le sg r; split <;> simp <;> lia
section
variable {Q : PV → Led → Prop} {X : Led → Prop} {led : Led}
theorem c_id_octets {x : List Nat} {w : List UInt8} (ok : IdOk x) (hw : wrId x = some w) (h : Q (.bytes w) led) : Fn 158 7 [.str x] Q X led := by
  have ho : (octs x).length ≤ 100 := by simp [octs]; exact ok.len
  have hno : ∀ lo hi, ∀ u ∈ cut (octs x) lo hi, u ≠ 0 ∧ u ≠ 10 ∧ u ≠ 13 := fun lo hi u hu => plainC_no (List.all_eq_true.mp ok.plain u (cut_sub hu))
  have hle := Nat.le_trans (cut_le (octs x) none (some (spotZ x))) ho
  have hri := Nat.le_trans (cut_le (octs x) (some (spotZ x + 1)) none) ho
  have hle2 := escS_le [34, 92] (cut (octs x) none (some (spotZ x)))
  have hno1 := hno none (some (spotZ x))
  have hno2 : ∀ lo hi, ∀ u ∈ cut (cut (octs x) (some (spotZ x + 1)) none) lo hi, u ≠ 0 ∧ u ≠ 10 ∧ u ≠ 13 := fun lo hi u hu => hno _ _ u (cut_sub hu)
  unfold wrId at hw
  simp only at hw
  refine Fd_1 "text" (fun w => by exact rfl) (fun w => by exact rfl) (fun _ => rfl) (by decide) (fun c' hr hc hs hi => ?_)
  refine S_cut (fun v l => v = ([("text", .str x), ("left", .bytes (cut (octs x) none (some (spotZ x)))), ("right", .bytes (cut (octs x) (some (spotZ x + 1)) none))] : Vars) ∧ led = l) ?_ ?_
  · repeat' (first | (focus (first | with_reducible (first | refine Thn_next ?_ | refine Thn_ret ?_ | refine S_nil ?_ | refine S_cons ?_ | refine S_ret ?_ | refine S_if ?_ | refine E_int ?_ | refine E_bytes ?_ | refine L_nil ?_ | refine E_bin ?_ | refine E_slice ?_ | refine P_none ?_ | refine P_some ?_ | refine T_op ?_ | refine T_and ?_ | refine T_and0 ?_ | refine T_not ?_ | refine E_neg ?_ | refine C_eqB ?_ | refine Tr_bool ?_ | refine ite_t ?_ | refine ite_f ?_ | refine ite_d (fun _ => ?_) (fun _ => ?_) | refine ite_b (fun _ => ?_) (fun _ => ?_) | refine ⟨Recv.bytes, ?_⟩) | ((with_reducible refine' S_set ?_ ?_ ?_ ?_); assumption; rotate_left; wtm_at "loc"; wtm_at "mt") | ((with_reducible refine' S_un2 ?_ ?_ ?_ ?_ ?_ ?_); assumption; rotate_left; wtm_at "loc"; wtm_at "loc"; wtm_at "mt"; wtm_at "mt") | ((with_reducible refine' B_addB ?_ ?_); rotate_left; wtm_at "sz") | ((with_reducible refine' ⟨_, Cuts.b ?_, ?_⟩); wtm_at "side") | ((with_reducible apply exSet); wtm_at "setv") | ((with_reducible apply exSets); wtm_at "setvs") | ((with_reducible refine' ⟨?_, fun _ => ?_⟩); exact Nat.le_of_ble_eq_true rfl) | ((with_reducible refine' ⟨_, TupL.t ?_, ?_⟩); rotate_left; wtm_at "mem") | (with_reducible refine ⟨_, rfl, ?_⟩) | (with_reducible refine ⟨_, _, rfl, ?_⟩) | (with_reducible refine ⟨_, _, _, rfl, ?_⟩) | ((with_reducible (first | refine' L_cons ?_ ?_ | refine' T_cmp ?_ ?_)); rotate_left; wtm_at "mt") | wtm_at "name" | ((with_reducible refine' E_fn ?_ ?_ ?_ ?_ ?_ ?_); rotate_left 2; wtm_at "nm"; (exact fun w => by with_unfolding_all exact rfl); rotate_left; wtm_at "mt"; wtm_at "mt"; rotate_left) | wtm_at "cname" | ((with_reducible refine' E_meth (o := .Constant (.bytes _) _ _) FB.plainAttrs_bytes slot_bytes_join type_bytes_join ?_ ?_ ?_ ?_ ?_); rotate_left; wtm_at "mt"; wtm_at "mt"; wtm_at "mt"; rotate_left) | ((with_reducible refine' T_plain ?_ ?_); rotate_left; wtm_at "mt"))) | refine c_sides ok (fun r => ?_))
    · rw [hr]; decide
    · exact ⟨by trivial, _, _, ⟨.refl _, (List.Sublist.refl _).cons _⟩, rfl, rfl⟩
  · rintro v l ⟨rfl, rfl⟩
    generalize cut (octs x) none (some (spotZ x)) = le at *
    generalize cut (octs x) (some (spotZ x + 1)) none = ri at *
    refine S_cut (fun v l => v = ([("text", .str x), ("left", .bytes (if isRunB le then le else [34] ++ escS [34, 92] le ++ [34])), ("right", .bytes ri)] : Vars) ∧ led = l) ?_ ?_
    · repeat' (first | (focus (first | with_reducible (first | refine Thn_next ?_ | refine Thn_ret ?_ | refine S_nil ?_ | refine S_cons ?_ | refine S_ret ?_ | refine S_if ?_ | refine E_int ?_ | refine E_bytes ?_ | refine L_nil ?_ | refine E_bin ?_ | refine E_slice ?_ | refine P_none ?_ | refine P_some ?_ | refine T_op ?_ | refine T_and ?_ | refine T_and0 ?_ | refine T_not ?_ | refine E_neg ?_ | refine C_eqB ?_ | refine Tr_bool ?_ | refine ite_t ?_ | refine ite_f ?_ | refine ite_d (fun _ => ?_) (fun _ => ?_) | refine ite_b (fun _ => ?_) (fun _ => ?_) | refine ⟨Recv.bytes, ?_⟩) | ((with_reducible refine' S_set ?_ ?_ ?_ ?_); assumption; rotate_left; wtm_at "loc"; wtm_at "mt") | ((with_reducible refine' S_un2 ?_ ?_ ?_ ?_ ?_ ?_); assumption; rotate_left; wtm_at "loc"; wtm_at "loc"; wtm_at "mt"; wtm_at "mt") | ((with_reducible refine' B_addB ?_ ?_); rotate_left; wtm_at "sz") | ((with_reducible refine' ⟨_, Cuts.b ?_, ?_⟩); wtm_at "side") | ((with_reducible apply exSet); wtm_at "setv") | ((with_reducible apply exSets); wtm_at "setvs") | ((with_reducible refine' ⟨?_, fun _ => ?_⟩); exact Nat.le_of_ble_eq_true rfl) | ((with_reducible refine' ⟨_, TupL.t ?_, ?_⟩); rotate_left; wtm_at "mem") | (with_reducible refine ⟨_, rfl, ?_⟩) | (with_reducible refine ⟨_, _, rfl, ?_⟩) | (with_reducible refine ⟨_, _, _, rfl, ?_⟩) | ((with_reducible (first | refine' L_cons ?_ ?_ | refine' T_cmp ?_ ?_)); rotate_left; wtm_at "mt") | wtm_at "name" | ((with_reducible refine' E_fn ?_ ?_ ?_ ?_ ?_ ?_); rotate_left 2; wtm_at "nm"; (exact fun w => by with_unfolding_all exact rfl); rotate_left; wtm_at "mt"; wtm_at "mt"; rotate_left) | wtm_at "cname" | ((with_reducible refine' E_meth (o := .Constant (.bytes _) _ _) FB.plainAttrs_bytes slot_bytes_join type_bytes_join ?_ ?_ ?_ ?_ ?_); rotate_left; wtm_at "mt"; wtm_at "mt"; wtm_at "mt"; rotate_left) | ((with_reducible refine' T_plain ?_ ?_); rotate_left; wtm_at "mt"))) | refine c_is_run (by lia) ?_ | refine c_escaped (by lia) hno1 ?_)
      all_goals try (rw [hr]; decide)
      · rename (_ = true) => hx
        exact ⟨by trivial, _, _, Wk.refl, by rw [if_neg (by simpa using hx)], rfl⟩
      · rename (_ = false) => hx
        exact ⟨by trivial, _, _, Wk.refl, by rw [if_pos (by simpa using hx)], rfl⟩
    · rintro v l ⟨rfl, rfl⟩
      have hl' : (if isRunB le then le else [34] ++ escS [34, 92] le ++ [34]).length ≤ 300 := by
        split
        · lia
        · simp only [List.length_append, List.length_singleton]; lia
      generalize (if isRunB le then le else [34] ++ escS [34, 92] le ++ [34]) = le' at *
      have hb := cut_le ri (some 1) (some (-1))
      have hb3 := cut_le ri (some 1) none
      have hb2 := escS_le [91, 93, 92] (cut ri (some 1) (some (-1)))
      repeat' (first | (focus (first | with_reducible (first | refine Thn_next ?_ | refine Thn_ret ?_ | refine S_nil ?_ | refine S_cons ?_ | refine S_ret ?_ | refine S_if ?_ | refine E_int ?_ | refine E_bytes ?_ | refine L_nil ?_ | refine E_bin ?_ | refine E_slice ?_ | refine P_none ?_ | refine P_some ?_ | refine T_op ?_ | refine T_and ?_ | refine T_and0 ?_ | refine T_not ?_ | refine E_neg ?_ | refine C_eqB ?_ | refine Tr_bool ?_ | refine ite_t ?_ | refine ite_f ?_ | refine ite_d (fun _ => ?_) (fun _ => ?_) | refine ite_b (fun _ => ?_) (fun _ => ?_) | refine ⟨Recv.bytes, ?_⟩) | ((with_reducible refine' S_set ?_ ?_ ?_ ?_); assumption; rotate_left; wtm_at "loc"; wtm_at "mt") | ((with_reducible refine' S_un2 ?_ ?_ ?_ ?_ ?_ ?_); assumption; rotate_left; wtm_at "loc"; wtm_at "loc"; wtm_at "mt"; wtm_at "mt") | ((with_reducible refine' B_addB ?_ ?_); rotate_left; wtm_at "sz") | ((with_reducible refine' ⟨_, Cuts.b ?_, ?_⟩); wtm_at "side") | ((with_reducible apply exSet); wtm_at "setv") | ((with_reducible apply exSets); wtm_at "setvs") | ((with_reducible refine' ⟨?_, fun _ => ?_⟩); exact Nat.le_of_ble_eq_true rfl) | ((with_reducible refine' ⟨_, TupL.t ?_, ?_⟩); rotate_left; wtm_at "mem") | (with_reducible refine ⟨_, rfl, ?_⟩) | (with_reducible refine ⟨_, _, rfl, ?_⟩) | (with_reducible refine ⟨_, _, _, rfl, ?_⟩) | ((with_reducible (first | refine' L_cons ?_ ?_ | refine' T_cmp ?_ ?_)); rotate_left; wtm_at "mt") | wtm_at "name" | ((with_reducible refine' E_fn ?_ ?_ ?_ ?_ ?_ ?_); rotate_left 2; wtm_at "nm"; (exact fun w => by with_unfolding_all exact rfl); rotate_left; wtm_at "mt"; wtm_at "mt"; rotate_left) | wtm_at "cname" | ((with_reducible refine' E_meth (o := .Constant (.bytes _) _ _) FB.plainAttrs_bytes slot_bytes_join type_bytes_join ?_ ?_ ?_ ?_ ?_); rotate_left; wtm_at "mt"; wtm_at "mt"; wtm_at "mt"; rotate_left) | ((with_reducible refine' T_plain ?_ ?_); rotate_left; wtm_at "mt"))) | refine c_is_run (by lia) ?_ | refine c_escaped (by lia) (hno2 _ _) ?_)
      all_goals try (rw [hr]; decide)
      · rename_i x1 x2
        rw [if_pos ⟨x1, x2⟩] at hw; cases hw; exact Ret.here h
      · rename_i x1 x2 x3
        rw [if_neg (fun k => x2 k.2), if_neg (by simpa using x3)] at hw; cases hw
      · rename_i x1 x2 x3
        rw [if_neg (fun k => x2 k.2), if_pos (by simpa using x3)] at hw; cases hw; exact Ret.here h
      · rename_i x1 x3
        rw [if_neg (fun k => x1 k.1), if_neg (by simpa using x3)] at hw; cases hw
      · rename_i x1 x3
        rw [if_neg (fun k => x1 k.1), if_pos (by simpa using x3)] at hw; cases hw; exact Ret.here h
theorem c_write_ids {a : Addr} {ts : List (List Nat)} {ws : List (List UInt8)} {l₀ : Led} (hz : ts.length ≤ 10) (hok : ∀ t ∈ ts, IdOk t) (hw : ts.map wrId = ws.map some) (hws : ∀ w ∈ ws, w.length ≤ 1000) (hp : Pick a (.list (ts.map .str)) led l₀) (h : Q (.bytes (joinL [32] ws)) led) : Fn 163 8 [.ref a] Q X led := by
  refine Fd_1 "some" (fun w => by exact rfl) (fun w => by exact rfl) (fun _ => rfl) (by decide) (fun c' hr hc hs hi => ?_)
  repeat' (first | (focus (first | with_reducible (first | refine Thn_next ?_ | refine Thn_ret ?_ | refine S_nil ?_ | refine S_cons ?_ | refine S_ret ?_ | refine S_if ?_ | refine E_int ?_ | refine E_bytes ?_ | refine L_nil ?_ | refine E_bin ?_ | refine E_slice ?_ | refine P_none ?_ | refine P_some ?_ | refine T_op ?_ | refine T_and ?_ | refine T_and0 ?_ | refine T_not ?_ | refine E_neg ?_ | refine C_eqB ?_ | refine Tr_bool ?_ | refine ite_t ?_ | refine ite_f ?_ | refine ite_d (fun _ => ?_) (fun _ => ?_) | refine ite_b (fun _ => ?_) (fun _ => ?_) | refine ⟨Recv.bytes, ?_⟩) | ((with_reducible refine' S_set ?_ ?_ ?_ ?_); assumption; rotate_left; wtm_at "loc"; wtm_at "mt") | ((with_reducible refine' S_un2 ?_ ?_ ?_ ?_ ?_ ?_); assumption; rotate_left; wtm_at "loc"; wtm_at "loc"; wtm_at "mt"; wtm_at "mt") | ((with_reducible refine' B_addB ?_ ?_); rotate_left; wtm_at "sz") | ((with_reducible refine' ⟨_, Cuts.b ?_, ?_⟩); wtm_at "side") | ((with_reducible apply exSet); wtm_at "setv") | ((with_reducible apply exSets); wtm_at "setvs") | ((with_reducible refine' ⟨?_, fun _ => ?_⟩); exact Nat.le_of_ble_eq_true rfl) | ((with_reducible refine' ⟨_, TupL.t ?_, ?_⟩); rotate_left; wtm_at "mem") | (with_reducible refine ⟨_, rfl, ?_⟩) | (with_reducible refine ⟨_, _, rfl, ?_⟩) | (with_reducible refine ⟨_, _, _, rfl, ?_⟩) | ((with_reducible (first | refine' L_cons ?_ ?_ | refine' T_cmp ?_ ?_)); rotate_left; wtm_at "mt") | wtm_at "name" | ((with_reducible refine' E_fn ?_ ?_ ?_ ?_ ?_ ?_); rotate_left 2; wtm_at "nm"; (exact fun w => by with_unfolding_all exact rfl); rotate_left; wtm_at "mt"; wtm_at "mt"; rotate_left) | wtm_at "cname" | ((with_reducible refine' E_meth (o := .Constant (.bytes _) _ _) FB.plainAttrs_bytes slot_bytes_join type_bytes_join ?_ ?_ ?_ ?_ ?_); rotate_left; wtm_at "mt"; wtm_at "mt"; wtm_at "mt"; rotate_left) | ((with_reducible refine' T_plain ?_ ?_); rotate_left; wtm_at "mt"))) | (focus ((with_reducible apply E_compL0); assumption; assumption; exact closureFor_none (by decide); exact relab_free (by decide); rfl; decide; decide; wtm_at "mt"; wtm_at "mt")))
  have hex : ∀ t ∈ ts, ∃ w, wrId t = some w ∧ w ∈ ws := fun t ht => by
    have : wrId t ∈ ws.map some := hw ▸ List.mem_map_of_mem ht
    obtain ⟨w, h1, h2⟩ := List.mem_map.mp this
    exact ⟨w, h2.symm, h1⟩
  have hlen : ws.length = ts.length := by have := congrArg List.length hw; simpa using this.symm
  refine ⟨a, _, l₀, rfl, hp, by simp; lia, WComp_map (fun p => match p with | .str t => .bytes ((wrId t).getD []) | p => p) l₀ _ (fun p hp' c₂ hcc R hR => ?_) [] (fun r => ?_)⟩
  · obtain ⟨t, ht, rfl⟩ := List.mem_map.mp hp'
    obtain ⟨w, hw', _⟩ := hex t ht
    repeat' (first | (focus (first | with_reducible (first | refine Thn_next ?_ | refine Thn_ret ?_ | refine S_nil ?_ | refine S_cons ?_ | refine S_ret ?_ | refine S_if ?_ | refine E_int ?_ | refine E_bytes ?_ | refine L_nil ?_ | refine E_bin ?_ | refine E_slice ?_ | refine P_none ?_ | refine P_some ?_ | refine T_op ?_ | refine T_and ?_ | refine T_and0 ?_ | refine T_not ?_ | refine E_neg ?_ | refine C_eqB ?_ | refine Tr_bool ?_ | refine ite_t ?_ | refine ite_f ?_ | refine ite_d (fun _ => ?_) (fun _ => ?_) | refine ite_b (fun _ => ?_) (fun _ => ?_) | refine ⟨Recv.bytes, ?_⟩) | ((with_reducible refine' S_set ?_ ?_ ?_ ?_); assumption; rotate_left; wtm_at "loc"; wtm_at "mt") | ((with_reducible refine' S_un2 ?_ ?_ ?_ ?_ ?_ ?_); assumption; rotate_left; wtm_at "loc"; wtm_at "loc"; wtm_at "mt"; wtm_at "mt") | ((with_reducible refine' B_addB ?_ ?_); rotate_left; wtm_at "sz") | ((with_reducible refine' ⟨_, Cuts.b ?_, ?_⟩); wtm_at "side") | ((with_reducible apply exSet); wtm_at "setv") | ((with_reducible apply exSets); wtm_at "setvs") | ((with_reducible refine' ⟨?_, fun _ => ?_⟩); exact Nat.le_of_ble_eq_true rfl) | ((with_reducible refine' ⟨_, TupL.t ?_, ?_⟩); rotate_left; wtm_at "mem") | (with_reducible refine ⟨_, rfl, ?_⟩) | (with_reducible refine ⟨_, _, rfl, ?_⟩) | (with_reducible refine ⟨_, _, _, rfl, ?_⟩) | ((with_reducible (first | refine' L_cons ?_ ?_ | refine' T_cmp ?_ ?_)); rotate_left; wtm_at "mt") | wtm_at "name" | ((with_reducible refine' E_fn ?_ ?_ ?_ ?_ ?_ ?_); rotate_left 2; wtm_at "nm"; (exact fun w => by with_unfolding_all exact rfl); rotate_left; wtm_at "mt"; wtm_at "mt"; rotate_left) | wtm_at "cname" | ((with_reducible refine' E_meth (o := .Constant (.bytes _) _ _) FB.plainAttrs_bytes slot_bytes_join type_bytes_join ?_ ?_ ?_ ?_ ?_); rotate_left; wtm_at "mt"; wtm_at "mt"; wtm_at "mt"; rotate_left) | ((with_reducible refine' T_plain ?_ ?_); rotate_left; wtm_at "mt"))) | refine c_id_octets (hok t ht) hw' ?_)
    · rw [hcc.room, hr]; decide
    · simpa [hw'] using hR
  · have hys : ([] : List PV) ++ (ts.map PV.str).map (fun p => match p with | .str t => PV.bytes ((wrId t).getD []) | p => p) = ws.map .bytes := by
      rw [List.nil_append, List.map_map]
      have : ts.map ((fun p => match p with | .str t => PV.bytes ((wrId t).getD []) | p => p) ∘ PV.str) = (ts.map wrId).map fun o => PV.bytes (o.getD []) := by rw [List.map_map]; rfl
      rw [this, hw, List.map_map]; rfl
    rw [hys]
    repeat' (focus (first | with_reducible (first | refine Thn_next ?_ | refine Thn_ret ?_ | refine S_nil ?_ | refine S_cons ?_ | refine S_ret ?_ | refine S_if ?_ | refine E_int ?_ | refine E_bytes ?_ | refine L_nil ?_ | refine E_bin ?_ | refine E_slice ?_ | refine P_none ?_ | refine P_some ?_ | refine T_op ?_ | refine T_and ?_ | refine T_and0 ?_ | refine T_not ?_ | refine E_neg ?_ | refine C_eqB ?_ | refine Tr_bool ?_ | refine ite_t ?_ | refine ite_f ?_ | refine ite_d (fun _ => ?_) (fun _ => ?_) | refine ite_b (fun _ => ?_) (fun _ => ?_) | refine ⟨Recv.bytes, ?_⟩) | ((with_reducible refine' S_set ?_ ?_ ?_ ?_); assumption; rotate_left; wtm_at "loc"; wtm_at "mt") | ((with_reducible refine' S_un2 ?_ ?_ ?_ ?_ ?_ ?_); assumption; rotate_left; wtm_at "loc"; wtm_at "loc"; wtm_at "mt"; wtm_at "mt") | ((with_reducible refine' B_addB ?_ ?_); rotate_left; wtm_at "sz") | ((with_reducible refine' ⟨_, Cuts.b ?_, ?_⟩); wtm_at "side") | ((with_reducible apply exSet); wtm_at "setv") | ((with_reducible apply exSets); wtm_at "setvs") | ((with_reducible refine' ⟨?_, fun _ => ?_⟩); exact Nat.le_of_ble_eq_true rfl) | ((with_reducible refine' ⟨_, TupL.t ?_, ?_⟩); rotate_left; wtm_at "mem") | (with_reducible refine ⟨_, rfl, ?_⟩) | (with_reducible refine ⟨_, _, rfl, ?_⟩) | (with_reducible refine ⟨_, _, _, rfl, ?_⟩) | ((with_reducible (first | refine' L_cons ?_ ?_ | refine' T_cmp ?_ ?_)); rotate_left; wtm_at "mt") | wtm_at "name" | ((with_reducible refine' E_fn ?_ ?_ ?_ ?_ ?_ ?_); rotate_left 2; wtm_at "nm"; (exact fun w => by with_unfolding_all exact rfl); rotate_left; wtm_at "mt"; wtm_at "mt"; rotate_left) | wtm_at "cname" | ((with_reducible refine' E_meth (o := .Constant (.bytes _) _ _) FB.plainAttrs_bytes slot_bytes_join type_bytes_join ?_ ?_ ?_ ?_ ?_); rotate_left; wtm_at "mt"; wtm_at "mt"; wtm_at "mt"; rotate_left) | ((with_reducible refine' T_plain ?_ ?_); rotate_left; wtm_at "mt")))
    refine Bi_perm (hp.perm.symm.cons _) (Bi_joinB (.head _) rfl ?_ ?_)
    · have : ∀ l : List (List UInt8), (∀ w ∈ l, w.length ≤ 1000) → (l.map (·.length)).sum ≤ 1000 * l.length := by
        intro l hl
        induction l with
        | nil => simp
        | cons w r ih =>
          have h1 := hl w (.head _)
          have h2 := ih fun w hw => hl w (.tail _ hw)
          simp only [List.map_cons, List.sum_cons, List.length_cons]; lia
      have := this ws hws
      simp only [List.length_singleton]; lia
    · repeat' (focus (first | with_reducible (first | refine Thn_next ?_ | refine Thn_ret ?_ | refine S_nil ?_ | refine S_cons ?_ | refine S_ret ?_ | refine S_if ?_ | refine E_int ?_ | refine E_bytes ?_ | refine L_nil ?_ | refine E_bin ?_ | refine E_slice ?_ | refine P_none ?_ | refine P_some ?_ | refine T_op ?_ | refine T_and ?_ | refine T_and0 ?_ | refine T_not ?_ | refine E_neg ?_ | refine C_eqB ?_ | refine Tr_bool ?_ | refine ite_t ?_ | refine ite_f ?_ | refine ite_d (fun _ => ?_) (fun _ => ?_) | refine ite_b (fun _ => ?_) (fun _ => ?_) | refine ⟨Recv.bytes, ?_⟩) | ((with_reducible refine' S_set ?_ ?_ ?_ ?_); assumption; rotate_left; wtm_at "loc"; wtm_at "mt") | ((with_reducible refine' S_un2 ?_ ?_ ?_ ?_ ?_ ?_); assumption; rotate_left; wtm_at "loc"; wtm_at "loc"; wtm_at "mt"; wtm_at "mt") | ((with_reducible refine' B_addB ?_ ?_); rotate_left; wtm_at "sz") | ((with_reducible refine' ⟨_, Cuts.b ?_, ?_⟩); wtm_at "side") | ((with_reducible apply exSet); wtm_at "setv") | ((with_reducible apply exSets); wtm_at "setvs") | ((with_reducible refine' ⟨?_, fun _ => ?_⟩); exact Nat.le_of_ble_eq_true rfl) | ((with_reducible refine' ⟨_, TupL.t ?_, ?_⟩); rotate_left; wtm_at "mem") | (with_reducible refine ⟨_, rfl, ?_⟩) | (with_reducible refine ⟨_, _, rfl, ?_⟩) | (with_reducible refine ⟨_, _, _, rfl, ?_⟩) | ((with_reducible (first | refine' L_cons ?_ ?_ | refine' T_cmp ?_ ?_)); rotate_left; wtm_at "mt") | wtm_at "name" | ((with_reducible refine' E_fn ?_ ?_ ?_ ?_ ?_ ?_); rotate_left 2; wtm_at "nm"; (exact fun w => by with_unfolding_all exact rfl); rotate_left; wtm_at "mt"; wtm_at "mt"; rotate_left) | wtm_at "cname" | ((with_reducible refine' E_meth (o := .Constant (.bytes _) _ _) FB.plainAttrs_bytes slot_bytes_join type_bytes_join ?_ ?_ ?_ ?_ ?_); rotate_left; wtm_at "mt"; wtm_at "mt"; wtm_at "mt"; rotate_left) | ((with_reducible refine' T_plain ?_ ?_); rotate_left; wtm_at "mt")))
      exact Ret.drop (Ret.here h)
end
end
section
theorem sSp : (Str.ofString " ").cps.toList = [32] := by rfl
/-- the first bracket sign from place i on -/
noncomputable def nextB (x : List Nat) (i : Nat) : Option Nat := ((x.drop i).findIdx? fun c => c == 91 || c == 93).map (i + ·)
/-- where the bracket that opens at i is closed, if no other opens between -/
noncomputable def closeN (x : List Nat) (i : Nat) : Option Nat :=
  if x.getD i 0 = 91 then (match nextB x (i + 1) with | some j => if x.getD j 0 = 93 then some j else none | none => none) else none
noncomputable def closeZ (x : List Nat) (i : Nat) : Int := match closeN x i with | some j => (j : Int) | none => -1
noncomputable def clsL (x : List Nat) : List PV := (List.range x.length).map fun i => PV.int (closeZ x i)
/-- blanks that stand at i -/
noncomputable def pbN (x : List Nat) (i e : Nat) : Nat := i + (((x.drop i).take (e - i)).takeWhile (· == 32)).length
/-- past a blob at i -/
noncomputable def bbN (x : List Nat) (i e : Nat) : Nat := match closeN x i with | some j => if i < e ∧ i < j ∧ j < e then pbN x (j + 1) e else i | none => i
noncomputable def subN (x : List Nat) (i j : Nat) : List Nat := (x.drop i).take (j - i)
noncomputable def lowS (x : List Nat) : List Nat := x.map lowerN
/-- past a reply's word and its sign -/
noncomputable def rwN (x : List Nat) (i e : Nat) (w : List Nat) : Option Nat :=
  if (lowS (subN x i (min (i + 3) e))).take w.length = w then (let b := bbN x (pbN x (i + w.length) e) e; if subN x b (min (b + 1) e) = [58] then some (b + 1) else none) else none
noncomputable def prW (x : List Nat) (i e : Nat) (ws : List (List Nat)) : Nat := (ws.findSome? (rwN x i e)).getD i
noncomputable def prN (x : List Nat) (i e : Nat) : Nat := prW x i e [[114, 101], [102, 119, 100], [102, 119]]
section
variable {Q : PV → Led → Prop} {X : Led → Prop} {led : Led}
theorem pbN_at {x : List Nat} {i e : Nat} (h : i < e) (hl : i < x.length) : pbN x i e = if x.getD i 0 = 32 then pbN x (i + 1) e else i := by
  unfold pbN
  rw [List.drop_eq_getElem_cons hl, show e - i = (e - (i + 1)) + 1 by lia, List.take_succ_cons, List.takeWhile_cons]
  have : x.getD i 0 = x[i] := by simp [hl]
  rw [this]
  by_cases hx : x[i] = 32
  · simp [hx]; lia
  · simp [hx]
theorem pbN_end {x : List Nat} {i e : Nat} (h : e ≤ i) : pbN x i e = i := by unfold pbN; rw [show e - i = 0 by lia]; simp
theorem pbN_ge {x : List Nat} {i e : Nat} : i ≤ pbN x i e := by unfold pbN; lia
theorem pbN_le {x : List Nat} {i e : Nat} (h : i ≤ e) : pbN x i e ≤ e := by
  unfold pbN
  have h1 : (((x.drop i).take (e - i)).takeWhile (· == 32)).length ≤ ((x.drop i).take (e - i)).length := (List.takeWhile_sublist _).length_le
  rw [List.length_take] at h1
  lia
theorem c_past_blanks {x : List Nat} {i e : Nat} (hx : x.length ≤ 100000) (he : e ≤ x.length) (h : Q (.int (pbN x i e)) led) : Fn 182 1 [.str x, .int i, .int e] Q X led := by
  refine Fd_3 "text" "at" "end" (fun w => by exact rfl) (fun w => by exact rfl) (fun _ _ _ => rfl) (by decide) (by decide) (fun c' hr hc hs hi => ?_)
  refine S_cons ?_
  refine S_while hi (fun n v l => (E1 fun (j : Nat) => A4 (n = e - j) (pbN x j e = pbN x i e) (v = ([("text", .str x), ("at", .int j), ("end", .int e)] : Vars)) (led = l))) (e - i) ⟨_, _, Wk.refl, i, rfl, rfl, rfl, rfl⟩ ?_
  rintro n v l ⟨j, rfl, hj, rfl, rfl⟩
  repeat' (first | (focus (first | with_reducible (first | refine Thn_next ?_ | refine Thn_ret ?_ | refine Trn_next ?_ | refine Trn_ret ?_ | refine S_nil ?_ | refine S_cons ?_ | refine S_ret ?_ | refine S_if ?_ | refine E_int ?_ | refine E_str ?_ | refine L_nil ?_ | refine E_bin ?_ | refine E_slice ?_ | refine P_none ?_ | refine P_some ?_ | refine T_op ?_ | refine T_and ?_ | refine T_and0 ?_ | refine T_or ?_ | refine T_or0 ?_ | refine T_not ?_ | refine B_add ?_ | refine C_lt ?_ | refine C_eq ?_ | refine C_eqS ?_ | refine Tr_bool ?_ | refine ite_t ?_ | refine ite_f ?_ | refine ite_nf ?_ | refine ite_nd (fun _ => ?_) (fun _ => ?_) | refine ite_d (fun _ => ?_) (fun _ => ?_)) | ((with_reducible refine' S_set ?_ ?_ ?_ ?_); assumption; rotate_left; wtm_at "loc"; wtm_at "mt") | ((with_reducible refine' Bi_lenS ?_ ?_); rotate_left; wtm_at "sz") | ((with_reducible refine' ⟨_, Cuts.s ?_, ?_⟩); wtm_at "side") | ((with_reducible apply exSet); wtm_at "setv") | ((with_reducible refine' ⟨?_, fun _ => ?_⟩); exact Nat.le_of_ble_eq_true rfl) | (with_reducible refine ⟨_, rfl, ?_⟩) | (with_reducible refine ⟨_, _, rfl, ?_⟩) | (with_reducible refine ⟨_, _, _, rfl, ?_⟩) | ((with_reducible (first | refine' L_cons ?_ ?_ | refine' T_cmp ?_ ?_ | refine' T_chain ?_ ?_ | refine' E_item ?_ ?_)); rotate_left; wtm_at "mt") | wtm_at "name" | ((with_reducible refine' E_fn ?_ ?_ ?_ ?_ ?_ ?_); rotate_left 2; wtm_at "nm"; (exact fun w => by with_unfolding_all exact rfl); rotate_left; wtm_at "mt"; wtm_at "mt"; rotate_left) | ((with_reducible refine' E_bf ?_ ?_ ?_ ?_); rotate_left; wtm_at "nm"; wtm_at "mt"; wtm_at "mt"))) | refine It_str (by lia) (by lia) (by lia) ?_)
  all_goals (try simp only [Int.toNat_natCast, sSp, List.cons.injEq, and_true] at *)
  · rename (x.getD j 0 = 32) => h32
    have hlt : j < e := by lia
    rw [pbN_at hlt (by lia), if_pos h32] at hj
    exact ⟨_, _, Wk.refl, _, by lia, j + 1, rfl, hj, rfl, rfl⟩
  · rename (¬ x.getD j 0 = 32) => h32
    have hlt : j < e := by lia
    rw [pbN_at hlt (by lia), if_neg h32] at hj
    rw [← hj] at h; exact Ret.here h
  · rw [pbN_end (by lia)] at hj
    rw [← hj] at h; exact Ret.here h
theorem clsL_at {x : List Nat} {i : Nat} (h : i < x.length) : (clsL x)[((i : Nat) : Int).toNat]? = some (.int (closeZ x i)) := by simp [clsL, h]
theorem c_past_blob {K : Addr} {x : List Nat} {i e : Nat} (hx : x.length ≤ 100000) (he : e ≤ x.length) (hie : i ≤ e) (hm : (K, .list (clsL x)) ∈ led) (h : Q (.int (bbN x i e)) led) : Fn 189 2 [.str x, .ref K, .int i, .int e] Q X led := by
  refine Fd_4 "text" "closes" "at" "end" (fun w => by exact rfl) (fun w => by exact rfl) (fun _ _ _ _ => rfl) (by decide) (by decide) (fun c' hr hc hs hi => ?_)
  have hkl : (clsL x).length = x.length := by simp [clsL]
  repeat' (first | (focus (first | with_reducible (first | refine Thn_next ?_ | refine Thn_ret ?_ | refine Trn_next ?_ | refine Trn_ret ?_ | refine S_nil ?_ | refine S_cons ?_ | refine S_ret ?_ | refine S_if ?_ | refine E_int ?_ | refine E_str ?_ | refine L_nil ?_ | refine E_bin ?_ | refine E_slice ?_ | refine P_none ?_ | refine P_some ?_ | refine T_op ?_ | refine T_and ?_ | refine T_and0 ?_ | refine T_or ?_ | refine T_or0 ?_ | refine T_not ?_ | refine B_add ?_ | refine C_lt ?_ | refine C_eq ?_ | refine C_eqS ?_ | refine Tr_bool ?_ | refine ite_t ?_ | refine ite_f ?_ | refine ite_nf ?_ | refine ite_nd (fun _ => ?_) (fun _ => ?_) | refine ite_d (fun _ => ?_) (fun _ => ?_)) | ((with_reducible refine' S_set ?_ ?_ ?_ ?_); assumption; rotate_left; wtm_at "loc"; wtm_at "mt") | ((with_reducible refine' Bi_lenS ?_ ?_); rotate_left; wtm_at "sz") | ((with_reducible refine' ⟨_, Cuts.s ?_, ?_⟩); wtm_at "side") | ((with_reducible apply exSet); wtm_at "setv") | ((with_reducible refine' ⟨?_, fun _ => ?_⟩); exact Nat.le_of_ble_eq_true rfl) | (with_reducible refine ⟨_, rfl, ?_⟩) | (with_reducible refine ⟨_, _, rfl, ?_⟩) | (with_reducible refine ⟨_, _, _, rfl, ?_⟩) | ((with_reducible (first | refine' L_cons ?_ ?_ | refine' T_cmp ?_ ?_ | refine' T_chain ?_ ?_ | refine' E_item ?_ ?_)); rotate_left; wtm_at "mt") | wtm_at "name" | ((with_reducible refine' E_fn ?_ ?_ ?_ ?_ ?_ ?_); rotate_left 2; wtm_at "nm"; (exact fun w => by with_unfolding_all exact rfl); rotate_left; wtm_at "mt"; wtm_at "mt"; rotate_left) | ((with_reducible refine' E_bf ?_ ?_ ?_ ?_); rotate_left; wtm_at "nm"; wtm_at "mt"; wtm_at "mt"))))
  · have : i = e := by lia
    subst this
    refine Ret.here ?_
    have : bbN x i i = i := by
      unfold bbN; split
      · rw [if_neg (by lia)]
      · rfl
    rw [this] at h; exact h
  · have hv := clsL_at (x := x) (i := i) (by lia)
    unfold bbN at h
    cases hc : closeN x i with
    | none =>
      rw [hc] at h
      have hz : closeZ x i = -1 := by unfold closeZ; rw [hc]
      rw [hz] at hv
      refine It_list hm (by lia) hv (by lia) ?_
      repeat' (first | (focus (first | with_reducible (first | refine Thn_next ?_ | refine Thn_ret ?_ | refine Trn_next ?_ | refine Trn_ret ?_ | refine S_nil ?_ | refine S_cons ?_ | refine S_ret ?_ | refine S_if ?_ | refine E_int ?_ | refine E_str ?_ | refine L_nil ?_ | refine E_bin ?_ | refine E_slice ?_ | refine P_none ?_ | refine P_some ?_ | refine T_op ?_ | refine T_and ?_ | refine T_and0 ?_ | refine T_or ?_ | refine T_or0 ?_ | refine T_not ?_ | refine B_add ?_ | refine C_lt ?_ | refine C_eq ?_ | refine C_eqS ?_ | refine Tr_bool ?_ | refine ite_t ?_ | refine ite_f ?_ | refine ite_nf ?_ | refine ite_nd (fun _ => ?_) (fun _ => ?_) | refine ite_d (fun _ => ?_) (fun _ => ?_)) | ((with_reducible refine' S_set ?_ ?_ ?_ ?_); assumption; rotate_left; wtm_at "loc"; wtm_at "mt") | ((with_reducible refine' Bi_lenS ?_ ?_); rotate_left; wtm_at "sz") | ((with_reducible refine' ⟨_, Cuts.s ?_, ?_⟩); wtm_at "side") | ((with_reducible apply exSet); wtm_at "setv") | ((with_reducible refine' ⟨?_, fun _ => ?_⟩); exact Nat.le_of_ble_eq_true rfl) | (with_reducible refine ⟨_, rfl, ?_⟩) | (with_reducible refine ⟨_, _, rfl, ?_⟩) | (with_reducible refine ⟨_, _, _, rfl, ?_⟩) | ((with_reducible (first | refine' L_cons ?_ ?_ | refine' T_cmp ?_ ?_ | refine' T_chain ?_ ?_ | refine' E_item ?_ ?_)); rotate_left; wtm_at "mt") | wtm_at "name" | ((with_reducible refine' E_fn ?_ ?_ ?_ ?_ ?_ ?_); rotate_left 2; wtm_at "nm"; (exact fun w => by with_unfolding_all exact rfl); rotate_left; wtm_at "mt"; wtm_at "mt"; rotate_left) | ((with_reducible refine' E_bf ?_ ?_ ?_ ?_); rotate_left; wtm_at "nm"; wtm_at "mt"; wtm_at "mt"))) | refine It_list hm (by lia) hv (by lia) ?_)
      all_goals (try (exfalso; lia))
      all_goals exact Ret.here h
    | some j =>
      rw [hc] at h
      have hz : closeZ x i = (j : Int) := by unfold closeZ; rw [hc]
      rw [hz] at hv
      refine It_list hm (by lia) hv (by lia) ?_
      simp only at h
      repeat' (first | (focus (first | with_reducible (first | refine Thn_next ?_ | refine Thn_ret ?_ | refine Trn_next ?_ | refine Trn_ret ?_ | refine S_nil ?_ | refine S_cons ?_ | refine S_ret ?_ | refine S_if ?_ | refine E_int ?_ | refine E_str ?_ | refine L_nil ?_ | refine E_bin ?_ | refine E_slice ?_ | refine P_none ?_ | refine P_some ?_ | refine T_op ?_ | refine T_and ?_ | refine T_and0 ?_ | refine T_or ?_ | refine T_or0 ?_ | refine T_not ?_ | refine B_add ?_ | refine C_lt ?_ | refine C_eq ?_ | refine C_eqS ?_ | refine Tr_bool ?_ | refine ite_t ?_ | refine ite_f ?_ | refine ite_nf ?_ | refine ite_nd (fun _ => ?_) (fun _ => ?_) | refine ite_d (fun _ => ?_) (fun _ => ?_)) | ((with_reducible refine' S_set ?_ ?_ ?_ ?_); assumption; rotate_left; wtm_at "loc"; wtm_at "mt") | ((with_reducible refine' Bi_lenS ?_ ?_); rotate_left; wtm_at "sz") | ((with_reducible refine' ⟨_, Cuts.s ?_, ?_⟩); wtm_at "side") | ((with_reducible apply exSet); wtm_at "setv") | ((with_reducible refine' ⟨?_, fun _ => ?_⟩); exact Nat.le_of_ble_eq_true rfl) | (with_reducible refine ⟨_, rfl, ?_⟩) | (with_reducible refine ⟨_, _, rfl, ?_⟩) | (with_reducible refine ⟨_, _, _, rfl, ?_⟩) | ((with_reducible (first | refine' L_cons ?_ ?_ | refine' T_cmp ?_ ?_ | refine' T_chain ?_ ?_ | refine' E_item ?_ ?_)); rotate_left; wtm_at "mt") | wtm_at "name" | ((with_reducible refine' E_fn ?_ ?_ ?_ ?_ ?_ ?_); rotate_left 2; wtm_at "nm"; (exact fun w => by with_unfolding_all exact rfl); rotate_left; wtm_at "mt"; wtm_at "mt"; rotate_left) | ((with_reducible refine' E_bf ?_ ?_ ?_ ?_); rotate_left; wtm_at "nm"; wtm_at "mt"; wtm_at "mt"))) | refine It_list hm (by lia) hv (by lia) ?_ | refine c_past_blanks (i := j + 1) (by lia) (by lia) ?_)
      all_goals try (rw [hr]; decide)
      · rw [if_neg (by lia)] at h; exact Ret.here h
      · rw [if_pos (by lia)] at h; exact Ret.here h
      · rw [if_neg (by lia)] at h; exact Ret.here h
theorem bbN_ge {x : List Nat} {i e : Nat} : i ≤ bbN x i e := by
  unfold bbN
  split
  · split
    · have := @pbN_ge x (‹Nat› + 1) e; lia
    · lia
  · lia
theorem bbN_le {x : List Nat} {i e : Nat} (h : i ≤ e) : bbN x i e ≤ e := by
  unfold bbN
  split
  · split
    · exact pbN_le (by lia)
    · exact h
  · exact h
theorem reply_at : (E4 fun a b d n => ∀ w, (KF w).lookup 103 = some ⟨.type "tuple", none, .seq ([.str "re" a, .str "fwd" b, .str "fw" d] : List Value).toArray n, #[]⟩) := ⟨_, _, _, _, fun w => by exact rfl⟩
theorem sCol : (Str.ofString ":").cps.toList = [58] := by rfl
theorem cut_N {α : Type} (xs : List α) (i j : Nat) : cut xs (some (i : Int)) (some (j : Int)) = (xs.drop i).take (j - i) := cut_nat xs i j
theorem c_past_reply {K : Addr} {x : List Nat} {i e : Nat} (hx : x.length ≤ 100000) (hxc : ∀ u ∈ x, u < 0x110000) (he : e ≤ x.length) (hie : i ≤ e) (hm : (K, .list (clsL x)) ∈ led) (h : Q (.int (prN x i e)) led) : Fn 196 4 [.str x, .ref K, .int i, .int e] Q X led := by
  refine Fd_4 "text" "closes" "at" "end" (fun w => by exact rfl) (fun w => by exact rfl) (fun _ _ _ _ => rfl) (by decide) (by decide) (fun c' hr hc hs hi => ?_)
  obtain ⟨ta, tb, td, n, hl⟩ := reply_at
  have hsub : ∀ u ∈ subN x i (min (i + 3) e), u < 0x110000 := fun u hu => hxc u (List.mem_of_mem_drop (List.mem_of_mem_take hu))
  have hsl : (subN x i (min (i + 3) e)).length = min (i + 3) e - i := by unfold subN; rw [List.length_take, List.length_drop]; lia
  refine S_cut (fun v l => v = ([("text", .str x), ("closes", .ref K), ("at", .int i), ("end", .int e), ("small", .str (lowS (subN x i (min (i + 3) e))))] : Vars) ∧ led = l) ?_ ?_
  · repeat' (first | (focus (first | with_reducible (first | refine Thn_next ?_ | refine Thn_ret ?_ | refine Trn_next ?_ | refine Trn_ret ?_ | refine S_nil ?_ | refine S_cons ?_ | refine S_ret ?_ | refine S_if ?_ | refine E_int ?_ | refine E_str ?_ | refine L_nil ?_ | refine E_bin ?_ | refine E_slice ?_ | refine P_none ?_ | refine P_some ?_ | refine T_op ?_ | refine T_and ?_ | refine T_and0 ?_ | refine T_or ?_ | refine T_or0 ?_ | refine T_not ?_ | refine B_add ?_ | refine C_lt ?_ | refine C_eq ?_ | refine C_eqS ?_ | refine Tr_bool ?_ | refine ite_t ?_ | refine ite_f ?_ | refine ite_nf ?_ | refine ite_nd (fun _ => ?_) (fun _ => ?_) | refine ite_d (fun _ => ?_) (fun _ => ?_)) | ((with_reducible refine' S_set ?_ ?_ ?_ ?_); assumption; rotate_left; wtm_at "loc"; wtm_at "mt") | ((with_reducible refine' Bi_lenS ?_ ?_); rotate_left; wtm_at "sz") | ((with_reducible refine' ⟨_, Cuts.s ?_, ?_⟩); wtm_at "side") | ((with_reducible apply exSet); wtm_at "setv") | ((with_reducible refine' ⟨?_, fun _ => ?_⟩); exact Nat.le_of_ble_eq_true rfl) | (with_reducible refine ⟨_, rfl, ?_⟩) | (with_reducible refine ⟨_, _, rfl, ?_⟩) | (with_reducible refine ⟨_, _, _, rfl, ?_⟩) | ((with_reducible (first | refine' L_cons ?_ ?_ | refine' T_cmp ?_ ?_ | refine' T_chain ?_ ?_ | refine' E_item ?_ ?_)); rotate_left; wtm_at "mt") | wtm_at "name" | ((with_reducible refine' E_fn ?_ ?_ ?_ ?_ ?_ ?_); rotate_left 2; wtm_at "nm"; (exact fun w => by with_unfolding_all exact rfl); rotate_left; wtm_at "mt"; wtm_at "mt"; rotate_left) | ((with_reducible refine' E_bf ?_ ?_ ?_ ?_); rotate_left; wtm_at "nm"; wtm_at "mt"; wtm_at "mt"))) | refine Bi_min' (n := min (i + 3) e) (by split <;> lia) ?_ | (rw [cut_N]; refine c_lower_text (by show (subN x i (min (i + 3) e)).length ≤ _; lia) hsub ?_))
    · rw [hr]; decide
    · exact ⟨by trivial, _, _, Wk.refl, rfl, rfl⟩
  · rintro v l ⟨rfl, rfl⟩
    repeat' (first | (focus (first | with_reducible (first | refine Thn_next ?_ | refine Thn_ret ?_ | refine Trn_next ?_ | refine Trn_ret ?_ | refine S_nil ?_ | refine S_cons ?_ | refine S_ret ?_ | refine S_if ?_ | refine E_int ?_ | refine E_str ?_ | refine L_nil ?_ | refine E_bin ?_ | refine E_slice ?_ | refine P_none ?_ | refine P_some ?_ | refine T_op ?_ | refine T_and ?_ | refine T_and0 ?_ | refine T_or ?_ | refine T_or0 ?_ | refine T_not ?_ | refine B_add ?_ | refine C_lt ?_ | refine C_eq ?_ | refine C_eqS ?_ | refine Tr_bool ?_ | refine ite_t ?_ | refine ite_f ?_ | refine ite_nf ?_ | refine ite_nd (fun _ => ?_) (fun _ => ?_) | refine ite_d (fun _ => ?_) (fun _ => ?_)) | ((with_reducible refine' S_set ?_ ?_ ?_ ?_); assumption; rotate_left; wtm_at "loc"; wtm_at "mt") | ((with_reducible refine' Bi_lenS ?_ ?_); rotate_left; wtm_at "sz") | ((with_reducible refine' ⟨_, Cuts.s ?_, ?_⟩); wtm_at "side") | ((with_reducible apply exSet); wtm_at "setv") | ((with_reducible refine' ⟨?_, fun _ => ?_⟩); exact Nat.le_of_ble_eq_true rfl) | (with_reducible refine ⟨_, rfl, ?_⟩) | (with_reducible refine ⟨_, _, rfl, ?_⟩) | (with_reducible refine ⟨_, _, _, rfl, ?_⟩) | ((with_reducible (first | refine' L_cons ?_ ?_ | refine' T_cmp ?_ ?_ | refine' T_chain ?_ ?_ | refine' E_item ?_ ?_)); rotate_left; wtm_at "mt") | wtm_at "name" | ((with_reducible refine' E_fn ?_ ?_ ?_ ?_ ?_ ?_); rotate_left 2; wtm_at "nm"; (exact fun w => by with_unfolding_all exact rfl); rotate_left; wtm_at "mt"; wtm_at "mt"; rotate_left) | ((with_reducible refine' E_bf ?_ ?_ ?_ ?_); rotate_left; wtm_at "nm"; wtm_at "mt"; wtm_at "mt"))) | (focus ((with_reducible apply S_for_top); assumption; assumption; wtm_at "loc"; wtm_at "mt"; assumption)))
    rw [show ([.str "re" ta, .str "fwd" tb, .str "fw" td] : List Value).map er = ([[114, 101], [102, 119, 100], [102, 119]] : List (List Nat)).map PV.str from rfl]
    refine ⟨rfl, ?_⟩
    refine WFor_inv (fun its v l => (E1 fun (ws : List (List Nat)) => A5 (its = ws.map .str) ((∀ w ∈ ws, w.length ≤ 3 ∧ 0 < w.length)) (prW x i e ws = prN x i e) (v = ([("text", .str x), ("closes", .ref K), ("at", .int i), ("end", .int e), ("small", .str (lowS (subN x i (min (i + 3) e))))] : Vars)) (led = l))) ?_ ?_ _ _ _ ⟨_, _, Wk.refl, [[114, 101], [102, 119, 100], [102, 119]], rfl, by decide, rfl, rfl, rfl⟩
    · rintro v l ⟨ws, hws, _, hp, rfl, rfl⟩
      have : ws = [] := by cases ws with | nil => rfl | cons => cases hws
      subst this
      repeat' (first | (focus (first | with_reducible (first | refine Thn_next ?_ | refine Thn_ret ?_ | refine Trn_next ?_ | refine Trn_ret ?_ | refine S_nil ?_ | refine S_cons ?_ | refine S_ret ?_ | refine S_if ?_ | refine E_int ?_ | refine E_str ?_ | refine L_nil ?_ | refine E_bin ?_ | refine E_slice ?_ | refine P_none ?_ | refine P_some ?_ | refine T_op ?_ | refine T_and ?_ | refine T_and0 ?_ | refine T_or ?_ | refine T_or0 ?_ | refine T_not ?_ | refine B_add ?_ | refine C_lt ?_ | refine C_eq ?_ | refine C_eqS ?_ | refine Tr_bool ?_ | refine ite_t ?_ | refine ite_f ?_ | refine ite_nf ?_ | refine ite_nd (fun _ => ?_) (fun _ => ?_) | refine ite_d (fun _ => ?_) (fun _ => ?_)) | ((with_reducible refine' S_set ?_ ?_ ?_ ?_); assumption; rotate_left; wtm_at "loc"; wtm_at "mt") | ((with_reducible refine' Bi_lenS ?_ ?_); rotate_left; wtm_at "sz") | ((with_reducible refine' ⟨_, Cuts.s ?_, ?_⟩); wtm_at "side") | ((with_reducible apply exSet); wtm_at "setv") | ((with_reducible refine' ⟨?_, fun _ => ?_⟩); exact Nat.le_of_ble_eq_true rfl) | (with_reducible refine ⟨_, rfl, ?_⟩) | (with_reducible refine ⟨_, _, rfl, ?_⟩) | (with_reducible refine ⟨_, _, _, rfl, ?_⟩) | ((with_reducible (first | refine' L_cons ?_ ?_ | refine' T_cmp ?_ ?_ | refine' T_chain ?_ ?_ | refine' E_item ?_ ?_)); rotate_left; wtm_at "mt") | wtm_at "name" | ((with_reducible refine' E_fn ?_ ?_ ?_ ?_ ?_ ?_); rotate_left 2; wtm_at "nm"; (exact fun w => by with_unfolding_all exact rfl); rotate_left; wtm_at "mt"; wtm_at "mt"; rotate_left) | ((with_reducible refine' E_bf ?_ ?_ ?_ ?_); rotate_left; wtm_at "nm"; wtm_at "mt"; wtm_at "mt"))))
      rw [← hp] at h
      exact Ret.here h
    · rintro p its v l ⟨ws, hws, hwl, hp, rfl, rfl⟩
      cases ws with | nil => cases hws | cons w ws => ?_
      obtain ⟨rfl, rfl⟩ := List.cons.inj hws
      have hw := hwl w (.head _)
      have hll : (lowS (subN x i (min (i + 3) e))).length = min (i + 3) e - i := by unfold lowS; rw [List.length_map, hsl]
      refine ⟨_, by wtm_at "setv", ?_⟩
      have hb : cut (lowS (subN x i (min (i + 3) e))) none (some (w.length : Int)) = w → i + w.length ≤ e := fun h => by
        rw [cut_to] at h
        have := congrArg List.length h
        rw [List.length_take, hll] at this
        lia
      have hb1 : cut (lowS (subN x i (min (i + 3) e))) none (some (w.length : Int)) = w → bbN x (pbN x (i + w.length) e) e ≤ e := fun h => bbN_le (pbN_le (hb h))
      have hrw : rwN x i e w = if cut (lowS (subN x i (min (i + 3) e))) none (some (w.length : Int)) = w then (if subN x (bbN x (pbN x (i + w.length) e) e) (min (bbN x (pbN x (i + w.length) e) e + 1) e) = [58] then some (bbN x (pbN x (i + w.length) e) e + 1) else none) else none := by
        unfold rwN; rw [cut_to]
      generalize hbb : bbN x (pbN x (i + w.length) e) e = b at hb1 hrw
      have hcons : prW x i e (w :: ws) = match rwN x i e w with | some b => b | none => prW x i e ws := by
        unfold prW; rw [List.findSome?_cons]; cases rwN x i e w <;> rfl
      rw [hcons] at hp
      repeat' (first | (focus (first | with_reducible (first | refine Thn_next ?_ | refine Thn_ret ?_ | refine Trn_next ?_ | refine Trn_ret ?_ | refine S_nil ?_ | refine S_cons ?_ | refine S_ret ?_ | refine S_if ?_ | refine E_int ?_ | refine E_str ?_ | refine L_nil ?_ | refine E_bin ?_ | refine E_slice ?_ | refine P_none ?_ | refine P_some ?_ | refine T_op ?_ | refine T_and ?_ | refine T_and0 ?_ | refine T_or ?_ | refine T_or0 ?_ | refine T_not ?_ | refine B_add ?_ | refine C_lt ?_ | refine C_eq ?_ | refine C_eqS ?_ | refine Tr_bool ?_ | refine ite_t ?_ | refine ite_f ?_ | refine ite_nf ?_ | refine ite_nd (fun _ => ?_) (fun _ => ?_) | refine ite_d (fun _ => ?_) (fun _ => ?_)) | ((with_reducible refine' S_set ?_ ?_ ?_ ?_); assumption; rotate_left; wtm_at "loc"; wtm_at "mt") | ((with_reducible refine' Bi_lenS ?_ ?_); rotate_left; wtm_at "sz") | ((with_reducible refine' ⟨_, Cuts.s ?_, ?_⟩); wtm_at "side") | ((with_reducible apply exSet); wtm_at "setv") | ((with_reducible refine' ⟨?_, fun _ => ?_⟩); exact Nat.le_of_ble_eq_true rfl) | (with_reducible refine ⟨_, rfl, ?_⟩) | (with_reducible refine ⟨_, _, rfl, ?_⟩) | (with_reducible refine ⟨_, _, _, rfl, ?_⟩) | ((with_reducible (first | refine' L_cons ?_ ?_ | refine' T_cmp ?_ ?_ | refine' T_chain ?_ ?_ | refine' E_item ?_ ?_)); rotate_left; wtm_at "mt") | wtm_at "name" | ((with_reducible refine' E_fn ?_ ?_ ?_ ?_ ?_ ?_); rotate_left 2; wtm_at "nm"; (exact fun w => by with_unfolding_all exact rfl); rotate_left; wtm_at "mt"; wtm_at "mt"; rotate_left) | ((with_reducible refine' E_bf ?_ ?_ ?_ ?_); rotate_left; wtm_at "nm"; wtm_at "mt"; wtm_at "mt"))) | refine c_past_blanks (i := i + w.length) (by lia) (by lia) ?_ | (refine c_past_blob (i := pbN x (i + w.length) e) (by lia) (by lia) (pbN_le (hb ‹_›)) hm ?_; rw [hbb]) | (have hb2 := hb1 ‹_›; refine Bi_min' (n := min (b + 1) e) (by split <;> lia) ?_))
      all_goals try (rw [hr]; decide)
      all_goals (try rw [cut_N, sCol] at *)
      · rename_i x1 x2
        have hr2 : rwN x i e w = some (b + 1) := by rw [hrw, if_pos x1]; exact if_pos x2
        rw [hr2] at hp
        rw [← hp] at h
        exact Ret.here h
      · rename_i x1 x2
        have hr2 : rwN x i e w = none := by rw [hrw, if_pos x1]; exact if_neg x2
        rw [hr2] at hp
        exact ⟨_, _, ⟨by wtm_at "subl", .refl _⟩, ws, rfl, fun w hw => hwl w (.tail _ hw), hp, rfl, rfl⟩
      · rename_i x1
        have hr2 : rwN x i e w = none := by rw [hrw, if_neg x1]
        rw [hr2] at hp
        exact ⟨_, _, ⟨by wtm_at "subl", .refl _⟩, ws, rfl, fun w hw => hwl w (.tail _ hw), hp, rfl, rfl⟩
end
end
section
/-- blobs, one behind the other -/
inductive Blobs (x : List Nat) (e : Nat) : Nat → Nat → Nat → Nat → Prop
  | stop {la i} : bbN x i e ≤ i → Blobs x e la i la i
  | more {la i l' i'} : i < bbN x i e → Blobs x e i (bbN x i e) l' i' → Blobs x e la i l' i'
/-- leaders, one behind the other -/
inductive Leads (x : List Nat) (e : Nat) : Nat → Bool → Nat → Bool → Prop
  | stop {b k la i} : Blobs x e (pbN x b e) (pbN x b e) la i → prN x i e = i → Leads x e b k (if i < e then i else la) k
  | more {b k la i r k'} : Blobs x e (pbN x b e) (pbN x b e) la i → prN x i e ≠ i → Leads x e (prN x i e) true r k' → Leads x e b k r k'
noncomputable def sbN (x : List Nat) (b e : Nat) : Nat := e - (((subN x b e).reverse.takeWhile (· == 32)).length)
noncomputable def trail : List Nat := [40, 102, 119, 100, 41]
inductive Trails (x : List Nat) (b : Nat) : Nat → Bool → Nat → Bool → Prop
  | stop {e k} : lowS (subN x (max b (sbN x b e - 5)) (sbN x b e)) ≠ trail → Trails x b e k (sbN x b e) k
  | more {e k r k'} : lowS (subN x (max b (sbN x b e - 5)) (sbN x b e)) = trail → Trails x b (sbN x b e - 5) true r k' → Trails x b e k r k'
theorem sTr : (Str.ofString "(fwd)").cps.toList = trail := by rfl
theorem Bi_len5 {c : Cx} {X : Vars → Led → Prop} {vars : Vars} {led : Led} {Q : PV → Led → Prop} (h : Q (.int 5) led) : Bi c (.builtin "len") [.str trail] Q X vars led := Bi_lenS (by exact h) (by decide)
theorem subN_len {x : List Nat} {i j : Nat} (h : j ≤ x.length) : (subN x i j).length = j - i := by unfold subN; rw [List.length_take, List.length_drop]; lia
theorem rwN_bd {x : List Nat} {i e : Nat} {w : List Nat} {b : Nat} (he : e ≤ x.length) (hie : i ≤ e) (h : rwN x i e w = some b) : i ≤ b ∧ b ≤ e ∧ (w ≠ [] → i < b) := by
  unfold rwN at h
  split at h
  · rename_i h1
    simp only at h
    split at h
    · rename_i h2
      cases h
      have h3 := congrArg List.length h1
      have h4 := congrArg List.length h2
      rw [List.length_take, lowS, List.length_map, subN_len (by lia)] at h3
      rw [subN_len (by lia)] at h4
      simp only [List.length_singleton] at h4
      have := @bbN_ge x (pbN x (i + w.length) e) e
      have := @pbN_ge x (i + w.length) e
      refine ⟨by lia, by lia, fun _ => by lia⟩
    · cases h
  · cases h
theorem prN_bd {x : List Nat} {i e : Nat} (he : e ≤ x.length) (hie : i ≤ e) : i ≤ prN x i e ∧ prN x i e ≤ e := by
  unfold prN prW
  cases h : List.findSome? (rwN x i e) [[114, 101], [102, 119, 100], [102, 119]] with
  | none => exact ⟨Nat.le_refl _, hie⟩
  | some b =>
    obtain ⟨w, _, hw⟩ := List.exists_of_findSome?_eq_some h
    have := rwN_bd he hie hw
    exact ⟨this.1, this.2.1⟩
section
variable {Q : PV → Led → Prop} {X : Led → Prop} {led : Led}
theorem c_leaders {K : Addr} {x : List Nat} {b e : Nat} (hx : x.length ≤ 100000) (hxc : ∀ u ∈ x, u < 0x110000) (he : e ≤ x.length) (hbe : b ≤ e) (hm : (K, .list (clsL x)) ∈ led)
    (h : ∀ i k, Leads x e b false i k → i ≤ e → b ≤ i → ∀ r, Q (.ref r) ((r, .tuple [.int (i : Nat), .bool k]) :: led)) : Fn 203 5 [.str x, .ref K, .int b, .int e] Q X led := by
  refine Fd_4 "text" "closes" "begin" "end" (fun w => by exact rfl) (fun w => by exact rfl) (fun _ _ _ _ => rfl) (by decide) (by decide) (fun c' hr hc hs hi => ?_)
  repeat' (first | (focus (first | with_reducible (first | refine Thn_next ?_ | refine Thn_ret ?_ | refine Trn_next ?_ | refine Trn_ret ?_ | refine S_nil ?_ | refine S_cons ?_ | refine S_ret ?_ | refine S_if ?_ | refine E_bool ?_ | refine L_nil ?_ | refine E_if ?_ | refine E_tuple ?_ | refine C_lt ?_ | refine C_gt ?_ | refine C_eq ?_ | refine Tr_bool ?_ | refine ite_t ?_ | refine ite_d (fun _ => ?_) (fun _ => ?_)) | ((with_reducible refine' S_set ?_ ?_ ?_ ?_); assumption; rotate_left; wtm_at "loc"; wtm_at "mt") | ((with_reducible refine' S_unR2 ?_ ?_ ?_ ?_ ?_ ?_); assumption; rotate_left; wtm_at "loc"; wtm_at "loc"; wtm_at "mt"; wtm_at "sw") | ((with_reducible refine' S_set2 ?_ ?_ ?_ ?_ ?_); assumption; rotate_left; wtm_at "loc"; wtm_at "loc"; wtm_at "mt") | ((with_reducible refine' Bi_lenS ?_ ?_); rotate_left; wtm_at "sz") | ((with_reducible apply exSet); wtm_at "setv") | ((with_reducible refine' ⟨?_, fun _ => ?_⟩); exact Nat.le_of_ble_eq_true rfl) | (with_reducible refine ⟨_, rfl, ?_⟩) | (with_reducible refine ⟨_, _, rfl, ?_⟩) | (with_reducible refine ⟨_, _, _, rfl, ?_⟩) | ((with_reducible (first | refine' L_cons ?_ ?_ | refine' T_cmp ?_ ?_)); rotate_left; wtm_at "mt") | wtm_at "name" | ((with_reducible refine' E_fn ?_ ?_ ?_ ?_ ?_ ?_); rotate_left 2; wtm_at "nm"; (exact fun w => by with_unfolding_all exact rfl); rotate_left; wtm_at "mt"; wtm_at "mt"; rotate_left) | ((with_reducible refine' T_plain ?_ ?_); rotate_left; wtm_at "mt"))))
  refine S_while hi (fun n v l => (E2 fun (b' : Nat) (k : Bool) => A6 (n = e - b') (b ≤ b') (b' ≤ e) ((∀ i k', Leads x e b' k i k' → Leads x e b false i k')) (v = ([("text", .str x), ("closes", .ref K), ("begin", .int b'), ("end", .int e), ("is_cut", .bool k)] : Vars)) (led = l))) (e - b) ⟨_, _, Wk.refl, b, false, rfl, Nat.le_refl _, hbe, fun _ _ h => h, rfl, rfl⟩ ?_
  rintro n v l ⟨b', k, rfl, hb1, hb2, hk, rfl, rfl⟩
  have hp1 := @pbN_ge x b' e
  have hp2 := pbN_le (x := x) hb2
  repeat' (first | (focus (first | with_reducible (first | refine Thn_next ?_ | refine Thn_ret ?_ | refine Trn_next ?_ | refine Trn_ret ?_ | refine S_nil ?_ | refine S_cons ?_ | refine S_ret ?_ | refine S_if ?_ | refine E_bool ?_ | refine L_nil ?_ | refine E_if ?_ | refine E_tuple ?_ | refine C_lt ?_ | refine C_gt ?_ | refine C_eq ?_ | refine Tr_bool ?_ | refine ite_t ?_ | refine ite_d (fun _ => ?_) (fun _ => ?_)) | ((with_reducible refine' S_set ?_ ?_ ?_ ?_); assumption; rotate_left; wtm_at "loc"; wtm_at "mt") | ((with_reducible refine' S_unR2 ?_ ?_ ?_ ?_ ?_ ?_); assumption; rotate_left; wtm_at "loc"; wtm_at "loc"; wtm_at "mt"; wtm_at "sw") | ((with_reducible refine' S_set2 ?_ ?_ ?_ ?_ ?_); assumption; rotate_left; wtm_at "loc"; wtm_at "loc"; wtm_at "mt") | ((with_reducible refine' Bi_lenS ?_ ?_); rotate_left; wtm_at "sz") | ((with_reducible apply exSet); wtm_at "setv") | ((with_reducible refine' ⟨?_, fun _ => ?_⟩); exact Nat.le_of_ble_eq_true rfl) | (with_reducible refine ⟨_, rfl, ?_⟩) | (with_reducible refine ⟨_, _, rfl, ?_⟩) | (with_reducible refine ⟨_, _, _, rfl, ?_⟩) | ((with_reducible (first | refine' L_cons ?_ ?_ | refine' T_cmp ?_ ?_)); rotate_left; wtm_at "mt") | wtm_at "name" | ((with_reducible refine' E_fn ?_ ?_ ?_ ?_ ?_ ?_); rotate_left 2; wtm_at "nm"; (exact fun w => by with_unfolding_all exact rfl); rotate_left; wtm_at "mt"; wtm_at "mt"; rotate_left) | ((with_reducible refine' T_plain ?_ ?_); rotate_left; wtm_at "mt"))) | ((with_reducible refine' T_plain ?_ ?_); rotate_left; wtm_at "mt") | refine c_past_blanks (by lia) (by lia) ?_)
  all_goals try (rw [hr]; decide)
  generalize hp : pbN x b' e = p at *
  refine S_while hi (fun n v l => (E2 fun (la i : Nat) => A7 (n = e - i) (p ≤ la) (la ≤ i) (i ≤ e) ((∀ l' i', Blobs x e la i l' i' → Blobs x e p p l' i')) (v = ([("text", .str x), ("closes", .ref K), ("begin", .int b'), ("end", .int e), ("is_cut", .bool k), ("last", .int la), ("at", .int i)] : Vars)) (led = l))) (e - p) ⟨_, _, Wk.refl, p, p, rfl, Nat.le_refl _, Nat.le_refl _, hp2, fun _ _ h => h, rfl, rfl⟩ ?_
  rintro n v l ⟨la, i, rfl, hl1, hl2, hl3, hk2, rfl, rfl⟩
  have hbb := bbN_le (x := x) hl3
  have hpr := prN_bd (x := x) he hl3
  repeat' (first | (focus (first | with_reducible (first | refine Thn_next ?_ | refine Thn_ret ?_ | refine Trn_next ?_ | refine Trn_ret ?_ | refine S_nil ?_ | refine S_cons ?_ | refine S_ret ?_ | refine S_if ?_ | refine E_bool ?_ | refine L_nil ?_ | refine E_if ?_ | refine E_tuple ?_ | refine C_lt ?_ | refine C_gt ?_ | refine C_eq ?_ | refine Tr_bool ?_ | refine ite_t ?_ | refine ite_d (fun _ => ?_) (fun _ => ?_)) | ((with_reducible refine' S_set ?_ ?_ ?_ ?_); assumption; rotate_left; wtm_at "loc"; wtm_at "mt") | ((with_reducible refine' S_unR2 ?_ ?_ ?_ ?_ ?_ ?_); assumption; rotate_left; wtm_at "loc"; wtm_at "loc"; wtm_at "mt"; wtm_at "sw") | ((with_reducible refine' S_set2 ?_ ?_ ?_ ?_ ?_); assumption; rotate_left; wtm_at "loc"; wtm_at "loc"; wtm_at "mt") | ((with_reducible refine' Bi_lenS ?_ ?_); rotate_left; wtm_at "sz") | ((with_reducible apply exSet); wtm_at "setv") | ((with_reducible refine' ⟨?_, fun _ => ?_⟩); exact Nat.le_of_ble_eq_true rfl) | (with_reducible refine ⟨_, rfl, ?_⟩) | (with_reducible refine ⟨_, _, rfl, ?_⟩) | (with_reducible refine ⟨_, _, _, rfl, ?_⟩) | ((with_reducible (first | refine' L_cons ?_ ?_ | refine' T_cmp ?_ ?_)); rotate_left; wtm_at "mt") | wtm_at "name" | ((with_reducible refine' E_fn ?_ ?_ ?_ ?_ ?_ ?_); rotate_left 2; wtm_at "nm"; (exact fun w => by with_unfolding_all exact rfl); rotate_left; wtm_at "mt"; wtm_at "mt"; rotate_left) | ((with_reducible refine' T_plain ?_ ?_); rotate_left; wtm_at "mt"))) | refine c_past_blob (by lia) (by lia) hl3 hm ?_ | refine c_past_reply (by lia) hxc (by lia) hl3 hm ?_)
  all_goals try (rw [hr]; decide)
  · rename (_ < _) => x1
    have hlt : i < bbN x i e := by lia
    exact ⟨_, _, ⟨.refl _, (List.Sublist.refl _).cons _⟩, _, by lia, i, bbN x i e, rfl, by lia, by lia, hbb, fun l' i' h => hk2 l' i' (.more hlt h), rfl, rfl⟩
  · rename (¬ _ < (bbN x i e : Int)) => x1
    rename (_ = _) => x2
    rename (_ < (e : Int)) => x3
    have hfin : Leads x e b' k (if i < e then i else la) k := .stop (by rw [hp]; exact hk2 _ _ (.stop (by lia))) (by lia)
    rw [if_pos (by lia)] at hfin
    exact Ret.here (h i k (hk _ _ hfin) hl3 (by lia) _)
  · rename_i x1 x2 x3 _
    have hfin : Leads x e b' k (if i < e then i else la) k := .stop (by rw [hp]; exact hk2 _ _ (.stop (by lia))) (by lia)
    rw [if_neg (by lia)] at hfin
    exact Ret.here (h la k (hk _ _ hfin) (by lia) (by lia) _)
  · exact ⟨_, _, ⟨by wtm_at "subl", .refl _⟩, _, by lia, prN x i e, true, rfl, by lia, by lia, fun r k' h => hk r k' (.more (by rw [hp]; exact hk2 _ _ (.stop (by lia))) (by lia) h), rfl, rfl⟩
end
end
section
theorem sTab : (Str.ofString "\t\r\n").cps.toList = [9, 13, 10] := by rfl
noncomputable def bl (c : Nat) : Nat := if c = 9 ∨ c = 13 ∨ c = 10 then 32 else c
/-- the words between blanks -/
noncomputable def spl : List Nat → List (List Nat)
  | [] => [[]]
  | c :: r => if c = 32 then [] :: spl r else match spl r with | w :: ws => (c :: w) :: ws | [] => [[c]]
noncomputable def sqz (x : List Nat) : List Nat := joinL [32] ((spl (x.map bl)).filter fun w => decide (w ≠ []))
theorem spl_ne (x : List Nat) : spl x ≠ [] := by
  cases x with
  | nil => simp [spl]
  | cons c r => unfold spl; split; simp; split <;> simp
theorem spl_join : ∀ (ss : List (List Nat)), ss ≠ [] → (∀ w ∈ ss, 32 ∉ w) → spl (joinL [32] ss) = ss
  | [], h, _ => absurd rfl h
  | [w], _, hw => by
    have : ∀ w : List Nat, 32 ∉ w → spl w = [w] := by
      intro w hw
      induction w with
      | nil => rfl
      | cons c r ih =>
        simp at hw
        unfold spl
        rw [if_neg (fun h => hw.1 h.symm), ih hw.2]
    exact this w (hw w (.head _))
  | w :: w2 :: r, _, hw => by
    have ih := spl_join (w2 :: r) (by simp) (fun v hv => hw v (.tail _ hv))
    have : ∀ w : List Nat, 32 ∉ w → spl (w ++ 32 :: joinL [32] (w2 :: r)) = w :: w2 :: r := by
      intro w hw
      induction w with
      | nil => simp [spl, ih]
      | cons c t iht =>
        simp at hw
        rw [List.cons_append]
        unfold spl
        rw [if_neg (fun h => hw.1 h.symm), iht (by simpa using hw.2)]
    rw [joinL, List.append_assoc]
    exact this w (hw w (.head _))
section
variable {Q : PV → Led → Prop} {X : Led → Prop} {led : Led}
theorem c_one_blanks {x : List Nat} (hx : x.length ≤ 100000) (h : Q (.str (sqz x)) led) : Fn 168 2 [.str x] Q X led := by
  refine Fd_1 "text" (fun w => by exact rfl) (fun w => by exact rfl) (fun _ => rfl) (by decide) (fun c' hr hc hs hi => ?_)
  refine S_cut (fun v l => v = ([("text", .str x), ("plain", .str (x.map bl))] : Vars) ∧ led = l) ?_ ?_
  · repeat' (first | (focus (first | with_reducible (first | refine Thn_ret ?_ | refine S_cons ?_ | refine S_ret ?_ | refine E_str ?_ | refine L_nil ?_ | refine E_if ?_ | refine C_neS ?_ | refine Tr_bool ?_ | refine ite_d (fun _ => ?_) (fun _ => ?_) | refine ⟨Recv.str, ?_⟩) | ((with_reducible refine' S_set ?_ ?_ ?_ ?_); assumption; rotate_left; wtm_at "loc"; wtm_at "mt") | ((with_reducible apply exSet); wtm_at "setv") | ((with_reducible refine' ⟨?_, fun _ => ?_⟩); exact Nat.le_of_ble_eq_true rfl) | (with_reducible refine ⟨_, rfl, ?_⟩) | (with_reducible refine ⟨_, _, rfl, ?_⟩) | (with_reducible refine ⟨_, _, _, rfl, ?_⟩) | ((with_reducible (first | refine' L_cons ?_ ?_ | refine' T_cmp ?_ ?_)); rotate_left; wtm_at "mt") | wtm_at "name" | wtm_at "cname" | ((with_reducible (first | refine' E_meth (o := .Constant (.str _) _ _) PySem.F.plainAttrs_str PySem.F.slot_str_join PySem.F.type_str_join ?_ ?_ ?_ ?_ ?_ | refine' E_meth PySem.F.plainAttrs_str PySem.F.slot_str_split PySem.F.type_str_split ?_ ?_ ?_ ?_ ?_)); rotate_left; wtm_at "mt"; wtm_at "mt"; wtm_at "mt"; rotate_left))) | (focus ((with_reducible apply E_compS0); assumption; assumption; exact closureFor_none (by decide); exact relab_free (by decide); rfl; decide; decide; wtm_at "mt"; wtm_at "mt")))
    refine ⟨by lia, WComp_map (fun p => match p with | .str [u] => .str [bl u] | p => p) led _ (fun p hp c₂ hcc R hR => ?_) [] (fun r => ?_)⟩
    · obtain ⟨u, hu, rfl⟩ := List.mem_map.mp hp
      repeat' (first | (focus (first | with_reducible (first | refine Thn_ret ?_ | refine S_cons ?_ | refine S_ret ?_ | refine E_str ?_ | refine L_nil ?_ | refine E_if ?_ | refine C_neS ?_ | refine Tr_bool ?_ | refine ite_d (fun _ => ?_) (fun _ => ?_) | refine ⟨Recv.str, ?_⟩) | ((with_reducible refine' S_set ?_ ?_ ?_ ?_); assumption; rotate_left; wtm_at "loc"; wtm_at "mt") | ((with_reducible apply exSet); wtm_at "setv") | ((with_reducible refine' ⟨?_, fun _ => ?_⟩); exact Nat.le_of_ble_eq_true rfl) | (with_reducible refine ⟨_, rfl, ?_⟩) | (with_reducible refine ⟨_, _, rfl, ?_⟩) | (with_reducible refine ⟨_, _, _, rfl, ?_⟩) | ((with_reducible (first | refine' L_cons ?_ ?_ | refine' T_cmp ?_ ?_)); rotate_left; wtm_at "mt") | wtm_at "name" | wtm_at "cname" | ((with_reducible (first | refine' E_meth (o := .Constant (.str _) _ _) PySem.F.plainAttrs_str PySem.F.slot_str_join PySem.F.type_str_join ?_ ?_ ?_ ?_ ?_ | refine' E_meth PySem.F.plainAttrs_str PySem.F.slot_str_split PySem.F.type_str_split ?_ ?_ ?_ ?_ ?_)); rotate_left; wtm_at "mt"; wtm_at "mt"; wtm_at "mt"; rotate_left))) | refine C_inS ?_)
      · rename (_ ∈ _) => hm
        have : bl u = 32 := by unfold bl; rw [if_pos]; rw [sTab] at hm; simpa using hm
        simp only [this] at hR; exact hR
      · rename (¬ _ ∈ _) => hm
        have : bl u = u := by unfold bl; rw [if_neg]; rw [sTab] at hm; simpa using hm
        simp only [this] at hR; exact hR
    · repeat' (focus (first | with_reducible (first | refine Thn_ret ?_ | refine S_cons ?_ | refine S_ret ?_ | refine E_str ?_ | refine L_nil ?_ | refine E_if ?_ | refine C_neS ?_ | refine Tr_bool ?_ | refine ite_d (fun _ => ?_) (fun _ => ?_) | refine ⟨Recv.str, ?_⟩) | ((with_reducible refine' S_set ?_ ?_ ?_ ?_); assumption; rotate_left; wtm_at "loc"; wtm_at "mt") | ((with_reducible apply exSet); wtm_at "setv") | ((with_reducible refine' ⟨?_, fun _ => ?_⟩); exact Nat.le_of_ble_eq_true rfl) | (with_reducible refine ⟨_, rfl, ?_⟩) | (with_reducible refine ⟨_, _, rfl, ?_⟩) | (with_reducible refine ⟨_, _, _, rfl, ?_⟩) | ((with_reducible (first | refine' L_cons ?_ ?_ | refine' T_cmp ?_ ?_)); rotate_left; wtm_at "mt") | wtm_at "name" | wtm_at "cname" | ((with_reducible (first | refine' E_meth (o := .Constant (.str _) _ _) PySem.F.plainAttrs_str PySem.F.slot_str_join PySem.F.type_str_join ?_ ?_ ?_ ?_ ?_ | refine' E_meth PySem.F.plainAttrs_str PySem.F.slot_str_split PySem.F.type_str_split ?_ ?_ ?_ ?_ ?_)); rotate_left; wtm_at "mt"; wtm_at "mt"; wtm_at "mt"; rotate_left)))
      refine Bi_joinS (ss := x.map fun u => [bl u]) List.mem_cons_self (by simp) (by rw [emptyS]; simp [sum_ones]; lia) ?_
      repeat' (focus (first | with_reducible (first | refine Thn_ret ?_ | refine S_cons ?_ | refine S_ret ?_ | refine E_str ?_ | refine L_nil ?_ | refine E_if ?_ | refine C_neS ?_ | refine Tr_bool ?_ | refine ite_d (fun _ => ?_) (fun _ => ?_) | refine ⟨Recv.str, ?_⟩) | ((with_reducible refine' S_set ?_ ?_ ?_ ?_); assumption; rotate_left; wtm_at "loc"; wtm_at "mt") | ((with_reducible apply exSet); wtm_at "setv") | ((with_reducible refine' ⟨?_, fun _ => ?_⟩); exact Nat.le_of_ble_eq_true rfl) | (with_reducible refine ⟨_, rfl, ?_⟩) | (with_reducible refine ⟨_, _, rfl, ?_⟩) | (with_reducible refine ⟨_, _, _, rfl, ?_⟩) | ((with_reducible (first | refine' L_cons ?_ ?_ | refine' T_cmp ?_ ?_)); rotate_left; wtm_at "mt") | wtm_at "name" | wtm_at "cname" | ((with_reducible (first | refine' E_meth (o := .Constant (.str _) _ _) PySem.F.plainAttrs_str PySem.F.slot_str_join PySem.F.type_str_join ?_ ?_ ?_ ?_ ?_ | refine' E_meth PySem.F.plainAttrs_str PySem.F.slot_str_split PySem.F.type_str_split ?_ ?_ ?_ ?_ ?_)); rotate_left; wtm_at "mt"; wtm_at "mt"; wtm_at "mt"; rotate_left)))
      refine ⟨by trivial, _, _, ⟨.refl _, (List.Sublist.refl _).cons _⟩, ?_, rfl⟩
      rw [emptyS, joinL_nil, show (x.map fun u => [bl u]).flatten = x.map bl by clear h hx; induction x with | nil => rfl | cons a r ih => simp [ih]]
  · rintro v l ⟨rfl, rfl⟩
    repeat' (first | (focus (first | with_reducible (first | refine Thn_ret ?_ | refine S_cons ?_ | refine S_ret ?_ | refine E_str ?_ | refine L_nil ?_ | refine E_if ?_ | refine C_neS ?_ | refine Tr_bool ?_ | refine ite_d (fun _ => ?_) (fun _ => ?_) | refine ⟨Recv.str, ?_⟩) | ((with_reducible refine' S_set ?_ ?_ ?_ ?_); assumption; rotate_left; wtm_at "loc"; wtm_at "mt") | ((with_reducible apply exSet); wtm_at "setv") | ((with_reducible refine' ⟨?_, fun _ => ?_⟩); exact Nat.le_of_ble_eq_true rfl) | (with_reducible refine ⟨_, rfl, ?_⟩) | (with_reducible refine ⟨_, _, rfl, ?_⟩) | (with_reducible refine ⟨_, _, _, rfl, ?_⟩) | ((with_reducible (first | refine' L_cons ?_ ?_ | refine' T_cmp ?_ ?_)); rotate_left; wtm_at "mt") | wtm_at "name" | wtm_at "cname" | ((with_reducible (first | refine' E_meth (o := .Constant (.str _) _ _) PySem.F.plainAttrs_str PySem.F.slot_str_join PySem.F.type_str_join ?_ ?_ ?_ ?_ ?_ | refine' E_meth PySem.F.plainAttrs_str PySem.F.slot_str_split PySem.F.type_str_split ?_ ?_ ?_ ?_ ?_)); rotate_left; wtm_at "mt"; wtm_at "mt"; wtm_at "mt"; rotate_left))) | (focus ((with_reducible apply E_compL1); assumption; assumption; exact closureFor_none (by decide); exact relab_free (by decide); rfl; decide; decide; wtm_at "mt"; wtm_at "mt")))
    refine Bi_split (k := 32) (by simp; lia) (fun r ss h1 h2 h3 => ?_)
    rw [List.length_map] at h3
    refine ⟨r, ss.map .str, _, rfl, .here, by simp; lia, WComp_filter (fun p => p) (fun p => match p with | .str w => decide (w ≠ []) | _ => false) led _ (fun q hq c₂ hcc R hR => ?_) (fun q hq _ c₂ hcc R hR => ?_) [] (fun r2 => ?_)⟩
    · obtain ⟨u, hu, rfl⟩ := List.mem_map.mp hq
      repeat' (focus (first | with_reducible (first | refine Thn_ret ?_ | refine S_cons ?_ | refine S_ret ?_ | refine E_str ?_ | refine L_nil ?_ | refine E_if ?_ | refine C_neS ?_ | refine Tr_bool ?_ | refine ite_d (fun _ => ?_) (fun _ => ?_) | refine ⟨Recv.str, ?_⟩) | ((with_reducible refine' S_set ?_ ?_ ?_ ?_); assumption; rotate_left; wtm_at "loc"; wtm_at "mt") | ((with_reducible apply exSet); wtm_at "setv") | ((with_reducible refine' ⟨?_, fun _ => ?_⟩); exact Nat.le_of_ble_eq_true rfl) | (with_reducible refine ⟨_, rfl, ?_⟩) | (with_reducible refine ⟨_, _, rfl, ?_⟩) | (with_reducible refine ⟨_, _, _, rfl, ?_⟩) | ((with_reducible (first | refine' L_cons ?_ ?_ | refine' T_cmp ?_ ?_)); rotate_left; wtm_at "mt") | wtm_at "name" | wtm_at "cname" | ((with_reducible (first | refine' E_meth (o := .Constant (.str _) _ _) PySem.F.plainAttrs_str PySem.F.slot_str_join PySem.F.type_str_join ?_ ?_ ?_ ?_ ?_ | refine' E_meth PySem.F.plainAttrs_str PySem.F.slot_str_split PySem.F.type_str_split ?_ ?_ ?_ ?_ ?_)); rotate_left; wtm_at "mt"; wtm_at "mt"; wtm_at "mt"; rotate_left)))
      exact hR
    · obtain ⟨u, hu, rfl⟩ := List.mem_map.mp hq
      repeat' (focus (first | with_reducible (first | refine Thn_ret ?_ | refine S_cons ?_ | refine S_ret ?_ | refine E_str ?_ | refine L_nil ?_ | refine E_if ?_ | refine C_neS ?_ | refine Tr_bool ?_ | refine ite_d (fun _ => ?_) (fun _ => ?_) | refine ⟨Recv.str, ?_⟩) | ((with_reducible refine' S_set ?_ ?_ ?_ ?_); assumption; rotate_left; wtm_at "loc"; wtm_at "mt") | ((with_reducible apply exSet); wtm_at "setv") | ((with_reducible refine' ⟨?_, fun _ => ?_⟩); exact Nat.le_of_ble_eq_true rfl) | (with_reducible refine ⟨_, rfl, ?_⟩) | (with_reducible refine ⟨_, _, rfl, ?_⟩) | (with_reducible refine ⟨_, _, _, rfl, ?_⟩) | ((with_reducible (first | refine' L_cons ?_ ?_ | refine' T_cmp ?_ ?_)); rotate_left; wtm_at "mt") | wtm_at "name" | wtm_at "cname" | ((with_reducible (first | refine' E_meth (o := .Constant (.str _) _ _) PySem.F.plainAttrs_str PySem.F.slot_str_join PySem.F.type_str_join ?_ ?_ ?_ ?_ ?_ | refine' E_meth PySem.F.plainAttrs_str PySem.F.slot_str_split PySem.F.type_str_split ?_ ?_ ?_ ?_ ?_)); rotate_left; wtm_at "mt"; wtm_at "mt"; wtm_at "mt"; rotate_left)))
      exact hR
    · have hf : ([] : List PV) ++ (((ss.map PV.str).filter fun p => match p with | .str w => decide (w ≠ []) | _ => false).map fun p => p) = (ss.filter fun w => decide (w ≠ [])).map .str := by
        rw [List.nil_append, List.map_id', List.filter_map]; rfl
      rw [hf]
      have hsz : ((ss.filter fun w => decide (w ≠ [])).map (·.length)).sum + (ss.filter fun w => decide (w ≠ [])).length ≤ (ss.map (·.length)).sum + ss.length := by
        clear h1 h2 h3 hf
        induction ss with
        | nil => simp
        | cons w r ih => rw [List.filter_cons]; split <;> simp only [List.map_cons, List.sum_cons, List.length_cons] <;> lia
      repeat' (focus (first | with_reducible (first | refine Thn_ret ?_ | refine S_cons ?_ | refine S_ret ?_ | refine E_str ?_ | refine L_nil ?_ | refine E_if ?_ | refine C_neS ?_ | refine Tr_bool ?_ | refine ite_d (fun _ => ?_) (fun _ => ?_) | refine ⟨Recv.str, ?_⟩) | ((with_reducible refine' S_set ?_ ?_ ?_ ?_); assumption; rotate_left; wtm_at "loc"; wtm_at "mt") | ((with_reducible apply exSet); wtm_at "setv") | ((with_reducible refine' ⟨?_, fun _ => ?_⟩); exact Nat.le_of_ble_eq_true rfl) | (with_reducible refine ⟨_, rfl, ?_⟩) | (with_reducible refine ⟨_, _, rfl, ?_⟩) | (with_reducible refine ⟨_, _, _, rfl, ?_⟩) | ((with_reducible (first | refine' L_cons ?_ ?_ | refine' T_cmp ?_ ?_)); rotate_left; wtm_at "mt") | wtm_at "name" | wtm_at "cname" | ((with_reducible (first | refine' E_meth (o := .Constant (.str _) _ _) PySem.F.plainAttrs_str PySem.F.slot_str_join PySem.F.type_str_join ?_ ?_ ?_ ?_ ?_ | refine' E_meth PySem.F.plainAttrs_str PySem.F.slot_str_split PySem.F.type_str_split ?_ ?_ ?_ ?_ ?_)); rotate_left; wtm_at "mt"; wtm_at "mt"; wtm_at "mt"; rotate_left)))
      refine Bi_joinS (ss := ss.filter fun w => decide (w ≠ [])) List.mem_cons_self rfl (by rw [show (Str.ofString " ").cps.toList = [32] from rfl, List.length_singleton]; lia) ?_
      repeat' (focus (first | with_reducible (first | refine Thn_ret ?_ | refine S_cons ?_ | refine S_ret ?_ | refine E_str ?_ | refine L_nil ?_ | refine E_if ?_ | refine C_neS ?_ | refine Tr_bool ?_ | refine ite_d (fun _ => ?_) (fun _ => ?_) | refine ⟨Recv.str, ?_⟩) | ((with_reducible refine' S_set ?_ ?_ ?_ ?_); assumption; rotate_left; wtm_at "loc"; wtm_at "mt") | ((with_reducible apply exSet); wtm_at "setv") | ((with_reducible refine' ⟨?_, fun _ => ?_⟩); exact Nat.le_of_ble_eq_true rfl) | (with_reducible refine ⟨_, rfl, ?_⟩) | (with_reducible refine ⟨_, _, rfl, ?_⟩) | (with_reducible refine ⟨_, _, _, rfl, ?_⟩) | ((with_reducible (first | refine' L_cons ?_ ?_ | refine' T_cmp ?_ ?_)); rotate_left; wtm_at "mt") | wtm_at "name" | wtm_at "cname" | ((with_reducible (first | refine' E_meth (o := .Constant (.str _) _ _) PySem.F.plainAttrs_str PySem.F.slot_str_join PySem.F.type_str_join ?_ ?_ ?_ ?_ ?_ | refine' E_meth PySem.F.plainAttrs_str PySem.F.slot_str_split PySem.F.type_str_split ?_ ?_ ?_ ?_ ?_)); rotate_left; wtm_at "mt"; wtm_at "mt"; wtm_at "mt"; rotate_left)))
      refine Ret.drop (Ret.drop (Ret.here ?_))
      have : joinL [32] (ss.filter fun w => decide (w ≠ [])) = sqz x := by
        unfold sqz
        cases ss with
        | nil => rw [← h2]; rfl
        | cons w r => rw [← h2, spl_join _ (by simp) h1]
      show Q (.str (joinL [32] _)) led
      rw [this]; exact h
end
end
section
theorem nextB_end {x : List Nat} {i : Nat} (h : x.length ≤ i) : nextB x i = none := by unfold nextB; rw [List.drop_of_length_le h]; rfl
theorem nextB_at {x : List Nat} {i : Nat} (h : i < x.length) : nextB x i = if x.getD i 0 = 91 ∨ x.getD i 0 = 93 then some i else nextB x (i + 1) := by
  unfold nextB
  rw [List.drop_eq_getElem_cons h, List.findIdx?_cons]
  have e : x.getD i 0 = x[i] := by simp [h]
  rw [e]
  by_cases hx : x[i] = 91 ∨ x[i] = 93
  · have : (x[i] == 91 || x[i] == 93) = true := by simpa using hx
    rw [if_pos hx, this]; simp
  · have : (x[i] == 91 || x[i] == 93) = false := by simpa using hx
    rw [if_neg hx, this]
    cases hf : List.findIdx? (fun c => c == 91 || c == 93) (List.drop (i + 1) x) with
    | none => simp
    | some j => simp; lia
theorem nextB_lt {x : List Nat} {i j : Nat} (h : nextB x i = some j) : i ≤ j ∧ j < x.length := by
  unfold nextB at h
  obtain ⟨k, hk, rfl⟩ := Option.map_eq_some_iff.mp h
  have := List.findIdx?_eq_some_iff_findIdx_eq.mp hk
  rw [List.length_drop] at this
  lia
noncomputable def zB (x : List Nat) (i : Nat) : Int := match nextB x i with | some j => (j : Int) | none => -1
noncomputable def clsM (x : List Nat) (m : Nat) : List PV := (List.range x.length).map fun i => PV.int (if m ≤ i then closeZ x i else -1)
theorem clsM_len (x : List Nat) (m : Nat) : (clsM x m).length = x.length := by simp [clsM]
theorem clsM_set {x : List Nat} {k : Nat} (h : k < x.length) : (clsM x (k + 1)).set k (.int (closeZ x k)) = clsM x k := by
  apply List.ext_getElem
  · simp [clsM]
  · intro i h1 h2
    simp only [clsM, List.length_map, List.length_range, List.length_set] at h1 h2
    rw [List.getElem_set]
    simp only [clsM, List.getElem_map, List.getElem_range]
    by_cases hik : k = i
    · subst hik; simp
    · rw [if_neg hik]; congr 1
      by_cases h3 : k ≤ i
      · rw [if_pos h3, if_pos (by lia)]
      · rw [if_neg h3, if_neg (by lia)]
theorem clsM_same {x : List Nat} {k : Nat} (h : closeZ x k = -1) : clsM x (k + 1) = clsM x k := by
  unfold clsM
  apply List.map_congr_left
  intro i _
  congr 1
  by_cases hik : i = k
  · subst hik; rw [if_neg (by lia), if_pos (by lia), h]
  · by_cases h3 : k ≤ i
    · rw [if_pos h3, if_pos (by lia)]
    · rw [if_neg h3, if_neg (by lia)]
theorem downs_succ (k : Nat) : downs (((k + 1 : Nat) : Int) - 1) (k + 1) = .int (k : Int) :: downs ((k : Int) - 1) k := by
  simp only [downs, List.range_succ_eq_map, List.map_cons, List.map_map]
  refine congr (congrArg _ ?_) ?_
  · congr 1; lia
  · apply List.map_congr_left
    intro y _
    show PV.int (((k + 1 : Nat) : Int) - 1 - ((y + 1 : Nat) : Int)) = PV.int ((k : Int) - 1 - y)
    congr 1; lia
theorem sLb : (Str.ofString "[").cps.toList = [91] := by rfl
theorem sRb : (Str.ofString "]").cps.toList = [93] := by rfl
theorem sBb : (Str.ofString "[]").cps.toList = [91, 93] := by rfl
section
variable {Q : PV → Led → Prop} {X : Led → Prop} {led : Led}
theorem c_closing {x : List Nat} (hx : x.length ≤ 10000) (h : ∀ r, Q (.ref r) ((r, .list (clsL x)) :: led)) : Fn 175 1 [.str x] Q X led := by
  refine Fd_1 "text" (fun w => by exact rfl) (fun w => by exact rfl) (fun _ => rfl) (by decide) (fun c' hr hc hs hi => ?_)
  repeat' (first | (focus (first | with_reducible (first | refine Thn_next ?_ | refine Thn_ret ?_ | refine Trn_next ?_ | refine S_nil ?_ | refine S_cons ?_ | refine S_ret ?_ | refine S_if ?_ | refine E_int ?_ | refine E_str ?_ | refine L_nil ?_ | refine E_bin ?_ | refine T_op ?_ | refine T_and ?_ | refine T_and0 ?_ | refine E_neg ?_ | refine E_list ?_ | refine B_sub ?_ | refine C_ge ?_ | refine C_eqS ?_ | refine Tr_bool ?_ | refine ite_t ?_ | refine ite_f ?_ | refine ite_d (fun _ => ?_) (fun _ => ?_)) | ((with_reducible refine' S_set ?_ ?_ ?_ ?_); assumption; rotate_left; wtm_at "loc"; wtm_at "mt") | ((with_reducible refine' S_unR2 ?_ ?_ ?_ ?_ ?_ ?_); assumption; rotate_left; wtm_at "loc"; wtm_at "loc"; wtm_at "mt"; wtm_at "sw") | ((with_reducible refine' Bi_lenS ?_ ?_); rotate_left; wtm_at "sz") | ((with_reducible apply exSet); wtm_at "setv") | ((with_reducible refine' ⟨?_, fun _ => ?_⟩); exact Nat.le_of_ble_eq_true rfl) | (with_reducible refine ⟨_, rfl, ?_⟩) | (with_reducible refine ⟨_, _, rfl, ?_⟩) | (with_reducible refine ⟨_, _, _, rfl, ?_⟩) | ((with_reducible (first | refine' L_cons ?_ ?_ | refine' T_cmp ?_ ?_ | refine' E_item ?_ ?_ | refine' S_setitem ?_ ?_)); rotate_left; wtm_at "mt") | wtm_at "name" | ((with_reducible refine' E_bf ?_ ?_ ?_ ?_); rotate_left; wtm_at "nm"; wtm_at "mt"; wtm_at "mt") | ((with_reducible refine' E_bt ?_ ?_ ?_ ?_); rotate_left; wtm_at "nm"; wtm_at "mt"; wtm_at "mt"))) | refine B_mulL (by wtm_at "mem") (by lia) (fun r => ?_) | (focus ((with_reducible refine' S_for_range ?_ ?_ ?_ ?_ ?_); assumption; assumption; wtm_at "loc"; wtm_at "mt")) | refine Bi_range3 (fun r => ?_) (by decide) (by decide))
  rename_i X0 Fd T0
  refine ⟨_, _, _, _, _, rfl, .head _, RItems.down (by lia) (by lia) (by lia) (by lia), ?_⟩
  rw [show ((x.length : Int) - 1 - -1).toNat = x.length by lia]
  refine WFor_inv (fun its v l => (E1 fun m => A4 (m ≤ x.length) (its = downs ((m : Int) - 1) m) (v = ([("text", .str x), ("sign_at", .int (zB x m)), ("found", .ref Fd)] : Vars)) (l = (Fd, .list (clsM x m)) :: led))) ?_ ?_ _ _ _ ?_
  · rintro v l ⟨m, hm, hu, rfl, rfl⟩
    have : m = 0 := by cases m with | zero => rfl | succ k => rw [downs_succ] at hu; cases hu
    subst this
    repeat' (first | (focus (first | with_reducible (first | refine Thn_next ?_ | refine Thn_ret ?_ | refine Trn_next ?_ | refine S_nil ?_ | refine S_cons ?_ | refine S_ret ?_ | refine S_if ?_ | refine E_int ?_ | refine E_str ?_ | refine L_nil ?_ | refine E_bin ?_ | refine T_op ?_ | refine T_and ?_ | refine T_and0 ?_ | refine E_neg ?_ | refine E_list ?_ | refine B_sub ?_ | refine C_ge ?_ | refine C_eqS ?_ | refine Tr_bool ?_ | refine ite_t ?_ | refine ite_f ?_ | refine ite_d (fun _ => ?_) (fun _ => ?_)) | ((with_reducible refine' S_set ?_ ?_ ?_ ?_); assumption; rotate_left; wtm_at "loc"; wtm_at "mt") | ((with_reducible refine' S_unR2 ?_ ?_ ?_ ?_ ?_ ?_); assumption; rotate_left; wtm_at "loc"; wtm_at "loc"; wtm_at "mt"; wtm_at "sw") | ((with_reducible refine' Bi_lenS ?_ ?_); rotate_left; wtm_at "sz") | ((with_reducible apply exSet); wtm_at "setv") | ((with_reducible refine' ⟨?_, fun _ => ?_⟩); exact Nat.le_of_ble_eq_true rfl) | (with_reducible refine ⟨_, rfl, ?_⟩) | (with_reducible refine ⟨_, _, rfl, ?_⟩) | (with_reducible refine ⟨_, _, _, rfl, ?_⟩) | ((with_reducible (first | refine' L_cons ?_ ?_ | refine' T_cmp ?_ ?_ | refine' E_item ?_ ?_ | refine' S_setitem ?_ ?_)); rotate_left; wtm_at "mt") | wtm_at "name" | ((with_reducible refine' E_bf ?_ ?_ ?_ ?_); rotate_left; wtm_at "nm"; wtm_at "mt"; wtm_at "mt") | ((with_reducible refine' E_bt ?_ ?_ ?_ ?_); rotate_left; wtm_at "nm"; wtm_at "mt"; wtm_at "mt"))))
    have : clsM x 0 = clsL x := by simp [clsM, clsL]
    rw [this]; exact Ret.here (h _)
  · rintro p its v l ⟨m, hm, hu, rfl, rfl⟩
    cases m with | zero => cases hu | succ k => ?_
    rw [downs_succ] at hu
    obtain ⟨rfl, rfl⟩ := List.cons.inj hu
    have hkl := clsM_len x (k + 1)
    refine ⟨_, by wtm_at "setv", ?_⟩
    have hz : closeZ x k = if x.getD k 0 = 91 then (match nextB x (k + 1) with | some j => if x.getD j 0 = 93 then (j : Int) else -1 | none => -1) else -1 := by
      unfold closeZ closeN
      by_cases h1 : x.getD k 0 = 91
      · rw [if_pos h1, if_pos h1]
        cases nextB x (k + 1) with
        | none => rfl
        | some j => by_cases h2 : x.getD j 0 = 93
                    · simp only [h2, if_true]
                    · simp only [h2, if_false]
      · rw [if_neg h1, if_neg h1]
    have hzb : zB x k = if x.getD k 0 = 91 ∨ x.getD k 0 = 93 then (k : Int) else zB x (k + 1) := by
      unfold zB; rw [nextB_at (by lia)]
      by_cases h1 : x.getD k 0 = 91 ∨ x.getD k 0 = 93
      · rw [if_pos h1, if_pos h1]
      · rw [if_neg h1, if_neg h1]
    refine S_cut (fun v l => v = ([("text", .str x), ("sign_at", .int (zB x (k + 1))), ("found", .ref Fd), ("at", .int k)] : Vars) ∧ l = (Fd, .list (clsM x k)) :: led) ?_ ?_
    · cases hn : nextB x (k + 1) with
      | none =>
        have hz1 : zB x (k + 1) = -1 := by unfold zB; rw [hn]
        have hc1 : clsM x (k + 1) = clsM x k := clsM_same (by rw [hz, hn]; split <;> rfl)
        rw [hz1]
        repeat' (first | (focus (first | with_reducible (first | refine Thn_next ?_ | refine Thn_ret ?_ | refine Trn_next ?_ | refine S_nil ?_ | refine S_cons ?_ | refine S_ret ?_ | refine S_if ?_ | refine E_int ?_ | refine E_str ?_ | refine L_nil ?_ | refine E_bin ?_ | refine T_op ?_ | refine T_and ?_ | refine T_and0 ?_ | refine E_neg ?_ | refine E_list ?_ | refine B_sub ?_ | refine C_ge ?_ | refine C_eqS ?_ | refine Tr_bool ?_ | refine ite_t ?_ | refine ite_f ?_ | refine ite_d (fun _ => ?_) (fun _ => ?_)) | ((with_reducible refine' S_set ?_ ?_ ?_ ?_); assumption; rotate_left; wtm_at "loc"; wtm_at "mt") | ((with_reducible refine' S_unR2 ?_ ?_ ?_ ?_ ?_ ?_); assumption; rotate_left; wtm_at "loc"; wtm_at "loc"; wtm_at "mt"; wtm_at "sw") | ((with_reducible refine' Bi_lenS ?_ ?_); rotate_left; wtm_at "sz") | ((with_reducible apply exSet); wtm_at "setv") | ((with_reducible refine' ⟨?_, fun _ => ?_⟩); exact Nat.le_of_ble_eq_true rfl) | (with_reducible refine ⟨_, rfl, ?_⟩) | (with_reducible refine ⟨_, _, rfl, ?_⟩) | (with_reducible refine ⟨_, _, _, rfl, ?_⟩) | ((with_reducible (first | refine' L_cons ?_ ?_ | refine' T_cmp ?_ ?_ | refine' E_item ?_ ?_ | refine' S_setitem ?_ ?_)); rotate_left; wtm_at "mt") | wtm_at "name" | ((with_reducible refine' E_bf ?_ ?_ ?_ ?_); rotate_left; wtm_at "nm"; wtm_at "mt"; wtm_at "mt") | ((with_reducible refine' E_bt ?_ ?_ ?_ ?_); rotate_left; wtm_at "nm"; wtm_at "mt"; wtm_at "mt"))) | refine It_str (by lia) (by lia) (by lia) ?_)
        all_goals (try (exfalso; lia))
        all_goals (rw [hc1]; exact ⟨by trivial, _, _, Wk.refl, rfl, rfl⟩)
      | some j =>
        have hz1 : zB x (k + 1) = (j : Int) := by unfold zB; rw [hn]
        have hj := nextB_lt hn
        rw [hn] at hz
        simp only at hz
        rw [hz1]
        repeat' (first | (focus (first | with_reducible (first | refine Thn_next ?_ | refine Thn_ret ?_ | refine Trn_next ?_ | refine S_nil ?_ | refine S_cons ?_ | refine S_ret ?_ | refine S_if ?_ | refine E_int ?_ | refine E_str ?_ | refine L_nil ?_ | refine E_bin ?_ | refine T_op ?_ | refine T_and ?_ | refine T_and0 ?_ | refine E_neg ?_ | refine E_list ?_ | refine B_sub ?_ | refine C_ge ?_ | refine C_eqS ?_ | refine Tr_bool ?_ | refine ite_t ?_ | refine ite_f ?_ | refine ite_d (fun _ => ?_) (fun _ => ?_)) | ((with_reducible refine' S_set ?_ ?_ ?_ ?_); assumption; rotate_left; wtm_at "loc"; wtm_at "mt") | ((with_reducible refine' S_unR2 ?_ ?_ ?_ ?_ ?_ ?_); assumption; rotate_left; wtm_at "loc"; wtm_at "loc"; wtm_at "mt"; wtm_at "sw") | ((with_reducible refine' Bi_lenS ?_ ?_); rotate_left; wtm_at "sz") | ((with_reducible apply exSet); wtm_at "setv") | ((with_reducible refine' ⟨?_, fun _ => ?_⟩); exact Nat.le_of_ble_eq_true rfl) | (with_reducible refine ⟨_, rfl, ?_⟩) | (with_reducible refine ⟨_, _, rfl, ?_⟩) | (with_reducible refine ⟨_, _, _, rfl, ?_⟩) | ((with_reducible (first | refine' L_cons ?_ ?_ | refine' T_cmp ?_ ?_ | refine' E_item ?_ ?_ | refine' S_setitem ?_ ?_)); rotate_left; wtm_at "mt") | wtm_at "name" | ((with_reducible refine' E_bf ?_ ?_ ?_ ?_); rotate_left; wtm_at "nm"; wtm_at "mt"; wtm_at "mt") | ((with_reducible refine' E_bt ?_ ?_ ?_ ?_); rotate_left; wtm_at "nm"; wtm_at "mt"; wtm_at "mt"))) | refine It_str (by lia) (by lia) (by lia) ?_)
        all_goals (try (exfalso; lia))
        all_goals (try simp only [Int.toNat_natCast, sLb, sRb, List.cons.injEq, and_true] at *)
        · rename_i x1 x2 x3
          rw [if_pos x2, if_pos x3] at hz
          have hset := clsM_set (x := x) (k := k) (by lia)
          rw [hz] at hset
          refine ⟨Fd, k, _, _, rfl, rfl, by lia, by lia, .here, ?_⟩
          repeat' (focus (first | with_reducible (first | refine Thn_next ?_ | refine Thn_ret ?_ | refine Trn_next ?_ | refine S_nil ?_ | refine S_cons ?_ | refine S_ret ?_ | refine S_if ?_ | refine E_int ?_ | refine E_str ?_ | refine L_nil ?_ | refine E_bin ?_ | refine T_op ?_ | refine T_and ?_ | refine T_and0 ?_ | refine E_neg ?_ | refine E_list ?_ | refine B_sub ?_ | refine C_ge ?_ | refine C_eqS ?_ | refine Tr_bool ?_ | refine ite_t ?_ | refine ite_f ?_ | refine ite_d (fun _ => ?_) (fun _ => ?_)) | ((with_reducible refine' S_set ?_ ?_ ?_ ?_); assumption; rotate_left; wtm_at "loc"; wtm_at "mt") | ((with_reducible refine' S_unR2 ?_ ?_ ?_ ?_ ?_ ?_); assumption; rotate_left; wtm_at "loc"; wtm_at "loc"; wtm_at "mt"; wtm_at "sw") | ((with_reducible refine' Bi_lenS ?_ ?_); rotate_left; wtm_at "sz") | ((with_reducible apply exSet); wtm_at "setv") | ((with_reducible refine' ⟨?_, fun _ => ?_⟩); exact Nat.le_of_ble_eq_true rfl) | (with_reducible refine ⟨_, rfl, ?_⟩) | (with_reducible refine ⟨_, _, rfl, ?_⟩) | (with_reducible refine ⟨_, _, _, rfl, ?_⟩) | ((with_reducible (first | refine' L_cons ?_ ?_ | refine' T_cmp ?_ ?_ | refine' E_item ?_ ?_ | refine' S_setitem ?_ ?_)); rotate_left; wtm_at "mt") | wtm_at "name" | ((with_reducible refine' E_bf ?_ ?_ ?_ ?_); rotate_left; wtm_at "nm"; wtm_at "mt"; wtm_at "mt") | ((with_reducible refine' E_bt ?_ ?_ ?_ ?_); rotate_left; wtm_at "nm"; wtm_at "mt"; wtm_at "mt")))
          rw [hset]
          exact ⟨by trivial, _, _, Wk.refl, rfl, rfl⟩
        · rename_i x1 x2 x3
          rw [if_pos x2, if_neg x3] at hz
          rw [clsM_same hz]; exact ⟨by trivial, _, _, Wk.refl, rfl, rfl⟩
        · rename_i x2
          rw [if_neg x2] at hz
          rw [clsM_same hz]; exact ⟨by trivial, _, _, Wk.refl, rfl, rfl⟩
    · rintro v l ⟨rfl, rfl⟩
      repeat' (first | (focus (first | with_reducible (first | refine Thn_next ?_ | refine Thn_ret ?_ | refine Trn_next ?_ | refine S_nil ?_ | refine S_cons ?_ | refine S_ret ?_ | refine S_if ?_ | refine E_int ?_ | refine E_str ?_ | refine L_nil ?_ | refine E_bin ?_ | refine T_op ?_ | refine T_and ?_ | refine T_and0 ?_ | refine E_neg ?_ | refine E_list ?_ | refine B_sub ?_ | refine C_ge ?_ | refine C_eqS ?_ | refine Tr_bool ?_ | refine ite_t ?_ | refine ite_f ?_ | refine ite_d (fun _ => ?_) (fun _ => ?_)) | ((with_reducible refine' S_set ?_ ?_ ?_ ?_); assumption; rotate_left; wtm_at "loc"; wtm_at "mt") | ((with_reducible refine' S_unR2 ?_ ?_ ?_ ?_ ?_ ?_); assumption; rotate_left; wtm_at "loc"; wtm_at "loc"; wtm_at "mt"; wtm_at "sw") | ((with_reducible refine' Bi_lenS ?_ ?_); rotate_left; wtm_at "sz") | ((with_reducible apply exSet); wtm_at "setv") | ((with_reducible refine' ⟨?_, fun _ => ?_⟩); exact Nat.le_of_ble_eq_true rfl) | (with_reducible refine ⟨_, rfl, ?_⟩) | (with_reducible refine ⟨_, _, rfl, ?_⟩) | (with_reducible refine ⟨_, _, _, rfl, ?_⟩) | ((with_reducible (first | refine' L_cons ?_ ?_ | refine' T_cmp ?_ ?_ | refine' E_item ?_ ?_ | refine' S_setitem ?_ ?_)); rotate_left; wtm_at "mt") | wtm_at "name" | ((with_reducible refine' E_bf ?_ ?_ ?_ ?_); rotate_left; wtm_at "nm"; wtm_at "mt"; wtm_at "mt") | ((with_reducible refine' E_bt ?_ ?_ ?_ ?_); rotate_left; wtm_at "nm"; wtm_at "mt"; wtm_at "mt"))) | refine It_str (by lia) (by lia) (by lia) ?_ | refine C_inS ?_)
      all_goals (try simp only [Int.toNat_natCast, sBb] at *)
      · rename (_ ∈ [91, 93]) => hm2
        rw [if_pos (by simpa using hm2)] at hzb
        exact ⟨([("text", .str x), ("sign_at", .int k), ("found", .ref Fd)] : Vars), _, ⟨by wtm_at "subl", .refl _⟩, k, by lia, rfl, by rw [hzb], rfl⟩
      · rename (¬ _ ∈ [91, 93]) => hm2
        rw [if_neg (by simpa using hm2)] at hzb
        exact ⟨([("text", .str x), ("sign_at", .int (zB x (k + 1))), ("found", .ref Fd)] : Vars), _, ⟨by wtm_at "subl", .refl _⟩, k, by lia, rfl, by rw [hzb], rfl⟩
  · refine ⟨_, (Fd, .list (List.replicate x.length (.int (-1)))) :: led, ⟨.refl _, ?_⟩, x.length, Nat.le_refl _, rfl, ?_, ?_⟩
    · exact (((List.sublist_cons_self _ _).cons_cons _).cons _).cons _
    · unfold zB; rw [nextB_end (Nat.le_refl _)]
    · congr 2
      unfold clsM
      congr 1
      apply List.ext_getElem
      · simp
      · intro i h1 h2
        simp at h1 h2
        simp; lia
end
end
section
theorem subN_snoc {x : List Nat} {b f : Nat} (h : b < f) (hf : f ≤ x.length) : subN x b f = subN x b (f - 1) ++ [x.getD (f - 1) 0] := by
  unfold subN
  rw [show f - b = (f - 1 - b) + 1 by lia, List.take_add_one, List.getElem?_drop, show b + (f - 1 - b) = f - 1 by lia]
  have : x[f - 1]? = some (x.getD (f - 1) 0) := by
    rw [List.getElem?_eq_getElem (by lia)]; simp [show f - 1 < x.length by lia]
  rw [this]; rfl
theorem sbN_at {x : List Nat} {b f : Nat} (h : b < f) (hf : f ≤ x.length) : sbN x b f = if x.getD (f - 1) 0 = 32 then sbN x b (f - 1) else f := by
  unfold sbN
  rw [subN_snoc h hf, List.reverse_append, List.reverse_singleton, List.singleton_append, List.takeWhile_cons]
  by_cases h1 : x.getD (f - 1) 0 = 32
  · rw [if_pos h1, h1]; simp; lia
  · have : (x.getD (f - 1) 0 == 32) = false := by simpa using h1
    rw [if_neg h1, this]; simp
theorem sbN_end {x : List Nat} {b f : Nat} (h : f ≤ b) : sbN x b f = f := by
  unfold sbN subN; rw [show f - b = 0 by lia]; simp
section
variable {Q : PV → Led → Prop} {X : Led → Prop} {led : Led}
theorem c_trailers {x : List Nat} {b e : Nat} (hx : x.length ≤ 100000) (hxc : ∀ u ∈ x, u < 0x110000) (he : e ≤ x.length) (hbe : b ≤ e)
    (h : ∀ i k, Trails x b e false i k → i ≤ e → b ≤ i → ∀ r, Q (.ref r) ((r, .tuple [.int (i : Nat), .bool k]) :: led)) : Fn 210 3 [.str x, .int b, .int e] Q X led := by
  refine Fd_3 "text" "begin" "end" (fun w => by exact rfl) (fun w => by exact rfl) (fun _ _ _ => rfl) (by decide) (by decide) (fun c' hr hc hs hi => ?_)
  repeat' (first | (focus (first | with_reducible (first | refine Thn_next ?_ | refine Thn_ret ?_ | refine Trn_next ?_ | refine Trn_ret ?_ | refine S_nil ?_ | refine S_cons ?_ | refine S_ret ?_ | refine S_if ?_ | refine E_int ?_ | refine E_str ?_ | refine E_bool ?_ | refine L_nil ?_ | refine E_bin ?_ | refine E_slice ?_ | refine P_some ?_ | refine T_op ?_ | refine T_and ?_ | refine T_and0 ?_ | refine E_tuple ?_ | refine B_sub ?_ | refine C_gt ?_ | refine C_eqS ?_ | refine C_neS ?_ | refine Tr_bool ?_ | refine ite_t ?_ | refine ite_f ?_ | refine ite_d (fun _ => ?_) (fun _ => ?_)) | ((with_reducible refine' S_set ?_ ?_ ?_ ?_); assumption; rotate_left; wtm_at "loc"; wtm_at "mt") | ((with_reducible refine' ⟨_, Cuts.s ?_, ?_⟩); wtm_at "side") | ((with_reducible apply exSet); wtm_at "setv") | ((with_reducible refine' ⟨?_, fun _ => ?_⟩); exact Nat.le_of_ble_eq_true rfl) | (with_reducible refine ⟨_, rfl, ?_⟩) | (with_reducible refine ⟨_, _, rfl, ?_⟩) | (with_reducible refine ⟨_, _, _, rfl, ?_⟩) | ((with_reducible (first | refine' L_cons ?_ ?_ | refine' T_cmp ?_ ?_ | refine' E_item ?_ ?_)); rotate_left; wtm_at "mt") | wtm_at "name" | ((with_reducible refine' E_fn ?_ ?_ ?_ ?_ ?_ ?_); rotate_left 2; wtm_at "nm"; (exact fun w => by with_unfolding_all exact rfl); rotate_left; wtm_at "mt"; wtm_at "mt"; rotate_left) | ((with_reducible refine' E_bf ?_ ?_ ?_ ?_); rotate_left; wtm_at "nm"; wtm_at "mt"; wtm_at "mt") | ((with_reducible refine' T_plain ?_ ?_); rotate_left; wtm_at "mt"))))
  refine S_while hi (fun n v l => (E2 fun (e' : Nat) (k : Bool) => A6 (n = e') (b ≤ e') (e' ≤ e) ((∀ i k', Trails x b e' k i k' → Trails x b e false i k')) (v = ([("text", .str x), ("begin", .int b), ("end", .int e'), ("is_cut", .bool k)] : Vars)) (led = l))) e ⟨_, _, Wk.refl, e, false, rfl, hbe, Nat.le_refl _, fun _ _ h => h, rfl, rfl⟩ ?_
  rintro e' v l ⟨_, k, rfl, hb1, hb2, hk, rfl, rfl⟩
  repeat' (first | (focus (first | with_reducible (first | refine Thn_next ?_ | refine Thn_ret ?_ | refine Trn_next ?_ | refine Trn_ret ?_ | refine S_nil ?_ | refine S_cons ?_ | refine S_ret ?_ | refine S_if ?_ | refine E_int ?_ | refine E_str ?_ | refine E_bool ?_ | refine L_nil ?_ | refine E_bin ?_ | refine E_slice ?_ | refine P_some ?_ | refine T_op ?_ | refine T_and ?_ | refine T_and0 ?_ | refine E_tuple ?_ | refine B_sub ?_ | refine C_gt ?_ | refine C_eqS ?_ | refine C_neS ?_ | refine Tr_bool ?_ | refine ite_t ?_ | refine ite_f ?_ | refine ite_d (fun _ => ?_) (fun _ => ?_)) | ((with_reducible refine' S_set ?_ ?_ ?_ ?_); assumption; rotate_left; wtm_at "loc"; wtm_at "mt") | ((with_reducible refine' ⟨_, Cuts.s ?_, ?_⟩); wtm_at "side") | ((with_reducible apply exSet); wtm_at "setv") | ((with_reducible refine' ⟨?_, fun _ => ?_⟩); exact Nat.le_of_ble_eq_true rfl) | (with_reducible refine ⟨_, rfl, ?_⟩) | (with_reducible refine ⟨_, _, rfl, ?_⟩) | (with_reducible refine ⟨_, _, _, rfl, ?_⟩) | ((with_reducible (first | refine' L_cons ?_ ?_ | refine' T_cmp ?_ ?_ | refine' E_item ?_ ?_)); rotate_left; wtm_at "mt") | wtm_at "name" | ((with_reducible refine' E_fn ?_ ?_ ?_ ?_ ?_ ?_); rotate_left 2; wtm_at "nm"; (exact fun w => by with_unfolding_all exact rfl); rotate_left; wtm_at "mt"; wtm_at "mt"; rotate_left) | ((with_reducible refine' E_bf ?_ ?_ ?_ ?_); rotate_left; wtm_at "nm"; wtm_at "mt"; wtm_at "mt") | ((with_reducible refine' T_plain ?_ ?_); rotate_left; wtm_at "mt"))) | ((with_reducible refine' T_plain ?_ ?_); rotate_left; wtm_at "mt"))
  refine S_while hi (fun m v l => (E1 fun (f : Nat) => A6 (m = f) (b ≤ f) (f ≤ e') (sbN x b f = sbN x b e') (v = ([("text", .str x), ("begin", .int b), ("end", .int f), ("is_cut", .bool k)] : Vars)) (led = l))) e' ⟨_, _, Wk.refl, e', rfl, hb1, Nat.le_refl _, rfl, rfl, rfl⟩ ?_
  rintro f v l ⟨_, rfl, hf1, hf2, hf3, rfl, rfl⟩
  have hsub : ∀ u ∈ subN x (max b (f - 5)) f, u < 0x110000 := fun u hu => hxc u (List.mem_of_mem_drop (List.mem_of_mem_take hu))
  have hsl : (subN x (max b (f - 5)) f).length = f - max b (f - 5) := subN_len (by lia)
  repeat' (first | (focus (first | with_reducible (first | refine Thn_next ?_ | refine Thn_ret ?_ | refine Trn_next ?_ | refine Trn_ret ?_ | refine S_nil ?_ | refine S_cons ?_ | refine S_ret ?_ | refine S_if ?_ | refine E_int ?_ | refine E_str ?_ | refine E_bool ?_ | refine L_nil ?_ | refine E_bin ?_ | refine E_slice ?_ | refine P_some ?_ | refine T_op ?_ | refine T_and ?_ | refine T_and0 ?_ | refine E_tuple ?_ | refine B_sub ?_ | refine C_gt ?_ | refine C_eqS ?_ | refine C_neS ?_ | refine Tr_bool ?_ | refine ite_t ?_ | refine ite_f ?_ | refine ite_d (fun _ => ?_) (fun _ => ?_)) | ((with_reducible refine' S_set ?_ ?_ ?_ ?_); assumption; rotate_left; wtm_at "loc"; wtm_at "mt") | ((with_reducible refine' ⟨_, Cuts.s ?_, ?_⟩); wtm_at "side") | ((with_reducible apply exSet); wtm_at "setv") | ((with_reducible refine' ⟨?_, fun _ => ?_⟩); exact Nat.le_of_ble_eq_true rfl) | (with_reducible refine ⟨_, rfl, ?_⟩) | (with_reducible refine ⟨_, _, rfl, ?_⟩) | (with_reducible refine ⟨_, _, _, rfl, ?_⟩) | ((with_reducible (first | refine' L_cons ?_ ?_ | refine' T_cmp ?_ ?_ | refine' E_item ?_ ?_)); rotate_left; wtm_at "mt") | wtm_at "name" | ((with_reducible refine' E_fn ?_ ?_ ?_ ?_ ?_ ?_); rotate_left 2; wtm_at "nm"; (exact fun w => by with_unfolding_all exact rfl); rotate_left; wtm_at "mt"; wtm_at "mt"; rotate_left) | ((with_reducible refine' E_bf ?_ ?_ ?_ ?_); rotate_left; wtm_at "nm"; wtm_at "mt"; wtm_at "mt") | ((with_reducible refine' T_plain ?_ ?_); rotate_left; wtm_at "mt"))) | refine It_str (by lia) (by lia) (by lia) ?_ | refine Bi_max' (n := max b (f - 5)) (by split <;> lia) ?_ | (rw [sTr]; refine Bi_len5 ?_) | (rw [cut_N]; refine c_lower_text (by show (subN x (max b (f - 5)) f).length ≤ _; lia) hsub ?_))
  all_goals try (rw [hr]; decide)
  all_goals (try simp only [Int.toNat_natCast, sSp, sTr, List.cons.injEq, and_true] at *)
  · rename (_ = 32) => h32
    have hb : b < f := by lia
    rw [show ((f : Int) - 1).toNat = f - 1 by lia] at h32
    rw [sbN_at hb (by lia), if_pos h32] at hf3
    rw [show (f : Int) - 1 = ((f - 1 : Nat) : Int) by lia]
    exact ⟨_, _, Wk.refl, _, by lia, f - 1, rfl, by lia, by lia, hf3, rfl, rfl⟩
  all_goals (have hsf : sbN x b e' = f := by
               rw [← hf3]
               by_cases hb : b < f
               · rw [sbN_at hb (by lia), if_neg (by rw [← show ((f : Int) - 1).toNat = f - 1 by lia]; first | assumption | (exfalso; lia))]
               · exact sbN_end (by lia))
  · rename (_ ≠ trail) => hne
    exact Ret.here (h f k (hk _ _ (hsf ▸ .stop (by rw [hsf]; exact hne))) (by lia) hf1 _)
  · rename (¬ _ ≠ trail) => hne
    have hne : lowS (subN x (max b (f - 5)) f) = trail := Classical.not_not.mp hne
    have hl := congrArg List.length hne
    rw [lowS, List.length_map, hsl] at hl
    have h5 : f - max b (f - 5) = 5 := hl
    rw [show (f : Int) - 5 = ((f - 5 : Nat) : Int) by lia]
    exact ⟨_, _, Wk.refl, _, by lia, f - 5, true, rfl, by lia, by lia, fun i k' h => hk i k' (.more (by rw [hsf]; exact hne) (by rw [hsf]; exact h)), rfl, rfl⟩
  · rename (_ ≠ trail) => hne
    exact Ret.here (h f k (hk _ _ (hsf ▸ .stop (by rw [hsf]; exact hne))) (by lia) hf1 _)
  · rename (¬ _ ≠ trail) => hne
    have hne : lowS (subN x (max b (f - 5)) f) = trail := Classical.not_not.mp hne
    have hl := congrArg List.length hne
    rw [lowS, List.length_map, hsl] at hl
    have h5 : f - max b (f - 5) = 5 := hl
    exfalso; lia
end
end
section
noncomputable def fwdS : List Nat := [91, 102, 119, 100, 58]
theorem sFw : (Str.ofString "[fwd:").cps.toList = fwdS := by rfl
noncomputable def isFwd (x : List Nat) (b e : Nat) : Prop := lowS (subN x b (min (b + 5) e)) = fwdS ∧ x.getD (e - 1) 0 = 93
inductive BaseR (x : List Nat) : Nat → Nat → Bool → Nat → Nat → Bool → Prop
  | stop {b e k e1 k1 b1 k2} : Trails x b e false e1 k1 → Leads x e1 b false b1 k2 → ¬ isFwd x b1 e1 → BaseR x b e k b1 e1 (k || k1 || k2)
  | more {b e k e1 k1 b1 k2 r1 r2 r3} : Trails x b e false e1 k1 → Leads x e1 b false b1 k2 → isFwd x b1 e1 → BaseR x (b1 + 5) (e1 - 1) true r1 r2 r3 → BaseR x b e k r1 r2 r3
theorem Bi_len5f {c : Cx} {X : Vars → Led → Prop} {vars : Vars} {led : Led} {Q : PV → Led → Prop} (h : Q (.int 5) led) : Bi c (.builtin "len") [.str fwdS] Q X vars led := Bi_lenS (by exact h) (by decide)
theorem WT_true {c : Cx} {k pos} {B : Bool → Led → Prop} {X : Vars → Led → Prop} {vars : Vars} {led : Led} (h : B true led) : WT c (.Constant (.bool true) k pos) B X vars led := T_plain (E_bool (Tr_bool h)) (by intros; with_unfolding_all rfl)
section
variable {Q : PV → Led → Prop} {X : Led → Prop} {led : Led}
theorem c_base {x y : List Nat} (hx : x.length ≤ 10000) (hy : y.length ≤ 10000) (hyc : ∀ u ∈ y, u < 0x110000) (hxy : sqz x = y)
    (h : ∀ b e k, BaseR y 0 y.length false b e k → ∀ r, Q (.ref r) ((r, .tuple [.str (subN y b e), .bool k]) :: led)) : Fn 217 6 [.str x] Q X led := by
  refine Fd_1 "text" (fun w => by exact rfl) (fun w => by exact rfl) (fun _ => rfl) (by decide) (fun c' hr hc hs hi => ?_)
  repeat' (first | (focus (first | with_reducible (first | refine Thn_next ?_ | refine Thn_ret ?_ | refine Trn_next ?_ | refine Trn_ret ?_ | refine S_nil ?_ | refine S_cons ?_ | refine S_ret ?_ | refine S_if ?_ | refine E_int ?_ | refine E_str ?_ | refine E_bool ?_ | refine L_nil ?_ | refine E_bin ?_ | refine E_slice ?_ | refine P_some ?_ | refine T_op ?_ | refine T_or ?_ | refine T_or0 ?_ | refine E_op ?_ | refine E_op1 ?_ | refine E_or ?_ | refine E_tuple ?_ | refine B_add ?_ | refine B_sub ?_ | refine C_neS ?_ | refine Tr_bool ?_ | refine ite_t ?_ | refine ite_f ?_ | refine ite_d (fun _ => ?_) (fun _ => ?_) | refine ite_b (fun _ => ?_) (fun _ => ?_)) | ((with_reducible refine' S_set ?_ ?_ ?_ ?_); assumption; rotate_left; wtm_at "loc"; wtm_at "mt") | ((with_reducible refine' S_unR3 ?_ ?_ ?_ ?_ ?_ ?_ ?_); assumption; rotate_left; wtm_at "loc"; wtm_at "loc"; wtm_at "loc"; wtm_at "mt"; wtm_at "sw") | ((with_reducible refine' S_un2 ?_ ?_ ?_ ?_ ?_ ?_); assumption; rotate_left; wtm_at "loc"; wtm_at "loc"; wtm_at "mt"; wtm_at "mt") | ((with_reducible refine' Bi_lenS ?_ ?_); rotate_left; wtm_at "sz") | ((with_reducible refine' ⟨_, Cuts.s ?_, ?_⟩); wtm_at "side") | ((with_reducible apply exSet); wtm_at "setv") | ((with_reducible apply exSets); wtm_at "setvs") | ((with_reducible refine' ⟨?_, fun _ => ?_⟩); exact Nat.le_of_ble_eq_true rfl) | ((with_reducible refine' ⟨_, TupL.t ?_, ?_⟩); rotate_left; wtm_at "mem") | (with_reducible refine ⟨_, rfl, ?_⟩) | (with_reducible refine ⟨_, _, rfl, ?_⟩) | (with_reducible refine ⟨_, _, _, rfl, ?_⟩) | ((with_reducible (first | refine' L_cons ?_ ?_ | refine' T_cmp ?_ ?_ | refine' E_item ?_ ?_)); rotate_left; wtm_at "mt") | wtm_at "name" | ((with_reducible refine' E_fn ?_ ?_ ?_ ?_ ?_ ?_); rotate_left 2; wtm_at "nm"; (exact fun w => by with_unfolding_all exact rfl); rotate_left; wtm_at "mt"; wtm_at "mt"; rotate_left) | ((with_reducible refine' E_bf ?_ ?_ ?_ ?_); rotate_left; wtm_at "nm"; wtm_at "mt"; wtm_at "mt") | ((with_reducible refine' T_plain ?_ ?_); rotate_left; wtm_at "mt"))) | (refine c_one_blanks (by lia) ?_; rw [hxy]) | refine c_closing (by lia) (fun K => ?_))
  all_goals try (rw [hr]; decide)
  rename_i T0
  refine S_while hi (fun n v l => (E3 fun (b e : Nat) (k : Bool) => A6 (n = e - b) (b ≤ e) (e ≤ y.length) ((∀ r1 r2 r3, BaseR y b e k r1 r2 r3 → BaseR y 0 y.length false r1 r2 r3)) (v = ([("text", .str x), ("rest", .str y), ("closes", .ref K), ("is_reply", .bool k), ("end", .int e), ("begin", .int b)] : Vars)) (l = (K, .list (clsL y)) :: led))) y.length ?_ ?_
  · exact ⟨_, _, ⟨.refl _, (List.Sublist.refl _).cons _⟩, 0, y.length, false, rfl, Nat.zero_le _, Nat.le_refl _, fun _ _ _ h => h, rfl, rfl⟩
  · rintro n v l ⟨b, e, k, rfl, hb, he, hk, rfl, rfl⟩
    refine WT_true ?_
    refine S_cut (fun v l => (E2 fun (e1 : Nat) (k1 : Bool) => A5 (Trails y b e false e1 k1) (e1 ≤ e) (b ≤ e1) (v = ([("text", .str x), ("rest", .str y), ("closes", .ref K), ("is_reply", .bool k), ("end", .int e1), ("begin", .int b), ("is_cut", .bool k1)] : Vars)) (l = (K, .list (clsL y)) :: led))) ?_ ?_
    · repeat' (first | (focus (first | with_reducible (first | refine Thn_next ?_ | refine Thn_ret ?_ | refine Trn_next ?_ | refine Trn_ret ?_ | refine S_nil ?_ | refine S_cons ?_ | refine S_ret ?_ | refine S_if ?_ | refine E_int ?_ | refine E_str ?_ | refine E_bool ?_ | refine L_nil ?_ | refine E_bin ?_ | refine E_slice ?_ | refine P_some ?_ | refine T_op ?_ | refine T_or ?_ | refine T_or0 ?_ | refine E_op ?_ | refine E_op1 ?_ | refine E_or ?_ | refine E_tuple ?_ | refine B_add ?_ | refine B_sub ?_ | refine C_neS ?_ | refine Tr_bool ?_ | refine ite_t ?_ | refine ite_f ?_ | refine ite_d (fun _ => ?_) (fun _ => ?_) | refine ite_b (fun _ => ?_) (fun _ => ?_)) | ((with_reducible refine' S_set ?_ ?_ ?_ ?_); assumption; rotate_left; wtm_at "loc"; wtm_at "mt") | ((with_reducible refine' S_unR3 ?_ ?_ ?_ ?_ ?_ ?_ ?_); assumption; rotate_left; wtm_at "loc"; wtm_at "loc"; wtm_at "loc"; wtm_at "mt"; wtm_at "sw") | ((with_reducible refine' S_un2 ?_ ?_ ?_ ?_ ?_ ?_); assumption; rotate_left; wtm_at "loc"; wtm_at "loc"; wtm_at "mt"; wtm_at "mt") | ((with_reducible refine' Bi_lenS ?_ ?_); rotate_left; wtm_at "sz") | ((with_reducible refine' ⟨_, Cuts.s ?_, ?_⟩); wtm_at "side") | ((with_reducible apply exSet); wtm_at "setv") | ((with_reducible apply exSets); wtm_at "setvs") | ((with_reducible refine' ⟨?_, fun _ => ?_⟩); exact Nat.le_of_ble_eq_true rfl) | ((with_reducible refine' ⟨_, TupL.t ?_, ?_⟩); rotate_left; wtm_at "mem") | (with_reducible refine ⟨_, rfl, ?_⟩) | (with_reducible refine ⟨_, _, rfl, ?_⟩) | (with_reducible refine ⟨_, _, _, rfl, ?_⟩) | ((with_reducible (first | refine' L_cons ?_ ?_ | refine' T_cmp ?_ ?_ | refine' E_item ?_ ?_)); rotate_left; wtm_at "mt") | wtm_at "name" | ((with_reducible refine' E_fn ?_ ?_ ?_ ?_ ?_ ?_); rotate_left 2; wtm_at "nm"; (exact fun w => by with_unfolding_all exact rfl); rotate_left; wtm_at "mt"; wtm_at "mt"; rotate_left) | ((with_reducible refine' E_bf ?_ ?_ ?_ ?_); rotate_left; wtm_at "nm"; wtm_at "mt"; wtm_at "mt") | ((with_reducible refine' T_plain ?_ ?_); rotate_left; wtm_at "mt"))) | refine c_trailers (by lia) hyc he hb (fun e1 k1 ht he1 hb1 r1 => ?_))
      · rw [hr]; decide
      · exact ⟨by trivial, _, _, ⟨.refl _, (List.Sublist.refl _).cons _⟩, e1, k1, ht, he1, hb1, rfl, rfl⟩
    · rintro v l ⟨e1, k1, ht, he1, hb1, rfl, rfl⟩
      refine S_cut (fun v l => (E2 fun (b1 : Nat) (k2 : Bool) => A5 (Leads y e1 b false b1 k2) (b1 ≤ e1) (b ≤ b1) (v = ([("text", .str x), ("rest", .str y), ("closes", .ref K), ("is_reply", .bool k), ("end", .int e1), ("begin", .int b1)] : Vars) ++ [(("is_cut" : Str), PV.bool k1), (("is_led" : Str), PV.bool k2)]) (l = (K, .list (clsL y)) :: led))) ?_ ?_
      · repeat' (first | (focus (first | with_reducible (first | refine Thn_next ?_ | refine Thn_ret ?_ | refine Trn_next ?_ | refine Trn_ret ?_ | refine S_nil ?_ | refine S_cons ?_ | refine S_ret ?_ | refine S_if ?_ | refine E_int ?_ | refine E_str ?_ | refine E_bool ?_ | refine L_nil ?_ | refine E_bin ?_ | refine E_slice ?_ | refine P_some ?_ | refine T_op ?_ | refine T_or ?_ | refine T_or0 ?_ | refine E_op ?_ | refine E_op1 ?_ | refine E_or ?_ | refine E_tuple ?_ | refine B_add ?_ | refine B_sub ?_ | refine C_neS ?_ | refine Tr_bool ?_ | refine ite_t ?_ | refine ite_f ?_ | refine ite_d (fun _ => ?_) (fun _ => ?_) | refine ite_b (fun _ => ?_) (fun _ => ?_)) | ((with_reducible refine' S_set ?_ ?_ ?_ ?_); assumption; rotate_left; wtm_at "loc"; wtm_at "mt") | ((with_reducible refine' S_unR3 ?_ ?_ ?_ ?_ ?_ ?_ ?_); assumption; rotate_left; wtm_at "loc"; wtm_at "loc"; wtm_at "loc"; wtm_at "mt"; wtm_at "sw") | ((with_reducible refine' S_un2 ?_ ?_ ?_ ?_ ?_ ?_); assumption; rotate_left; wtm_at "loc"; wtm_at "loc"; wtm_at "mt"; wtm_at "mt") | ((with_reducible refine' Bi_lenS ?_ ?_); rotate_left; wtm_at "sz") | ((with_reducible refine' ⟨_, Cuts.s ?_, ?_⟩); wtm_at "side") | ((with_reducible apply exSet); wtm_at "setv") | ((with_reducible apply exSets); wtm_at "setvs") | ((with_reducible refine' ⟨?_, fun _ => ?_⟩); exact Nat.le_of_ble_eq_true rfl) | ((with_reducible refine' ⟨_, TupL.t ?_, ?_⟩); rotate_left; wtm_at "mem") | (with_reducible refine ⟨_, rfl, ?_⟩) | (with_reducible refine ⟨_, _, rfl, ?_⟩) | (with_reducible refine ⟨_, _, _, rfl, ?_⟩) | ((with_reducible (first | refine' L_cons ?_ ?_ | refine' T_cmp ?_ ?_ | refine' E_item ?_ ?_)); rotate_left; wtm_at "mt") | wtm_at "name" | ((with_reducible refine' E_fn ?_ ?_ ?_ ?_ ?_ ?_); rotate_left 2; wtm_at "nm"; (exact fun w => by with_unfolding_all exact rfl); rotate_left; wtm_at "mt"; wtm_at "mt"; rotate_left) | ((with_reducible refine' E_bf ?_ ?_ ?_ ?_); rotate_left; wtm_at "nm"; wtm_at "mt"; wtm_at "mt") | ((with_reducible refine' T_plain ?_ ?_); rotate_left; wtm_at "mt"))) | refine c_leaders (by lia) hyc (by lia) (by lia) (by wtm_at "mem") (fun b1 k2 hl hb2 hb3 r2 => ?_))
        · rw [hr]; decide
        · exact ⟨by trivial, _, _, ⟨.refl _, (List.Sublist.refl _).cons _⟩, b1, k2, hl, hb2, hb3, rfl, rfl⟩
      · rintro v l ⟨b1, k2, hl, hb2, hb3, rfl, rfl⟩
        simp only [List.cons_append, List.nil_append]
        refine S_cut (fun v l => v = ([("text", .str x), ("rest", .str y), ("closes", .ref K), ("is_reply", .bool (k || k1 || k2)), ("end", .int e1), ("begin", .int b1)] : Vars) ∧ l = (K, .list (clsL y)) :: led) ?_ ?_
        · repeat' (first | (focus (first | with_reducible (first | refine Thn_next ?_ | refine Thn_ret ?_ | refine Trn_next ?_ | refine Trn_ret ?_ | refine S_nil ?_ | refine S_cons ?_ | refine S_ret ?_ | refine S_if ?_ | refine E_int ?_ | refine E_str ?_ | refine E_bool ?_ | refine L_nil ?_ | refine E_bin ?_ | refine E_slice ?_ | refine P_some ?_ | refine T_op ?_ | refine T_or ?_ | refine T_or0 ?_ | refine E_op ?_ | refine E_op1 ?_ | refine E_or ?_ | refine E_tuple ?_ | refine B_add ?_ | refine B_sub ?_ | refine C_neS ?_ | refine Tr_bool ?_ | refine ite_t ?_ | refine ite_f ?_ | refine ite_d (fun _ => ?_) (fun _ => ?_) | refine ite_b (fun _ => ?_) (fun _ => ?_)) | ((with_reducible refine' S_set ?_ ?_ ?_ ?_); assumption; rotate_left; wtm_at "loc"; wtm_at "mt") | ((with_reducible refine' S_unR3 ?_ ?_ ?_ ?_ ?_ ?_ ?_); assumption; rotate_left; wtm_at "loc"; wtm_at "loc"; wtm_at "loc"; wtm_at "mt"; wtm_at "sw") | ((with_reducible refine' S_un2 ?_ ?_ ?_ ?_ ?_ ?_); assumption; rotate_left; wtm_at "loc"; wtm_at "loc"; wtm_at "mt"; wtm_at "mt") | ((with_reducible refine' Bi_lenS ?_ ?_); rotate_left; wtm_at "sz") | ((with_reducible refine' ⟨_, Cuts.s ?_, ?_⟩); wtm_at "side") | ((with_reducible apply exSet); wtm_at "setv") | ((with_reducible apply exSets); wtm_at "setvs") | ((with_reducible refine' ⟨?_, fun _ => ?_⟩); exact Nat.le_of_ble_eq_true rfl) | ((with_reducible refine' ⟨_, TupL.t ?_, ?_⟩); rotate_left; wtm_at "mem") | (with_reducible refine ⟨_, rfl, ?_⟩) | (with_reducible refine ⟨_, _, rfl, ?_⟩) | (with_reducible refine ⟨_, _, _, rfl, ?_⟩) | ((with_reducible (first | refine' L_cons ?_ ?_ | refine' T_cmp ?_ ?_ | refine' E_item ?_ ?_)); rotate_left; wtm_at "mt") | wtm_at "name" | ((with_reducible refine' E_fn ?_ ?_ ?_ ?_ ?_ ?_); rotate_left 2; wtm_at "nm"; (exact fun w => by with_unfolding_all exact rfl); rotate_left; wtm_at "mt"; wtm_at "mt"; rotate_left) | ((with_reducible refine' E_bf ?_ ?_ ?_ ?_); rotate_left; wtm_at "nm"; wtm_at "mt"; wtm_at "mt") | ((with_reducible refine' T_plain ?_ ?_); rotate_left; wtm_at "mt"))))
          · rename (k = true) => hk'
            subst hk'
            exact ⟨by trivial, _, _, ⟨by wtm_at "subl", .refl _⟩, rfl, rfl⟩
          · rename (k = false) => hk'
            rename (k1 = true) => hk1
            subst hk' hk1
            exact ⟨by trivial, _, _, ⟨by wtm_at "subl", .refl _⟩, rfl, rfl⟩
          · rename (k = false) => hk'
            rename (k1 = false) => hk1
            subst hk' hk1
            exact ⟨by trivial, _, _, ⟨by wtm_at "subl", .refl _⟩, rfl, rfl⟩
        · rintro v l ⟨rfl, rfl⟩
          have hsub : ∀ u ∈ subN y b1 (min (b1 + 5) e1), u < 0x110000 := fun u hu => hyc u (List.mem_of_mem_drop (List.mem_of_mem_take hu))
          have hsl : (subN y b1 (min (b1 + 5) e1)).length = min (b1 + 5) e1 - b1 := subN_len (by lia)
          have hfw : lowS (subN y b1 (min (b1 + 5) e1)) = fwdS → b1 + 5 ≤ e1 := fun h => by
            have := congrArg List.length h
            rw [lowS, List.length_map, hsl] at this
            have h5 : min (b1 + 5) e1 - b1 = 5 := this
            lia
          repeat' (first | (focus (first | with_reducible (first | refine Thn_next ?_ | refine Thn_ret ?_ | refine Trn_next ?_ | refine Trn_ret ?_ | refine S_nil ?_ | refine S_cons ?_ | refine S_ret ?_ | refine S_if ?_ | refine E_int ?_ | refine E_str ?_ | refine E_bool ?_ | refine L_nil ?_ | refine E_bin ?_ | refine E_slice ?_ | refine P_some ?_ | refine T_op ?_ | refine T_or ?_ | refine T_or0 ?_ | refine E_op ?_ | refine E_op1 ?_ | refine E_or ?_ | refine E_tuple ?_ | refine B_add ?_ | refine B_sub ?_ | refine C_neS ?_ | refine Tr_bool ?_ | refine ite_t ?_ | refine ite_f ?_ | refine ite_d (fun _ => ?_) (fun _ => ?_) | refine ite_b (fun _ => ?_) (fun _ => ?_)) | ((with_reducible refine' S_set ?_ ?_ ?_ ?_); assumption; rotate_left; wtm_at "loc"; wtm_at "mt") | ((with_reducible refine' S_unR3 ?_ ?_ ?_ ?_ ?_ ?_ ?_); assumption; rotate_left; wtm_at "loc"; wtm_at "loc"; wtm_at "loc"; wtm_at "mt"; wtm_at "sw") | ((with_reducible refine' S_un2 ?_ ?_ ?_ ?_ ?_ ?_); assumption; rotate_left; wtm_at "loc"; wtm_at "loc"; wtm_at "mt"; wtm_at "mt") | ((with_reducible refine' Bi_lenS ?_ ?_); rotate_left; wtm_at "sz") | ((with_reducible refine' ⟨_, Cuts.s ?_, ?_⟩); wtm_at "side") | ((with_reducible apply exSet); wtm_at "setv") | ((with_reducible apply exSets); wtm_at "setvs") | ((with_reducible refine' ⟨?_, fun _ => ?_⟩); exact Nat.le_of_ble_eq_true rfl) | ((with_reducible refine' ⟨_, TupL.t ?_, ?_⟩); rotate_left; wtm_at "mem") | (with_reducible refine ⟨_, rfl, ?_⟩) | (with_reducible refine ⟨_, _, rfl, ?_⟩) | (with_reducible refine ⟨_, _, _, rfl, ?_⟩) | ((with_reducible (first | refine' L_cons ?_ ?_ | refine' T_cmp ?_ ?_ | refine' E_item ?_ ?_)); rotate_left; wtm_at "mt") | wtm_at "name" | ((with_reducible refine' E_fn ?_ ?_ ?_ ?_ ?_ ?_); rotate_left 2; wtm_at "nm"; (exact fun w => by with_unfolding_all exact rfl); rotate_left; wtm_at "mt"; wtm_at "mt"; rotate_left) | ((with_reducible refine' E_bf ?_ ?_ ?_ ?_); rotate_left; wtm_at "nm"; wtm_at "mt"; wtm_at "mt") | ((with_reducible refine' T_plain ?_ ?_); rotate_left; wtm_at "mt"))) | refine Bi_min' (n := min (b1 + 5) e1) (by split <;> lia) ?_ | (rw [sFw]; refine Bi_len5f ?_) | (rw [cut_N]; refine c_lower_text (by show (subN y b1 (min (b1 + 5) e1)).length ≤ _; lia) hsub ?_) | (have hq := hfw (Classical.not_not.mp ‹¬ _ ≠ _›); refine It_str (by lia) (by lia) (by lia) ?_))
          all_goals try (rw [hr]; decide)
          all_goals try rw [cut_N]
          · rename (_ ≠ _) => x1
            exact Ret.drop2 (Ret.here (h _ _ _ (hk _ _ _ (.stop ht hl fun hf => x1 hf.1)) _))
          · rename (_ ≠ _) => x2
            rw [show ((e1 : Int) - 1).toNat = e1 - 1 by lia] at x2
            exact Ret.drop2 (Ret.here (h _ _ _ (hk _ _ _ (.stop ht hl fun hf => x2 (by rw [hf.2]; rfl))) _))
          · rename_i x1 hx2 _
            rw [show ((e1 : Int) - 1).toNat = e1 - 1 by lia] at hx2
            have hf : isFwd y b1 e1 := ⟨Classical.not_not.mp x1, by have := Classical.not_not.mp hx2; simpa [sRb] using this⟩
            have e2 : b1 + 5 ≤ e1 - 1 := by
              rcases Nat.lt_or_ge (b1 + 5) e1 with h | h
              · lia
              · exfalso
                have he5 : e1 = b1 + 5 := by lia
                have h1 := hf.1
                have h2 := hf.2
                rw [he5, Nat.min_self, subN_snoc (by lia) (by lia)] at h1
                rw [he5] at h2
                rw [h2] at h1
                have := congrArg List.getLast? h1
                simp [lowS, fwdS, lowerN] at this
            rw [show (e1 : Int) - 1 = ((e1 - 1 : Nat) : Int) by lia]
            exact ⟨_, _, ⟨.refl _, (List.Sublist.refl _).cons _⟩, _, by lia, b1 + 5, e1 - 1, true, rfl, by lia, by lia, fun r1 r2 r3 h => hk _ _ _ (.more ht hl hf h), rfl, rfl⟩
end
end
section
section
variable {Q : PV → Led → Prop} {X : Led → Prop} {led : Led}
theorem c_pen {sa : Addr} {ns : List Int} (hns : ns.length ≤ 63) (h : ∀ P C cs, cs.length ≤ 40 → Q (.ref P) ((P, Pen.po C ⟨cs, 0, 0⟩) :: (C, Pen.co ⟨cs, 0, 0⟩) :: led)) : FnB 230 1 sa ns [.ref sa] Q led := by
  refine FnB_1 "script" (fun w => by exact rfl) (fun w => by exact rfl) (fun _ => rfl) (by decide) (fun c' hr hc hs hi hscr => ?_)
  repeat' (first | (focus ((with_reducible refine' E_sliceS ?_ ?_); rotate_left; wtm_at "mt")) | (focus (first | with_reducible (first | refine Thn_next ?_ | refine Thn_ret ?_ | refine S_cons ?_ | refine S_ret ?_ | refine E_int ?_ | refine L_nil ?_ | refine E_bin ?_ | refine E_if ?_ | refine E_list ?_ | refine Tr_bool ?_ | refine ite_d (fun _ => ?_) (fun _ => ?_)) | ((with_reducible refine' S_set ?_ ?_ ?_ ?_); assumption; rotate_left; wtm_at "loc"; wtm_at "mt") | ((with_reducible apply exSet); wtm_at "setv") | ((with_reducible refine' ⟨?_, fun _ => ?_⟩); exact Nat.le_of_ble_eq_true rfl) | (with_reducible refine ⟨_, rfl, ?_⟩) | (with_reducible refine ⟨_, _, rfl, ?_⟩) | (with_reducible refine ⟨_, _, _, rfl, ?_⟩) | ((with_reducible (first | refine' L_cons ?_ ?_ | refine' T_cmp ?_ ?_)); rotate_left; wtm_at "mt") | wtm_at "name" | ((with_reducible refine' E_fn ?_ ?_ ?_ ?_ ?_ ?_); rotate_left 2; wtm_at "nm"; (exact fun w => by with_unfolding_all exact rfl); rotate_left; wtm_at "mt"; wtm_at "mt"; rotate_left) | ((with_reducible refine' E_bf ?_ ?_ ?_ ?_); rotate_left; wtm_at "nm"; wtm_at "mt"; wtm_at "mt") | ((with_reducible refine' E_bt ?_ ?_ ?_ ?_); rotate_left; wtm_at "nm"; wtm_at "mt"; wtm_at "mt") | wtm_at "cname")) | (focus ((with_reducible apply E_compL0); assumption; assumption; exact closureFor_none (by decide); exact relab_free (by decide); rfl; decide; decide; wtm_at "mt"; wtm_at "mt")))
  refine ⟨sa, ns, rfl, hscr, by lia, ?_⟩
  (focus (first | with_reducible (first | refine Thn_next ?_ | refine Thn_ret ?_ | refine S_cons ?_ | refine S_ret ?_ | refine E_int ?_ | refine L_nil ?_ | refine E_bin ?_ | refine E_if ?_ | refine E_list ?_ | refine Tr_bool ?_ | refine ite_d (fun _ => ?_) (fun _ => ?_)) | ((with_reducible refine' S_set ?_ ?_ ?_ ?_); assumption; rotate_left; wtm_at "loc"; wtm_at "mt") | ((with_reducible apply exSet); wtm_at "setv") | ((with_reducible refine' ⟨?_, fun _ => ?_⟩); exact Nat.le_of_ble_eq_true rfl) | (with_reducible refine ⟨_, rfl, ?_⟩) | (with_reducible refine ⟨_, _, rfl, ?_⟩) | (with_reducible refine ⟨_, _, _, rfl, ?_⟩) | ((with_reducible (first | refine' L_cons ?_ ?_ | refine' T_cmp ?_ ?_)); rotate_left; wtm_at "mt") | wtm_at "name" | ((with_reducible refine' E_fn ?_ ?_ ?_ ?_ ?_ ?_); rotate_left 2; wtm_at "nm"; (exact fun w => by with_unfolding_all exact rfl); rotate_left; wtm_at "mt"; wtm_at "mt"; rotate_left) | ((with_reducible refine' E_bf ?_ ?_ ?_ ?_); rotate_left; wtm_at "nm"; wtm_at "mt"; wtm_at "mt") | ((with_reducible refine' E_bt ?_ ?_ ?_ ?_); rotate_left; wtm_at "nm"; wtm_at "mt"; wtm_at "mt") | wtm_at "cname"))
  refine ⟨40, rfl, fun r => ⟨r, (ns.take 40).map .int, led, rfl, .here, by simp; lia, ?_⟩⟩
  refine WComp_map (fun p => match p with | .int z => .int ((z.natAbs % 10 ^ 60 : Nat) : Int) | p => p) led _ (fun p hp c₂ hcc R hR => ?_) [] (fun r2 => ?_)
  · obtain ⟨z, hz, rfl⟩ := List.mem_map.mp hp
    repeat' (first | (focus (first | with_reducible (first | refine Thn_next ?_ | refine Thn_ret ?_ | refine S_cons ?_ | refine S_ret ?_ | refine E_int ?_ | refine L_nil ?_ | refine E_bin ?_ | refine E_if ?_ | refine E_list ?_ | refine Tr_bool ?_ | refine ite_d (fun _ => ?_) (fun _ => ?_)) | ((with_reducible refine' S_set ?_ ?_ ?_ ?_); assumption; rotate_left; wtm_at "loc"; wtm_at "mt") | ((with_reducible apply exSet); wtm_at "setv") | ((with_reducible refine' ⟨?_, fun _ => ?_⟩); exact Nat.le_of_ble_eq_true rfl) | (with_reducible refine ⟨_, rfl, ?_⟩) | (with_reducible refine ⟨_, _, rfl, ?_⟩) | (with_reducible refine ⟨_, _, _, rfl, ?_⟩) | ((with_reducible (first | refine' L_cons ?_ ?_ | refine' T_cmp ?_ ?_)); rotate_left; wtm_at "mt") | wtm_at "name" | ((with_reducible refine' E_fn ?_ ?_ ?_ ?_ ?_ ?_); rotate_left 2; wtm_at "nm"; (exact fun w => by with_unfolding_all exact rfl); rotate_left; wtm_at "mt"; wtm_at "mt"; rotate_left) | ((with_reducible refine' E_bf ?_ ?_ ?_ ?_); rotate_left; wtm_at "nm"; wtm_at "mt"; wtm_at "mt") | ((with_reducible refine' E_bt ?_ ?_ ?_ ?_); rotate_left; wtm_at "nm"; wtm_at "mt"; wtm_at "mt") | wtm_at "cname")) | refine Bi_int ?_ | refine Bi_abs ?_ | refine B_pow ?_ (by decide) (by decide) | refine B_mod ?_ (by decide))
    have e : (if z < 0 then -z else z) = (z.natAbs : Int) := by split <;> lia
    have e2 : ((z.natAbs : Int)).fmod (10 ^ Int.toNat 60) = ((z.natAbs % 10 ^ 60 : Nat) : Int) := by
      rw [Int.fmod_eq_emod_of_nonneg _ (by decide)]; rfl
    rw [e, e2]; exact hR
  · repeat' (first | (focus (first | with_reducible (first | refine Thn_next ?_ | refine Thn_ret ?_ | refine S_cons ?_ | refine S_ret ?_ | refine E_int ?_ | refine L_nil ?_ | refine E_bin ?_ | refine E_if ?_ | refine E_list ?_ | refine Tr_bool ?_ | refine ite_d (fun _ => ?_) (fun _ => ?_)) | ((with_reducible refine' S_set ?_ ?_ ?_ ?_); assumption; rotate_left; wtm_at "loc"; wtm_at "mt") | ((with_reducible apply exSet); wtm_at "setv") | ((with_reducible refine' ⟨?_, fun _ => ?_⟩); exact Nat.le_of_ble_eq_true rfl) | (with_reducible refine ⟨_, rfl, ?_⟩) | (with_reducible refine ⟨_, _, rfl, ?_⟩) | (with_reducible refine ⟨_, _, _, rfl, ?_⟩) | ((with_reducible (first | refine' L_cons ?_ ?_ | refine' T_cmp ?_ ?_)); rotate_left; wtm_at "mt") | wtm_at "name" | ((with_reducible refine' E_fn ?_ ?_ ?_ ?_ ?_ ?_); rotate_left 2; wtm_at "nm"; (exact fun w => by with_unfolding_all exact rfl); rotate_left; wtm_at "mt"; wtm_at "mt"; rotate_left) | ((with_reducible refine' E_bf ?_ ?_ ?_ ?_); rotate_left; wtm_at "nm"; wtm_at "mt"; wtm_at "mt") | ((with_reducible refine' E_bt ?_ ?_ ?_ ?_); rotate_left; wtm_at "nm"; wtm_at "mt"; wtm_at "mt") | wtm_at "cname")))
    have e : ([] : List PV) ++ ((ns.take 40).map PV.int).map (fun p => match p with | .int z => PV.int ((z.natAbs % 10 ^ 60 : Nat) : Int) | p => p) = ((ns.take 40).map fun z => z.natAbs % 10 ^ 60).map fun (n : Nat) => PV.int (n : Int) := by
      rw [List.nil_append, List.map_map, List.map_map]; rfl
    rw [e]
    refine ⟨_, ((List.sublist_cons_self _ _).cons_cons _).cons_cons _, ?_⟩
    exact h _ _ ((ns.take 40).map fun z => z.natAbs % 10 ^ 60) (by simp; lia)
theorem c_plain {P C Ba : Addr} {st : Pen} {f : Pen → Led} {B : Nat} {bs : List Int} (hB : B ≤ 100000) (h120 : (120 : Int) ∉ bs) (ok : PenOk B st) (U : PenF P C st led f) (hm : ∀ st', (Ba, .tuple (bs.map PV.int)) ∈ f st')
    (h : ∀ (u : UInt8) st', (u.toNat : Int) ∉ bs → PenOk (B + 1) st' → Q (.bytes [u]) (f st')) : Fn 244 2 [.ref P, .ref Ba] Q X led := by
  refine Fd_2 "pen" "barred" (fun w => by exact rfl) (fun w => by exact rfl) (fun _ _ => rfl) (by decide) (by decide) (fun c' hr hc hs hi => ?_)
  repeat' (first | (focus (first | with_reducible (first | refine Thn_next ?_ | refine Thn_ret ?_ | refine S_cons ?_ | refine S_ret ?_ | refine E_int ?_ | refine L_nil ?_ | refine E_bin ?_ | refine E_if ?_ | refine E_list ?_ | refine Tr_bool ?_ | refine ite_d (fun _ => ?_) (fun _ => ?_)) | ((with_reducible refine' S_set ?_ ?_ ?_ ?_); assumption; rotate_left; wtm_at "loc"; wtm_at "mt") | ((with_reducible apply exSet); wtm_at "setv") | ((with_reducible refine' ⟨?_, fun _ => ?_⟩); exact Nat.le_of_ble_eq_true rfl) | (with_reducible refine ⟨_, rfl, ?_⟩) | (with_reducible refine ⟨_, _, rfl, ?_⟩) | (with_reducible refine ⟨_, _, _, rfl, ?_⟩) | ((with_reducible (first | refine' L_cons ?_ ?_ | refine' T_cmp ?_ ?_)); rotate_left; wtm_at "mt") | wtm_at "name" | ((with_reducible refine' E_fn ?_ ?_ ?_ ?_ ?_ ?_); rotate_left 2; wtm_at "nm"; (exact fun w => by with_unfolding_all exact rfl); rotate_left; wtm_at "mt"; wtm_at "mt"; rotate_left) | ((with_reducible refine' E_bf ?_ ?_ ?_ ?_); rotate_left; wtm_at "nm"; wtm_at "mt"; wtm_at "mt") | ((with_reducible refine' E_bt ?_ ?_ ?_ ?_); rotate_left; wtm_at "nm"; wtm_at "mt"; wtm_at "mt") | wtm_at "cname")) | refine c_drawn (many := 256) (by decide) (by decide) hB ok U (fun v st' hv hst => ?_) | refine C_inL (hm _) rfl ?_)
  all_goals try (rw [hr]; decide)
  · refine Bi_bytes (ns := [120]) (.head _) rfl (by decide) (by decide) ?_
    repeat' (first | (focus (first | with_reducible (first | refine Thn_next ?_ | refine Thn_ret ?_ | refine S_cons ?_ | refine S_ret ?_ | refine E_int ?_ | refine L_nil ?_ | refine E_bin ?_ | refine E_if ?_ | refine E_list ?_ | refine Tr_bool ?_ | refine ite_d (fun _ => ?_) (fun _ => ?_)) | ((with_reducible refine' S_set ?_ ?_ ?_ ?_); assumption; rotate_left; wtm_at "loc"; wtm_at "mt") | ((with_reducible apply exSet); wtm_at "setv") | ((with_reducible refine' ⟨?_, fun _ => ?_⟩); exact Nat.le_of_ble_eq_true rfl) | (with_reducible refine ⟨_, rfl, ?_⟩) | (with_reducible refine ⟨_, _, rfl, ?_⟩) | (with_reducible refine ⟨_, _, _, rfl, ?_⟩) | ((with_reducible (first | refine' L_cons ?_ ?_ | refine' T_cmp ?_ ?_)); rotate_left; wtm_at "mt") | wtm_at "name" | ((with_reducible refine' E_fn ?_ ?_ ?_ ?_ ?_ ?_); rotate_left 2; wtm_at "nm"; (exact fun w => by with_unfolding_all exact rfl); rotate_left; wtm_at "mt"; wtm_at "mt"; rotate_left) | ((with_reducible refine' E_bf ?_ ?_ ?_ ?_); rotate_left; wtm_at "nm"; wtm_at "mt"; wtm_at "mt") | ((with_reducible refine' E_bt ?_ ?_ ?_ ?_); rotate_left; wtm_at "nm"; wtm_at "mt"; wtm_at "mt") | wtm_at "cname")))
    exact Ret.drop (Ret.here (h 120 st' h120 hst))
  · rename (¬ _ ∈ bs) => hb
    refine Bi_bytes (ns := [(v : Int)]) (.head _) rfl (by simp; lia) (by simp) ?_
    repeat' (first | (focus (first | with_reducible (first | refine Thn_next ?_ | refine Thn_ret ?_ | refine S_cons ?_ | refine S_ret ?_ | refine E_int ?_ | refine L_nil ?_ | refine E_bin ?_ | refine E_if ?_ | refine E_list ?_ | refine Tr_bool ?_ | refine ite_d (fun _ => ?_) (fun _ => ?_)) | ((with_reducible refine' S_set ?_ ?_ ?_ ?_); assumption; rotate_left; wtm_at "loc"; wtm_at "mt") | ((with_reducible apply exSet); wtm_at "setv") | ((with_reducible refine' ⟨?_, fun _ => ?_⟩); exact Nat.le_of_ble_eq_true rfl) | (with_reducible refine ⟨_, rfl, ?_⟩) | (with_reducible refine ⟨_, _, rfl, ?_⟩) | (with_reducible refine ⟨_, _, _, rfl, ?_⟩) | ((with_reducible (first | refine' L_cons ?_ ?_ | refine' T_cmp ?_ ?_)); rotate_left; wtm_at "mt") | wtm_at "name" | ((with_reducible refine' E_fn ?_ ?_ ?_ ?_ ?_ ?_); rotate_left 2; wtm_at "nm"; (exact fun w => by with_unfolding_all exact rfl); rotate_left; wtm_at "mt"; wtm_at "mt"; rotate_left) | ((with_reducible refine' E_bf ?_ ?_ ?_ ?_); rotate_left; wtm_at "nm"; wtm_at "mt"; wtm_at "mt") | ((with_reducible refine' E_bt ?_ ?_ ?_ ?_); rotate_left; wtm_at "nm"; wtm_at "mt"; wtm_at "mt") | wtm_at "cname")))
    refine Ret.drop (Ret.here ?_)
    have hvv : (UInt8.ofNat v).toNat = v := by rw [UInt8.toNat_ofNat']; lia
    exact h (UInt8.ofNat v) st' (by rw [hvv]; exact hb) hst
end
end
section
noncomputable def barS (q : Bool) : List Int := if q then [34, 92] else [40, 41, 92]
/-- a piece of a word -/
inductive Piece (q : Bool) : List UInt8 → Prop
  | plain {u} : (u.toNat : Int) ∉ barS q → Piece q [u]
  | esc {u} : Piece q [92, u]
  | inw : Piece q [60, 105, 110, 64, 119, 111, 114, 100, 62]
  | nest {k u} : 1 ≤ k → k ≤ 25 → (u.toNat : Int) ∉ ([34, 40, 41, 92] : List Int) → Piece q ((List.replicate k [40]).flatten ++ [u] ++ (List.replicate k [41]).flatten)
  | other : Piece q [if q then 40 else 34]
  | cr : Piece q [13]
  | nul : Piece q [0]
section
variable {Q : PV → Led → Prop} {X : Led → Prop} {led : Led}
theorem c_word {P C : Addr} {st : Pen} {f : Pen → Led} {B : Nat} {q : Bool} (hB : B ≤ 10000) (ok : PenOk B st) (U : PenF P C st led f)
    (h : ∀ (ps : List (List UInt8)) st', (∀ p ∈ ps, Piece q p) → ps.length ≤ 4 → PenOk (B + 20) st' → Q (.bytes (if q then [34] ++ ps.flatten ++ [34] else [40] ++ ps.flatten ++ [41])) (f st')) : Fn 251 3 [.ref P, .bool q] Q X led := by
  refine Fd_2 "pen" "is_quoted" (fun w => by exact rfl) (fun w => by exact rfl) (fun _ _ => rfl) (by decide) (by decide) (fun c' hr hc hs hi => ?_)
  refine S_cut (fun v l => ∃ Ba, v = ([("pen", .ref P), ("is_quoted", .bool q), ("found", .bytes []), ("barred", .ref Ba)] : Vars) ∧ l = (Ba, .tuple ((barS q).map PV.int)) :: led) ?_ ?_
  · repeat' (first | (focus (first | with_reducible (first | refine Thn_next ?_ | refine Thn_ret ?_ | refine Trn_next ?_ | refine S_nil ?_ | refine S_cons ?_ | refine S_ret ?_ | refine S_if ?_ | refine E_int ?_ | refine E_bytes ?_ | refine L_nil ?_ | refine E_bin ?_ | refine E_if ?_ | refine E_tuple ?_ | refine E_list ?_ | refine B_add ?_ | refine C_eq ?_ | refine Tr_bool ?_ | refine ite_d (fun _ => ?_) (fun _ => ?_) | refine ite_b (fun _ => ?_) (fun _ => ?_)) | ((with_reducible refine' S_set ?_ ?_ ?_ ?_); assumption; rotate_left; wtm_at "loc"; wtm_at "mt") | ((with_reducible refine' S_unR2 ?_ ?_ ?_ ?_ ?_ ?_); assumption; rotate_left; wtm_at "loc"; wtm_at "loc"; wtm_at "mt"; wtm_at "sw") | ((with_reducible refine' B_addB ?_ ?_); rotate_left; wtm_at "sz") | ((with_reducible apply exSet); wtm_at "setv") | ((with_reducible refine' ⟨?_, fun _ => ?_⟩); exact Nat.le_of_ble_eq_true rfl) | (with_reducible refine ⟨_, rfl, ?_⟩) | (with_reducible refine ⟨_, _, rfl, ?_⟩) | (with_reducible refine ⟨_, _, _, rfl, ?_⟩) | (with_reducible refine Bi_range1 (fun _ => ?_)) | ((with_reducible (first | refine' L_cons ?_ ?_ | refine' T_cmp ?_ ?_ | refine' E_item ?_ ?_)); rotate_left; wtm_at "mt") | wtm_at "name" | ((with_reducible refine' E_fn ?_ ?_ ?_ ?_ ?_ ?_); rotate_left 2; wtm_at "nm"; (exact fun w => by with_unfolding_all exact rfl); rotate_left; wtm_at "mt"; wtm_at "mt"; rotate_left) | ((with_reducible refine' E_bt ?_ ?_ ?_ ?_); rotate_left; wtm_at "nm"; wtm_at "mt"; wtm_at "mt") | ((with_reducible refine' T_plain ?_ ?_); rotate_left; wtm_at "mt"))))
    · rename (q = true) => hq
      subst hq
      exact ⟨by trivial, _, _, ⟨.refl _, (List.Sublist.refl _).cons _⟩, _, rfl, rfl⟩
    · rename (q = false) => hq
      subst hq
      exact ⟨by trivial, _, _, ⟨.refl _, (List.Sublist.refl _).cons _⟩, _, rfl, rfl⟩
  · rintro v l ⟨Ba, rfl, rfl⟩
    have U1 : PenF P C st ((Ba, .tuple ((barS q).map PV.int)) :: led) (fun st' => (Ba, .tuple ((barS q).map PV.int)) :: f st') := .there U
    repeat' (first | (focus (first | with_reducible (first | refine Thn_next ?_ | refine Thn_ret ?_ | refine Trn_next ?_ | refine S_nil ?_ | refine S_cons ?_ | refine S_ret ?_ | refine S_if ?_ | refine E_int ?_ | refine E_bytes ?_ | refine L_nil ?_ | refine E_bin ?_ | refine E_if ?_ | refine E_tuple ?_ | refine E_list ?_ | refine B_add ?_ | refine C_eq ?_ | refine Tr_bool ?_ | refine ite_d (fun _ => ?_) (fun _ => ?_) | refine ite_b (fun _ => ?_) (fun _ => ?_)) | ((with_reducible refine' S_set ?_ ?_ ?_ ?_); assumption; rotate_left; wtm_at "loc"; wtm_at "mt") | ((with_reducible refine' S_unR2 ?_ ?_ ?_ ?_ ?_ ?_); assumption; rotate_left; wtm_at "loc"; wtm_at "loc"; wtm_at "mt"; wtm_at "sw") | ((with_reducible refine' B_addB ?_ ?_); rotate_left; wtm_at "sz") | ((with_reducible apply exSet); wtm_at "setv") | ((with_reducible refine' ⟨?_, fun _ => ?_⟩); exact Nat.le_of_ble_eq_true rfl) | (with_reducible refine ⟨_, rfl, ?_⟩) | (with_reducible refine ⟨_, _, rfl, ?_⟩) | (with_reducible refine ⟨_, _, _, rfl, ?_⟩) | (with_reducible refine Bi_range1 (fun _ => ?_)) | ((with_reducible (first | refine' L_cons ?_ ?_ | refine' T_cmp ?_ ?_ | refine' E_item ?_ ?_)); rotate_left; wtm_at "mt") | wtm_at "name" | ((with_reducible refine' E_fn ?_ ?_ ?_ ?_ ?_ ?_); rotate_left 2; wtm_at "nm"; (exact fun w => by with_unfolding_all exact rfl); rotate_left; wtm_at "mt"; wtm_at "mt"; rotate_left) | ((with_reducible refine' E_bt ?_ ?_ ?_ ?_); rotate_left; wtm_at "nm"; wtm_at "mt"; wtm_at "mt") | ((with_reducible refine' T_plain ?_ ?_); rotate_left; wtm_at "mt"))) | (focus ((with_reducible refine' S_for_range ?_ ?_ ?_ ?_ ?_); assumption; assumption; wtm_at "loc"; wtm_at "mt")) | refine c_drawn (many := 5) (by decide) (by decide) (by lia) ok U1 (fun n st1 hn hst => ?_))
    all_goals try (rw [hr]; decide)
    refine ⟨_, _, _, _, _, rfl, .head _, RItems.up (by lia) (by lia) (by lia) (by lia), ?_⟩
    rw [show ((n : Int) - 0).toNat = n by lia]
    refine WFor_inv (fun its v l => (E3 fun (i : Nat) (ps : List (List UInt8)) (st' : Pen) => A8 (i ≤ n) (its = ups (i : Int) (n - i)) (ps.length ≤ i) (ps.flatten.length ≤ 60 * i) ((∀ p ∈ ps, Piece q p)) (PenOk (B + 1 + 3 * i) st') (v = ([("pen", .ref P), ("is_quoted", .bool q), ("found", .bytes ps.flatten), ("barred", .ref Ba)] : Vars)) (l = (Ba, .tuple ((barS q).map PV.int)) :: f st'))) ?_ ?_ _ _ _ ?_
    · rintro v l ⟨i, ps, st', hi1, hu, hp1, hp2, hp3, hst', rfl, rfl⟩
      repeat' (first | (focus (first | with_reducible (first | refine Thn_next ?_ | refine Thn_ret ?_ | refine Trn_next ?_ | refine S_nil ?_ | refine S_cons ?_ | refine S_ret ?_ | refine S_if ?_ | refine E_int ?_ | refine E_bytes ?_ | refine L_nil ?_ | refine E_bin ?_ | refine E_if ?_ | refine E_tuple ?_ | refine E_list ?_ | refine B_add ?_ | refine C_eq ?_ | refine Tr_bool ?_ | refine ite_d (fun _ => ?_) (fun _ => ?_) | refine ite_b (fun _ => ?_) (fun _ => ?_)) | ((with_reducible refine' S_set ?_ ?_ ?_ ?_); assumption; rotate_left; wtm_at "loc"; wtm_at "mt") | ((with_reducible refine' S_unR2 ?_ ?_ ?_ ?_ ?_ ?_); assumption; rotate_left; wtm_at "loc"; wtm_at "loc"; wtm_at "mt"; wtm_at "sw") | ((with_reducible refine' B_addB ?_ ?_); rotate_left; wtm_at "sz") | ((with_reducible apply exSet); wtm_at "setv") | ((with_reducible refine' ⟨?_, fun _ => ?_⟩); exact Nat.le_of_ble_eq_true rfl) | (with_reducible refine ⟨_, rfl, ?_⟩) | (with_reducible refine ⟨_, _, rfl, ?_⟩) | (with_reducible refine ⟨_, _, _, rfl, ?_⟩) | (with_reducible refine Bi_range1 (fun _ => ?_)) | ((with_reducible (first | refine' L_cons ?_ ?_ | refine' T_cmp ?_ ?_ | refine' E_item ?_ ?_)); rotate_left; wtm_at "mt") | wtm_at "name" | ((with_reducible refine' E_fn ?_ ?_ ?_ ?_ ?_ ?_); rotate_left 2; wtm_at "nm"; (exact fun w => by with_unfolding_all exact rfl); rotate_left; wtm_at "mt"; wtm_at "mt"; rotate_left) | ((with_reducible refine' E_bt ?_ ?_ ?_ ?_); rotate_left; wtm_at "nm"; wtm_at "mt"; wtm_at "mt") | ((with_reducible refine' T_plain ?_ ?_); rotate_left; wtm_at "mt"))))
      all_goals (have hst2 : PenOk (B + 20) st' := ⟨hst'.1, by have := hst'.2; lia⟩)
      · rename (q = true) => hq
        subst hq
        exact Ret.drop (Ret.here (h ps st' hp3 (by lia) hst2))
      · rename (q = false) => hq
        subst hq
        exact Ret.drop (Ret.here (h ps st' hp3 (by lia) hst2))
    · rintro p its v l ⟨i, ps, st', hi1, hu, hp1, hp2, hp3, hst', rfl, rfl⟩
      have hlt : i < n := by
        rcases Nat.lt_or_ge i n with h | h
        · exact h
        · rw [show n - i = 0 by lia] at hu; cases hu
      rw [show n - i = (n - (i + 1)) + 1 by lia, ups_succ] at hu
      obtain ⟨rfl, rfl⟩ := List.cons.inj hu
      refine ⟨_, by wtm_at "setv", ?_⟩
      refine S_cut (fun v l => (E2 fun (kd : Nat) (st2 : Pen) => A4 (kd < 6) (PenOk (B + 2 + 3 * i) st2) (v = ([("pen", .ref P), ("is_quoted", .bool q), ("found", .bytes ps.flatten), ("barred", .ref Ba), ("lap", .int i), ("kind", .int kd)] : Vars)) (l = (Ba, .tuple ((barS q).map PV.int)) :: f st2))) ?_ ?_
      · repeat' (first | (focus (first | with_reducible (first | refine Thn_next ?_ | refine Thn_ret ?_ | refine Trn_next ?_ | refine S_nil ?_ | refine S_cons ?_ | refine S_ret ?_ | refine S_if ?_ | refine E_int ?_ | refine E_bytes ?_ | refine L_nil ?_ | refine E_bin ?_ | refine E_if ?_ | refine E_tuple ?_ | refine E_list ?_ | refine B_add ?_ | refine C_eq ?_ | refine Tr_bool ?_ | refine ite_d (fun _ => ?_) (fun _ => ?_) | refine ite_b (fun _ => ?_) (fun _ => ?_)) | ((with_reducible refine' S_set ?_ ?_ ?_ ?_); assumption; rotate_left; wtm_at "loc"; wtm_at "mt") | ((with_reducible refine' S_unR2 ?_ ?_ ?_ ?_ ?_ ?_); assumption; rotate_left; wtm_at "loc"; wtm_at "loc"; wtm_at "mt"; wtm_at "sw") | ((with_reducible refine' B_addB ?_ ?_); rotate_left; wtm_at "sz") | ((with_reducible apply exSet); wtm_at "setv") | ((with_reducible refine' ⟨?_, fun _ => ?_⟩); exact Nat.le_of_ble_eq_true rfl) | (with_reducible refine ⟨_, rfl, ?_⟩) | (with_reducible refine ⟨_, _, rfl, ?_⟩) | (with_reducible refine ⟨_, _, _, rfl, ?_⟩) | (with_reducible refine Bi_range1 (fun _ => ?_)) | ((with_reducible (first | refine' L_cons ?_ ?_ | refine' T_cmp ?_ ?_ | refine' E_item ?_ ?_)); rotate_left; wtm_at "mt") | wtm_at "name" | ((with_reducible refine' E_fn ?_ ?_ ?_ ?_ ?_ ?_); rotate_left 2; wtm_at "nm"; (exact fun w => by with_unfolding_all exact rfl); rotate_left; wtm_at "mt"; wtm_at "mt"; rotate_left) | ((with_reducible refine' E_bt ?_ ?_ ?_ ?_); rotate_left; wtm_at "nm"; wtm_at "mt"; wtm_at "mt") | ((with_reducible refine' T_plain ?_ ?_); rotate_left; wtm_at "mt"))) | refine c_drawn (many := 6) (B := B + 1 + 3 * i) (by decide) (by decide) (by lia) hst' (U1.next st') (fun kd st2 hk hst2 => ?_))
        · rw [hr]; decide
        · exact ⟨by trivial, _, _, Wk.refl, kd, st2, hk, by rw [show B + 2 + 3 * i = B + 1 + 3 * i + 1 by lia]; exact hst2, rfl, rfl⟩
      · rintro v l ⟨kd, st2, hk, hst2, rfl, rfl⟩
        have U2 := U1.next st2
        have fin : ∀ (p : List UInt8) st3, Piece q p → p.length ≤ 60 → PenOk (B + 4 + 3 * i) st3 → (E3 fun (i' : Nat) (ps' : List (List UInt8)) (st' : Pen) => A8 (i' ≤ n) (ups ((i + 1 : Nat) : Int) (n - (i + 1)) = ups (i' : Int) (n - i')) (ps'.length ≤ i') (ps'.flatten.length ≤ 60 * i') ((∀ p ∈ ps', Piece q p)) (PenOk (B + 1 + 3 * i') st') (([("pen", .ref P), ("is_quoted", .bool q), ("found", .bytes (ps.flatten ++ p)), ("barred", .ref Ba)] : Vars) = ([("pen", .ref P), ("is_quoted", .bool q), ("found", .bytes ps'.flatten), ("barred", .ref Ba)] : Vars)) ((Ba, PO.tuple ((barS q).map PV.int)) :: f st3 = (Ba, .tuple ((barS q).map PV.int)) :: f st')) := by
          intro p st3 hp hl hk
          refine ⟨i + 1, ps ++ [p], st3, by lia, rfl, by simp; lia, by simp only [List.flatten_append, List.flatten_cons, List.flatten_nil, List.append_nil, List.length_append]; lia, ?_, ?_, by simp, rfl⟩
          · intro r hr
            rcases List.mem_append.mp hr with h | h
            · exact hp3 r h
            · rw [List.mem_singleton.mp h]; exact hp
          · rw [show B + 1 + 3 * (i + 1) = B + 4 + 3 * i by lia]; exact hk
        have up : ∀ {b st3}, PenOk b st3 → b ≤ B + 4 + 3 * i → PenOk (B + 4 + 3 * i) st3 := fun h hb => ⟨h.1, Nat.le_trans h.2 hb⟩
        have hw : ∀ (k : Nat) (x : UInt8), (List.replicate k [x]).flatten.length = k := by intro k x; simp
        repeat' (first | (focus (first | with_reducible (first | refine Thn_next ?_ | refine Thn_ret ?_ | refine Trn_next ?_ | refine S_nil ?_ | refine S_cons ?_ | refine S_ret ?_ | refine S_if ?_ | refine E_int ?_ | refine E_bytes ?_ | refine L_nil ?_ | refine E_bin ?_ | refine E_if ?_ | refine E_tuple ?_ | refine E_list ?_ | refine B_add ?_ | refine C_eq ?_ | refine Tr_bool ?_ | refine ite_d (fun _ => ?_) (fun _ => ?_) | refine ite_b (fun _ => ?_) (fun _ => ?_)) | ((with_reducible refine' S_set ?_ ?_ ?_ ?_); assumption; rotate_left; wtm_at "loc"; wtm_at "mt") | ((with_reducible refine' S_unR2 ?_ ?_ ?_ ?_ ?_ ?_); assumption; rotate_left; wtm_at "loc"; wtm_at "loc"; wtm_at "mt"; wtm_at "sw") | ((with_reducible refine' B_addB ?_ ?_); rotate_left; wtm_at "sz") | ((with_reducible apply exSet); wtm_at "setv") | ((with_reducible refine' ⟨?_, fun _ => ?_⟩); exact Nat.le_of_ble_eq_true rfl) | (with_reducible refine ⟨_, rfl, ?_⟩) | (with_reducible refine ⟨_, _, rfl, ?_⟩) | (with_reducible refine ⟨_, _, _, rfl, ?_⟩) | (with_reducible refine Bi_range1 (fun _ => ?_)) | ((with_reducible (first | refine' L_cons ?_ ?_ | refine' T_cmp ?_ ?_ | refine' E_item ?_ ?_)); rotate_left; wtm_at "mt") | wtm_at "name" | ((with_reducible refine' E_fn ?_ ?_ ?_ ?_ ?_ ?_); rotate_left 2; wtm_at "nm"; (exact fun w => by with_unfolding_all exact rfl); rotate_left; wtm_at "mt"; wtm_at "mt"; rotate_left) | ((with_reducible refine' E_bt ?_ ?_ ?_ ?_); rotate_left; wtm_at "nm"; wtm_at "mt"; wtm_at "mt") | ((with_reducible refine' T_plain ?_ ?_); rotate_left; wtm_at "mt")))
                       | refine c_plain (B := B + 2 + 3 * i) (bs := barS q) (by lia) (by cases q <;> decide) hst2 U2 (fun _ => .head _) (fun u st3 hnb hst3 => ?_)
                       | refine c_plain (B := B + 2 + 3 * i + 1) (bs := [34, 40, 41, 92]) (by lia) (by decide) hst3 (.there (U1.next st3)) (fun _ => .head _) (fun w st4 hnb hst4 => ?_)
                       | refine c_drawn (many := 256) (B := B + 2 + 3 * i) (by decide) (by decide) (by lia) hst2 U2 (fun u st3 hu256 hst3 => ?_)
                       | refine c_drawn (many := 25) (B := B + 2 + 3 * i) (by decide) (by decide) (by lia) hst2 U2 (fun u st3 hu25 hst3 => ?_)
                       | refine c_drawn (many := 2) (B := B + 2 + 3 * i) (by decide) (by decide) (by lia) hst2 (.there (U1.next st2)) (fun u st3 hu2 hst3 => ?_)
                       | refine Bi_bytes (ns := [92, (u : Int)]) (.head _) rfl (by simp; lia) (by simp) ?_
                       | refine It_tup (v := .bytes [if u = 0 then 13 else 0]) (.head _) (by lia) (by obtain rfl | rfl : u = 0 ∨ u = 1 := (by lia) <;> rfl) (by simp) ?_
                       | refine B_mulB (n := 1 + u) (by simp; lia) (by lia) ?_
                       | refine B_addB ?_ (by simp only [List.length_append, hw, List.length_cons, List.length_nil]; lia))
        all_goals try (rw [hr]; decide)
        all_goals clear U U1 ok hst hst' hB hp3 U2
        · refine ⟨_, _, ?_, fin [u] st3 (.plain ‹_›) (by simp) (up hst3 (by lia))⟩
          wtm_at "wk"
        · refine ⟨_, _, ?_, fin [92, UInt8.ofNat u] st3 .esc (by simp) (up hst3 (by lia))⟩
          wtm_at "wk"
        · refine ⟨_, _, ?_, fin _ st2 .inw (by simp) (up hst2 (by lia))⟩
          wtm_at "wk"
        · rw [show ps.flatten ++ (List.replicate (1 + u) [40]).flatten ++ [w] ++ (List.replicate (1 + u) [41]).flatten = ps.flatten ++ ((List.replicate (1 + u) [40]).flatten ++ [w] ++ (List.replicate (1 + u) [41]).flatten) by simp only [List.append_assoc]]
          refine ⟨_, _, ?_, fin _ st4 (.nest (k := 1 + u) (u := w) (by lia) (by lia) hnb) (by simp only [List.length_append, hw, List.length_cons, List.length_nil]; lia) (up hst4 (by lia))⟩
          wtm_at "wk"
        · rename (q = true) => hq
          subst hq
          refine ⟨_, _, ?_, fin [40] st2 .other (by simp) (up hst2 (by lia))⟩
          wtm_at "wk"
        · rename (q = false) => hq
          subst hq
          refine ⟨_, _, ?_, fin [34] st2 .other (by simp) (up hst2 (by lia))⟩
          wtm_at "wk"
        · refine ⟨_, _, ?_, fin [if u = 0 then 13 else 0] st3 (by split; exact .cr; exact .nul) (by simp) (up hst3 (by lia))⟩
          wtm_at "wk"
    · exact ⟨_, _, ⟨.refl _, (List.Sublist.refl _).cons _⟩, 0, [], st1, by lia, rfl, by simp, by simp, by simp, hst, rfl, rfl⟩
end
end
section
noncomputable def leadOf (way many : Nat) : List UInt8 :=
  match way with
  | 0 => []
  | 1 => [34]
  | 2 => (List.replicate (1 + many) [40]).flatten
  | 3 => [34] ++ (List.replicate many [92, 34]).flatten
  | _ => [40] ++ (List.replicate many [92, 40]).flatten
/-- one wrapping of a subject's text -/
inductive Wrap (x : List Nat) : List Nat → Bool → Prop
  | re {p} : p ∈ ([[82, 101, 58, 32], [102, 119, 58], [70, 87, 68, 32, 58, 32], [114, 101, 91, 52, 93, 58, 32]] : List (List Nat)) → Wrap x (p ++ x) true
  | fwd {p} : p ∈ ([[32, 40, 102, 119, 100, 41], [40, 70, 119, 100, 41, 9]] : List (List Nat)) → Wrap x (x ++ p) true
  | box : Wrap x ([91, 70, 119, 100, 58, 32] ++ x ++ [93]) true
  | blob : Wrap x ([91, 108, 105, 115, 116, 32, 55, 93, 32, 32] ++ x) false
  | blank : Wrap x ([32] ++ x ++ [13, 10, 32]) false
section
variable {Q : PV → Led → Prop} {X : Led → Prop} {led : Led}
theorem leadOf_len {way many : Nat} (h : many < 40) : (leadOf way many).length ≤ 90 := by
  unfold leadOf; split <;> simp <;> lia
theorem sBox : (Str.ofString "[Fwd: ").cps.toList = [91, 70, 119, 100, 58, 32] := by rfl
theorem sBox' : (Str.ofString "]").cps.toList = [93] := by rfl
theorem sBlob : (Str.ofString "[list 7]  ").cps.toList = [91, 108, 105, 115, 116, 32, 55, 93, 32, 32] := by rfl
theorem sBk : (Str.ofString " ").cps.toList = [32] := by rfl
theorem sBk' : (Str.ofString "\r\n ").cps.toList = [13, 10, 32] := by rfl
noncomputable def reS : List (List Nat) := [[82, 101, 58, 32], [102, 119, 58], [70, 87, 68, 32, 58, 32], [114, 101, 91, 52, 93, 58, 32]]
noncomputable def fwS : List (List Nat) := [[32, 40, 102, 119, 100, 41], [40, 70, 119, 100, 41, 9]]
theorem reS_at {v : Nat} (h : v < 4) : reS.getD v [] ∈ reS ∧ (reS.getD v []).length ≤ 7 := by
  obtain rfl | rfl | rfl | rfl : v = 0 ∨ v = 1 ∨ v = 2 ∨ v = 3 := (by lia) <;> decide
theorem fwS_at {v : Nat} (h : v < 2) : fwS.getD v [] ∈ fwS ∧ (fwS.getD v []).length ≤ 7 := by
  obtain rfl | rfl : v = 0 ∨ v = 1 := (by lia) <;> decide
theorem reI {v : Nat} (h : v < 4) : ([.str (Str.ofString "Re: ").cps.toList, .str (Str.ofString "fw:").cps.toList, .str (Str.ofString "FWD : ").cps.toList, .str (Str.ofString "re[4]: ").cps.toList] : List PV)[((v : Nat) : Int).toNat]? = some (.str (reS.getD v [])) := by
  obtain rfl | rfl | rfl | rfl : v = 0 ∨ v = 1 ∨ v = 2 ∨ v = 3 := (by lia) <;> rfl
theorem fwI {v : Nat} (h : v < 2) : ([.str (Str.ofString " (fwd)").cps.toList, .str (Str.ofString "(Fwd)\t").cps.toList] : List PV)[((v : Nat) : Int).toNat]? = some (.str (fwS.getD v [])) := by
  obtain rfl | rfl : v = 0 ∨ v = 1 := (by lia) <;> rfl
theorem sTu : (Str.ofString "t@u").cps.toList = [116, 64, 117] := by rfl
theorem sVw : (Str.ofString "v@\x5bw]").cps.toList = [118, 64, 91, 119, 93] := by rfl
theorem c_tail {P C : Addr} {st : Pen} {f : Pen → Led} {B : Nat} (hB : B ≤ 10000) (ok : PenOk B st) (U : PenF P C st led f)
    (h : ∀ (way many : Nat) T L st', way < 5 → many < 40 → PenOk (B + 2) st' → Q (.ref T) ((T, .tuple [.bytes (leadOf way many ++ [60, 116, 64, 117, 62, 32, 60, 118, 64, 91, 119, 93, 62]), .ref L]) :: (L, .list [.str [116, 64, 117], .str [118, 64, 91, 119, 93]]) :: f st')) : Fn 258 2 [.ref P] Q X led := by
  refine Fd_1 "pen" (fun w => by exact rfl) (fun w => by exact rfl) (fun _ => rfl) (by decide) (fun c' hr hc hs hi => ?_)
  have hw : ∀ (k : Nat) (x : UInt8), (List.replicate k [x]).flatten.length = k := by intro k x; simp
  have hw2 : ∀ (k : Nat) (x y : UInt8), (List.replicate k [x, y]).flatten.length = k * 2 := by intro k x y; simp
  repeat' (first | (focus (first | with_reducible (first | refine Thn_next ?_ | refine Thn_ret ?_ | refine S_nil ?_ | refine S_cons ?_ | refine S_ret ?_ | refine S_if ?_ | refine E_int ?_ | refine E_str ?_ | refine E_bytes ?_ | refine E_bool ?_ | refine L_nil ?_ | refine E_bin ?_ | refine E_if ?_ | refine E_tuple ?_ | refine E_list ?_ | refine B_add ?_ | refine C_lt ?_ | refine C_eq ?_ | refine Tr_bool ?_ | refine ite_d (fun _ => ?_) (fun _ => ?_)) | ((with_reducible refine' S_set ?_ ?_ ?_ ?_); assumption; rotate_left; wtm_at "loc"; wtm_at "mt") | ((with_reducible refine' S_unR2 ?_ ?_ ?_ ?_ ?_ ?_); assumption; rotate_left; wtm_at "loc"; wtm_at "loc"; wtm_at "mt"; wtm_at "sw") | ((with_reducible (first | refine' B_addB ?_ ?_ | refine' B_addS ?_ ?_)); rotate_left; wtm_at "sz") | ((with_reducible apply exSet); wtm_at "setv") | ((with_reducible refine' ⟨?_, fun _ => ?_⟩); exact Nat.le_of_ble_eq_true rfl) | (with_reducible refine ⟨_, rfl, ?_⟩) | (with_reducible refine ⟨_, _, rfl, ?_⟩) | (with_reducible refine ⟨_, _, _, rfl, ?_⟩) | ((with_reducible (first | refine' L_cons ?_ ?_ | refine' T_cmp ?_ ?_ | refine' E_item ?_ ?_)); rotate_left; wtm_at "mt") | wtm_at "name" | ((with_reducible refine' E_fn ?_ ?_ ?_ ?_ ?_ ?_); rotate_left 2; wtm_at "nm"; (exact fun w => by with_unfolding_all exact rfl); rotate_left; wtm_at "mt"; wtm_at "mt"; rotate_left)))
                   | refine c_drawn (many := 5) (by decide) (by decide) (by lia) ok U (fun way st1 hway hst1 => ?_)
                   | refine c_drawn (many := 40) (by decide) (by decide) (by lia) hst1 (U.next st1) (fun many st2 hmany hst2 => ?_)
                   | refine B_mulB (n := 1 + many) (by simp; lia) (by lia) ?_
                   | refine B_mulB (n := many) (by simp; lia) (by lia) ?_
                   | refine B_addB ?_ (by simp only [hw, hw2, List.length_cons, List.length_nil]; lia)
                   | refine B_addB (x := leadOf way many) ?_ (by have := leadOf_len (way := way) hmany; simp only [List.length_cons, List.length_nil]; lia)
                   | refine It_tup (v := .bytes (leadOf way many)) (.head _) (by lia) (by obtain rfl | rfl | rfl | rfl | rfl : way = 0 ∨ way = 1 ∨ way = 2 ∨ way = 3 ∨ way = 4 := (by lia) <;> rfl) (by simp) ?_)
  all_goals try (rw [hr]; decide)
  rw [sTu, sVw]
  exact ⟨_, (((List.sublist_cons_self _ _).cons _).cons_cons _).cons_cons _, h way many _ _ st2 hway hmany hst2⟩
theorem c_around {P C : Addr} {st : Pen} {f : Pen → Led} {B : Nat} {x : List Nat} (hx : x.length ≤ 100000) (hB : B ≤ 10000) (ok : PenOk B st) (U : PenF P C st led f)
    (h : ∀ (y : List Nat) b T st', Wrap x y b → PenOk (B + 2) st' → Q (.ref T) ((T, .tuple [.str y, .bool b]) :: f st')) : Fn 265 2 [.ref P, .str x] Q X led := by
  refine Fd_2 "pen" "text" (fun w => by exact rfl) (fun w => by exact rfl) (fun _ _ => rfl) (by decide) (by decide) (fun c' hr hc hs hi => ?_)
  have up : ∀ {st3}, PenOk (B + 1) st3 → PenOk (B + 2) st3 := fun h => ⟨h.1, Nat.le_trans h.2 (by lia)⟩
  repeat' (first | (focus (first | with_reducible (first | refine Thn_next ?_ | refine Thn_ret ?_ | refine S_nil ?_ | refine S_cons ?_ | refine S_ret ?_ | refine S_if ?_ | refine E_int ?_ | refine E_str ?_ | refine E_bytes ?_ | refine E_bool ?_ | refine L_nil ?_ | refine E_bin ?_ | refine E_if ?_ | refine E_tuple ?_ | refine E_list ?_ | refine B_add ?_ | refine C_lt ?_ | refine C_eq ?_ | refine Tr_bool ?_ | refine ite_d (fun _ => ?_) (fun _ => ?_)) | ((with_reducible refine' S_set ?_ ?_ ?_ ?_); assumption; rotate_left; wtm_at "loc"; wtm_at "mt") | ((with_reducible refine' S_unR2 ?_ ?_ ?_ ?_ ?_ ?_); assumption; rotate_left; wtm_at "loc"; wtm_at "loc"; wtm_at "mt"; wtm_at "sw") | ((with_reducible (first | refine' B_addB ?_ ?_ | refine' B_addS ?_ ?_)); rotate_left; wtm_at "sz") | ((with_reducible apply exSet); wtm_at "setv") | ((with_reducible refine' ⟨?_, fun _ => ?_⟩); exact Nat.le_of_ble_eq_true rfl) | (with_reducible refine ⟨_, rfl, ?_⟩) | (with_reducible refine ⟨_, _, rfl, ?_⟩) | (with_reducible refine ⟨_, _, _, rfl, ?_⟩) | ((with_reducible (first | refine' L_cons ?_ ?_ | refine' T_cmp ?_ ?_ | refine' E_item ?_ ?_)); rotate_left; wtm_at "mt") | wtm_at "name" | ((with_reducible refine' E_fn ?_ ?_ ?_ ?_ ?_ ?_); rotate_left 2; wtm_at "nm"; (exact fun w => by with_unfolding_all exact rfl); rotate_left; wtm_at "mt"; wtm_at "mt"; rotate_left)))
                   | refine c_drawn (many := 6) (by decide) (by decide) (by lia) ok U (fun way st1 hway hst1 => ?_)
                   | refine c_drawn (many := 4) (by decide) (by decide) (by lia) hst1 (.there (U.next st1)) (fun v st2 hv hst2 => ?_)
                   | refine c_drawn (many := 2) (by decide) (by decide) (by lia) hst1 (.there (U.next st1)) (fun v st2 hv hst2 => ?_)
                   | refine It_tup (v := .str (reS.getD v [])) (.head _) (by lia) (reI hv) (by simp) ?_
                   | refine It_tup (v := .str (fwS.getD v [])) (.head _) (by lia) (fwI hv) (by simp) ?_
                   | refine B_addS (x := reS.getD v []) ?_ (by have := (reS_at hv).2; lia)
                   | refine B_addS (y := fwS.getD v []) ?_ (by have := (fwS_at hv).2; lia)
                   | (rw [sBox]; refine B_addS ?_ (by simp only [List.length_append, List.length_cons, List.length_nil]; lia))
                   | (rw [sBox']; refine B_addS ?_ (by simp only [List.length_append, List.length_cons, List.length_nil]; lia))
                   | (rw [sBlob]; refine B_addS ?_ (by simp only [List.length_append, List.length_cons, List.length_nil]; lia))
                   | (rw [sBk]; refine B_addS ?_ (by simp only [List.length_append, List.length_cons, List.length_nil]; lia))
                   | (rw [sBk']; refine B_addS ?_ (by simp only [List.length_append, List.length_cons, List.length_nil]; lia)))
  all_goals try (rw [hr]; decide)
  · exact Ret.drop2 (Ret.here (h _ _ _ _ (.re (reS_at hv).1) hst2))
  · exact Ret.drop2 (Ret.here (h _ _ _ _ (.fwd (fwS_at hv).1) hst2))
  · exact Ret.here (h _ _ _ _ .box (up hst1))
  · exact Ret.here (h _ _ _ _ .blob (up hst1))
  · exact Ret.here (h _ _ _ _ .blank (up hst1))
end
end
section
/-! the plain law of read_ids -/
inductive Word : List UInt8 → Prop
  | quoted {ps : List (List UInt8)} : (∀ p ∈ ps, Piece true p) → Word ([34] ++ ps.flatten ++ [34])
  | round {ps : List (List UInt8)} : (∀ p ∈ ps, Piece false p) → Word ([40] ++ ps.flatten ++ [41])
noncomputable def oddS : List (List UInt8) := [[], [32], [13, 10, 32], [119, 111, 114, 100], [92], [41], [62], [64], [91], [93], [0], [233], [60], [60, 97, 32, 98, 64, 99, 62], [60, 64, 99, 62]]
noncomputable def idsS : List (List Nat × List UInt8) := [([97, 46, 98, 64, 99], [60, 97, 46, 98, 64, 99, 62]), ([120, 32, 121, 64, 100], [60, 34, 120, 32, 121, 34, 64, 100, 62]), ([113, 34, 40, 114, 64, 115], [60, 34, 113, 92, 34, 40, 114, 34, 64, 115, 62]),
  ([102, 64, 91, 49, 40, 50, 93], [60, 102, 64, 91, 49, 40, 50, 93, 62]), ([107, 64, 91, 41, 93], [60, 107, 64, 91, 41, 93, 62])]
structure Lap where
  odd : List UInt8
  laid : List UInt8
  told : Option (List Nat)
structure Lap.Ok (l : Lap) : Prop where
  odd : l.odd ∈ oddS
  laid : (∃ t, l.told = some t ∧ (t, l.laid) ∈ idsS) ∨ (l.told = none ∧ Word l.laid)
noncomputable def octL (L : List Lap) : List UInt8 := (L.map fun l => l.odd ++ l.laid).flatten
noncomputable def dueL (L : List Lap) : List (List Nat) := L.filterMap Lap.told
theorem weGo_append : ∀ (x y : List UInt8) (i : Nat) (s : WSt), weGo (x ++ y) i s = weGo y (i + x.length) (weGo x i s)
  | [], y, i, s => rfl
  | u :: r, y, i, s => by
    show weGo (r ++ y) (i + 1) (s.step i u) = _
    rw [weGo_append r y, show i + 1 + r.length = i + (u :: r).length by simp; lia]; rfl
/-! every place that is ever held is a place of a quote or of an opening bracket -/
theorem WSt.only {P : Nat → Prop} {i : Nat} {u : UInt8} {s : WSt} (hu : u = 34 ∨ u = 40 → P i) (hq : ∀ x ∈ s.quotes, P x) (hl : ∀ t ∈ s.levels, ∀ x ∈ t, P x) (hf : ∀ j e, s.found j = some e → P j) :
    (∀ x ∈ (s.step i u).quotes, P x) ∧ (∀ t ∈ (s.step i u).levels, ∀ x ∈ t, P x) ∧ (∀ j e, (s.step i u).found j = some e → P j) := by
  have hset : ∀ qs : List Nat, (∀ x ∈ qs, P x) → ∀ j e, setAll s.found qs (i + 1) j = some e → P j := by
    intro qs h j e he
    unfold setAll at he
    split at he
    · exact h j (by assumption)
    · exact hf j e he
  unfold WSt.step WSt.mid
  split
  · have hp := hu (.inl ‹_›)
    split
    · refine ⟨fun x hx => ?_, hl, hf⟩
      rcases List.mem_append.mp hx with h | h
      · exact hq x h
      · rw [List.mem_singleton.mp h]; exact hp
    · exact ⟨fun x hx => by rw [List.mem_singleton.mp hx]; exact hp, hl, hset _ hq⟩
  · split
    · have hp := hu (.inr ‹_›)
      split
      · refine ⟨hq, fun t ht x hx => ?_, hf⟩
        simp only at ht
        split at ht
        · rename_i t0 r0 e
          rcases List.mem_cons.mp ht with rfl | ht
          · rcases List.mem_append.mp hx with h | h
            · exact hl t0 (by rw [e]; exact .head _) x h
            · rw [List.mem_singleton.mp h]; exact hp
          · exact hl t (by rw [e]; exact .tail _ ht) x hx
        · cases ht
      · refine ⟨hq, fun t ht x hx => ?_, hf⟩
        rcases List.mem_cons.mp ht with rfl | ht
        · rw [List.mem_singleton.mp hx]; exact hp
        · exact hl t ht x hx
    · split
      · refine ⟨hq, fun t ht x hx => ?_, hset _ ?_⟩
        · simp only at ht
          split at ht
          · rename_i t0 y r e
            exact hl t (by rw [e]; exact .tail _ ht) x hx
          · rw [List.mem_singleton.mp ht] at hx; cases hx
        · intro x hx
          cases hlv : s.levels with
          | nil => rw [hlv] at hx; cases hx
          | cons t r => rw [hlv] at hx; exact hl t (by rw [hlv]; exact .head _) x hx
      · exact ⟨hq, hl, hf⟩
theorem weGo_only {P : Nat → Prop} : ∀ (d : List UInt8) (i : Nat) (s : WSt), (∀ k, k < d.length → (d.getD k 0 = 34 ∨ d.getD k 0 = 40) → P (i + k)) → (∀ x ∈ s.quotes, P x) → (∀ t ∈ s.levels, ∀ x ∈ t, P x) → (∀ j e, s.found j = some e → P j) →
    (∀ x ∈ (weGo d i s).quotes, P x) ∧ (∀ t ∈ (weGo d i s).levels, ∀ x ∈ t, P x) ∧ (∀ j e, (weGo d i s).found j = some e → P j)
  | [], _, _, _, h1, h2, h3 => ⟨h1, h2, h3⟩
  | u :: r, i, s, h, h1, h2, h3 => by
    obtain ⟨a, b, c⟩ := WSt.only (u := u) (i := i) (fun hu => h 0 (by simp) hu) h1 h2 h3
    exact weGo_only r (i + 1) _ (fun k hk hu => by have := h (k + 1) (by simp; lia) hu; rwa [show i + (k + 1) = i + 1 + k by lia] at this) a b c
theorem weS_sign {d : List UInt8} {j e : Nat} (h : weS d j = some e) : d.getD j 0 = 34 ∨ d.getD j 0 = 40 :=
  (weGo_only (P := fun j => d.getD j 0 = 34 ∨ d.getD j 0 = 40) d 0 _ (fun k _ hu => by rwa [Nat.zero_add]) (by simp) (by simp) (by simp)).2.2 j e h
theorem weS_none {d : List UInt8} {j : Nat} (h1 : d.getD j 0 ≠ 34) (h2 : d.getD j 0 ≠ 40) : weS d j = none := by
  cases h : weS d j with
  | none => rfl
  | some e => exact absurd (weS_sign h) (by simp only [h1, h2, or_self, not_false_eq_true])
/-! the state's form -/
structure Wf (i : Nat) (s : WSt) : Prop where
  q : ∀ x ∈ s.quotes, x < i
  l : ∀ t ∈ s.levels, ∀ x ∈ t, x < i
  ne : s.levels ≠ []
  f : ∀ j e, s.found j = some e → j < i
theorem step_ne {i : Nat} {u : UInt8} {s : WSt} (h : s.levels ≠ []) : (s.step i u).levels ≠ [] := by
  unfold WSt.step WSt.mid
  split
  · split <;> exact h
  · split
    · split
      · simp only; split
        · simp
        · exact absurd ‹_› h
      · simp
    · split
      · simp only; split <;> simp
      · exact h
theorem Wf.step {i : Nat} {u : UInt8} {s : WSt} (h : Wf i s) : Wf (i + 1) (s.step i u) := by
  have := WSt.only (P := fun x => x < i + 1) (u := u) (i := i) (s := s) (fun _ => by lia) (fun x hx => by have := h.q x hx; lia) (fun t ht x hx => by have := h.l t ht x hx; lia) (fun j e he => by have := h.f j e he; lia)
  exact ⟨this.1, this.2.1, step_ne h.ne, this.2.2⟩
theorem Wf.go : ∀ (d : List UInt8) (i : Nat) (s : WSt), Wf i s → Wf (i + d.length) (weGo d i s)
  | [], _, _, h => h
  | u :: r, i, s, h => by
    have := Wf.go r (i + 1) _ (h.step (u := u))
    rwa [show i + 1 + r.length = i + (u :: r).length by simp; lia] at this
noncomputable def w0 : WSt := ⟨fun _ => none, [], [[]], false⟩
theorem Wf.start : Wf 0 w0 := ⟨fun x h => (nomatch h), fun t ht x hx => (by rw [List.mem_singleton.mp ht] at hx; cases hx), (by simp [w0]), fun j e h => (by cases h)⟩
/-- a place that is held no more keeps what it got -/
theorem settled {p : Nat} : ∀ (d : List UInt8) (i : Nat) (s : WSt), p < i → p ∉ s.quotes → (∀ t ∈ s.levels, p ∉ t) → (weGo d i s).found p = s.found p
  | [], _, _, _, _, _ => rfl
  | u :: r, i, s, hp, hq, hl => by
    have hset : ∀ qs : List Nat, p ∉ qs → setAll s.found qs (i + 1) p = s.found p := fun qs h => by unfold setAll; rw [if_neg h]
    have hlh : p ∉ s.levels.headD [] := by
      cases hlv : s.levels with
      | nil => simp
      | cons t r => exact hl t (by rw [hlv]; exact .head _)
    have key : p ∉ (s.step i u).quotes ∧ (∀ t ∈ (s.step i u).levels, p ∉ t) ∧ (s.step i u).found p = s.found p := by
      unfold WSt.step WSt.mid
      split
      · split
        · exact ⟨by simp only [List.mem_append, List.mem_singleton]; rintro (h | h); exact hq h; lia, hl, rfl⟩
        · exact ⟨by simp; lia, hl, hset _ hq⟩
      · split
        · split
          · refine ⟨hq, fun t ht => ?_, rfl⟩
            simp only at ht
            split at ht
            · rename_i t0 r0 e
              rcases List.mem_cons.mp ht with rfl | ht
              · simp only [List.mem_append, List.mem_singleton]; rintro (h | h)
                · exact hl t0 (by rw [e]; exact .head _) h
                · lia
              · exact hl t (by rw [e]; exact .tail _ ht)
            · cases ht
          · refine ⟨hq, fun t ht => ?_, rfl⟩
            rcases List.mem_cons.mp ht with rfl | ht
            · simp; lia
            · exact hl t ht
        · split
          · refine ⟨hq, fun t ht => ?_, hset _ hlh⟩
            simp only at ht
            split at ht
            · rename_i t0 y r e
              exact hl t (by rw [e]; exact .tail _ ht)
            · rw [List.mem_singleton.mp ht]; simp
          · exact ⟨hq, hl, rfl⟩
    exact (settled r (i + 1) _ (by lia) key.1 key.2.1).trans key.2.2
/-! a quoted word -/
structure QIn (p i : Nat) (s : WSt) : Prop where
  lt : p < i
  q : p ∈ s.quotes
  l : ∀ t ∈ s.levels, p ∉ t
  t : s.taken = false
theorem mid_free {s : WSt} {i : Nat} {u : UInt8} (h1 : u ≠ 34) (h2 : u ≠ 40) (h3 : u ≠ 41) : s.mid i u = s := by
  unfold WSt.mid; rw [if_neg h1, if_neg h2, if_neg (fun h => h3 h.1)]
theorem lv_add {p i : Nat} {lv : List (List Nat)} (hp : p < i) (h : ∀ t ∈ lv, p ∉ t) : ∀ t ∈ (match lv with | t :: r => (t ++ [i]) :: r | [] => []), p ∉ t := by
  intro t ht
  match lv with
  | [] => cases ht
  | t0 :: r =>
    rcases List.mem_cons.mp ht with rfl | ht
    · simp only [List.mem_append, List.mem_singleton]; rintro (h' | h')
      · exact h t0 (.head _) h'
      · lia
    · exact h t (.tail _ ht)
theorem lv_pop {p : Nat} {lv : List (List Nat)} (h : ∀ t ∈ lv, p ∉ t) : ∀ t ∈ (match lv with | _ :: y :: r => y :: r | _ => [[]]), p ∉ t := by
  intro t ht
  match lv with
  | [] => rw [List.mem_singleton.mp ht]; simp
  | [_] => rw [List.mem_singleton.mp ht]; simp
  | _ :: y :: r => exact h t (.tail _ ht)
/-- what any octet does to the levels keeps p out of them -/
theorem mid_l {p i : Nat} {s : WSt} {u : UInt8} (hp : p < i) (h : ∀ t ∈ s.levels, p ∉ t) : ∀ t ∈ (s.mid i u).levels, p ∉ t := by
  unfold WSt.mid
  split
  · split <;> exact h
  · split
    · split
      · exact lv_add hp h
      · intro t ht
        rcases List.mem_cons.mp ht with rfl | ht
        · simp; lia
        · exact h t ht
    · split
      · exact lv_pop h
      · exact h
theorem mid_q {p i : Nat} {s : WSt} {u : UInt8} (hu : u ≠ 34 ∨ s.taken = true) (h : p ∈ s.quotes) : p ∈ (s.mid i u).quotes := by
  unfold WSt.mid
  split
  · rcases hu with hu | hu
    · exact absurd ‹_› hu
    · rw [if_pos hu]; exact List.mem_append_left _ h
  · split
    · split <;> exact h
    · split <;> exact h
theorem QIn.free {p i : Nat} {s : WSt} {u : UInt8} (h : QIn p i s) (h1 : u ≠ 34) (h2 : u ≠ 92) : QIn p (i + 1) (s.step i u) :=
  ⟨by have := h.lt; lia, mid_q (.inl h1) h.q, mid_l h.lt h.l, by show (decide (u = 92) && !s.taken) = false; simp [h2]⟩
theorem QIn.frees {p : Nat} : ∀ (w : List UInt8) {i : Nat} {s : WSt}, QIn p i s → (∀ u ∈ w, u ≠ 34 ∧ u ≠ 92) → QIn p (i + w.length) (weGo w i s)
  | [], _, _, h, _ => h
  | u :: r, i, s, h, hw => by
    have := QIn.frees r (h.free (hw u (.head _)).1 (hw u (.head _)).2) (fun v hv => hw v (.tail _ hv))
    rwa [show i + 1 + r.length = i + (u :: r).length by simp; lia] at this
theorem QIn.esc {p i : Nat} {s : WSt} {u : UInt8} (h : QIn p i s) : QIn p (i + 2) (weGo [92, u] i s) := by
  have e : s.step i 92 = { s with taken := true } := by unfold WSt.step; rw [mid_free (by decide) (by decide) (by decide), h.t]; rfl
  show QIn p (i + 2) ((s.step i 92).step (i + 1) u)
  rw [e]
  exact ⟨by have := h.lt; lia, mid_q (.inr rfl) h.q, mid_l (by have := h.lt; lia) h.l, by show (decide (u = 92) && !true) = false; simp⟩
theorem u8ne {u : UInt8} {q : Bool} {n : Int} (h : (u.toNat : Int) ∉ barS q) (hn : n ∈ barS q) : (u.toNat : Int) ≠ n := fun e => h (e ▸ hn)
theorem mem_flat {k : Nat} {x u : UInt8} (h : u ∈ (List.replicate k [x]).flatten) : u = x := by
  obtain ⟨l, hl, hu⟩ := List.mem_flatten.mp h
  rw [(List.mem_replicate.mp hl).2] at hu
  exact List.mem_singleton.mp hu
theorem u8of {u : UInt8} {n : Nat} (h : (u.toNat : Int) ≠ n) (hn : n < 256) : u ≠ UInt8.ofNat n := by
  rintro rfl; apply h; rw [UInt8.toNat_ofNat']; congr 1; lia
theorem QIn.piece {p i : Nat} {s : WSt} {w : List UInt8} (h : QIn p i s) (hw : Piece true w) : QIn p (i + w.length) (weGo w i s) := by
  cases hw with
  | plain hu => exact h.frees _ (fun v hv => by rw [List.mem_singleton.mp hv]; exact ⟨u8of (n := 34) (u8ne hu (by decide)) (by decide), u8of (n := 92) (u8ne hu (by decide)) (by decide)⟩)
  | esc => exact h.esc
  | inw => exact h.frees _ (by decide)
  | nest h1 h2 hu =>
    refine h.frees _ fun v hv => ?_
    rcases List.mem_append.mp hv with hv | hv
    · rcases List.mem_append.mp hv with hv | hv
      · rw [mem_flat hv]; decide
      · rw [List.mem_singleton.mp hv]; exact ⟨u8of (n := 34) (fun e => hu (by simp [e])) (by decide), u8of (n := 92) (fun e => hu (by simp [e])) (by decide)⟩
    · rw [mem_flat hv]; decide
  | other => exact h.frees _ (by decide)
  | cr => exact h.frees _ (by decide)
  | nul => exact h.frees _ (by decide)
theorem QIn.pieces {p : Nat} : ∀ (ps : List (List UInt8)) {i : Nat} {s : WSt}, QIn p i s → (∀ w ∈ ps, Piece true w) → QIn p (i + ps.flatten.length) (weGo ps.flatten i s)
  | [], _, _, h, _ => h
  | w :: r, i, s, h, hw => by
    have := QIn.pieces r (h.piece (hw w (.head _))) (fun v hv => hw v (.tail _ hv))
    rw [List.flatten_cons, weGo_append, List.length_append, ← Nat.add_assoc]
    exact this
/-! a word in round brackets -/
structure RIn (p i k : Nat) (s : WSt) : Prop where
  lt : p < i
  q : p ∉ s.quotes
  l : ∃ a t r, s.levels = a ++ t :: r ∧ a.length = k ∧ p ∈ t ∧ (∀ x ∈ a, p ∉ x) ∧ (∀ x ∈ r, p ∉ x)
  t : s.taken = false
theorem mid_nq {p i : Nat} {s : WSt} {u : UInt8} (hp : p < i) (h : p ∉ s.quotes) : p ∉ (s.mid i u).quotes := by
  unfold WSt.mid
  split
  · split
    · simp only [List.mem_append, List.mem_singleton]; rintro (h' | h')
      · exact h h'
      · lia
    · simp; lia
  · split
    · split <;> exact h
    · split <;> exact h
theorem mid_lv {s : WSt} {i : Nat} {u : UInt8} (h2 : u ≠ 40) (h3 : u ≠ 41 ∨ s.taken = true) : (s.mid i u).levels = s.levels := by
  unfold WSt.mid
  split
  · split <;> rfl
  · split
    · rename_i h; rcases h3 with h3 | h3
      · exact absurd h.1 h3
      · rw [h3] at h; cases h.2
    · rfl
theorem RIn.flat {p i k : Nat} {s : WSt} {u : UInt8} (h : RIn p i k s) (h2 : u ≠ 40) (h3 : u ≠ 41) (h4 : u ≠ 92) : RIn p (i + 1) k (s.step i u) :=
  ⟨by have := h.lt; lia, mid_nq h.lt h.q, by
    obtain ⟨a, t, r, h'⟩ := h.l
    exact ⟨a, t, r, by show (s.mid i u).levels = _ ∧ _; rw [mid_lv h2 (.inl h3)]; exact h'⟩, by show (decide (u = 92) && !s.taken) = false; simp [h4]⟩
theorem RIn.flats {p k : Nat} : ∀ (w : List UInt8) {i : Nat} {s : WSt}, RIn p i k s → (∀ u ∈ w, u ≠ 40 ∧ u ≠ 41 ∧ u ≠ 92) → RIn p (i + w.length) k (weGo w i s)
  | [], _, _, h, _ => h
  | u :: r, i, s, h, hw => by
    have := RIn.flats r (h.flat (hw u (.head _)).1 (hw u (.head _)).2.1 (hw u (.head _)).2.2) (fun v hv => hw v (.tail _ hv))
    rwa [show i + 1 + r.length = i + (u :: r).length by simp; lia] at this
theorem RIn.up {p i k : Nat} {s : WSt} (h : RIn p i k s) : RIn p (i + 1) (k + 1) (s.step i 40) := by
  have e : (s.mid i 40) = { s with levels := [i] :: s.levels } := by
    unfold WSt.mid; rw [if_neg (by decide), if_pos rfl, if_neg (by rw [h.t]; decide)]
  refine ⟨by have := h.lt; lia, mid_nq h.lt h.q, ?_, by show (decide ((40 : UInt8) = 92) && !s.taken) = false; simp⟩
  obtain ⟨a, t, r, h1, h2, h3, h4, h5⟩ := h.l
  refine ⟨[i] :: a, t, r, ?_, by simp [h2], h3, fun x hx => ?_, h5⟩
  · show (s.mid i 40).levels = _; rw [e]; show [i] :: s.levels = _; rw [h1]; rfl
  · rcases List.mem_cons.mp hx with rfl | hx
    · have := h.lt; simp; lia
    · exact h4 x hx
theorem mid_pop {s : WSt} {i : Nat} (h : s.taken = false) : s.mid i 41 = { s with found := setAll s.found (s.levels.headD []) (i + 1), levels := match s.levels with | _ :: y :: r => y :: r | _ => [[]] } := by
  unfold WSt.mid; rw [if_neg (by decide), if_neg (by decide), if_pos ⟨rfl, h⟩] <;> rfl
theorem RIn.down {p i k : Nat} {s : WSt} (h : RIn p i (k + 1) s) : RIn p (i + 1) k (s.step i 41) := by
  refine ⟨by have := h.lt; lia, mid_nq h.lt h.q, ?_, by show (decide ((41 : UInt8) = 92) && !s.taken) = false; simp⟩
  obtain ⟨a, t, r, h1, h2, h3, h4, h5⟩ := h.l
  match a, h2 with
  | a0 :: a', h2 =>
    refine ⟨a', t, r, ?_, by simpa using h2, h3, fun x hx => h4 x (.tail _ hx), h5⟩
    show (s.mid i 41).levels = _
    rw [mid_pop h.t, h1]
    match a' with
    | [] => rfl
    | _ :: _ => rfl
theorem RIn.ups {p i k : Nat} {s : WSt} (h : RIn p i k s) : ∀ n, RIn p (i + n) (k + n) (weGo (List.replicate n [40]).flatten i s)
  | 0 => h
  | n + 1 => by
    have : RIn p (i + 1 + n) (k + 1 + n) (weGo (List.replicate n [40]).flatten (i + 1) (s.step i 40)) := RIn.ups h.up n
    rwa [show i + 1 + n = i + (n + 1) by lia, show k + 1 + n = k + (n + 1) by lia] at this
theorem RIn.downs {p k : Nat} : ∀ (n : Nat) {i : Nat} {s : WSt}, RIn p i (k + n) s → RIn p (i + n) k (weGo (List.replicate n [41]).flatten i s)
  | 0, _, _, h => h
  | n + 1, i, s, h => by
    have : RIn p (i + 1 + n) k (weGo (List.replicate n [41]).flatten (i + 1) (s.step i 41)) := RIn.downs n (RIn.down h)
    rwa [show i + 1 + n = i + (n + 1) by lia] at this
theorem RIn.esc {p i k : Nat} {s : WSt} {u : UInt8} (h : RIn p i k s) : RIn p (i + 2) k (weGo [92, u] i s) := by
  have e : s.step i 92 = { s with taken := true } := by unfold WSt.step; rw [mid_free (by decide) (by decide) (by decide), h.t]; rfl
  show RIn p (i + 2) k ((s.step i 92).step (i + 1) u)
  rw [e]
  have hl := h.lt
  refine ⟨by lia, mid_nq (by lia) h.q, ?_, by show (decide (u = 92) && !true) = false; simp⟩
  obtain ⟨a, t, r, h1, h2, h3, h4, h5⟩ := h.l
  by_cases hu : u = 40
  · have e : ((({ s with taken := true } : WSt).mid (i + 1) u).levels) = (match s.levels with | t :: r => (t ++ [i + 1]) :: r | [] => []) := by
      subst hu; rfl
    show ∃ a t r, (({ s with taken := true } : WSt).mid (i + 1) u).levels = _ ∧ _
    rw [e, h1]
    match a with
    | [] => exact ⟨[], t ++ [i + 1], r, rfl, h2, List.mem_append_left _ h3, by simp, h5⟩
    | a0 :: a' =>
      refine ⟨(a0 ++ [i + 1]) :: a', t, r, rfl, h2, h3, fun x hx => ?_, h5⟩
      rcases List.mem_cons.mp hx with rfl | hx
      · simp only [List.mem_append, List.mem_singleton]; rintro (h' | h')
        · exact h4 a0 (.head _) h'
        · lia
      · exact h4 x (.tail _ hx)
  · exact ⟨a, t, r, by show (({ s with taken := true } : WSt).mid (i + 1) u).levels = _ ∧ _; rw [mid_lv hu (.inr rfl)]; exact ⟨h1, h2, h3, h4, h5⟩⟩
theorem RIn.piece {p i k : Nat} {s : WSt} {w : List UInt8} (h : RIn p i k s) (hw : Piece false w) : RIn p (i + w.length) k (weGo w i s) := by
  cases hw with
  | plain hu => exact h.flats _ (fun v hv => by rw [List.mem_singleton.mp hv]; exact ⟨u8of (n := 40) (u8ne hu (by decide)) (by decide), u8of (n := 41) (u8ne hu (by decide)) (by decide), u8of (n := 92) (u8ne hu (by decide)) (by decide)⟩)
  | esc => exact h.esc
  | inw => exact h.flats _ (by decide)
  | @nest n u h1 h2 hu =>
    have a := h.ups n
    have b := a.flat (u := u) (u8of (n := 40) (fun e => hu (by simp [e])) (by decide)) (u8of (n := 41) (fun e => hu (by simp [e])) (by decide)) (u8of (n := 92) (fun e => hu (by simp [e])) (by decide))
    have c := RIn.downs n b
    have hl : ∀ x : UInt8, (List.replicate n [x]).flatten.length = n := by intro x; simp
    rw [List.append_assoc, weGo_append, List.length_append, hl, ← Nat.add_assoc]
    show RIn p _ k (weGo (List.replicate n [41]).flatten (i + n + 1) _)
    rw [show i + n + ([u] ++ (List.replicate n [41]).flatten : List UInt8).length = i + n + 1 + n by rw [List.length_append, hl]; simp; lia]
    exact c
  | other => exact h.flats _ (by decide)
  | cr => exact h.flats _ (by decide)
  | nul => exact h.flats _ (by decide)
theorem RIn.pieces {p : Nat} : ∀ (ps : List (List UInt8)) {i : Nat} {s : WSt}, RIn p i 0 s → (∀ w ∈ ps, Piece false w) → RIn p (i + ps.flatten.length) 0 (weGo ps.flatten i s)
  | [], _, _, h, _ => h
  | w :: r, i, s, h, hw => by
    have := RIn.pieces r (h.piece (hw w (.head _))) (fun v hv => hw v (.tail _ hv))
    rw [List.flatten_cons, weGo_append, List.length_append, ← Nat.add_assoc]
    exact this
/-! a word's first place gets the word's end, and is then settled -/
theorem word_step {p : Nat} {s : WSt} {w : List UInt8} (hs : Wf p s) (hw : Word w) : (weGo w p s).found p = some (p + w.length) ∧ p ∉ (weGo w p s).quotes ∧ ∀ t ∈ (weGo w p s).levels, p ∉ t := by
  have hq : p ∉ s.quotes := fun h => by have := hs.q p h; lia
  have hl : ∀ t ∈ s.levels, p ∉ t := fun t ht h => by have := hs.l t ht p h; lia
  cases hw with
  | @quoted ps hp =>
    have h1 : QIn p (p + 1) (s.step p 34) := by
      refine ⟨by lia, ?_, ?_, by show (decide ((34 : UInt8) = 92) && !s.taken) = false; simp⟩
      · show p ∈ (s.mid p 34).quotes
        unfold WSt.mid; rw [if_pos rfl]; split <;> simp
      · show ∀ t ∈ (s.mid p 34).levels, p ∉ t
        unfold WSt.mid; rw [if_pos rfl]; split <;> exact hl
    have h2 := h1.pieces ps hp
    rw [weGo_append, show p + ([34] ++ ps.flatten : List UInt8).length = p + 1 + ps.flatten.length by simp; lia]
    have e : weGo ([34] ++ ps.flatten) p s = weGo ps.flatten (p + 1) (s.step p 34) := rfl
    rw [e]
    generalize weGo ps.flatten (p + 1) (s.step p 34) = s2 at h2
    have e2 : s2.mid (p + 1 + ps.flatten.length) 34 = { s2 with found := setAll s2.found s2.quotes (p + 1 + ps.flatten.length + 1), quotes := [p + 1 + ps.flatten.length] } := by
      unfold WSt.mid; rw [if_pos rfl, if_neg (by rw [h2.t]; decide)]
    show (s2.mid _ 34).found p = _ ∧ p ∉ (s2.mid _ 34).quotes ∧ ∀ t ∈ (s2.mid _ 34).levels, p ∉ t
    rw [e2]
    refine ⟨?_, by simp; lia, h2.l⟩
    show setAll _ _ _ p = _
    unfold setAll; rw [if_pos h2.q]; simp; lia
  | @round ps hp =>
    have h1 : RIn p (p + 1) 0 (s.step p 40) := by
      refine ⟨by lia, ?_, ?_, by show (decide ((40 : UInt8) = 92) && !s.taken) = false; simp⟩
      · show p ∉ (s.mid p 40).quotes
        unfold WSt.mid; rw [if_neg (by decide), if_pos rfl]; split <;> exact hq
      · show ∃ a t r, (s.mid p 40).levels = _ ∧ _
        unfold WSt.mid; rw [if_neg (by decide), if_pos rfl]
        split
        · simp only
          cases hlv : s.levels with
          | nil => exact absurd hlv hs.ne
          | cons t r => exact ⟨[], t ++ [p], r, rfl, rfl, by simp, by simp, fun x hx => hl x (by rw [hlv]; exact .tail _ hx)⟩
        · exact ⟨[], [p], s.levels, rfl, rfl, by simp, by simp, hl⟩
    have h2 := h1.pieces ps hp
    rw [weGo_append, show p + ([40] ++ ps.flatten : List UInt8).length = p + 1 + ps.flatten.length by simp; lia]
    have e : weGo ([40] ++ ps.flatten) p s = weGo ps.flatten (p + 1) (s.step p 40) := rfl
    rw [e]
    generalize weGo ps.flatten (p + 1) (s.step p 40) = s2 at h2
    obtain ⟨a, t, r, l1, l2, l3, l4, l5⟩ := h2.l
    obtain rfl := List.length_eq_zero_iff.mp l2
    show (s2.mid _ 41).found p = _ ∧ p ∉ (s2.mid _ 41).quotes ∧ ∀ t ∈ (s2.mid _ 41).levels, p ∉ t
    rw [mid_pop h2.t, l1]
    refine ⟨?_, h2.q, ?_⟩
    · show setAll _ _ _ p = _
      unfold setAll; rw [if_pos (by exact l3)]; simp; lia
    · match r, l5 with
      | [], _ => intro t ht; rw [List.mem_singleton.mp ht]; simp
      | y :: r', l5 => exact l5
theorem word_found {pre w post : List UInt8} (hw : Word w) : weS (pre ++ w ++ post) pre.length = some (pre.length + w.length) := by
  have hwf : Wf pre.length (weGo pre 0 w0) := by have := Wf.go pre 0 w0 Wf.start; rwa [Nat.zero_add] at this
  obtain ⟨a, b, c⟩ := word_step hwf hw
  have hpos : 0 < w.length := by cases hw <;> simp
  show (weGo (pre ++ w ++ post) 0 w0).found pre.length = _
  rw [List.append_assoc, weGo_append, weGo_append, Nat.zero_add, settled _ _ _ (by lia) b c]
  exact a
end
section
/-! walking over the octets -/
theorem getD_pre {pre post : List UInt8} {u : UInt8} : (pre ++ u :: post).getD pre.length 0 = u := by
  rw [List.getD_eq_getElem?_getD, List.getElem?_append_right (Nat.le_refl _)]; simp
theorem drop_pre {pre post : List UInt8} : (pre ++ post).drop pre.length = post := by simp
/-- octets through which the reading goes one by one -/
noncomputable def Thru : List UInt8 → List UInt8 → Prop
  | [], _ => True
  | u :: r, post => (u ≠ 34 ∧ u ≠ 40) ∧ (u = 60 → idS (u :: (r ++ post)) = none) ∧ Thru r post
theorem Reads'.stop' {d : List UInt8} {f : Nat → Option Nat} {j : Nat} {ts : List (List Nat)} (h : Reads' d f j ts) (hj : d.length ≤ j) : ts = [] := by
  cases h with
  | stop => rfl
  | id h1 => lia
  | torn h1 => lia
  | other h1 => lia
theorem Reads'.plain {d : List UInt8} {f : Nat → Option Nat} {pre post : List UInt8} {u : UInt8} {ts : List (List Nat)} (hd : d = pre ++ u :: post) (hu : u ≠ 60) (hf : f pre.length = none) (h : Reads' d f pre.length ts) : Reads' d f (pre.length + 1) ts := by
  have e : d.getD pre.length 0 = u := by rw [hd]; exact getD_pre
  have hl : pre.length < d.length := by rw [hd]; simp
  cases h with
  | stop h1 => lia
  | id h1 h2 => rw [e] at h2; exact absurd h2 hu
  | torn h1 h2 => rw [e] at h2; exact absurd h2 hu
  | other h1 h2 h3 => rwa [hf] at h3
theorem Reads'.tear {d : List UInt8} {f : Nat → Option Nat} {pre post : List UInt8} {ts : List (List Nat)} (hd : d = pre ++ 60 :: post) (hi : idS (60 :: post) = none) (h : Reads' d f pre.length ts) : Reads' d f (pre.length + 1) ts := by
  have e : d.getD pre.length 0 = 60 := by rw [hd]; exact getD_pre
  have hl : pre.length < d.length := by rw [hd]; simp
  have ed : d.drop pre.length = 60 :: post := by rw [hd]; exact drop_pre
  cases h with
  | stop h1 => lia
  | id h1 h2 h3 => rw [ed, hi] at h3; cases h3
  | torn h1 h2 h3 h4 => exact h4
  | other h1 h2 => exact absurd e h2
theorem Reads'.whole {d : List UInt8} {f : Nat → Option Nat} {pre post : List UInt8} {o : List UInt8} {n : Nat} {ts : List (List Nat)} (hd : d = pre ++ 60 :: post) (hi : idS (60 :: post) = some (o, n)) (h : Reads' d f pre.length ts) :
    ∃ ts', ts = o.map UInt8.toNat :: ts' ∧ Reads' d f (pre.length + n) ts' := by
  have e : d.getD pre.length 0 = 60 := by rw [hd]; exact getD_pre
  have hl : pre.length < d.length := by rw [hd]; simp
  have ed : d.drop pre.length = 60 :: post := by rw [hd]; exact drop_pre
  cases h with
  | stop h1 => lia
  | id h1 h2 h3 h4 => rw [ed, hi] at h3; injection h3 with h3; injection h3 with h5 h6; subst h5; subst h6; exact ⟨_, rfl, h4⟩
  | torn h1 h2 h3 h4 => rw [ed, hi] at h3; cases h3
  | other h1 h2 => exact absurd e h2
theorem Reads'.jump {d : List UInt8} {f : Nat → Option Nat} {pre post : List UInt8} {u : UInt8} {e : Nat} {ts : List (List Nat)} (hd : d = pre ++ u :: post) (hu : u ≠ 60) (hf : f pre.length = some e) (h : Reads' d f pre.length ts) : Reads' d f e ts := by
  have e1 : d.getD pre.length 0 = u := by rw [hd]; exact getD_pre
  have hl : pre.length < d.length := by rw [hd]; simp
  cases h with
  | stop h1 => lia
  | id h1 h2 => rw [e1] at h2; exact absurd h2 hu
  | torn h1 h2 => rw [e1] at h2; exact absurd h2 hu
  | other h1 h2 h3 => rwa [hf] at h3
theorem Reads'.thru : ∀ (x pre post : List UInt8) {d : List UInt8} {ts : List (List Nat)}, d = pre ++ x ++ post → Thru x post → Reads' d (weS d) pre.length ts → Reads' d (weS d) (pre.length + x.length) ts
  | [], pre, post, d, ts, hd, ht, h => h
  | u :: r, pre, post, d, ts, hd, ht, h => by
    have hd1 : d = pre ++ u :: (r ++ post) := by rw [hd]; simp
    have h1 : Reads' d (weS d) (pre.length + 1) ts := by
      by_cases hu : u = 60
      · have := ht.2.1 hu; subst hu; exact h.tear hd1 this
      · exact h.plain hd1 hu (weS_none (by rw [hd1, getD_pre]; exact ht.1.1) (by rw [hd1, getD_pre]; exact ht.1.2))
    have h2 : Reads' d (weS d) (pre ++ [u]).length ts := by rwa [List.length_append, List.length_singleton]
    have := Reads'.thru r (pre ++ [u]) post (by rw [hd]; simp) ht.2.2 h2
    rwa [List.length_append, List.length_singleton, show pre.length + 1 + r.length = pre.length + (u :: r).length by simp; lia] at this
/-! what stands for an id -/
theorem runN_stop {u : UInt8} {r : List UInt8} (h : isRunC u.toNat = false) : runN (u :: r) = 0 := by simp [runN, h]
theorem runN_go {u : UInt8} {r : List UInt8} (h : isRunC u.toNat = true) : runN (u :: r) = runN r + 1 := by simp [runN, h]
noncomputable def headOk (u : UInt8) : Prop := u = 60 ∨ u = 34 ∨ u = 40
theorem ids_head : ∀ p ∈ idsS, p.2.head? = some 60 := by decide
theorem Lap.Ok.head {l : Lap} (h : l.Ok) : (E2 fun u r => A2 (l.laid = u :: r) (headOk u)) := by
  rcases h.laid with ⟨t, _, h⟩ | ⟨_, h⟩
  · obtain ⟨r, e⟩ := List.head?_eq_some_iff.mp (ids_head _ h)
    exact ⟨60, r, e, .inl rfl⟩
  · generalize l.laid = w at h
    cases h with
    | quoted => exact ⟨34, _, rfl, .inr (.inl rfl)⟩
    | round => exact ⟨40, _, rfl, .inr (.inr rfl)⟩
theorem side_head {u : UInt8} {r : List UInt8} (h : headOk u) : sideS 91 93 [91] (u :: r) = none := by
  unfold sideS
  rcases h with rfl | rfl | rfl <;> (rw [if_neg (by simp), if_pos (runN_stop (by decide))])
theorem closed_end {q : UInt8} {bar r : List UInt8} : closedS q bar (q :: r) = some ([], 1) := by rw [closedS_cons, if_pos rfl]
theorem inside_plain {u : UInt8} {r : List UInt8} (h1 : u ≠ 92) (h2 : u ≠ 0) (h3 : u ≠ 10) (h4 : u ≠ 13) : insideS (u :: r) = some ([u], 1) := by
  have hl : lineE (u :: r) = none := by rw [lineE_eq, if_neg (by simp [h3]), if_neg (by cases r <;> simp [h4])]
  rw [insideS_cons, if_neg h1, hl]
  simp only [h2, h3, h4, or_self, if_false]
theorem closed_plain {q u : UInt8} {bar r : List UInt8} (hq : u ≠ q) (hb : u ∉ bar) (h1 : u ≠ 92) (h2 : u ≠ 0) (h3 : u ≠ 10) (h4 : u ≠ 13) : closedS q bar (u :: r) = (closedS q bar r).map fun p => (u :: p.1, 1 + p.2) := by
  rw [closedS_cons, if_neg hq, if_neg hb, inside_plain h1 h2 h3 h4]; rfl
theorem closed_esc {q v : UInt8} {bar r : List UInt8} (hq : 92 ≠ q) (hb : 92 ∉ bar) (h2 : v ≠ 0) (h3 : v ≠ 10) (h4 : v ≠ 13) : closedS q bar (92 :: v :: r) = (closedS q bar r).map fun p => (v :: p.1, 2 + p.2) := by
  rw [closedS_cons, if_neg hq, if_neg hb, insideS_cons, if_pos rfl]
  simp only [h2, h3, h4, or_self, if_false]; rfl
theorem side_run {q cl : UInt8} {bar l : List UInt8} (x : List UInt8) {n : Nat} (h : l.take 1 ≠ [q]) (hr : runN l = n + 1) (ht : l.take (n + 1) = x) : sideS q cl bar l = some (x, n + 1) := by
  unfold sideS; rw [if_neg h, hr, if_neg (by lia), ht]
theorem side_in {q cl : UInt8} {bar l : List UInt8} : sideS q cl bar (q :: l) = (closedS cl bar l).map fun p => (p.1, p.2 + 1) := by
  unfold sideS; rw [if_pos (show List.take 1 (q :: l) = [q] from rfl)]; rfl
theorem idS_of {l le ri ri' : List UInt8} {n m : Nat} (e1 : sideS 34 34 [] (l.drop 1) = some (le, n)) (h1 : (l.drop (1 + n)).take 1 = [64]) (e2 : sideS 91 93 [91] (l.drop (1 + n + 1)) = some (ri, m))
    (hr : ((l.drop (1 + n + 1)).take 1 = [91] ∧ ri' = [91] ++ ri ++ [93]) ∨ ((l.drop (1 + n + 1)).take 1 ≠ [91] ∧ ri' = ri)) (h3 : (l.drop (1 + n + 1 + m)).take 1 = [62]) (h4 : (le ++ ri').all plainC = true) : idS l = some (le ++ [64] ++ ri', 1 + n + 1 + m + 1) := by
  unfold idS
  rw [e1]
  simp only [e2]
  rw [if_neg (fun h => h h1), if_neg (fun h => h h3)]
  rcases hr with ⟨a, rfl⟩ | ⟨a, rfl⟩
  · rw [if_pos a, if_pos h4]
  · rw [if_neg a, if_pos h4]
theorem ids_read {t w : _} (h : (t, w) ∈ idsS) (post : List UInt8) : ∃ o, idS (w ++ post) = some (o, w.length) ∧ o.map UInt8.toNat = t := by
  simp only [idsS, List.mem_cons, List.not_mem_nil, or_false, Prod.mk.injEq] at h
  rcases h with ⟨rfl, rfl⟩ | ⟨rfl, rfl⟩ | ⟨rfl, rfl⟩ | ⟨rfl, rfl⟩ | ⟨rfl, rfl⟩
  · refine ⟨[97, 46, 98, 64, 99], ?_, by decide⟩
    have e1 : sideS 34 34 [] (97 :: 46 :: 98 :: 64 :: 99 :: 62 :: post) = some ([97, 46, 98], 3) := side_run _ (by simp) (by rw [runN_go (by decide), runN_go (by decide), runN_go (by decide), runN_stop (by decide)]) rfl
    have e2 : sideS 91 93 [91] (99 :: 62 :: post) = some ([99], 1) := side_run _ (by simp) (by rw [runN_go (by decide), runN_stop (by decide)]) rfl
    exact idS_of (l := 60 :: 97 :: 46 :: 98 :: 64 :: 99 :: 62 :: post) (ri' := [99]) e1 rfl e2 (.inr ⟨by simp, rfl⟩) rfl (by decide)
  · refine ⟨[120, 32, 121, 64, 100], ?_, by decide⟩
    have e1 : sideS 34 34 [] (34 :: 120 :: 32 :: 121 :: 34 :: 64 :: 100 :: 62 :: post) = some ([120, 32, 121], 5) := by
      rw [side_in, closed_plain (by decide) (by decide) (by decide) (by decide) (by decide) (by decide), closed_plain (by decide) (by decide) (by decide) (by decide) (by decide) (by decide), closed_plain (by decide) (by decide) (by decide) (by decide) (by decide) (by decide), closed_end]
      rfl
    have e2 : sideS 91 93 [91] (100 :: 62 :: post) = some ([100], 1) := side_run _ (by simp) (by rw [runN_go (by decide), runN_stop (by decide)]) rfl
    exact idS_of (l := 60 :: 34 :: 120 :: 32 :: 121 :: 34 :: 64 :: 100 :: 62 :: post) (ri' := [100]) e1 rfl e2 (.inr ⟨by simp, rfl⟩) rfl (by decide)
  · refine ⟨[113, 34, 40, 114, 64, 115], ?_, by decide⟩
    have e1 : sideS 34 34 [] (34 :: 113 :: 92 :: 34 :: 40 :: 114 :: 34 :: 64 :: 115 :: 62 :: post) = some ([113, 34, 40, 114], 7) := by
      rw [side_in, closed_plain (by decide) (by decide) (by decide) (by decide) (by decide) (by decide), closed_esc (by decide) (by decide) (by decide) (by decide) (by decide), closed_plain (by decide) (by decide) (by decide) (by decide) (by decide) (by decide), closed_plain (by decide) (by decide) (by decide) (by decide) (by decide) (by decide), closed_end]
      rfl
    have e2 : sideS 91 93 [91] (115 :: 62 :: post) = some ([115], 1) := side_run _ (by simp) (by rw [runN_go (by decide), runN_stop (by decide)]) rfl
    exact idS_of (l := 60 :: 34 :: 113 :: 92 :: 34 :: 40 :: 114 :: 34 :: 64 :: 115 :: 62 :: post) (ri' := [115]) e1 rfl e2 (.inr ⟨by simp, rfl⟩) rfl (by decide)
  · refine ⟨[102, 64, 91, 49, 40, 50, 93], ?_, by decide⟩
    have e1 : sideS 34 34 [] (102 :: 64 :: 91 :: 49 :: 40 :: 50 :: 93 :: 62 :: post) = some ([102], 1) := side_run _ (by simp) (by rw [runN_go (by decide), runN_stop (by decide)]) rfl
    have e2 : sideS 91 93 [91] (91 :: 49 :: 40 :: 50 :: 93 :: 62 :: post) = some ([49, 40, 50], 5) := by
      rw [side_in, closed_plain (by decide) (by decide) (by decide) (by decide) (by decide) (by decide), closed_plain (by decide) (by decide) (by decide) (by decide) (by decide) (by decide), closed_plain (by decide) (by decide) (by decide) (by decide) (by decide) (by decide), closed_end]
      rfl
    exact idS_of (l := 60 :: 102 :: 64 :: 91 :: 49 :: 40 :: 50 :: 93 :: 62 :: post) (ri' := [91, 49, 40, 50, 93]) e1 rfl e2 (.inl ⟨rfl, rfl⟩) rfl (by decide)
  · refine ⟨[107, 64, 91, 41, 93], ?_, by decide⟩
    have e1 : sideS 34 34 [] (107 :: 64 :: 91 :: 41 :: 93 :: 62 :: post) = some ([107], 1) := side_run _ (by simp) (by rw [runN_go (by decide), runN_stop (by decide)]) rfl
    have e2 : sideS 91 93 [91] (91 :: 41 :: 93 :: 62 :: post) = some ([41], 3) := by
      rw [side_in, closed_plain (by decide) (by decide) (by decide) (by decide) (by decide) (by decide), closed_end]
      rfl
    exact idS_of (l := 60 :: 107 :: 64 :: 91 :: 41 :: 93 :: 62 :: post) (ri' := [91, 41, 93]) e1 rfl e2 (.inl ⟨rfl, rfl⟩) rfl (by decide)
/-! a '<' ahead of a word -/
inductive Safe : List UInt8 → Prop
  | nil : Safe []
  | free {u r} : u ≠ 34 → u ≠ 92 → Safe r → Safe (u :: r)
  | esc {u r} : Safe r → Safe (92 :: u :: r)
theorem Safe.append {x y : List UInt8} (h : Safe x) (hy : Safe y) : Safe (x ++ y) := by
  induction h with
  | nil => exact hy
  | free a b _ ih => exact .free a b ih
  | esc _ ih => exact .esc ih
theorem Safe.frees : ∀ {w : List UInt8}, (∀ u ∈ w, u ≠ 34 ∧ u ≠ 92) → Safe w
  | [], _ => .nil
  | _ :: _, h => .free (h _ (.head _)).1 (h _ (.head _)).2 (Safe.frees fun v hv => h v (.tail _ hv))
theorem Safe.piece {w : List UInt8} (hw : Piece true w) : Safe w := by
  cases hw with
  | plain hu => exact .frees (fun v hv => by rw [List.mem_singleton.mp hv]; exact ⟨u8of (n := 34) (u8ne hu (by decide)) (by decide), u8of (n := 92) (u8ne hu (by decide)) (by decide)⟩)
  | esc => exact .esc .nil
  | inw => exact .frees (by decide)
  | nest h1 h2 hu =>
    refine .frees fun v hv => ?_
    rcases List.mem_append.mp hv with hv | hv
    · rcases List.mem_append.mp hv with hv | hv
      · rw [mem_flat hv]; decide
      · rw [List.mem_singleton.mp hv]; exact ⟨u8of (n := 34) (fun e => hu (by simp [e])) (by decide), u8of (n := 92) (fun e => hu (by simp [e])) (by decide)⟩
    · rw [mem_flat hv]; decide
  | other => exact .frees (by decide)
  | cr => exact .frees (by decide)
  | nul => exact .frees (by decide)
theorem Safe.pieces : ∀ {ps : List (List UInt8)}, (∀ p ∈ ps, Piece true p) → Safe ps.flatten
  | [], _ => .nil
  | _ :: _, h => by rw [List.flatten_cons]; exact (Safe.piece (h _ (.head _))).append (Safe.pieces fun v hv => h v (.tail _ hv))
theorem closed_safe : ∀ (k : Nat) {x : List UInt8} (rest : List UInt8), x.length ≤ k → Safe x → closedS 34 [] (x ++ 34 :: rest) = none ∨ ∃ o, closedS 34 [] (x ++ 34 :: rest) = some (o, x.length + 1) := by
  intro k
  induction k with
  | zero => intro x rest hx _; obtain rfl := List.length_eq_zero_iff.mp (Nat.le_zero.mp hx); exact .inr ⟨[], closed_end⟩
  | succ k ih =>
    intro x rest hx h
    have fin : ∀ {y z : List UInt8} {o : List UInt8} {n : Nat}, y.length ≤ k → Safe y → x.length = n + y.length → z = y ++ 34 :: rest → ((closedS 34 [] z).map fun p => (o ++ p.1, n + p.2)) = none ∨ ∃ o', ((closedS 34 [] z).map fun p => (o ++ p.1, n + p.2)) = some (o', x.length + 1) := by
      intro y z o n hy hs hn hz
      subst hz
      rcases ih rest hy hs with h | ⟨o', h⟩
      · left; rw [h]; rfl
      · right; rw [h]; exact ⟨o ++ o', by simp; lia⟩
    cases h with
    | nil => exact .inr ⟨[], closed_end⟩
    | @free u r h1 h2 hr =>
      rw [List.length_cons] at hx
      rw [List.cons_append, closedS_cons, if_neg h1, if_neg (by simp), insideS_cons, if_neg h2, lineE_eq]
      by_cases h3 : u = 10
      · subst h3; rw [if_pos (show List.take 1 (10 :: (r ++ 34 :: rest)) = [10] from rfl)]; exact fin (y := r) (by lia) hr (by simp; lia) rfl
      · rw [if_neg (by simp [h3])]
        by_cases h4 : (u :: (r ++ 34 :: rest)).take 2 = [13, 10]
        · rw [if_pos h4]
          cases hr with
          | nil => simp at h4
          | @free v r' h5 h6 hr' => exact fin (y := r') (by simp at hx; lia) hr' (by simp; lia) rfl
          | esc => simp at h4
        · rw [if_neg h4]
          simp only
          by_cases hu : u = 0 ∨ u = 10 ∨ u = 13
          · rw [if_pos hu]; exact .inl rfl
          · rw [if_neg hu]; exact fin (y := r) (n := 1) (by lia) hr (by simp; lia) rfl
    | @esc u r hr =>
      simp only [List.length_cons] at hx
      rw [List.cons_append, List.cons_append, closedS_cons, if_neg (by decide), if_neg (by simp), insideS_cons, if_pos rfl]
      simp only
      by_cases hu : u = 0 ∨ u = 10 ∨ u = 13
      · rw [if_pos hu]; exact .inl rfl
      · rw [if_neg hu]; exact fin (y := r) (n := 2) (by lia) hr (by simp; lia) rfl
end
section
theorem octL_cons (l : Lap) (L : List Lap) : octL (l :: L) = l.odd ++ (l.laid ++ octL L) := by simp [octL]
/-- behind the sign '@' no side of an id follows -/
noncomputable def NoAt (rest : List UInt8) : Prop := ∀ r, rest = 64 :: r → sideS 91 93 [91] r = none
theorem oddS_at : ∀ o ∈ oddS, o.head? = some 64 → o = [64] := by decide
theorem noAt_laps {T : List UInt8} (hT : T.head? ≠ some 64) : ∀ L : List Lap, (∀ l ∈ L, l.Ok) → NoAt (octL L ++ T)
  | [], _, r, e => by
    have e' : T = 64 :: r := e
    rw [e'] at hT; exact absurd rfl hT
  | l :: L, h, r, e => by
    have ok := h l (.head _)
    obtain ⟨u, r', hl, hu⟩ := ok.head
    rw [octL_cons, hl, List.append_assoc] at e
    cases ho : l.odd with
    | nil =>
      rw [ho] at e
      injection e with e1 e2
      rcases hu with rfl | rfl | rfl <;> exact absurd e1 (by decide)
    | cons a o' =>
      rw [ho] at e
      have e1 : a = 64 := by injection e
      have := oddS_at _ ok.odd (by rw [ho, e1]; rfl)
      rw [ho] at this
      injection this with _ h2
      rw [h2] at e
      have e2 : u :: (r' ++ (octL L ++ T)) = r := by injection e with _ e; simpa using e
      rw [← e2]; exact side_head hu
theorem idS_noside {r : List UInt8} (h : sideS 34 34 [] r = none) : idS (60 :: r) = none := by
  unfold idS; rw [show (60 :: r).drop 1 = r from rfl, h]
theorem idS_at_none {r0 rest le : List UInt8} {n : Nat} (e : sideS 34 34 [] r0 = some (le, n)) (hd : r0.drop n = rest) (hN : NoAt rest) : idS (60 :: r0) = none := by
  have e1 : (60 :: r0).drop (1 + n) = rest := by rw [Nat.add_comm]; exact hd
  have e2 : (60 :: r0).drop (1 + n + 1) = rest.drop 1 := by rw [← e1, List.drop_drop]
  unfold idS
  rw [show (60 :: r0).drop 1 = r0 from rfl, e]
  simp only [e1, e2]
  by_cases h : rest.take 1 = [64]
  · rw [if_neg (fun h' => h' h)]
    match rest, h, hN with
    | x :: r, h, hN =>
      obtain rfl : x = 64 := by simpa using h
      rw [show (64 :: r).drop 1 = r from rfl, hN r rfl]
  · rw [if_pos h]
theorem side_none {u : UInt8} {r : List UInt8} (h : isRunC u.toNat = false) (h2 : u ≠ 34) : sideS 34 34 [] (u :: r) = none := by
  unfold sideS; rw [if_neg (by simp [h2]), if_pos (runN_stop h)]
theorem tear_laid {l : Lap} {rest : List UInt8} (h : l.Ok) (hN : NoAt rest) : idS (60 :: (l.laid ++ rest)) = none := by
  rcases h.laid with ⟨t, _, h⟩ | ⟨_, h⟩
  · obtain ⟨r, e⟩ := List.head?_eq_some_iff.mp (ids_head _ h)
    have e : l.laid = 60 :: r := e
    rw [e]; exact idS_noside (side_none (by decide) (by decide))
  · generalize l.laid = w at h
    cases h with
    | round => exact idS_noside (side_none (by decide) (by decide))
    | @quoted ps hp =>
      have e0 : ([34] ++ ps.flatten ++ [34] ++ rest : List UInt8) = 34 :: (ps.flatten ++ 34 :: rest) := by simp
      rw [e0]
      rcases closed_safe _ rest (Nat.le_refl _) (Safe.pieces hp) with h | ⟨o, h⟩
      · exact idS_noside (by rw [side_in, h]; rfl)
      · refine idS_at_none (le := o) (n := ps.flatten.length + 1 + 1) (by rw [side_in, h]; rfl) ?_ hN
        show (ps.flatten ++ 34 :: rest).drop (ps.flatten.length + 1) = rest
        rw [List.drop_append]; simp
theorem thru_free : ∀ {x : List UInt8} (post : List UInt8), (∀ u ∈ x, u ≠ 34 ∧ u ≠ 40 ∧ u ≠ 60) → Thru x post
  | [], _, _ => trivial
  | u :: _, post, h => ⟨⟨(h u (.head _)).1, (h u (.head _)).2.1⟩, fun e => absurd e (h u (.head _)).2.2, thru_free post fun v hv => h v (.tail _ hv)⟩
theorem thru_odd {l : Lap} {rest : List UInt8} (h : l.Ok) (hN : NoAt rest) : Thru l.odd (l.laid ++ rest) := by
  have ho := h.odd
  have ht := tear_laid h hN
  generalize l.odd = o at ho
  simp only [oddS, List.mem_cons, List.not_mem_nil, or_false] at ho
  rcases ho with rfl | rfl | rfl | rfl | rfl | rfl | rfl | rfl | rfl | rfl | rfl | rfl | rfl | rfl | rfl
  all_goals try exact thru_free _ (by decide)
  · exact ⟨by decide, fun _ => ht, trivial⟩
  · refine ⟨by decide, fun _ => ?_, thru_free _ (by decide)⟩
    refine idS_at_none (r0 := 97 :: 32 :: 98 :: 64 :: 99 :: 62 :: (l.laid ++ rest)) (le := [97]) (n := 1) (rest := 32 :: 98 :: 64 :: 99 :: 62 :: (l.laid ++ rest)) (side_run _ (by simp) (by rw [runN_go (by decide), runN_stop (by decide)]) rfl) rfl ?_
    intro r e; injection e with e; exact absurd e (by decide)
  · exact ⟨by decide, fun _ => idS_noside (side_none (u := 64) (by decide) (by decide)), thru_free _ (by decide)⟩
theorem reads_laps {T : List UInt8} (hT : T.head? ≠ some 64) : ∀ (L : List Lap) (pre : List UInt8) {d : List UInt8} {ts : List (List Nat)}, (∀ l ∈ L, l.Ok) → d = pre ++ (octL L ++ T) → Reads' d (weS d) pre.length ts →
    ∃ ts', ts = dueL L ++ ts' ∧ Reads' d (weS d) (pre.length + (octL L).length) ts'
  | [], pre, d, ts, _, _, h => ⟨ts, rfl, h⟩
  | l :: L, pre, d, ts, hL, hd, h => by
    have ok := hL l (.head _)
    have hN := noAt_laps hT L fun l hl => hL l (.tail _ hl)
    rw [octL_cons] at hd ⊢
    have h1 := h.thru l.odd pre (l.laid ++ (octL L ++ T)) (by rw [hd]; simp) (thru_odd ok hN)
    rw [← List.length_append] at h1
    have hd1 : d = (pre ++ l.odd) ++ l.laid ++ (octL L ++ T) := by rw [hd]; simp
    have hlen : pre.length + (l.odd ++ (l.laid ++ octL L)).length = (pre ++ l.odd ++ l.laid).length + (octL L).length := by simp; lia
    rw [hlen]
    have key : ∃ ts1, ts = l.told.toList ++ ts1 ∧ Reads' d (weS d) (pre ++ l.odd ++ l.laid).length ts1 := by
      rcases ok.laid with ⟨t, ht, hi⟩ | ⟨ht, hw⟩
      · obtain ⟨r, e⟩ := List.head?_eq_some_iff.mp (ids_head _ hi)
        have e : l.laid = 60 :: r := e
        obtain ⟨o, ho, hot⟩ := ids_read hi (octL L ++ T)
        have hd2 : d = (pre ++ l.odd) ++ 60 :: (r ++ (octL L ++ T)) := by rw [hd1, e]; simp
        obtain ⟨ts1, rfl, h2⟩ := h1.whole hd2 (by rw [← List.cons_append, ← e]; exact ho)
        refine ⟨ts1, by rw [ht, hot]; rfl, ?_⟩
        rwa [List.length_append (as := pre ++ l.odd)]
      · obtain ⟨u, r, e, hu⟩ := ok.head
        have hf := word_found (pre := pre ++ l.odd) (post := octL L ++ T) hw
        rw [← hd1] at hf
        refine ⟨ts, by rw [ht]; rfl, ?_⟩
        rw [List.length_append (as := pre ++ l.odd)]
        have hu60 : u ≠ 60 := by
          rintro rfl
          generalize l.laid = w at hw e
          cases hw with
          | quoted => injection e with e; exact absurd e (by decide)
          | round => injection e with e; exact absurd e (by decide)
        exact h1.jump (u := u) (post := r ++ (octL L ++ T)) (by rw [hd1, e]; simp) hu60 hf
    obtain ⟨ts1, rfl, h2⟩ := key
    obtain ⟨ts', rfl, h3⟩ := reads_laps hT L (pre ++ l.odd ++ l.laid) (fun l hl => hL l (.tail _ hl)) hd1 h2
    refine ⟨ts', ?_, h3⟩
    simp only [dueL, List.filterMap_cons]
    cases l.told <;> rfl
theorem law_reads {L : List Lap} (h : ∀ l ∈ L, l.Ok) {ts : List (List Nat)} (hr : Reads' (octL L) (weS (octL L)) 0 ts) : ts = dueL L := by
  obtain ⟨ts', rfl, h2⟩ := reads_laps (T := []) (by simp) L [] h (by simp) hr
  rw [h2.stop' (by simp), List.append_nil]
/-! the tail -/
/-- octets that close nothing -/
noncomputable def quiet : Bool → List UInt8 → Bool
  | _, [] => true
  | t, u :: r => (t || (u != 34 && u != 41)) && quiet (decide (u = 92) && !t) r
theorem weGo_quiet : ∀ (r : List UInt8) (i : Nat) (s : WSt), quiet s.taken r = true → (weGo r i s).found = s.found
  | [], _, _, _ => rfl
  | u :: r, i, s, h => by
    simp only [quiet, Bool.and_eq_true] at h
    have e : (s.step i u).found = s.found := by
      show (s.mid i u).found = s.found
      unfold WSt.mid
      cases ht : s.taken with
      | true =>
        split
        · rw [if_pos rfl]
        · split
          · rw [if_pos rfl]
          · rw [if_neg (fun h => by cases h.2)]
      | false =>
        rw [ht] at h
        simp only [Bool.false_or, Bool.and_eq_true, bne_iff_ne, ne_eq] at h
        rw [if_neg h.1.1]
        split
        · rw [if_neg (by decide)]
        · rw [if_neg (fun h' => h.1.2 h'.1)]
    exact (weGo_quiet r (i + 1) _ h.2).trans e
theorem quiet_40 (r : List UInt8) : ∀ k, quiet false ((List.replicate k [40]).flatten ++ r) = quiet false r
  | 0 => rfl
  | k + 1 => by
    show quiet false (40 :: ((List.replicate k [40]).flatten ++ r)) = _
    exact quiet_40 r k
theorem quiet_92 (x : UInt8) (r : List UInt8) : ∀ k, quiet false ((List.replicate k [92, x]).flatten ++ r) = quiet false r
  | 0 => rfl
  | k + 1 => by
    show quiet false (92 :: x :: ((List.replicate k [92, x]).flatten ++ r)) = _
    have e : quiet false (92 :: x :: ((List.replicate k [92, x]).flatten ++ r)) = quiet false ((List.replicate k [92, x]).flatten ++ r) := by
      simp [quiet]
    rw [e]; exact quiet_92 x r k
noncomputable def tail13 : List UInt8 := [60, 116, 64, 117, 62, 32, 60, 118, 64, 91, 119, 93, 62]
/-- no place of the tail gets an end -/
theorem tail_none {pre : List UInt8} {way many : Nat} (hw : way < 5) {p : Nat} (hp : pre.length + 1 ≤ p) : weS (pre ++ 32 :: (leadOf way many ++ tail13)) p = none := by
  have hwf : Wf pre.length (weGo pre 0 w0) := by have := Wf.go pre 0 w0 Wf.start; rwa [Nat.zero_add] at this
  have hwf2 := hwf.step (u := 32)
  have ht2 : ((weGo pre 0 w0).step pre.length 32).taken = false := by show (decide ((32 : UInt8) = 92) && !(weGo pre 0 w0).taken) = false; simp
  show (weGo (pre ++ 32 :: (leadOf way many ++ tail13)) 0 w0).found p = none
  rw [weGo_append, Nat.zero_add]
  show (weGo (leadOf way many ++ tail13) (pre.length + 1) ((weGo pre 0 w0).step pre.length 32)).found p = none
  generalize (weGo pre 0 w0).step pre.length 32 = s at hwf2 ht2
  have hs : s.found p = none := by
    cases h : s.found p with
    | none => rfl
    | some e => have := hwf2.f p e h; lia
  have hq : p ∉ s.quotes := fun h => by have := hwf2.q p h; lia
  have first : ∀ r : List UInt8, quiet false r = true → (weGo (34 :: r) (pre.length + 1) s).found p = none := by
    intro r hr
    show (weGo r (pre.length + 1 + 1) (s.step (pre.length + 1) 34)).found p = none
    have e : (s.step (pre.length + 1) 34).taken = false := by show (decide ((34 : UInt8) = 92) && !s.taken) = false; simp
    rw [weGo_quiet _ _ _ (by rw [e]; exact hr)]
    show (s.mid (pre.length + 1) 34).found p = none
    unfold WSt.mid
    rw [if_pos rfl, ht2, if_neg (by decide)]
    show setAll _ _ _ p = none
    unfold setAll; rw [if_neg hq]; exact hs
  have still : ∀ r : List UInt8, quiet false r = true → (weGo r (pre.length + 1) s).found p = none := by
    intro r hr
    rw [weGo_quiet _ _ _ (by rw [ht2]; exact hr)]; exact hs
  have q13 : quiet false tail13 = true := by decide
  obtain rfl | rfl | rfl | rfl | rfl : way = 0 ∨ way = 1 ∨ way = 2 ∨ way = 3 ∨ way = 4 := by lia
  · exact still _ q13
  · exact first _ q13
  · exact still _ (by show quiet false ((List.replicate (1 + many) [40]).flatten ++ tail13) = true; rw [quiet_40]; exact q13)
  · exact first ((List.replicate many [92, 34]).flatten ++ tail13) (by rw [quiet_92]; exact q13)
  · exact still (40 :: ((List.replicate many [92, 40]).flatten ++ tail13)) (by show quiet false ((List.replicate many [92, 40]).flatten ++ tail13) = true; rw [quiet_92]; exact q13)
theorem lead_no60 {way many : Nat} : ∀ u ∈ leadOf way many, u ≠ 60 := by
  have h2 : ∀ (k : Nat) (x : UInt8), x ≠ 60 → ∀ u ∈ (List.replicate k [92, x]).flatten, u ≠ 60 := by
    intro k x hx u hu
    obtain ⟨l, hl, hu⟩ := List.mem_flatten.mp hu
    rw [(List.mem_replicate.mp hl).2] at hu
    rcases List.mem_cons.mp hu with rfl | hu
    · decide
    · rw [List.mem_singleton.mp hu]; exact hx
  unfold leadOf
  split
  · simp
  · decide
  · intro u hu; rw [mem_flat hu]; decide
  · intro u hu
    rcases List.mem_append.mp hu with hu | hu
    · rw [List.mem_singleton.mp hu]; decide
    · exact h2 _ _ (by decide) u hu
  · intro u hu
    rcases List.mem_append.mp hu with hu | hu
    · rw [List.mem_singleton.mp hu]; decide
    · exact h2 _ _ (by decide) u hu
theorem Reads'.pass {f : Nat → Option Nat} : ∀ (x pre post : List UInt8) {d : List UInt8} {ts : List (List Nat)}, d = pre ++ x ++ post → (∀ u ∈ x, u ≠ 60) → (∀ p, pre.length ≤ p → p < pre.length + x.length → f p = none) → Reads' d f pre.length ts → Reads' d f (pre.length + x.length) ts
  | [], _, _, _, _, _, _, _, h => h
  | u :: r, pre, post, d, ts, hd, hx, hf, h => by
    have h1 := h.plain (u := u) (post := r ++ post) (by rw [hd]; simp) (hx u (.head _)) (hf _ (Nat.le_refl _) (by simp))
    have e : (pre ++ [u]).length = pre.length + 1 := by simp
    rw [← e] at h1
    have := Reads'.pass r (pre ++ [u]) post (by rw [hd]; simp) (fun v hv => hx v (.tail _ hv)) (fun p h1 h2 => hf p (by lia) (by simp; lia)) h1
    rwa [e, show pre.length + 1 + r.length = pre.length + (u :: r).length by simp; lia] at this
theorem id_t : idS tail13 = some ([116, 64, 117], 5) := by
  have e1 : sideS 34 34 [] (116 :: 64 :: 117 :: 62 :: 32 :: 60 :: 118 :: 64 :: 91 :: 119 :: 93 :: 62 :: []) = some ([116], 1) := side_run _ (by simp) (by rw [runN_go (by decide), runN_stop (by decide)]) rfl
  have e2 : sideS 91 93 [91] (117 :: 62 :: 32 :: 60 :: 118 :: 64 :: 91 :: 119 :: 93 :: 62 :: []) = some ([117], 1) := side_run _ (by simp) (by rw [runN_go (by decide), runN_stop (by decide)]) rfl
  exact idS_of (l := tail13) (ri' := [117]) e1 rfl e2 (.inr ⟨by decide, rfl⟩) rfl (by decide)
theorem id_v : idS [60, 118, 64, 91, 119, 93, 62] = some ([118, 64, 91, 119, 93], 7) := by
  have e1 : sideS 34 34 [] (118 :: 64 :: 91 :: 119 :: 93 :: 62 :: []) = some ([118], 1) := side_run _ (by simp) (by rw [runN_go (by decide), runN_stop (by decide)]) rfl
  have e2 : sideS 91 93 [91] (91 :: 119 :: 93 :: 62 :: []) = some ([119], 3) := by
    rw [side_in, closed_plain (by decide) (by decide) (by decide) (by decide) (by decide) (by decide), closed_end]; rfl
  exact idS_of (l := 60 :: 118 :: 64 :: 91 :: 119 :: 93 :: 62 :: []) (ri' := [91, 119, 93]) e1 rfl e2 (.inl ⟨rfl, rfl⟩) rfl (by decide)
theorem law_tail {L : List Lap} (h : ∀ l ∈ L, l.Ok) {way many : Nat} (hw : way < 5) {d : List UInt8} (hd : d = octL L ++ 32 :: (leadOf way many ++ tail13)) {ts : List (List Nat)} (hr : Reads' d (weS d) 0 ts) :
    ts = dueL L ++ [[116, 64, 117], [118, 64, 91, 119, 93]] := by
  obtain ⟨ts', rfl, h2⟩ := reads_laps (T := 32 :: (leadOf way many ++ tail13)) (by simp) L [] h (by simpa using hd) hr
  congr 1
  rw [List.length_nil, Nat.zero_add] at h2
  have hn : ∀ p, (octL L).length ≤ p → weS d p = none := by
    intro p hp
    rcases Nat.lt_or_ge (octL L).length p with h | h
    · rw [hd]; exact tail_none hw h
    · obtain rfl : p = (octL L).length := by lia
      exact weS_none (by rw [hd, getD_pre]; decide) (by rw [hd, getD_pre]; decide)
  have h3 := h2.pass (32 :: leadOf way many) (octL L) tail13 (by rw [hd]; simp) (fun u hu => by
    rcases List.mem_cons.mp hu with rfl | hu
    · decide
    · exact lead_no60 u hu) (fun p hp _ => hn p hp)
  rw [← List.length_append] at h3
  generalize hpre : octL L ++ 32 :: leadOf way many = pre at h3
  have hl : (octL L).length ≤ pre.length := by rw [← hpre]; simp
  have hd1 : d = pre ++ 60 :: [116, 64, 117, 62, 32, 60, 118, 64, 91, 119, 93, 62] := by rw [hd, ← hpre]; simp [tail13]
  obtain ⟨t1, rfl, h4⟩ := h3.whole hd1 id_t
  have e5 : (pre ++ [60, 116, 64, 117, 62]).length = pre.length + 5 := by simp
  rw [← e5] at h4
  have h5 := h4.plain (u := 32) (post := [60, 118, 64, 91, 119, 93, 62]) (by rw [hd1]; simp) (by decide) (hn _ (by rw [e5]; lia))
  have e6 : (pre ++ [60, 116, 64, 117, 62, 32]).length = (pre ++ [60, 116, 64, 117, 62]).length + 1 := by simp
  rw [← e6] at h5
  have hd2 : d = (pre ++ [60, 116, 64, 117, 62, 32]) ++ 60 :: [118, 64, 91, 119, 93, 62] := by rw [hd1]; simp
  obtain ⟨t2, rfl, h6⟩ := h5.whole hd2 id_v
  rw [h6.stop' (by rw [hd2]; simp)]
  decide
/-! what is written reads back -/
theorem law_written {ps : List (List Nat × List UInt8)} (h : ∀ p ∈ ps, p ∈ idsS) {ts : List (List Nat)} (hr : Reads' (joinL [32] (ps.map (·.2))) (weS (joinL [32] (ps.map (·.2)))) 0 ts) : ts = ps.map (·.1) := by
  have key : ∀ ps : List (List Nat × List UInt8), (∀ p ∈ ps, p ∈ idsS) → ∀ o, o ∈ oddS → (E1 fun (L : List Lap) => A3 ((∀ l ∈ L, l.Ok)) (dueL L = ps.map (·.1)) (octL L = (if ps = [] then [] else o) ++ joinL [32] (ps.map (·.2)))) := by
    intro ps
    induction ps with
    | nil => intro _ o _; exact ⟨[], by simp, rfl, by simp [octL, joinL]⟩
    | cons p ps ih =>
      intro h o ho
      obtain ⟨L, h1, h2, h3⟩ := ih (fun q hq => h q (.tail _ hq)) [32] (by decide)
      refine ⟨⟨o, p.2, some p.1⟩ :: L, fun l hl => ?_, ?_, ?_⟩
      · rcases List.mem_cons.mp hl with rfl | hl
        · exact ⟨ho, .inl ⟨_, rfl, h p (.head _)⟩⟩
        · exact h1 l hl
      · show p.1 :: dueL L = _; rw [h2]; rfl
      · rw [octL_cons, h3]
        cases ps with
        | nil => simp [joinL]
        | cons q ps => simp [joinL]
  obtain ⟨L, h1, h2, h3⟩ := key ps h [] (by decide)
  have e : octL L = joinL [32] (ps.map (·.2)) := by rw [h3]; split <;> simp
  rw [← e] at hr
  rw [law_reads h1 hr, h2]
end
section
/-! blanks squeezed, over texts laid behind each other -/
noncomputable def wds (x : List Nat) : List (List Nat) := (spl (x.map bl)).filter fun w => decide (w ≠ [])
theorem sqz_eq (x : List Nat) : sqz x = joinL [32] (wds x) := rfl
theorem spl_append (b : List Nat) : ∀ a : List Nat, (E4 fun as l h bs => A3 (spl a = as ++ [l]) (spl b = h :: bs) (spl (a ++ b) = as ++ [l ++ h] ++ bs))
  | [] => by
    cases hb : spl b with
    | nil => exact absurd hb (spl_ne b)
    | cons h bs => exact ⟨[], [], h, bs, rfl, rfl, by rw [List.nil_append, hb]; rfl⟩
  | c :: r => by
    obtain ⟨as, l, h, bs, h1, h2, h3⟩ := spl_append b r
    by_cases hc : c = 32
    · refine ⟨[] :: as, l, h, bs, ?_, h2, ?_⟩
      · rw [spl, if_pos hc, h1]; rfl
      · rw [List.cons_append, spl, if_pos hc, h3]; rfl
    · cases as with
      | nil =>
        refine ⟨[], c :: l, h, bs, ?_, h2, ?_⟩
        · rw [spl, if_neg hc, h1]; rfl
        · rw [List.cons_append, spl, if_neg hc, h3]; rfl
      | cons w ws =>
        refine ⟨(c :: w) :: ws, l, h, bs, ?_, h2, ?_⟩
        · rw [spl, if_neg hc, h1]; rfl
        · rw [List.cons_append, spl, if_neg hc, h3]; rfl
theorem joinL_append {s : List Nat} : ∀ {u v : List (List Nat)}, u ≠ [] → v ≠ [] → joinL s (u ++ v) = joinL s u ++ s ++ joinL s v
  | [], _, h, _ => absurd rfl h
  | [x], [], _, h => absurd rfl h
  | [x], y :: v, _, _ => rfl
  | x :: y :: r, v, _, hv => by
    have := joinL_append (s := s) (u := y :: r) (by simp) hv
    show x ++ s ++ joinL s (y :: r ++ v) = x ++ s ++ joinL s (y :: r) ++ s ++ joinL s v
    rw [this]; simp
theorem joinL_glue {s : List Nat} (l h : List Nat) (v : List (List Nat)) : ∀ u : List (List Nat), joinL s (u ++ [l ++ h] ++ v) = joinL s (u ++ [l]) ++ joinL s (h :: v)
  | [] => by
    cases v with
    | nil => rfl
    | cons y v => show l ++ h ++ s ++ joinL s (y :: v) = l ++ (h ++ s ++ joinL s (y :: v)); simp
  | [x] => by
    show x ++ s ++ joinL s ([] ++ [l ++ h] ++ v) = x ++ s ++ joinL s ([] ++ [l]) ++ joinL s (h :: v)
    rw [joinL_glue l h v []]; simp
  | x :: y :: u => by
    show x ++ s ++ joinL s (y :: u ++ [l ++ h] ++ v) = x ++ s ++ joinL s (y :: u ++ [l]) ++ joinL s (h :: v)
    rw [joinL_glue l h v (y :: u)]; simp
theorem wds_append (a b : List Nat) : ((E4 fun u l h v => A7 (l ≠ []) (h ≠ []) (wds a = u ++ [l]) (wds b = h :: v) (wds (a ++ b) = u ++ [l ++ h] ++ v) ((spl (a.map bl)).getLast? = some l) ((spl (b.map bl)).head? = some h))) ∨ wds (a ++ b) = wds a ++ wds b := by
  obtain ⟨as, l, h, bs, h1, h2, h3⟩ := spl_append (b.map bl) (a.map bl)
  unfold wds
  rw [List.map_append, h3, h1, h2]
  by_cases hl : l = []
  · right; subst hl
    simp [List.filter_cons]
  · by_cases hh : h = []
    · right; subst hh
      simp [List.filter_cons, hl]
    · left
      refine ⟨as.filter fun w => decide (w ≠ []), l, h, bs.filter fun w => decide (w ≠ []), hl, hh, by simp [List.filter_cons, hl], by simp [List.filter_cons, hh], by simp [List.filter_cons, hl], by simp, rfl⟩
theorem sqz_either {a b : List Nat} (ha : wds a ≠ []) (hb : wds b ≠ []) : sqz (a ++ b) = sqz a ++ sqz b ∨ sqz (a ++ b) = sqz a ++ [32] ++ sqz b := by
  rcases wds_append a b with ⟨u, l, h, v, _, _, h1, h2, h3, _⟩ | h
  · left; rw [sqz_eq, sqz_eq, sqz_eq, h1, h2, h3]; exact joinL_glue l h v u
  · right; rw [sqz_eq, sqz_eq, sqz_eq, h]; exact joinL_append ha hb
theorem sqz_after {a b : List Nat} (ha : wds a ≠ []) (hb : wds b ≠ []) (hl : (spl (a.map bl)).getLast? = some [] ∨ (spl (b.map bl)).head? = some []) : sqz (a ++ b) = sqz a ++ [32] ++ sqz b := by
  rcases wds_append a b with ⟨u, l, h, v, k1, k2, _, _, _, h4, h5⟩ | h
  · rcases hl with hl | hl
    · rw [hl] at h4; injection h4 with h4; exact absurd h4.symm k1
    · rw [hl] at h5; injection h5 with h5; exact absurd h5.symm k2
  · rw [sqz_eq, sqz_eq, sqz_eq, h]; exact joinL_append ha hb
theorem sqz_lead {a b : List Nat} (ha : wds a = []) : sqz (a ++ b) = sqz b := by
  rcases wds_append a b with ⟨u, l, h, v, k1, k2, h1, _⟩ | h
  · rw [ha] at h1; exact absurd h1.symm (by simp)
  · rw [sqz_eq, sqz_eq, h, ha]; rfl
theorem sqz_trail {a b : List Nat} (hb : wds b = []) : sqz (a ++ b) = sqz a := by
  rcases wds_append a b with ⟨u, l, h, v, k1, k2, _, h2, _⟩ | h
  · rw [hb] at h2; cases h2
  · rw [sqz_eq, sqz_eq, h, hb, List.append_nil]
theorem wds_ne {x : List Nat} (h : sqz x ≠ []) : wds x ≠ [] := fun e => h (by rw [sqz_eq, e]; rfl)
/-! the form of a squeezed subject -/
inductive Left : List Nat → Bool → Prop
  | re {p} : p ∈ ([[82, 101, 58, 32], [102, 119, 58], [102, 119, 58, 32], [70, 87, 68, 32, 58, 32], [114, 101, 91, 52, 93, 58, 32]] : List (List Nat)) → Left p true
  | blob : Left [91, 108, 105, 115, 116, 32, 55, 93, 32] false
noncomputable def rightS : List (List Nat) := [[32, 40, 102, 119, 100, 41], [32, 40, 70, 119, 100, 41], [40, 70, 119, 100, 41]]
noncomputable def basesS : List (List Nat) := [[111, 110, 101], [97, 32, 91, 98, 93, 32, 99], [114, 101, 103, 97, 114, 100, 115], [50, 58, 32, 51], [120, 32, 40, 102, 119, 100, 41, 32, 121], [102, 119, 100], [233, 116, 233]]
/-- the right wraps, the outermost first -/
noncomputable def sufOf : List (List Nat) → List Nat
  | [] => []
  | r :: R => sufOf R ++ r
noncomputable def preOf : List (List Nat × Bool) → List Nat
  | [] => []
  | p :: P => p.1 ++ preOf P
inductive Subj (B : List Nat) : List Nat → Bool → Prop
  | base {P : List (List Nat × Bool)} {R : List (List Nat)} : (∀ p ∈ P, Left p.1 p.2) → (∀ r ∈ R, r ∈ rightS) → Subj B (preOf P ++ B ++ sufOf R) (P.any (·.2) || !R.isEmpty)
  | box {P : List (List Nat × Bool)} {R : List (List Nat)} {y k sp} : (∀ p ∈ P, Left p.1 p.2) → (∀ r ∈ R, r ∈ rightS) → Subj B y k → sp = [] ∨ sp = [32] → Subj B (preOf P ++ ([91, 70, 119, 100, 58, 32] ++ y ++ sp ++ [93]) ++ sufOf R) true
theorem Subj.ne {B y : List Nat} {k : Bool} (h : Subj B y k) (hB : B ≠ []) : y ≠ [] := by
  cases h with
  | base => simp [hB]
  | box => simp
theorem Subj.left {B y p : List Nat} {k b : Bool} (h : Subj B y k) (hp : Left p b) : Subj B (p ++ y) (k || b) := by
  cases h with
  | @base P R hP hR =>
    have := Subj.base (B := B) (P := (p, b) :: P) (R := R) (fun q hq => by
      rcases List.mem_cons.mp hq with rfl | hq
      · exact hp
      · exact hP q hq) hR
    rw [show p ++ (preOf P ++ B ++ sufOf R) = preOf ((p, b) :: P) ++ B ++ sufOf R by simp [preOf]]
    rw [show ((P.any (·.2) || !R.isEmpty) || b) = (((p, b) :: P).any (·.2) || !R.isEmpty) by simp only [List.any_cons]; cases b <;> simp]
    exact this
  | @box P R y k sp hP hR hy hs =>
    have := Subj.box (B := B) (P := (p, b) :: P) (R := R) (fun q hq => by
      rcases List.mem_cons.mp hq with rfl | hq
      · exact hp
      · exact hP q hq) hR hy hs
    rw [show p ++ (preOf P ++ ([91, 70, 119, 100, 58, 32] ++ y ++ sp ++ [93]) ++ sufOf R) = preOf ((p, b) :: P) ++ ([91, 70, 119, 100, 58, 32] ++ y ++ sp ++ [93]) ++ sufOf R by simp [preOf]]
    exact this
theorem Subj.right {B y r : List Nat} {k : Bool} (h : Subj B y k) (hr : r ∈ rightS) : Subj B (y ++ r) true := by
  cases h with
  | @base P R hP hR =>
    have := Subj.base (B := B) (P := P) (R := r :: R) hP (fun q hq => by
      rcases List.mem_cons.mp hq with rfl | hq
      · exact hr
      · exact hR q hq)
    rw [show preOf P ++ B ++ sufOf R ++ r = preOf P ++ B ++ sufOf (r :: R) by simp [sufOf]]
    rwa [show (P.any (·.2) || !(r :: R).isEmpty) = true by simp] at this
  | @box P R y k sp hP hR hy hs =>
    have := Subj.box (B := B) (P := P) (R := r :: R) hP (fun q hq => by
      rcases List.mem_cons.mp hq with rfl | hq
      · exact hr
      · exact hR q hq) hy hs
    rw [show preOf P ++ ([91, 70, 119, 100, 58, 32] ++ y ++ sp ++ [93]) ++ sufOf R ++ r = preOf P ++ ([91, 70, 119, 100, 58, 32] ++ y ++ sp ++ [93]) ++ sufOf (r :: R) by simp [sufOf]]
    exact this
theorem wrap_subj {B x y : List Nat} {b k : Bool} (hB : B ≠ []) (w : Wrap x y b) (h : Subj B (sqz x) k) : Subj B (sqz y) (k || b) := by
  have hx := wds_ne (h.ne hB)
  cases w with
  | @re p hp =>
    simp only [List.mem_cons, List.not_mem_nil, or_false] at hp
    rcases hp with rfl | rfl | rfl | rfl
    · rw [sqz_after (by decide) hx (.inl (by decide)), show sqz [82, 101, 58, 32] ++ [32] = [82, 101, 58, 32] by decide]
      exact h.left (.re (by decide))
    · rcases sqz_either (a := [102, 119, 58]) (by decide) hx with e | e
      · rw [e, show sqz [102, 119, 58] = [102, 119, 58] by decide]
        exact h.left (.re (by decide))
      · rw [e, show sqz [102, 119, 58] ++ [32] = [102, 119, 58, 32] by decide]
        exact h.left (.re (by decide))
    · rw [sqz_after (by decide) hx (.inl (by decide)), show sqz [70, 87, 68, 32, 58, 32] ++ [32] = [70, 87, 68, 32, 58, 32] by decide]
      exact h.left (.re (by decide))
    · rw [sqz_after (by decide) hx (.inl (by decide)), show sqz [114, 101, 91, 52, 93, 58, 32] ++ [32] = [114, 101, 91, 52, 93, 58, 32] by decide]
      exact h.left (.re (by decide))
  | @fwd p hp =>
    rw [Bool.or_true]
    simp only [List.mem_cons, List.not_mem_nil, or_false] at hp
    rcases hp with rfl | rfl
    · rw [sqz_after hx (by decide) (.inr (by decide)), List.append_assoc, show [32] ++ sqz [32, 40, 102, 119, 100, 41] = [32, 40, 102, 119, 100, 41] by decide]
      exact h.right (by decide)
    · rcases sqz_either (b := [40, 70, 119, 100, 41, 9]) hx (by decide) with e | e
      · rw [e, show sqz [40, 70, 119, 100, 41, 9] = [40, 70, 119, 100, 41] by decide]
        exact h.right (by decide)
      · rw [e, List.append_assoc, show [32] ++ sqz [40, 70, 119, 100, 41, 9] = [32, 40, 70, 119, 100, 41] by decide]
        exact h.right (by decide)
  | box =>
    rw [Bool.or_true]
    have e1 : sqz ([91, 70, 119, 100, 58, 32] ++ x) = [91, 70, 119, 100, 58, 32] ++ sqz x := by
      rw [sqz_after (by decide) hx (.inl (by decide)), show sqz [91, 70, 119, 100, 58, 32] ++ [32] = [91, 70, 119, 100, 58, 32] by decide]
    have h1 : wds ([91, 70, 119, 100, 58, 32] ++ x) ≠ [] := wds_ne (by rw [e1]; simp)
    rcases sqz_either (b := [93]) h1 (by decide) with e | e
    · rw [e, e1, show sqz [93] = [93] by decide]
      have := Subj.box (B := B) (P := []) (R := []) (by simp) (by simp) h (.inl rfl)
      simpa [preOf, sufOf] using this
    · rw [e, e1, show sqz [93] = [93] by decide]
      have := Subj.box (B := B) (P := []) (R := []) (by simp) (by simp) h (.inr rfl)
      simpa [preOf, sufOf] using this
  | blob =>
    rw [sqz_after (by decide) hx (.inl (by decide)), show sqz [91, 108, 105, 115, 116, 32, 55, 93, 32, 32] ++ [32] = [91, 108, 105, 115, 116, 32, 55, 93, 32] by decide]
    exact h.left .blob
  | blank =>
    rw [Bool.or_false, sqz_trail (by decide), sqz_lead (by decide)]
    exact h
theorem base_subj : ∀ B ∈ basesS, B ≠ [] ∧ sqz B = B := by decide
theorem subj_base {B : List Nat} (hB : B ∈ basesS) : Subj B (sqz B) false := by
  rw [(base_subj B hB).2]
  have := Subj.base (B := B) (P := []) (R := []) (by simp) (by simp)
  simpa [preOf, sufOf] using this
end
section
/-! windows into a text -/
noncomputable def Win (x : List Nat) (i e : Nat) (W : List Nat) : Prop := (E2 fun A Z => A3 (x = A ++ (W ++ Z)) (A.length = i) (e = i + W.length))
theorem Win.len {x : List Nat} {i e : Nat} {W : List Nat} (h : Win x i e W) : e = i + W.length ∧ e ≤ x.length := by
  obtain ⟨A, Z, rfl, rfl, rfl⟩ := h; exact ⟨rfl, by simp only [List.length_append]; lia⟩
theorem Win.split {x : List Nat} {i e : Nat} {U V : List Nat} (h : Win x i e (U ++ V)) : Win x i (i + U.length) U ∧ Win x (i + U.length) e V := by
  obtain ⟨A, Z, rfl, rfl, rfl⟩ := h
  exact ⟨⟨A, V ++ Z, by simp, rfl, rfl⟩, ⟨A ++ U, Z, by simp, by simp, by simp only [List.length_append]; lia⟩⟩
theorem Win.sub {x : List Nat} {i e : Nat} {W : List Nat} (h : Win x i e W) : subN x i e = W := by
  obtain ⟨A, Z, rfl, rfl, rfl⟩ := h
  unfold subN; rw [show A.length + W.length - A.length = W.length by lia]; simp
theorem Win.take {x : List Nat} {i e : Nat} {W : List Nat} (h : Win x i e W) (n : Nat) : subN x i (min (i + n) e) = W.take n := by
  obtain ⟨A, Z, rfl, rfl, rfl⟩ := h
  unfold subN
  rw [show min (A.length + n) (A.length + W.length) - A.length = min n W.length by lia, List.drop_left, List.take_append_of_le_length (Nat.min_le_right _ _)]
  rcases Nat.le_total n W.length with h | h
  · rw [Nat.min_eq_left h]
  · rw [Nat.min_eq_right h, List.take_of_length_le (Nat.le_refl _), List.take_of_length_le h]
theorem Win.get {x : List Nat} {i e c : Nat} {V : List Nat} (h : Win x i e (c :: V)) : x.getD i 0 = c := by
  obtain ⟨A, Z, rfl, rfl, rfl⟩ := h
  rw [List.getD_eq_getElem?_getD, List.getElem?_append_right (Nat.le_refl _)]; simp
theorem Win.next {x : List Nat} {i e c : Nat} {V : List Nat} (h : Win x i e (c :: V)) : Win x (i + 1) e V := by
  have : Win x i e ([c] ++ V) := h
  exact this.split.2
theorem Win.nexts {x : List Nat} {i e : Nat} (U : List Nat) {V : List Nat} (h : Win x i e (U ++ V)) : Win x (i + U.length) e V := h.split.2
theorem Win.pb {x : List Nat} {i e : Nat} {W : List Nat} (h : Win x i e W) : pbN x i e = i + (W.takeWhile (· == 32)).length := by
  have := h.sub
  unfold subN at this
  unfold pbN; rw [this]
noncomputable def HeadNb (V : List Nat) : Prop := (E2 fun c r => A2 (V = c :: r) (c ≠ 32))
theorem Win.pb0 {x : List Nat} {i e : Nat} {W : List Nat} (h : Win x i e W) (hW : HeadNb W) : pbN x i e = i := by
  obtain ⟨c, r, rfl, hc⟩ := hW
  rw [h.pb, List.takeWhile_cons_of_neg (by simp [hc])]; rfl
theorem Win.pb1 {x : List Nat} {i e : Nat} {W : List Nat} (h : Win x i e (32 :: W)) (hW : HeadNb W) : pbN x i e = i + 1 := by
  obtain ⟨c, r, rfl, hc⟩ := hW
  rw [h.pb, List.takeWhile_cons_of_pos (by simp), List.takeWhile_cons_of_neg (by simp [hc])]; rfl
theorem Win.pbs {x : List Nat} {i e : Nat} {sp W : List Nat} (h : Win x i e (sp ++ W)) (hs : sp = [] ∨ sp = [32]) (hW : HeadNb W) : pbN x i e = i + sp.length := by
  rcases hs with rfl | rfl
  · exact h.pb0 hW
  · exact h.pb1 hW
theorem bb_no {x : List Nat} {i e : Nat} (h : x.getD i 0 ≠ 91) : bbN x i e = i := by
  unfold bbN closeN; rw [if_neg h]
theorem bb_end {x : List Nat} {i e : Nat} (h : e ≤ i) : bbN x i e = i := by
  unfold bbN; split
  · rw [if_neg (by lia)]
  · rfl
noncomputable def isBr (c : Nat) : Bool := c == 91 || c == 93
theorem nextB_win : ∀ (M : List Nat) {x : List Nat} {i e c : Nat} {V : List Nat}, (∀ u ∈ M, isBr u = false) → isBr c = true → Win x i e (M ++ c :: V) → nextB x i = some (i + M.length)
  | [], x, i, e, c, V, _, hc, h => by
    have hl := h.len; simp at hl
    rw [nextB_at (by lia), h.get, if_pos (by simpa [isBr] using hc)]; rfl
  | u :: M, x, i, e, c, V, hM, hc, h => by
    have hl := h.len; simp at hl
    have hu := hM u (.head _)
    rw [nextB_at (by lia), h.get, if_neg (by simpa [isBr] using hu), nextB_win M (fun v hv => hM v (.tail _ hv)) hc h.next]
    simp; lia
theorem close_some {M : List Nat} {x : List Nat} {i e : Nat} {V : List Nat} (hM : ∀ u ∈ M, isBr u = false) (h : Win x i e (91 :: (M ++ 93 :: V))) : closeN x i = some (i + 1 + M.length) := by
  have h2 := (Win.nexts M h.next).get
  unfold closeN; rw [if_pos h.get, nextB_win M hM rfl h.next]
  simp only [h2, if_true]
theorem close_none {M : List Nat} {x : List Nat} {i e : Nat} {V : List Nat} (hM : ∀ u ∈ M, isBr u = false) (h : Win x i e (91 :: (M ++ 91 :: V))) : closeN x i = none := by
  have h2 := (Win.nexts M h.next).get
  unfold closeN; rw [if_pos h.get, nextB_win M hM rfl h.next]
  simp only [h2]; rfl
/-! the reply's words -/
theorem rw_miss {x : List Nat} {i e : Nat} {W w : List Nat} (t : List Nat) (h : Win x i e W) (ht : lowS (W.take 3) = t) (hm : t.take w.length ≠ w) : rwN x i e w = none := by
  subst ht; unfold rwN; rw [h.take 3, if_neg hm]
theorem rw_hit {x : List Nat} {i e b : Nat} {W w : List Nat} (h : Win x i e W) (hm : (lowS (W.take 3)).take w.length = w) (hb : bbN x (pbN x (i + w.length) e) e = b) : rwN x i e w = if subN x b (min (b + 1) e) = [58] then some (b + 1) else none := by
  unfold rwN; rw [h.take 3, if_pos hm]; simp only [hb]
theorem pr_of {x : List Nat} {i e : Nat} {a b c : Option Nat} (h1 : rwN x i e [114, 101] = a) (h2 : rwN x i e [102, 119, 100] = b) (h3 : rwN x i e [102, 119] = c) : prN x i e = ((a <|> b) <|> c).getD i := by
  unfold prN prW
  simp only [List.findSome?_cons, List.findSome?_nil, h1, h2, h3]
  cases a <;> cases b <;> cases c <;> rfl
/-- where a reply's word and its sign end -/
theorem pr_left {x : List Nat} {i e : Nat} {p V : List Nat} (hp : Left p true) (h : Win x i e (p ++ V)) : (E2 fun n sp => A5 (p = p.take n ++ sp) (0 < n) (n ≤ p.length) (prN x i e = i + n) ((sp = [] ∨ sp = [32]))) := by
  have col : ∀ {j : Nat} {U : List Nat}, Win x j e (58 :: U) → pbN x j e = j ∧ bbN x j e = j ∧ subN x j (min (j + 1) e) = [58] := fun {j U} hw => ⟨hw.pb0 ⟨_, _, rfl, by decide⟩, bb_no (by rw [hw.get]; decide), by rw [hw.take 1]; rfl⟩
  cases hp with
  | re hp =>
    simp only [List.mem_cons, List.not_mem_nil, or_false] at hp
    rcases hp with rfl | rfl | rfl | rfl | rfl
    · refine ⟨3, [32], rfl, by decide, by decide, ?_, .inr rfl⟩
      obtain ⟨c1, c2, c3⟩ := col (j := i + 2) (Win.nexts [82, 101] h)
      rw [pr_of (rw_hit h rfl (b := i + 2) (by rw [show i + [114, 101].length = i + 2 from rfl, c1, c2])) rfl rfl, if_pos c3]; rfl
    · refine ⟨3, [], rfl, by decide, by decide, ?_, .inl rfl⟩
      obtain ⟨c1, c2, c3⟩ := col (j := i + 2) (Win.nexts [102, 119] h)
      rw [pr_of (rw_miss [102, 119, 58] h rfl (by decide)) (rw_miss [102, 119, 58] h rfl (by decide)) (rw_hit h rfl (b := i + 2) (by rw [show i + [102, 119].length = i + 2 from rfl, c1, c2])), if_pos c3]; rfl
    · refine ⟨3, [32], rfl, by decide, by decide, ?_, .inr rfl⟩
      obtain ⟨c1, c2, c3⟩ := col (j := i + 2) (Win.nexts [102, 119] h)
      rw [pr_of (rw_miss [102, 119, 58] h rfl (by decide)) (rw_miss [102, 119, 58] h rfl (by decide)) (rw_hit h rfl (b := i + 2) (by rw [show i + [102, 119].length = i + 2 from rfl, c1, c2])), if_pos c3]; rfl
    · refine ⟨5, [32], rfl, by decide, by decide, ?_, .inr rfl⟩
      obtain ⟨c1, c2, c3⟩ := col (j := i + 4) (Win.nexts [70, 87, 68, 32] h)
      have hp : pbN x (i + 3) e = i + 4 := (Win.nexts [70, 87, 68] h).pb1 ⟨_, _, rfl, by decide⟩
      rw [pr_of (rw_miss [102, 119, 100] h rfl (by decide)) (rw_hit h rfl (b := i + 4) (by rw [show i + [102, 119, 100].length = i + 3 from rfl, hp]; exact c2)) rfl, if_pos c3]; rfl
    · refine ⟨6, [32], rfl, by decide, by decide, ?_, .inr rfl⟩
      obtain ⟨c1, c2, c3⟩ := col (j := i + 5) (Win.nexts [114, 101, 91, 52, 93] h)
      have hw : Win x (i + 2) e (91 :: ([52] ++ 93 :: (58 :: 32 :: V))) := Win.nexts [114, 101] h
      have hl := hw.len
      have hp : pbN x (i + 2) e = i + 2 := hw.pb0 ⟨_, _, rfl, by decide⟩
      have hb : bbN x (i + 2) e = i + 5 := by
        unfold bbN; rw [close_some (by decide) hw]
        simp only [List.length_cons, List.length_nil, List.length_append] at hl ⊢
        rw [if_pos (by lia), show i + 2 + 1 + (0 + 1) + 1 = i + 5 by lia]
        exact c1
      rw [pr_of (rw_hit h rfl (b := i + 5) (by rw [show i + [114, 101].length = i + 2 from rfl, hp, hb])) rfl rfl, if_pos c3]; rfl
theorem pr_end {x : List Nat} {e : Nat} (h : Win x e e []) : prN x e e = e := by
  rw [pr_of (rw_miss [] h rfl (by decide)) (rw_miss [] h rfl (by decide)) (rw_miss [] h rfl (by decide))]; rfl
end
section
theorem Left.head {p : List Nat} {b : Bool} (h : Left p b) : (E2 fun c r => A3 (p = c :: r) (c ≠ 32) ((b = true → c ≠ 91))) := by
  cases h with
  | re hp =>
    simp only [List.mem_cons, List.not_mem_nil, or_false] at hp
    rcases hp with rfl | rfl | rfl | rfl | rfl <;> exact ⟨_, _, rfl, by decide, by decide⟩
  | blob => exact ⟨_, _, rfl, by decide, by simp⟩
theorem head_pre {P : List (List Nat × Bool)} {C : List Nat} (hP : ∀ p ∈ P, Left p.1 p.2) (hC : HeadNb C) : HeadNb (preOf P ++ C) := by
  cases P with
  | nil => exact hC
  | cons p P =>
    obtain ⟨c, r, h, hc, _⟩ := (hP p (.head _)).head
    exact ⟨c, r ++ preOf P ++ C, by simp [preOf, h], hc⟩
structure CoreOk (x : List Nat) (i e : Nat) : Prop where
  pr : prN x i e = i
  bb : bbN x i e = i ∨ bbN x i e = e
theorem leads_go {x : List Nat} {e : Nat} {C : List Nat} (hC : HeadNb C) : ∀ (P : List (List Nat × Bool)), (∀ p ∈ P, Left p.1 p.2) → ∀ (i la la' i' r : Nat) (k k' : Bool), Win x i e (preOf P ++ C) → CoreOk x (e - C.length) e → Blobs x e la i la' i' →
    ((prN x i' e = i' ∧ r = (if i' < e then i' else la') ∧ k' = k) ∨ (prN x i' e ≠ i' ∧ Leads x e (prN x i' e) true r k')) → r = e - C.length ∧ k' = (k || P.any (·.2))
  | [], _, i, la, la', i', r, k, k', hw, ok, hb, ht => by
    have hl := hw.len
    have hcl : 0 < C.length := by obtain ⟨c, r, rfl, _⟩ := hC; simp
    have hl1 : e = i + C.length := by have := hl.1; simpa [preOf] using this
    have ei : e - C.length = i := by lia
    rw [ei] at ok ⊢
    have hie : i < e := by lia
    have he : Win x e e [] := by
      have := (Win.split (V := []) (by rw [List.append_nil]; exact hw) : _ ∧ Win x (i + (preOf [] ++ C).length) e []).2
      rwa [← hl.1] at this
    rw [List.any_nil, Bool.or_false]
    rcases ok.bb with h1 | h1
    · cases hb with
      | more h2 => lia
      | stop h2 =>
        rcases ht with ⟨_, rfl, rfl⟩ | ⟨h3, _⟩
        · exact ⟨if_pos hie, rfl⟩
        · exact absurd ok.pr h3
    · cases hb with
      | stop h2 => lia
      | more h2 h3 =>
        rw [h1] at h3
        cases h3 with
        | more h4 => rw [bb_end (Nat.le_refl e)] at h4; lia
        | stop h4 =>
          rcases ht with ⟨_, rfl, rfl⟩ | ⟨h5, _⟩
          · exact ⟨if_neg (by lia), rfl⟩
          · exact absurd (pr_end he) h5
  | (p, true) :: P, hP, i, la, la', i', r, k, k', hw, ok, hb, ht => by
    have hp : Left p true := hP _ (.head _)
    have hw' : Win x i e (p ++ (preOf P ++ C)) := by have := hw; simp only [preOf, List.append_assoc] at this; exact this
    obtain ⟨n, sp, h1, h2, h3, h4, h5⟩ := pr_left hp hw'
    obtain ⟨c, r0, hc, _, h91⟩ := hp.head
    have hbi : bbN x i e = i := bb_no (by rw [Win.get (V := r0 ++ (preOf P ++ C)) (by have := hw'; rw [hc] at this; exact this)]; exact h91 rfl)
    cases hb with
    | more h6 => lia
    | stop h6 =>
      rcases ht with ⟨h7, _⟩ | ⟨_, h7⟩
      · lia
      · rw [h4] at h7
        have hw2 : Win x (i + n) e (sp ++ (preOf P ++ C)) := by
          have : Win x i e (p.take n ++ (sp ++ (preOf P ++ C))) := by rw [← List.append_assoc, ← h1]; exact hw'
          have := this.nexts
          rwa [List.length_take, Nat.min_eq_left h3] at this
        have hP' := fun q hq => hP q (.tail _ hq)
        have hpb := hw2.pbs h5 (head_pre hP' hC)
        have hw3 := hw2.nexts
        have fin : ∀ {la2 i2}, Blobs x e (pbN x (i + n) e) (pbN x (i + n) e) la2 i2 → ((prN x i2 e = i2 ∧ r = (if i2 < e then i2 else la2) ∧ k' = true) ∨ (prN x i2 e ≠ i2 ∧ Leads x e (prN x i2 e) true r k')) → r = e - C.length ∧ k' = (k || ((p, true) :: P).any (·.2)) := by
          intro la2 i2 hb2 ht2
          rw [hpb] at hb2
          obtain ⟨a, b⟩ := leads_go hC P hP' _ _ _ _ r true k' hw3 ok hb2 ht2
          exact ⟨a, by rw [b]; simp⟩
        generalize hbb : i + n = b at h7 fin
        cases h7 with
        | stop h8 h9 => exact fin h8 (.inl ⟨h9, rfl, rfl⟩)
        | more h8 h9 h10 => exact fin h8 (.inr ⟨h9, h10⟩)
  | (p, false) :: P, hP, i, la, la', i', r, k, k', hw, ok, hb, ht => by
    have hp : Left p false := hP _ (.head _)
    have hP' := fun q hq => hP q (.tail _ hq)
    have hh := head_pre (C := C) hP' hC
    have hp' : p = [91, 108, 105, 115, 116, 32, 55, 93, 32] := by
      cases hp with
      | blob => rfl
    subst hp'
    have hw' : Win x i e (91 :: ([108, 105, 115, 116, 32, 55] ++ 93 :: (32 :: (preOf P ++ C)))) := by have := hw; simp only [preOf, List.append_assoc] at this; exact this
    have hw2 : Win x (i + 8) e (32 :: (preOf P ++ C)) := Win.nexts [91, 108, 105, 115, 116, 32, 55, 93] hw'
    have hl := hw2.len
    have hbi : bbN x i e = i + 9 := by
      unfold bbN; rw [close_some (by decide) hw']
      have := hl.1
      simp only [List.length_cons, List.length_nil] at this ⊢
      rw [if_pos (by lia), show i + 1 + (0 + 1 + 1 + 1 + 1 + 1 + 1) + 1 = i + 8 by lia, hw2.pb1 hh]
    cases hb with
    | stop h6 => lia
    | more h6 h7 =>
      rw [hbi] at h7
      obtain ⟨a, b⟩ := leads_go hC P hP' _ _ _ _ r k k' hw2.next ok h7 ht
      exact ⟨a, by rw [b]; simp⟩
theorem leads_all {x : List Nat} {b e r : Nat} {k' : Bool} {sp C : List Nat} {P : List (List Nat × Bool)} (hs : sp = [] ∨ sp = [32]) (hP : ∀ p ∈ P, Left p.1 p.2) (hC : HeadNb C) (hw : Win x b e (sp ++ (preOf P ++ C))) (ok : CoreOk x (e - C.length) e) (h : Leads x e b false r k') :
    r = e - C.length ∧ k' = P.any (·.2) := by
  have hpb := hw.pbs hs (head_pre hP hC)
  have fin : ∀ {la2 i2}, Blobs x e (pbN x b e) (pbN x b e) la2 i2 → ((prN x i2 e = i2 ∧ r = (if i2 < e then i2 else la2) ∧ k' = false) ∨ (prN x i2 e ≠ i2 ∧ Leads x e (prN x i2 e) true r k')) → r = e - C.length ∧ k' = P.any (·.2) := by
    intro la2 i2 hb2 ht2
    rw [hpb] at hb2
    obtain ⟨a, b⟩ := leads_go hC P hP _ _ _ _ r false k' hw.nexts ok hb2 ht2
    exact ⟨a, by rw [b]; simp⟩
  cases h with
  | stop h8 h9 => exact fin h8 (.inl ⟨h9, rfl, rfl⟩)
  | more h8 h9 h10 => exact fin h8 (.inr ⟨h9, h10⟩)
/-! trailers -/
theorem sb_win {x : List Nat} {b e : Nat} {V sp : List Nat} {c : Nat} (hs : sp = [] ∨ sp = [32]) (hc : c ≠ 32) (h : Win x b e (V ++ [c] ++ sp)) : sbN x b e = b + (V ++ [c]).length := by
  unfold sbN; rw [h.sub, h.len.1]
  rcases hs with rfl | rfl
  · simp [hc]
  · simp [hc]
theorem lower41 {c : Nat} (h : lowerN c = 41) : c = 41 := by unfold lowerN at h; split at h <;> lia
theorem trails_go {x : List Nat} {b : Nat} {V : List Nat} {c : Nat} (hc : c ≠ 32) (hc2 : c ≠ 41) : ∀ (R : List (List Nat)), (∀ r ∈ R, r ∈ rightS) → ∀ (sp : List Nat) (e r : Nat) (k k' : Bool), sp = [] ∨ sp = [32] → Win x b e (V ++ [c] ++ sufOf R ++ sp) → Trails x b e k r k' →
    r = b + (V ++ [c]).length ∧ k' = (k || !R.isEmpty)
  | [], _, sp, e, r, k, k', hs, hw, h => by
    have hw : Win x b e (V ++ [c] ++ sp) := by simpa [sufOf] using hw
    have hsb := sb_win hs hc hw
    cases h with
    | stop h1 => exact ⟨hsb, by simp⟩
    | more h1 =>
      exfalso
      rw [hsb] at h1
      have hw1 := (Win.split hw).1
      have hl : (V ++ [c]).length = V.length + 1 := by simp
      -- the last sign of what is compared
      obtain ⟨A, Z, rfl, hA, _⟩ := hw1
      have e1 : subN (A ++ (V ++ [c] ++ Z)) (max b (b + (V ++ [c]).length - 5)) (b + (V ++ [c]).length) = (V.drop (max b (b + (V ++ [c]).length - 5) - b)) ++ [c] := by
        unfold subN
        rw [show max b (b + (V ++ [c]).length - 5) = A.length + (max b (b + (V ++ [c]).length - 5) - b) by lia, ← List.drop_drop, List.drop_left]
        rw [List.drop_append_of_le_length (by lia), List.drop_append_of_le_length (by lia), show b + (V ++ [c]).length - (A.length + (max b (b + (V ++ [c]).length - 5) - b)) = (V.drop (max b (b + (V ++ [c]).length - 5) - b) ++ [c]).length by simp; lia]
        rw [show A.length + (max b (b + (V ++ [c]).length - 5) - b) - b = (max b (b + (V ++ [c]).length - 5) - b) by lia]
        exact List.take_left
      rw [e1] at h1
      have h2 := congrArg List.getLast? h1
      simp only [lowS, List.map_append, List.map_cons, List.map_nil, List.getLast?_append, List.getLast?_singleton, trail] at h2
      have h3 : lowerN c = 41 := by simpa using h2
      exact hc2 (lower41 h3)
  | t :: R, hR, sp, e, r, k, k', hs, hw, h => by
    have ht : (E3 fun sp' t0 u => A5 (t = sp' ++ (t0 ++ [u])) ((sp' = [] ∨ sp' = [32])) (u ≠ 32) ((t0 ++ [u]).length = 5) (lowS (t0 ++ [u]) = trail)) := by
      have := hR t (.head _)
      simp only [rightS, List.mem_cons, List.not_mem_nil, or_false] at this
      rcases this with rfl | rfl | rfl
      · exact ⟨[32], [40, 102, 119, 100], 41, rfl, .inr rfl, by decide, rfl, by decide⟩
      · exact ⟨[32], [40, 70, 119, 100], 41, rfl, .inr rfl, by decide, rfl, by decide⟩
      · exact ⟨[], [40, 70, 119, 100], 41, rfl, .inl rfl, by decide, rfl, by decide⟩
    obtain ⟨sp', t0, u, rfl, hs', hu, h5, hlow⟩ := ht
    have hw1 : Win x b e ((V ++ [c] ++ sufOf R ++ sp' ++ t0) ++ [u] ++ sp) := by simpa [sufOf] using hw
    have hsb := sb_win hs hu hw1
    have hw2 : Win x b (b + (V ++ [c] ++ sufOf R ++ sp' ++ t0 ++ [u]).length) ((V ++ [c] ++ sufOf R ++ sp') ++ (t0 ++ [u])) := by
      have := (Win.split hw1).1
      rwa [show V ++ [c] ++ sufOf R ++ sp' ++ t0 ++ [u] = (V ++ [c] ++ sufOf R ++ sp') ++ (t0 ++ [u]) by simp] at this ⊢
    rw [← hsb] at hw2
    obtain ⟨hw3, hw4⟩ := Win.split hw2
    have hl : sbN x b e = b + (V ++ [c] ++ sufOf R ++ sp').length + 5 := by
      rw [hw2.len.1, List.length_append (bs := t0 ++ [u]), h5, Nat.add_assoc]
    have e1 : lowS (subN x (max b (sbN x b e - 5)) (sbN x b e)) = trail := by
      rw [show max b (sbN x b e - 5) = b + (V ++ [c] ++ sufOf R ++ sp').length by lia, hw4.sub]; exact hlow
    cases h with
    | stop h1 => exact absurd e1 h1
    | more h1 h2 =>
      rw [show sbN x b e - 5 = b + (V ++ [c] ++ sufOf R ++ sp').length by lia] at h2
      obtain ⟨a, b⟩ := trails_go hc hc2 R (fun q hq => hR q (.tail _ hq)) sp' _ r true k' hs' hw3 h2
      exact ⟨a, by rw [b]; simp⟩
end
section
theorem core_base {B x : List Nat} {i e : Nat} (hB : B ∈ basesS) (h : Win x i e B) : CoreOk x i e := by
  have miss : ∀ (t : List Nat), lowS (B.take 3) = t → t.take 2 ≠ [114, 101] → t.take 3 ≠ [102, 119, 100] → t.take 2 ≠ [102, 119] → prN x i e = i := fun t ht h1 h2 h3 => by
    rw [pr_of (rw_miss t h ht h1) (rw_miss t h ht h2) (rw_miss t h ht h3)]; rfl
  have no : ∀ {j c : Nat} {U : List Nat} {w : List Nat}, Win x j e (c :: U) → c ≠ 32 → c ≠ 91 → c ≠ 58 → i + w.length = j → (lowS (B.take 3)).take w.length = w → rwN x i e w = none := by
    intro j c U w hw h1 h2 h3 hj ht
    rw [rw_hit h ht (b := j) (by rw [hj, hw.pb0 ⟨_, _, rfl, h1⟩]; exact bb_no (by rw [hw.get]; exact h2)), hw.take 1, if_neg (by simpa using h3)]
  have bb : ∀ {c : Nat} {U : List Nat}, B = c :: U → c ≠ 91 → bbN x i e = i ∨ bbN x i e = e := fun hb hc => .inl (bb_no (by rw [Win.get (hb ▸ h)]; exact hc))
  simp only [basesS, List.mem_cons, List.not_mem_nil, or_false] at hB
  rcases hB with rfl | rfl | rfl | rfl | rfl | rfl | rfl
  · exact ⟨miss [111, 110, 101] rfl (by decide) (by decide) (by decide), bb rfl (by decide)⟩
  · exact ⟨miss [97, 32, 91] rfl (by decide) (by decide) (by decide), bb rfl (by decide)⟩
  · refine ⟨?_, bb rfl (by decide)⟩
    rw [pr_of (no (Win.nexts [114, 101] h) (by decide) (by decide) (by decide) rfl rfl) (rw_miss [114, 101, 103] h rfl (by decide)) (rw_miss [114, 101, 103] h rfl (by decide))]; rfl
  · exact ⟨miss [50, 58, 32] rfl (by decide) (by decide) (by decide), bb rfl (by decide)⟩
  · exact ⟨miss [120, 32, 40] rfl (by decide) (by decide) (by decide), bb rfl (by decide)⟩
  · refine ⟨?_, bb rfl (by decide)⟩
    have he : e = i + 3 := h.len.1
    have h2 : rwN x i e [102, 119, 100] = none := by
      rw [rw_hit h rfl (b := e) (by rw [show i + [102, 119, 100].length = e from he.symm, pbN_end (Nat.le_refl e)]; exact bb_end (Nat.le_refl e)), if_neg]
      unfold subN
      rw [show min (e + 1) e - e = 0 by lia]; simp
    rw [pr_of (rw_miss [102, 119, 100] h rfl (by decide)) h2 (no (Win.nexts [102, 119] h) (by decide) (by decide) (by decide) rfl rfl)]; rfl
  · exact ⟨miss [233, 116, 233] rfl (by decide) (by decide) (by decide), bb rfl (by decide)⟩
/-- the first bracket, if any, is an opening one -/
noncomputable def Good (W : List Nat) : Prop := W.find? isBr ≠ some 93
theorem Good.append {a b : List Nat} (ha : Good a) (hb : Good b) : Good (a ++ b) := by
  unfold Good at *
  rw [List.find?_append]
  cases h : a.find? isBr with
  | none => simpa using hb
  | some c => rw [h] at ha; simpa using ha
theorem Good.left {p : List Nat} {b : Bool} (h : Left p b) : Good p := by
  unfold Good
  cases h with
  | re hp =>
    simp only [List.mem_cons, List.not_mem_nil, or_false] at hp
    rcases hp with rfl | rfl | rfl | rfl | rfl <;> decide
  | blob => decide
theorem Good.pre : ∀ {P : List (List Nat × Bool)}, (∀ p ∈ P, Left p.1 p.2) → Good (preOf P)
  | [], _ => by unfold Good; decide
  | p :: P, h => (Good.left (h p (.head _))).append (Good.pre fun q hq => h q (.tail _ hq))
theorem right_good : ∀ r ∈ rightS, r.find? isBr ≠ some 93 := by decide
theorem Good.suf : ∀ {R : List (List Nat)}, (∀ r ∈ R, r ∈ rightS) → Good (sufOf R)
  | [], _ => by unfold Good; decide
  | r :: R, h => (Good.suf fun q hq => h q (.tail _ hq)).append (right_good r (h r (.head _)))
theorem bases_good : ∀ B ∈ basesS, B.find? isBr ≠ some 93 := by decide
theorem Subj.good {B y : List Nat} {k : Bool} (hB : B ∈ basesS) (h : Subj B y k) : Good y := by
  cases h with
  | base hP hR => exact ((Good.pre hP).append (bases_good B hB)).append (Good.suf hR)
  | box hP hR => exact ((Good.pre hP).append (by unfold Good; simp [isBr])).append (Good.suf hR)
theorem five : ∀ u ∈ ([70, 119, 100, 58, 32] : List Nat), isBr u = false := by decide
theorem core_box {x M : List Nat} {i e : Nat} (hM : Good M) (h : Win x i e ([91, 70, 119, 100, 58, 32] ++ M ++ [93])) : CoreOk x i e := by
  constructor
  · rw [pr_of (rw_miss [91, 102, 119] h rfl (by decide)) (rw_miss [91, 102, 119] h rfl (by decide)) (rw_miss [91, 102, 119] h rfl (by decide))]; rfl
  · cases hf : M.find? isBr with
    | none =>
      right
      have h' : Win x i e (91 :: (([70, 119, 100, 58, 32] ++ M) ++ 93 :: [])) := by simpa using h
      have hn : ∀ u ∈ [70, 119, 100, 58, 32] ++ M, isBr u = false := by
        intro u hu
        rcases List.mem_append.mp hu with hu | hu
        · exact five u hu
        · have := List.find?_eq_none.mp hf u hu; simpa using this
      have hl := h'.len.1
      unfold bbN; rw [close_some hn h']
      simp only [List.length_cons, List.length_append, List.length_nil] at hl ⊢
      rw [if_pos (by lia), pbN_end (by lia)]; lia
    | some c =>
      left
      obtain ⟨hc, M1, M2, e1, e2⟩ := List.find?_eq_some_iff_append.mp hf
      have : c = 91 := by
        simp only [isBr, Bool.or_eq_true, beq_iff_eq] at hc
        rcases hc with hc | hc
        · exact hc
        · exact absurd (hc ▸ hf) hM
      subst this
      have h' : Win x i e (91 :: (([70, 119, 100, 58, 32] ++ M1) ++ 91 :: (M2 ++ [93]))) := by rw [e1] at h; simpa using h
      have hn : ∀ u ∈ [70, 119, 100, 58, 32] ++ M1, isBr u = false := by
        intro u hu
        rcases List.mem_append.mp hu with hu | hu
        · exact five u hu
        · have := e2 u hu; simpa using this
      unfold bbN; rw [close_none hn h']
theorem bases_form : ∀ B ∈ basesS, (B.head?.getD 32 ≠ 32 ∧ B.getLast?.getD 32 ≠ 32 ∧ B.getLast?.getD 32 ≠ 41) ∧ lowS (B.take 5) ≠ fwdS := by decide
theorem head_of {B : List Nat} (h : B.head?.getD 32 ≠ 32) : HeadNb B := by
  cases B with
  | nil => exact absurd rfl h
  | cons c r => exact ⟨c, r, rfl, h⟩
theorem last_of {B : List Nat} (h : B.getLast?.getD 32 ≠ 32) : ∃ V, B = V ++ [B.getLast?.getD 32] := by
  rcases List.eq_nil_or_concat B with rfl | ⟨V, c, rfl⟩
  · exact absurd rfl h
  · exact ⟨V, by simp⟩
theorem base_go {x B : List Nat} (hB : B ∈ basesS) {y : List Nat} {k0 : Bool} (hS : Subj B y k0) : ∀ (b e : Nat) (sp1 sp2 : List Nat) (k : Bool) (r1 r2 : Nat) (r3 : Bool), (sp1 = [] ∨ sp1 = [32]) → (sp2 = [] ∨ sp2 = [32]) → Win x b e (sp1 ++ y ++ sp2) → BaseR x b e k r1 r2 r3 →
    subN x r1 r2 = B ∧ r3 = (k || k0) := by
  -- what holds about a core between wraps
  have step : ∀ {P : List (List Nat × Bool)} {R : List (List Nat)} {C sp1 sp2 : List Nat} {b e e1 b1 : Nat} {k1 k2 : Bool}, (∀ p ∈ P, Left p.1 p.2) → (∀ r ∈ R, r ∈ rightS) → HeadNb C → C.getLast?.getD 32 ≠ 32 → C.getLast?.getD 32 ≠ 41 → (∀ {i e}, Win x i e C → CoreOk x i e) →
      (sp1 = [] ∨ sp1 = [32]) → (sp2 = [] ∨ sp2 = [32]) → Win x b e (sp1 ++ (preOf P ++ C ++ sufOf R) ++ sp2) → Trails x b e false e1 k1 → Leads x e1 b false b1 k2 → Win x b1 e1 C ∧ k1 = !R.isEmpty ∧ k2 = P.any (·.2) := by
    intro P R C sp1 sp2 b e e1 b1 k1 k2 hP hR hC h1 h2 hok hs1 hs2 hw ht hl
    obtain ⟨V, hV⟩ := last_of h1
    have hw1 : Win x b e (((sp1 ++ preOf P ++ V) ++ [C.getLast?.getD 32]) ++ sufOf R ++ sp2) := by
      have e : sp1 ++ preOf P ++ V ++ [C.getLast?.getD 32] = sp1 ++ preOf P ++ C := by rw [List.append_assoc, ← hV]
      rw [e]; simpa using hw
    obtain ⟨a1, a2⟩ := trails_go h1 h2 R hR sp2 e e1 false k1 hs2 hw1 ht
    have e2 : sp1 ++ preOf P ++ V ++ [C.getLast?.getD 32] = sp1 ++ (preOf P ++ C) := by rw [List.append_assoc, ← hV]; simp
    have hw2 : Win x b e1 (sp1 ++ (preOf P ++ C)) := by
      have := (Win.split (Win.split hw1).1).1
      rw [← a1, e2] at this; exact this
    have hw3 : Win x (e1 - C.length) e1 C := by
      have h3 : Win x b e1 ((sp1 ++ preOf P) ++ C) := by simpa using hw2
      have h4 := (Win.split h3).2
      have h5 := h3.len.1
      rw [List.length_append] at h5
      rwa [show b + (sp1 ++ preOf P).length = e1 - C.length by lia] at h4
    obtain ⟨b1', b2⟩ := leads_all hs1 hP hC hw2 (hok hw3) hl
    rw [b1']
    exact ⟨hw3, by simpa using a2, b2⟩
  induction hS with
  | @base P R hP hR =>
    intro b e sp1 sp2 k r1 r2 r3 hs1 hs2 hw h
    obtain ⟨⟨f1, f2, f3⟩, f4⟩ := bases_form B hB
    cases h with
    | stop t1 t2 t3 =>
      obtain ⟨g1, rfl, rfl⟩ := step hP hR (head_of f1) f2 f3 (fun h => core_base hB h) hs1 hs2 hw t1 t2
      refine ⟨g1.sub, ?_⟩
      cases k <;> cases R.isEmpty <;> cases P.any (·.2) <;> rfl
    | more t1 t2 t3 =>
      obtain ⟨g1, rfl, rfl⟩ := step hP hR (head_of f1) f2 f3 (fun h => core_base hB h) hs1 hs2 hw t1 t2
      exact absurd (by rw [← g1.take 5]; exact t3.1) f4
  | @box P R y k' sp hP hR hy hsp ih =>
    intro b e sp1 sp2 k r1 r2 r3 hs1 hs2 hw h
    have hg : Good (y ++ sp) := (hy.good hB).append (by rcases hsp with rfl | rfl <;> (unfold Good; decide))
    have hC : ∀ {i e}, Win x i e ([91, 70, 119, 100, 58, 32] ++ y ++ sp ++ [93]) → CoreOk x i e := fun {i e} h => core_box hg (by rwa [List.append_assoc _ y sp] at h)
    have hl : ([91, 70, 119, 100, 58, 32] ++ y ++ sp ++ [93]).getLast?.getD 32 = 93 := by rw [List.getLast?_concat]; rfl
    have hh : HeadNb ([91, 70, 119, 100, 58, 32] ++ y ++ sp ++ [93]) := ⟨91, [70, 119, 100, 58, 32] ++ y ++ sp ++ [93], rfl, by decide⟩
    have fw : ∀ {b1 e1 : Nat}, Win x b1 e1 ([91, 70, 119, 100, 58, 32] ++ y ++ sp ++ [93]) → isFwd x b1 e1 ∧ Win x (b1 + 5) (e1 - 1) ([32] ++ y ++ sp) := by
      intro b1 e1 g1
      have e0 : [91, 70, 119, 100, 58, 32] ++ y ++ sp ++ [93] = [91, 70, 119, 100, 58] ++ ([32] ++ y ++ sp ++ [93]) := by simp
      have g2 : Win x (b1 + 5) e1 (([32] ++ y ++ sp) ++ [93]) := by rw [e0] at g1; exact g1.nexts
      obtain ⟨g3, g4⟩ := Win.split g2
      have hl1 := g3.len.1
      have hl2 := g2.len.1
      rw [List.length_append, List.length_singleton] at hl2
      rw [show b1 + 5 + ([32] ++ y ++ sp : List Nat).length = e1 - 1 by lia] at g3 g4
      exact ⟨⟨by rw [g1.take 5]; rfl, g4.get⟩, g3⟩
    cases h with
    | stop t1 t2 t3 =>
      obtain ⟨g1, _, _⟩ := step hP hR hh (by rw [hl]; decide) (by rw [hl]; decide) hC hs1 hs2 hw t1 t2
      exact absurd (fw g1).1 t3
    | more t1 t2 t3 t4 =>
      obtain ⟨g1, _, _⟩ := step hP hR hh (by rw [hl]; decide) (by rw [hl]; decide) hC hs1 hs2 hw t1 t2
      obtain ⟨a, b⟩ := ih _ _ [32] sp true _ _ _ (.inr rfl) hsp (fw g1).2 t4
      exact ⟨a, by rw [b]; simp⟩
theorem law_subject {B y : List Nat} {k0 : Bool} (hB : B ∈ basesS) (h : Subj B y k0) {b e : Nat} {k : Bool} (hr : BaseR y 0 y.length false b e k) : subN y b e = B ∧ k = k0 := by
  have := base_go hB h 0 y.length [] [] false b e k (.inl rfl) (.inl rfl) ⟨[], [], by simp, rfl, by simp⟩ hr
  simpa using this
end
section
theorem ids_write : ∀ p ∈ idsS, IdOk p.1 ∧ wrId p.1 = some p.2 ∧ p.2.length ≤ 1000 := by
  intro p hp
  simp only [idsS, List.mem_cons, List.not_mem_nil, or_false] at hp
  rcases hp with rfl | rfl | rfl | rfl | rfl
  all_goals exact ⟨⟨by decide, by decide, by decide, by decide +kernel⟩, by decide +kernel, by decide⟩
theorem joinL_len : ∀ ws : List (List Nat), ws ≠ [] → (joinL [32] ws).length + 1 = (ws.map fun w => w.length + 1).sum
  | [], h => absurd rfl h
  | [w], _ => by simp [joinL]
  | w :: y :: r, _ => by
    have := joinL_len (y :: r) (by simp)
    show (w ++ [32] ++ joinL [32] (y :: r)).length + 1 = _
    rw [List.map_cons, List.sum_cons, ← this]; simp; lia
theorem spl_sum : ∀ x : List Nat, ((spl x).map fun w => w.length + 1).sum = x.length + 1
  | [] => rfl
  | c :: r => by
    have ih := spl_sum r
    rw [spl]
    by_cases hc : c = 32
    · rw [if_pos hc]; simp only [List.map_cons, List.sum_cons, List.length_nil, List.length_cons, ih]; lia
    · rw [if_neg hc]
      cases h : spl r with
      | nil => exact absurd h (spl_ne r)
      | cons w ws => rw [h] at ih; simp only [List.map_cons, List.sum_cons, List.length_cons] at ih ⊢; lia
theorem filter_sum (p : List Nat → Bool) : ∀ ws : List (List Nat), ((ws.filter p).map fun w => w.length + 1).sum ≤ (ws.map fun w => w.length + 1).sum
  | [] => Nat.le_refl _
  | w :: r => by
    have := filter_sum p r
    rw [List.filter_cons]; split <;> simp only [List.map_cons, List.sum_cons] <;> lia
theorem sqz_len (x : List Nat) : (sqz x).length ≤ x.length := by
  by_cases h : wds x = []
  · rw [sqz_eq, h]; exact Nat.zero_le _
  · have h1 := joinL_len (wds x) h
    have h2 := filter_sum (fun w => decide (w ≠ [])) (spl (x.map bl))
    rw [spl_sum, List.length_map] at h2
    have h3 : ((wds x).map fun w => w.length + 1).sum ≤ x.length + 1 := h2
    rw [sqz_eq]; lia
theorem joinL_mem {u : Nat} : ∀ {ws : List (List Nat)}, u ∈ joinL [32] ws → u = 32 ∨ ∃ w ∈ ws, u ∈ w
  | [], h => by cases h
  | [w], h => .inr ⟨w, .head _, h⟩
  | w :: y :: r, h => by
    have h : u ∈ w ++ [32] ++ joinL [32] (y :: r) := h
    rcases List.mem_append.mp h with h | h
    · rcases List.mem_append.mp h with h | h
      · exact .inr ⟨w, .head _, h⟩
      · exact .inl (List.mem_singleton.mp h)
    · rcases joinL_mem h with h | ⟨v, hv, hu⟩
      · exact .inl h
      · exact .inr ⟨v, .tail _ hv, hu⟩
theorem spl_mem {u : Nat} : ∀ {x : List Nat} {w : List Nat}, w ∈ spl x → u ∈ w → u ∈ x
  | [], w, h, hu => by rw [List.mem_singleton.mp h] at hu; cases hu
  | c :: r, w, h, hu => by
    rw [spl] at h
    by_cases hc : c = 32
    · rw [if_pos hc] at h
      rcases List.mem_cons.mp h with rfl | h
      · cases hu
      · exact .tail _ (spl_mem h hu)
    · rw [if_neg hc] at h
      cases e : spl r with
      | nil => exact absurd e (spl_ne r)
      | cons v vs =>
        rw [e] at h
        rcases List.mem_cons.mp h with rfl | h
        · rcases List.mem_cons.mp hu with rfl | hu
          · exact .head _
          · exact .tail _ (spl_mem (x := r) (w := v) (by rw [e]; exact .head _) hu)
        · exact .tail _ (spl_mem (x := r) (w := w) (by rw [e]; exact .tail _ h) hu)
theorem sqz_low {x : List Nat} {n : Nat} (h32 : 32 < n) (h : ∀ u ∈ x, u < n) : ∀ u ∈ sqz x, u < n := by
  intro u hu
  rcases joinL_mem hu with rfl | ⟨w, hw, hu⟩
  · exact h32
  · have := spl_mem (List.mem_filter.mp hw).1 hu
    obtain ⟨c, hc, rfl⟩ := List.mem_map.mp this
    unfold bl; split
    · exact h32
    · exact h c hc
theorem wrap_low {x y : List Nat} {b : Bool} (w : Wrap x y b) (h : ∀ u ∈ x, u < 300) : (∀ u ∈ y, u < 300) ∧ y.length ≤ x.length + 12 := by
  have ap : ∀ {a c : List Nat}, (∀ u ∈ a, u < 300) → (∀ u ∈ c, u < 300) → ∀ u ∈ a ++ c, u < 300 := fun ha hc u hu => (List.mem_append.mp hu).elim (ha u) (hc u)
  cases w with
  | @re p hp =>
    simp only [List.mem_cons, List.not_mem_nil, or_false] at hp
    rcases hp with rfl | rfl | rfl | rfl <;> exact ⟨ap (by decide) h, by simp⟩
  | @fwd p hp =>
    simp only [List.mem_cons, List.not_mem_nil, or_false] at hp
    rcases hp with rfl | rfl <;> exact ⟨ap h (by decide), by simp⟩
  | box => exact ⟨ap (ap (by decide) h) (by decide), by simp⟩
  | blob => exact ⟨ap (by decide) h, by simp⟩
  | blank => exact ⟨ap (ap (by decide) h) (by decide), by simp⟩
theorem bases_low : ∀ B ∈ basesS, (∀ u ∈ B, u < 300) ∧ B.length ≤ 12 := by decide
end
section
section
variable {Q : PV → Led → Prop} {c : Cx} {X : Vars → Led → Prop} {vars : Vars} {led : Led}
theorem it_odd {value ix : Expr} {v : Nat} (hv : v < 15) (h : ∀ o ∈ oddS, Q (.bytes o) led) : WIt c value ix (.ref 224) (.int v) Q X vars led := by
  refine It_top (fun w => by exact rfl) (by lia) (by simp; lia) (by decide) (fun x hx => ?_)
  obtain rfl | rfl | rfl | rfl | rfl | rfl | rfl | rfl | rfl | rfl | rfl | rfl | rfl | rfl | rfl : v = 0 ∨ v = 1 ∨ v = 2 ∨ v = 3 ∨ v = 4 ∨ v = 5 ∨ v = 6 ∨ v = 7 ∨ v = 8 ∨ v = 9 ∨ v = 10 ∨ v = 11 ∨ v = 12 ∨ v = 13 ∨ v = 14 := by lia
  all_goals (injection hx with hx; subst hx; exact h _ (by decide))
theorem it_bases {value ix : Expr} {v : Nat} (hv : v < 7) (h : ∀ B ∈ basesS, Q (.str B) led) : WIt c value ix (.ref 225) (.int v) Q X vars led := by
  refine It_top (fun w => by exact rfl) (by lia) (by simp; lia) (by decide) (fun x hx => ?_)
  obtain rfl | rfl | rfl | rfl | rfl | rfl | rfl : v = 0 ∨ v = 1 ∨ v = 2 ∨ v = 3 ∨ v = 4 ∨ v = 5 ∨ v = 6 := by lia
  all_goals (injection hx with hx; subst hx; exact h _ (by decide))
theorem it_ids {value ix : Expr} {v : Nat} (hv : v < 5) (h : ∀ a t w, (t, w) ∈ idsS → ((E4 fun its n dd sl => A2 ((∀ w, (KF w).lookup a = some ⟨.type "tuple", dd, .seq (List.toArray its) n, sl⟩)) (its.map er = [.str t, .bytes w]))) → Q (.ref a) led) : WIt c value ix (.ref 223) (.int v) Q X vars led := by
  refine It_top (fun w => by exact rfl) (by lia) (by simp; lia) (by decide) (fun x hx => ?_)
  obtain rfl | rfl | rfl | rfl | rfl : v = 0 ∨ v = 1 ∨ v = 2 ∨ v = 3 ∨ v = 4 := by lia
  · injection hx with hx; subst hx; exact h _ [97, 46, 98, 64, 99] [60, 97, 46, 98, 64, 99, 62] (by decide) ⟨_, _, _, _, fun w => by exact rfl, rfl⟩
  · injection hx with hx; subst hx; exact h _ [120, 32, 121, 64, 100] [60, 34, 120, 32, 121, 34, 64, 100, 62] (by decide) ⟨_, _, _, _, fun w => by exact rfl, rfl⟩
  · injection hx with hx; subst hx; exact h _ [113, 34, 40, 114, 64, 115] [60, 34, 113, 92, 34, 40, 114, 34, 64, 115, 62] (by decide) ⟨_, _, _, _, fun w => by exact rfl, rfl⟩
  · injection hx with hx; subst hx; exact h _ [102, 64, 91, 49, 40, 50, 93] [60, 102, 64, 91, 49, 40, 50, 93, 62] (by decide) ⟨_, _, _, _, fun w => by exact rfl, rfl⟩
  · injection hx with hx; subst hx; exact h _ [107, 64, 91, 41, 93] [60, 107, 64, 91, 41, 93, 62] (by decide) ⟨_, _, _, _, fun w => by exact rfl, rfl⟩
end
end
section
theorem due_pairs : ∀ {L : List Lap}, (∀ l ∈ L, Lap.Ok l) → ∃ ps : List (List Nat × List UInt8), (∀ p ∈ ps, p ∈ idsS) ∧ ps.map (·.1) = dueL L
  | [], _ => ⟨[], by simp, rfl⟩
  | l :: L, h => by
    obtain ⟨ps, h1, h2⟩ := due_pairs fun q hq => h q (.tail _ hq)
    rcases (h l (.head _)).laid with ⟨t, ht, hi⟩ | ⟨ht, _⟩
    · refine ⟨(t, l.laid) :: ps, fun p hp => ?_, ?_⟩
      · rcases List.mem_cons.mp hp with rfl | hp
        · exact hi
        · exact h1 p hp
      · simp [dueL, ht] at h2 ⊢; exact h2
    · exact ⟨ps, h1, by simp [dueL, ht] at h2 ⊢; exact h2⟩
theorem joinB_len : ∀ ws : List (List UInt8), (∀ w ∈ ws, w.length ≤ 1000) → (joinL [32] ws).length ≤ 1001 * ws.length
  | [], _ => by simp [joinL]
  | [w], h => by have := h w (.head _); simp [joinL]; lia
  | w :: y :: r, h => by
    have h1 := h w (.head _)
    have h2 := joinB_len (y :: r) fun v hv => h v (.tail _ hv)
    show (w ++ [32] ++ joinL [32] (y :: r)).length ≤ _
    simp only [List.length_append, List.length_cons, List.length_nil] at h2 ⊢; lia
/-- all that `write_ids` asks of what is due -/
theorem due_write {L : List Lap} (h : ∀ l ∈ L, Lap.Ok l) (hn : L.length ≤ 4) : (E1 fun (ws : List (List UInt8)) => A6 ((dueL L).length ≤ 10) ((∀ t ∈ dueL L, IdOk t)) ((dueL L).map wrId = ws.map some) ((∀ w ∈ ws, w.length ≤ 1000)) ((joinL [32] ws).length ≤ 100000) (∀ ts, Reads' (joinL [32] ws) (weS (joinL [32] ws)) 0 ts → ts = dueL L)) := by
  obtain ⟨ps, h1, h2⟩ := due_pairs h
  have hl : (dueL L).length ≤ L.length := List.length_filterMap_le _ _
  have hw : ∀ w ∈ ps.map (·.2), w.length ≤ 1000 := fun w hw => by
    obtain ⟨p, hp, rfl⟩ := List.mem_map.mp hw
    exact (ids_write p (h1 p hp)).2.2
  refine ⟨ps.map (·.2), by lia, fun t ht => ?_, ?_, hw, ?_, fun ts hts => ?_⟩
  · rw [← h2] at ht
    obtain ⟨p, hp, rfl⟩ := List.mem_map.mp ht
    exact (ids_write p (h1 p hp)).1
  · rw [← h2, List.map_map, List.map_map]
    exact List.map_congr_left fun p hp => (ids_write p (h1 p hp)).2.1
  · have := joinB_len _ hw
    have h3 : (ps.map (·.2)).length = (dueL L).length := by rw [← h2, List.length_map, List.length_map]
    lia
  · rw [law_written h1 hts, h2]
section
variable {Q : PV → Led → Prop} {c : Cx} {X : Vars → Led → Prop} {vars : Vars} {led : Led}
theorem C_neSame {a b : Addr} {ss : List (List Nat)} {qs : List PV} (ha : (a, .list (ss.map .str)) ∈ led) (hb : (b, .list qs) ∈ led) (hq : qs = ss.map .str) (h : Q (.bool false) led) : WCmp c .NotEq (.ref a) (.ref b) Q X vars led :=
  C_neLS ha hb rfl hq (by simpa using h)
theorem C_eqTup' {a b : Addr} {x y : List Nat} {p q : Bool} (ha : (a, .tuple [.str x, .bool p]) ∈ led) (hb : (b, .tuple [.str y, .bool q]) ∈ led) (hx : x = y ∧ p = q) (h : Q (.bool true) led) : WCmp c .Eq (.ref a) (.ref b) Q X vars led :=
  C_eqTup ha hb (by obtain ⟨rfl, rfl⟩ := hx; simpa using h)
end
end
section
theorem octL_snoc (L : List Lap) (l : Lap) : octL (L ++ [l]) = octL L ++ l.odd ++ l.laid := by simp [octL]
theorem dueL_snoc (L : List Lap) (l : Lap) : dueL (L ++ [l]) = dueL L ++ l.told.toList := by
  cases h : l.told <;> simp [dueL, h]
theorem dueL_len (L : List Lap) : (dueL L).length ≤ L.length := List.length_filterMap_le _ _
theorem odd_len : ∀ o ∈ oddS, o.length ≤ 7 := by decide
theorem ids_len : ∀ p ∈ idsS, p.2.length ≤ 20 := by decide
theorem piece_len {q : Bool} {w : List UInt8} (h : Piece q w) : w.length ≤ 60 := by
  have hl : ∀ (k : Nat) (x : UInt8), (List.replicate k [x]).flatten.length = k := by intro k x; simp
  cases h with
  | nest h1 h2 h3 => simp only [List.length_append, hl, List.length_cons, List.length_nil]; lia
  | _ => simp
theorem pieces_len {q : Bool} : ∀ {ps : List (List UInt8)}, (∀ p ∈ ps, Piece q p) → ps.flatten.length ≤ 60 * ps.length
  | [], _ => by simp
  | p :: ps, h => by
    have h1 := piece_len (h p (.head _))
    have h2 := pieces_len (ps := ps) fun v hv => h v (.tail _ hv)
    rw [List.flatten_cons, List.length_append, List.length_cons]; lia
theorem word_of {q : Bool} {ps : List (List UInt8)} (h : ∀ p ∈ ps, Piece q p) : Word (if q then [34] ++ ps.flatten ++ [34] else [40] ++ ps.flatten ++ [41]) := by
  cases q
  · exact .round h
  · exact .quoted h
theorem word_len {q : Bool} {ps : List (List UInt8)} (h : ∀ p ∈ ps, Piece q p) (hl : ps.length ≤ 4) : (if q then [34] ++ ps.flatten ++ [34] else [40] ++ ps.flatten ++ [41] : List UInt8).length ≤ 250 := by
  have := pieces_len h
  cases q <;> simp only [if_true, Bool.false_eq_true, if_false, List.length_append, List.length_cons, List.length_nil] <;> lia
set_option maxHeartbeats 8000000 in
noncomputable def law_holds.tw5389484754426515990 : Nat := 0
noncomputable def law_holds.tw9797812581439246567 : Nat := 0
noncomputable def law_holds.tw15759456685926392790 : Nat := 0
noncomputable def law_holds.tw10866831976180801549 : Nat := 0
noncomputable def law_holds.tw12713459836128231821 : Nat := 0
noncomputable def law_holds.tw15388381823163157790 : Nat := 0
noncomputable def law_holds.tw4103306797374686269 : Nat := 0
noncomputable def law_holds.tw14447809873574782654 : Nat := 0
noncomputable def law_holds.tw7589297994852775868 : Nat := 0
noncomputable def law_holds.tw16142487073453066541 : Nat := 0
noncomputable def law_holds.tw18340598423539479173 : Nat := 0
noncomputable def law_holds.tw9606376775287448836 : Nat := 0
noncomputable def law_holds.tw14928284104357054422 : Nat := 0
noncomputable def law_holds.tw9843604407834444796 : Nat := 0
noncomputable def law_holds.tw3215646227880228634 : Nat := 0
noncomputable def law_holds.tw6861490101519172755 : Nat := 0
noncomputable def law_holds.tw8970147916757833333 : Nat := 0
noncomputable def law_holds.tw1905533677188600702 : Nat := 0
noncomputable def law_holds.tw13780023080261437657 : Nat := 0
noncomputable def law_holds.tw8266603773606604290 : Nat := 0
noncomputable def law_holds.tw6564709946809587534 : Nat := 0
noncomputable def law_holds.tw10958410103948607464 : Nat := 0
noncomputable def law_holds.tw12626328134170644701 : Nat := 0
noncomputable def law_holds.tw2322801206320994539 : Nat := 0
noncomputable def law_holds.tw11223184984439025696 : Nat := 0
noncomputable def law_holds.tw3756308257209627903 : Nat := 0
noncomputable def law_holds.tw4889031023730116350 : Nat := 0
noncomputable def law_holds.tw13882729330811710610 : Nat := 0
noncomputable def law_holds.tw2043166853727251185 : Nat := 0
noncomputable def law_holds.tw10264638600885302300 : Nat := 0
noncomputable def law_holds.tw12342728606916771844 : Nat := 0
noncomputable def law_holds.tw17993387198741990920 : Nat := 0
noncomputable def law_holds.tw11764581739189218997 : Nat := 0
noncomputable def law_holds.tw14925382992726071281 : Nat := 0
noncomputable def law_holds.tw14883556706271630602 : Nat := 0
noncomputable def law_holds.tw5506821171919863439 : Nat := 0
noncomputable def law_holds.tw519298541982818421 : Nat := 0
noncomputable def law_holds.tw15006436103509636135 : Nat := 0
noncomputable def law_holds.tw16470317323979864763 : Nat := 0
noncomputable def law_holds.tw8553002610548859549 : Nat := 0
noncomputable def law_holds.tw11100686419730198450 : Nat := 0
noncomputable def law_holds.tw4273555757443719353 : Nat := 0
noncomputable def law_holds.tw6159533029260741167 : Nat := 0
noncomputable def law_holds.tw14774650325386425613 : Nat := 0
noncomputable def law_holds.tw6869992995446874880 : Nat := 0
noncomputable def law_holds.tw12134408205421670959 : Nat := 0
noncomputable def law_holds.tw3186734533307500241 : Nat := 0
noncomputable def law_holds.tw12223724995276690173 : Nat := 0
noncomputable def law_holds.tw9875236377963488844 : Nat := 0
noncomputable def law_holds.tw9168033884955339765 : Nat := 0
noncomputable def law_holds.tw8441880690091102137 : Nat := 0
noncomputable def law_holds.tw12557544960718557666 : Nat := 0
noncomputable def law_holds.tw11625900857008200698 : Nat := 0
noncomputable def law_holds.tw1762888911704233025 : Nat := 0
noncomputable def law_holds.tw6709271908398517637 : Nat := 0
noncomputable def law_holds.tw9255152265573255198 : Nat := 0
noncomputable def law_holds.tw16836969012518115619 : Nat := 0
noncomputable def law_holds.tw15617896438947887921 : Nat := 0
noncomputable def law_holds.tw1832781179975386347 : Nat := 0
noncomputable def law_holds.tw17499823404086765753 : Nat := 0
noncomputable def law_holds.tw1989176631692091739 : Nat := 0
noncomputable def law_holds.tw1928719863018725356 : Nat := 0
noncomputable def law_holds.tw17911580528928914924 : Nat := 0
noncomputable def law_holds.tw6896717019858035522 : Nat := 0
noncomputable def law_holds.tw11966672015165255308 : Nat := 0
noncomputable def law_holds.tw16273140198857503625 : Nat := 0
noncomputable def law_holds.tw6723812968561706957 : Nat := 0
noncomputable def law_holds.tw4992725456586698614 : Nat := 0
noncomputable def law_holds.tw18090433342136740992 : Nat := 0
noncomputable def law_holds.tw10841264019214440115 : Nat := 0
noncomputable def law_holds.tw9779807473162285230 : Nat := 0
noncomputable def law_holds.tw3366817510852727610 : Nat := 0
noncomputable def law_holds.tw6765152471904792315 : Nat := 0
noncomputable def law_holds.tw11803358882649189518 : Nat := 0
noncomputable def law_holds.tw12889673554181485818 : Nat := 0
noncomputable def law_holds.tw4030767218360268280 : Nat := 0
noncomputable def law_holds.tw7221428835167493151 : Nat := 0
noncomputable def law_holds.tw10007947361888340627 : Nat := 0
noncomputable def law_holds.tw14545874151571354728 : Nat := 0
noncomputable def law_holds.tw8652346329174877282 : Nat := 0
noncomputable def law_holds.tw7120836010843673076 : Nat := 0
noncomputable def law_holds.tw4916342969005030805 : Nat := 0
noncomputable def law_holds.tw4323815956820902445 : Nat := 0
noncomputable def law_holds.tw12459966957829302596 : Nat := 0
noncomputable def law_holds.tw4781243967656130014 : Nat := 0
noncomputable def law_holds.tw17713402740875732926 : Nat := 0
noncomputable def law_holds.tw3850334171643177529 : Nat := 0
noncomputable def law_holds.tw14997073306097389879 : Nat := 0
noncomputable def law_holds.tw9529696498207198238 : Nat := 0
noncomputable def law_holds.tw18326849912455186884 : Nat := 0
noncomputable def law_holds.tw653560878884961445 : Nat := 0
noncomputable def law_holds.tw9069877914133315304 : Nat := 0
noncomputable def law_holds.tw3253568177066640346 : Nat := 0
set_option Elab.async true in
set_option maxHeartbeats 16000000 in
theorem law_holds : PySem.Challenge.rw_sa0549_01.Holds := by
  w_on
  o_law
  k_head
  (case hw => w_witness2)
  k_go0
  rename World => w
  rename Frag.In _ _ => KX0
  have KX : (KF w).In _ := KX0
  clear KX0
  rename Top _ _ _ _ _ _ => T0
  rename Fr _ _ _ _ => F0
  rename News _ _ _ _ => N0
  rename IntsAre _ _ => hI
  rename (Heap.IsList _ _ _) => hL
  rename (Below callerA _ _ _) => hB
  rename (¬ _) => hlen
  rename (_ = #[]) => hg
  refine enter KX T0 F0 N0 hI hL hB hlen hg ?_ ?_ ?_ ?_ ?_ _
  · intro _; rfl
  · wrow_post
  · rfl
  · exact PassesOwn.leaving
  · intro c' sa ns hr hcan hcs hi ho hcl hscr hns
    clear hg hlen hB hL hI N0 F0 T0 KX
    try (rename Ground _ _ _ _ _ _ _ _ _ => z; clear z)
    try (rename (KHook.says _ _ _) => z; clear z)
    try (rename Glob _ _ _ _ _ _ _ _ => z; clear z)
    try (rename LooseAre _ _ _ => z; clear z)
    try (rename Tables _ _ _ _ => z; clear z)
    try (rename TopE _ _ _ _ => z; clear z)
    try (rename TopW _ _ _ => z; clear z)
    try (rename BMod _ _ _ _ _ => z; clear z)
    try (rename Flt.MathXP _ _ _ => z; clear z)
    try (rename Dflts _ _ _ => z; clear z)
    try (rename Heap.CodeRec _ _ _ => z; clear z)
    try (rename ReadsAll _ _ _ _ => z; clear z)
    try (rename Well _ _ _ _ => z; clear z)
    try (rename Reads _ _ _ _ => z; clear z)
    refine S_cut (fun v l => (E3 fun P C cs => A3 (cs.length ≤ 40) (v = ([("script", .ref sa), ("pen", .ref P)] : Vars)) (l = [(P, Pen.po C ⟨cs, 0, 0⟩), (C, Pen.co ⟨cs, 0, 0⟩)]))) ?_ ?_
    · repeat' (first | (focus ((with_reducible apply E_fnB); wtm_at "nm"; (exact fun w => by with_unfolding_all exact rfl); rotate_left; assumption; wtm_at "mt"; wtm_at "mt"; rotate_left)) | (focus (first | with_reducible (first | refine Thn_next ?_ | refine Thn_ret ?_ | refine Trn_next ?_ | refine S_nil ?_ | refine S_cons ?_ | refine S_ret ?_ | refine S_if ?_ | refine E_int ?_ | refine E_bytes ?_ | refine E_bool ?_ | refine L_nil ?_ | refine E_bin ?_ | refine T_op ?_ | refine T_or ?_ | refine T_or0 ?_ | refine E_op ?_ | refine E_op1 ?_ | refine E_or ?_ | refine E_tuple ?_ | refine E_list ?_ | refine B_add ?_ | refine C_lt ?_ | refine C_eq ?_ | refine Tr_bool ?_ | refine ite_f ?_ | refine ite_d (fun _ => ?_) (fun _ => ?_) | refine ite_b (fun _ => ?_) (fun _ => ?_)) | ((with_reducible refine' S_set ?_ ?_ ?_ ?_); assumption; rotate_left; wtm_at "loc"; wtm_at "mt") | ((with_reducible refine' S_unR2 ?_ ?_ ?_ ?_ ?_ ?_); assumption; rotate_left; wtm_at "loc"; wtm_at "loc"; wtm_at "mt"; wtm_at "sw") | ((with_reducible refine' S_un2 ?_ ?_ ?_ ?_ ?_ ?_); assumption; rotate_left; wtm_at "loc"; wtm_at "loc"; wtm_at "mt"; wtm_at "mt") | ((with_reducible apply Bi_append); wtm_at "upd"; wtm_at "sz") | ((with_reducible refine' B_addB ?_ ?_); rotate_left; wtm_at "sz") | ((with_reducible refine' S_expr ?_ ?_ ?_); assumption; rotate_left; wtm_at "mt") | ((with_reducible apply exSet); wtm_at "setv") | ((with_reducible apply exSets); wtm_at "setvs") | ((with_reducible refine' ⟨?_, fun _ => ?_⟩); exact Nat.le_of_ble_eq_true rfl) | ((with_reducible refine' ⟨_, TupL.t ?_, ?_⟩); rotate_left; wtm_at "mem") | ((with_reducible refine' ⟨Recv.list ?_, ?_⟩); rotate_left; wtm_at "mem") | (with_reducible refine ⟨_, rfl, ?_⟩) | (with_reducible refine ⟨_, _, rfl, ?_⟩) | (with_reducible refine ⟨_, _, _, rfl, ?_⟩) | (with_reducible refine Bi_range1 (fun _ => ?_)) | ((with_reducible (first | refine' L_cons ?_ ?_ | refine' E_cmp ?_ ?_ | refine' T_cmp ?_ ?_ | refine' E_item ?_ ?_)); rotate_left; wtm_at "mt") | wtm_at "name" | ((with_reducible refine' E_fn ?_ ?_ ?_ ?_ ?_ ?_); rotate_left 2; wtm_at "nm"; (exact fun w => by with_unfolding_all exact rfl); rotate_left; wtm_at "mt"; wtm_at "mt"; rotate_left) | ((with_reducible refine' E_bt ?_ ?_ ?_ ?_); rotate_left; wtm_at "nm"; wtm_at "mt"; wtm_at "mt") | ((with_reducible refine' E_meth PySem.F.plainAttrs_list PySem.F.slot_list_append PySem.F.type_list_append ?_ ?_ ?_ ?_ ?_); rotate_left; wtm_at "mt"; wtm_at "mt"; wtm_at "mt"; rotate_left))) | refine c_pen hns (fun P C cs hcells => ?_))
      · rw [hr]; decide
      · exact ⟨by trivial, _, _, Wk.refl, _, _, _, hcells, rfl, rfl⟩
    rintro v l ⟨P, C, cs, hcells, rfl, rfl⟩
    refine S_cut (fun v l => ∃ D, v = ([("script", .ref sa), ("pen", .ref P), ("due", .ref D), ("octets", .bytes [])] : Vars) ∧ l = [(D, .list []), (P, Pen.po C ⟨cs, 0, 0⟩), (C, Pen.co ⟨cs, 0, 0⟩)]) ?_ ?_
    · repeat' (first | (focus (first | with_reducible (first | refine Thn_next ?_ | refine Thn_ret ?_ | refine Trn_next ?_ | refine S_nil ?_ | refine S_cons ?_ | refine S_ret ?_ | refine S_if ?_ | refine E_int ?_ | refine E_bytes ?_ | refine E_bool ?_ | refine L_nil ?_ | refine E_bin ?_ | refine T_op ?_ | refine T_or ?_ | refine T_or0 ?_ | refine E_op ?_ | refine E_op1 ?_ | refine E_or ?_ | refine E_tuple ?_ | refine E_list ?_ | refine B_add ?_ | refine C_lt ?_ | refine C_eq ?_ | refine Tr_bool ?_ | refine ite_f ?_ | refine ite_d (fun _ => ?_) (fun _ => ?_) | refine ite_b (fun _ => ?_) (fun _ => ?_)) | ((with_reducible refine' S_set ?_ ?_ ?_ ?_); assumption; rotate_left; wtm_at "loc"; wtm_at "mt") | ((with_reducible refine' S_unR2 ?_ ?_ ?_ ?_ ?_ ?_); assumption; rotate_left; wtm_at "loc"; wtm_at "loc"; wtm_at "mt"; wtm_at "sw") | ((with_reducible refine' S_un2 ?_ ?_ ?_ ?_ ?_ ?_); assumption; rotate_left; wtm_at "loc"; wtm_at "loc"; wtm_at "mt"; wtm_at "mt") | ((with_reducible apply Bi_append); wtm_at "upd"; wtm_at "sz") | ((with_reducible refine' B_addB ?_ ?_); rotate_left; wtm_at "sz") | ((with_reducible refine' S_expr ?_ ?_ ?_); assumption; rotate_left; wtm_at "mt") | ((with_reducible apply exSet); wtm_at "setv") | ((with_reducible apply exSets); wtm_at "setvs") | ((with_reducible refine' ⟨?_, fun _ => ?_⟩); exact Nat.le_of_ble_eq_true rfl) | ((with_reducible refine' ⟨_, TupL.t ?_, ?_⟩); rotate_left; wtm_at "mem") | ((with_reducible refine' ⟨Recv.list ?_, ?_⟩); rotate_left; wtm_at "mem") | (with_reducible refine ⟨_, rfl, ?_⟩) | (with_reducible refine ⟨_, _, rfl, ?_⟩) | (with_reducible refine ⟨_, _, _, rfl, ?_⟩) | (with_reducible refine Bi_range1 (fun _ => ?_)) | ((with_reducible (first | refine' L_cons ?_ ?_ | refine' E_cmp ?_ ?_ | refine' T_cmp ?_ ?_ | refine' E_item ?_ ?_)); rotate_left; wtm_at "mt") | wtm_at "name" | ((with_reducible refine' E_fn ?_ ?_ ?_ ?_ ?_ ?_); rotate_left 2; wtm_at "nm"; (exact fun w => by with_unfolding_all exact rfl); rotate_left; wtm_at "mt"; wtm_at "mt"; rotate_left) | ((with_reducible refine' E_bt ?_ ?_ ?_ ?_); rotate_left; wtm_at "nm"; wtm_at "mt"; wtm_at "mt") | ((with_reducible refine' E_meth PySem.F.plainAttrs_list PySem.F.slot_list_append PySem.F.type_list_append ?_ ?_ ?_ ?_ ?_); rotate_left; wtm_at "mt"; wtm_at "mt"; wtm_at "mt"; rotate_left))))
      exact ⟨by trivial, _, _, ⟨.refl _, (List.sublist_cons_self _ _)⟩, _, rfl, rfl⟩
    rintro v l ⟨D, rfl, rfl⟩
    have U : ∀ (po : PO) (st : Pen), PenF P C st [(D, po), (P, Pen.po C st), (C, Pen.co st)] (fun st' => [(D, po), (P, Pen.po C st'), (C, Pen.co st')]) := fun _ _ => .there .here
    refine S_cut (fun v l => (E2 fun L st' => A6 ((∀ l ∈ L, Lap.Ok l)) (L.length ≤ 4) ((octL L).length ≤ 1200) (PenOk 200 st') (v = ([("script", .ref sa), ("pen", .ref P), ("due", .ref D), ("octets", .bytes (octL L))] : Vars)) (l = [(D, .list ((dueL L).map PV.str)), (P, Pen.po C st'), (C, Pen.co st')]))) ?_ ?_
    · have ok1 : PenOk 0 ⟨cs, 0, 0⟩ := ⟨hcells, Nat.le_refl _⟩
      repeat' (first | (focus (first | with_reducible (first | refine Thn_next ?_ | refine Thn_ret ?_ | refine Trn_next ?_ | refine S_nil ?_ | refine S_cons ?_ | refine S_ret ?_ | refine S_if ?_ | refine E_int ?_ | refine E_bytes ?_ | refine E_bool ?_ | refine L_nil ?_ | refine E_bin ?_ | refine T_op ?_ | refine T_or ?_ | refine T_or0 ?_ | refine E_op ?_ | refine E_op1 ?_ | refine E_or ?_ | refine E_tuple ?_ | refine E_list ?_ | refine B_add ?_ | refine C_lt ?_ | refine C_eq ?_ | refine Tr_bool ?_ | refine ite_f ?_ | refine ite_d (fun _ => ?_) (fun _ => ?_) | refine ite_b (fun _ => ?_) (fun _ => ?_)) | ((with_reducible refine' S_set ?_ ?_ ?_ ?_); assumption; rotate_left; wtm_at "loc"; wtm_at "mt") | ((with_reducible refine' S_unR2 ?_ ?_ ?_ ?_ ?_ ?_); assumption; rotate_left; wtm_at "loc"; wtm_at "loc"; wtm_at "mt"; wtm_at "sw") | ((with_reducible refine' S_un2 ?_ ?_ ?_ ?_ ?_ ?_); assumption; rotate_left; wtm_at "loc"; wtm_at "loc"; wtm_at "mt"; wtm_at "mt") | ((with_reducible apply Bi_append); wtm_at "upd"; wtm_at "sz") | ((with_reducible refine' B_addB ?_ ?_); rotate_left; wtm_at "sz") | ((with_reducible refine' S_expr ?_ ?_ ?_); assumption; rotate_left; wtm_at "mt") | ((with_reducible apply exSet); wtm_at "setv") | ((with_reducible apply exSets); wtm_at "setvs") | ((with_reducible refine' ⟨?_, fun _ => ?_⟩); exact Nat.le_of_ble_eq_true rfl) | ((with_reducible refine' ⟨_, TupL.t ?_, ?_⟩); rotate_left; wtm_at "mem") | ((with_reducible refine' ⟨Recv.list ?_, ?_⟩); rotate_left; wtm_at "mem") | (with_reducible refine ⟨_, rfl, ?_⟩) | (with_reducible refine ⟨_, _, rfl, ?_⟩) | (with_reducible refine ⟨_, _, _, rfl, ?_⟩) | (with_reducible refine Bi_range1 (fun _ => ?_)) | ((with_reducible (first | refine' L_cons ?_ ?_ | refine' E_cmp ?_ ?_ | refine' T_cmp ?_ ?_ | refine' E_item ?_ ?_)); rotate_left; wtm_at "mt") | wtm_at "name" | ((with_reducible refine' E_fn ?_ ?_ ?_ ?_ ?_ ?_); rotate_left 2; wtm_at "nm"; (exact fun w => by with_unfolding_all exact rfl); rotate_left; wtm_at "mt"; wtm_at "mt"; rotate_left) | ((with_reducible refine' E_bt ?_ ?_ ?_ ?_); rotate_left; wtm_at "nm"; wtm_at "mt"; wtm_at "mt") | ((with_reducible refine' E_meth PySem.F.plainAttrs_list PySem.F.slot_list_append PySem.F.type_list_append ?_ ?_ ?_ ?_ ?_); rotate_left; wtm_at "mt"; wtm_at "mt"; wtm_at "mt"; rotate_left))) | (focus ((with_reducible refine' S_for_range ?_ ?_ ?_ ?_ ?_); assumption; assumption; wtm_at "loc"; wtm_at "mt")) | refine c_drawn (many := 4) (by decide) (by decide) (by lia) ok1 (U _ _) (fun n st1 hn hst => ?_))
      · rw [hr]; decide
      refine ⟨_, _, _, _, _, rfl, .head _, RItems.up (by lia) (by lia) (by lia) (by lia), ?_⟩
      rw [show (1 + (n : Int) - 0).toNat = n + 1 by lia]
      refine WFor_inv (fun its v l => (E3 fun (i : Nat) (L : List Lap) (st' : Pen) => A8 (i ≤ n + 1) (its = ups (i : Int) (n + 1 - i)) ((∀ l ∈ L, Lap.Ok l)) (L.length = i) ((octL L).length ≤ 300 * i) (PenOk (1 + 30 * i) st') (v = ([("script", .ref sa), ("pen", .ref P), ("due", .ref D), ("octets", .bytes (octL L))] : Vars)) (l = [(D, .list ((dueL L).map PV.str)), (P, Pen.po C st'), (C, Pen.co st')]))) ?_ ?_ _ _ _ ?_
      · rintro v l ⟨i, L, st', hi1, hu, hL, hll, hlo, hst', rfl, rfl⟩
        exact ⟨by trivial, _, _, Wk.refl, L, st', hL, by lia, by lia, ⟨hst'.1, by have := hst'.2; lia⟩, rfl, rfl⟩
      · rintro p its v l ⟨i, L, st', hi1, hu, hL, hll, hlo, hst', rfl, rfl⟩
        have hlt : i < n + 1 := by
          rcases Nat.lt_or_ge i (n + 1) with h | h
          · exact h
          · rw [show n + 1 - i = 0 by lia] at hu; cases hu
        rw [show n + 1 - i = (n + 1 - (i + 1)) + 1 by lia, ups_succ] at hu
        obtain ⟨rfl, rfl⟩ := List.cons.inj hu
        refine ⟨_, by wtm_at "setv", ?_⟩
        clear hu
        refine S_cut (fun v l => (E2 fun o st2 => A4 (o ∈ oddS) (PenOk (1 + 30 * i + 1) st2) (v = ([("script", .ref sa), ("pen", .ref P), ("due", .ref D), ("octets", .bytes (octL L ++ o)), ("lap", .int i)] : Vars)) (l = [(D, .list ((dueL L).map PV.str)), (P, Pen.po C st2), (C, Pen.co st2)]))) ?_ ?_
        · repeat' (first | (focus (first | with_reducible (first | refine Thn_next ?_ | refine Thn_ret ?_ | refine Trn_next ?_ | refine S_nil ?_ | refine S_cons ?_ | refine S_ret ?_ | refine S_if ?_ | refine E_int ?_ | refine E_bytes ?_ | refine E_bool ?_ | refine L_nil ?_ | refine E_bin ?_ | refine T_op ?_ | refine T_or ?_ | refine T_or0 ?_ | refine E_op ?_ | refine E_op1 ?_ | refine E_or ?_ | refine E_tuple ?_ | refine E_list ?_ | refine B_add ?_ | refine C_lt ?_ | refine C_eq ?_ | refine Tr_bool ?_ | refine ite_f ?_ | refine ite_d (fun _ => ?_) (fun _ => ?_) | refine ite_b (fun _ => ?_) (fun _ => ?_)) | ((with_reducible refine' S_set ?_ ?_ ?_ ?_); assumption; rotate_left; wtm_at "loc"; wtm_at "mt") | ((with_reducible refine' S_unR2 ?_ ?_ ?_ ?_ ?_ ?_); assumption; rotate_left; wtm_at "loc"; wtm_at "loc"; wtm_at "mt"; wtm_at "sw") | ((with_reducible refine' S_un2 ?_ ?_ ?_ ?_ ?_ ?_); assumption; rotate_left; wtm_at "loc"; wtm_at "loc"; wtm_at "mt"; wtm_at "mt") | ((with_reducible apply Bi_append); wtm_at "upd"; wtm_at "sz") | ((with_reducible refine' B_addB ?_ ?_); rotate_left; wtm_at "sz") | ((with_reducible refine' S_expr ?_ ?_ ?_); assumption; rotate_left; wtm_at "mt") | ((with_reducible apply exSet); wtm_at "setv") | ((with_reducible apply exSets); wtm_at "setvs") | ((with_reducible refine' ⟨?_, fun _ => ?_⟩); exact Nat.le_of_ble_eq_true rfl) | ((with_reducible refine' ⟨_, TupL.t ?_, ?_⟩); rotate_left; wtm_at "mem") | ((with_reducible refine' ⟨Recv.list ?_, ?_⟩); rotate_left; wtm_at "mem") | (with_reducible refine ⟨_, rfl, ?_⟩) | (with_reducible refine ⟨_, _, rfl, ?_⟩) | (with_reducible refine ⟨_, _, _, rfl, ?_⟩) | (with_reducible refine Bi_range1 (fun _ => ?_)) | ((with_reducible (first | refine' L_cons ?_ ?_ | refine' E_cmp ?_ ?_ | refine' T_cmp ?_ ?_ | refine' E_item ?_ ?_)); rotate_left; wtm_at "mt") | wtm_at "name" | ((with_reducible refine' E_fn ?_ ?_ ?_ ?_ ?_ ?_); rotate_left 2; wtm_at "nm"; (exact fun w => by with_unfolding_all exact rfl); rotate_left; wtm_at "mt"; wtm_at "mt"; rotate_left) | ((with_reducible refine' E_bt ?_ ?_ ?_ ?_); rotate_left; wtm_at "nm"; wtm_at "mt"; wtm_at "mt") | ((with_reducible refine' E_meth PySem.F.plainAttrs_list PySem.F.slot_list_append PySem.F.type_list_append ?_ ?_ ?_ ?_ ?_); rotate_left; wtm_at "mt"; wtm_at "mt"; wtm_at "mt"; rotate_left))) | refine c_drawn (many := 15) (by decide) (by decide) (by lia) hst' (U _ _) (fun v st2 hv hst2 => ?_) | refine it_odd hv (fun o ho => ?_) | refine B_addB ?_ (by have := odd_len o ho; lia))
          · rw [hr]; decide
          · rename_i ho
            exact ⟨by trivial, _, _, Wk.refl, _, _, ho, hst2, rfl, rfl⟩
        rintro v l ⟨o, st2, hod, hst2, rfl, rfl⟩
        have hol := odd_len o hod
        refine S_cut (fun v l => (E2 fun (kd : Nat) (st3 : Pen) => A3 (PenOk (1 + 30 * i + 2) st3) (v = ([("script", .ref sa), ("pen", .ref P), ("due", .ref D), ("octets", .bytes (octL L ++ o)), ("kind", .int kd)] : Vars)) (l = [(D, .list ((dueL L).map PV.str)), (P, Pen.po C st3), (C, Pen.co st3)]))) ?_ ?_
        · repeat' (first | (focus (first | with_reducible (first | refine Thn_next ?_ | refine Thn_ret ?_ | refine Trn_next ?_ | refine S_nil ?_ | refine S_cons ?_ | refine S_ret ?_ | refine S_if ?_ | refine E_int ?_ | refine E_bytes ?_ | refine E_bool ?_ | refine L_nil ?_ | refine E_bin ?_ | refine T_op ?_ | refine T_or ?_ | refine T_or0 ?_ | refine E_op ?_ | refine E_op1 ?_ | refine E_or ?_ | refine E_tuple ?_ | refine E_list ?_ | refine B_add ?_ | refine C_lt ?_ | refine C_eq ?_ | refine Tr_bool ?_ | refine ite_f ?_ | refine ite_d (fun _ => ?_) (fun _ => ?_) | refine ite_b (fun _ => ?_) (fun _ => ?_)) | ((with_reducible refine' S_set ?_ ?_ ?_ ?_); assumption; rotate_left; wtm_at "loc"; wtm_at "mt") | ((with_reducible refine' S_unR2 ?_ ?_ ?_ ?_ ?_ ?_); assumption; rotate_left; wtm_at "loc"; wtm_at "loc"; wtm_at "mt"; wtm_at "sw") | ((with_reducible refine' S_un2 ?_ ?_ ?_ ?_ ?_ ?_); assumption; rotate_left; wtm_at "loc"; wtm_at "loc"; wtm_at "mt"; wtm_at "mt") | ((with_reducible apply Bi_append); wtm_at "upd"; wtm_at "sz") | ((with_reducible refine' B_addB ?_ ?_); rotate_left; wtm_at "sz") | ((with_reducible refine' S_expr ?_ ?_ ?_); assumption; rotate_left; wtm_at "mt") | ((with_reducible apply exSet); wtm_at "setv") | ((with_reducible apply exSets); wtm_at "setvs") | ((with_reducible refine' ⟨?_, fun _ => ?_⟩); exact Nat.le_of_ble_eq_true rfl) | ((with_reducible refine' ⟨_, TupL.t ?_, ?_⟩); rotate_left; wtm_at "mem") | ((with_reducible refine' ⟨Recv.list ?_, ?_⟩); rotate_left; wtm_at "mem") | (with_reducible refine ⟨_, rfl, ?_⟩) | (with_reducible refine ⟨_, _, rfl, ?_⟩) | (with_reducible refine ⟨_, _, _, rfl, ?_⟩) | (with_reducible refine Bi_range1 (fun _ => ?_)) | ((with_reducible (first | refine' L_cons ?_ ?_ | refine' E_cmp ?_ ?_ | refine' T_cmp ?_ ?_ | refine' E_item ?_ ?_)); rotate_left; wtm_at "mt") | wtm_at "name" | ((with_reducible refine' E_fn ?_ ?_ ?_ ?_ ?_ ?_); rotate_left 2; wtm_at "nm"; (exact fun w => by with_unfolding_all exact rfl); rotate_left; wtm_at "mt"; wtm_at "mt"; rotate_left) | ((with_reducible refine' E_bt ?_ ?_ ?_ ?_); rotate_left; wtm_at "nm"; wtm_at "mt"; wtm_at "mt") | ((with_reducible refine' E_meth PySem.F.plainAttrs_list PySem.F.slot_list_append PySem.F.type_list_append ?_ ?_ ?_ ?_ ?_); rotate_left; wtm_at "mt"; wtm_at "mt"; wtm_at "mt"; rotate_left))) | refine c_drawn (many := 4) (by decide) (by decide) (by lia) hst2 (U _ _) (fun v st3 hv hst3 => ?_))
          · rw [hr]; decide
          · exact ⟨by trivial, _, _, ⟨by wtm_at "subl", .refl _⟩, _, _, hst3, rfl, rfl⟩
        rintro v l ⟨kd, st3, hst3, rfl, rfl⟩
        refine S_cut (fun v l => (E3 fun (w : List UInt8) (told : Option (List Nat)) (st4 : Pen) => A5 (Lap.Ok ⟨o, w, told⟩) (w.length ≤ 250) (PenOk (1 + 30 * i + 30) st4) (v = ([("script", .ref sa), ("pen", .ref P), ("due", .ref D), ("octets", .bytes (octL L ++ o)), ("laid", .bytes w)] : Vars)) (l = [(D, .list ((dueL L ++ told.toList).map PV.str)), (P, Pen.po C st4), (C, Pen.co st4)]))) ?_ ?_
        · repeat' (first | (focus ((with_reducible refine' S_unK2 ?_ ?_ ?_ ?_ ?_ ?_); assumption; rotate_left; wtm_at "loc"; wtm_at "loc"; wtm_at "mt"; wtm_at "mt")) | (focus (first | with_reducible (first | refine Thn_next ?_ | refine Thn_ret ?_ | refine Trn_next ?_ | refine S_nil ?_ | refine S_cons ?_ | refine S_ret ?_ | refine S_if ?_ | refine E_int ?_ | refine E_bytes ?_ | refine E_bool ?_ | refine L_nil ?_ | refine E_bin ?_ | refine T_op ?_ | refine T_or ?_ | refine T_or0 ?_ | refine E_op ?_ | refine E_op1 ?_ | refine E_or ?_ | refine E_tuple ?_ | refine E_list ?_ | refine B_add ?_ | refine C_lt ?_ | refine C_eq ?_ | refine Tr_bool ?_ | refine ite_f ?_ | refine ite_d (fun _ => ?_) (fun _ => ?_) | refine ite_b (fun _ => ?_) (fun _ => ?_)) | ((with_reducible refine' S_set ?_ ?_ ?_ ?_); assumption; rotate_left; wtm_at "loc"; wtm_at "mt") | ((with_reducible refine' S_unR2 ?_ ?_ ?_ ?_ ?_ ?_); assumption; rotate_left; wtm_at "loc"; wtm_at "loc"; wtm_at "mt"; wtm_at "sw") | ((with_reducible refine' S_un2 ?_ ?_ ?_ ?_ ?_ ?_); assumption; rotate_left; wtm_at "loc"; wtm_at "loc"; wtm_at "mt"; wtm_at "mt") | ((with_reducible apply Bi_append); wtm_at "upd"; wtm_at "sz") | ((with_reducible refine' B_addB ?_ ?_); rotate_left; wtm_at "sz") | ((with_reducible refine' S_expr ?_ ?_ ?_); assumption; rotate_left; wtm_at "mt") | ((with_reducible apply exSet); wtm_at "setv") | ((with_reducible apply exSets); wtm_at "setvs") | ((with_reducible refine' ⟨?_, fun _ => ?_⟩); exact Nat.le_of_ble_eq_true rfl) | ((with_reducible refine' ⟨_, TupL.t ?_, ?_⟩); rotate_left; wtm_at "mem") | ((with_reducible refine' ⟨Recv.list ?_, ?_⟩); rotate_left; wtm_at "mem") | (with_reducible refine ⟨_, rfl, ?_⟩) | (with_reducible refine ⟨_, _, rfl, ?_⟩) | (with_reducible refine ⟨_, _, _, rfl, ?_⟩) | (with_reducible refine Bi_range1 (fun _ => ?_)) | ((with_reducible (first | refine' L_cons ?_ ?_ | refine' E_cmp ?_ ?_ | refine' T_cmp ?_ ?_ | refine' E_item ?_ ?_)); rotate_left; wtm_at "mt") | wtm_at "name" | ((with_reducible refine' E_fn ?_ ?_ ?_ ?_ ?_ ?_); rotate_left 2; wtm_at "nm"; (exact fun w => by with_unfolding_all exact rfl); rotate_left; wtm_at "mt"; wtm_at "mt"; rotate_left) | ((with_reducible refine' E_bt ?_ ?_ ?_ ?_); rotate_left; wtm_at "nm"; wtm_at "mt"; wtm_at "mt") | ((with_reducible refine' E_meth PySem.F.plainAttrs_list PySem.F.slot_list_append PySem.F.type_list_append ?_ ?_ ?_ ?_ ?_); rotate_left; wtm_at "mt"; wtm_at "mt"; wtm_at "mt"; rotate_left))) | refine c_drawn (many := 5) (by decide) (by decide) (by lia) hst3 (U _ _) (fun v st4 hv hst4 => ?_)
                         | ((with_reducible apply Bi_append); (focus (wtm_at "upd")); (focus (rw [List.length_map]; have := dueL_len L; lia)))
                         | (refine it_ids hv (fun a t w hm hk => ?_); obtain ⟨its, n, dd, sl, hl, he⟩ := hk; refine ⟨a, its, n, dd, sl, rfl, hl, ?_⟩; rw [he])
                         | refine c_word (B := 1 + 30 * i + 2) (by lia) hst3 (U _ _) (fun ps st4 hps hpl hst4 => ?_))
          all_goals try (rw [hr]; decide)
          · exact ⟨by trivial, _, _, ⟨by wtm_at "subl", .refl _⟩, w, some t, st4, ⟨hod, .inl ⟨t, rfl, hm⟩⟩, Nat.le_trans (ids_len _ hm) (by decide), ⟨hst4.1, by have := hst4.2; lia⟩, rfl, by simp⟩
          · exact ⟨by trivial, _, _, ⟨by wtm_at "subl", .refl _⟩, _, none, st4, ⟨hod, .inr ⟨rfl, word_of hps⟩⟩, word_len hps hpl, ⟨hst4.1, by have := hst4.2; lia⟩, rfl, by simp⟩
        rintro v l ⟨w, told, st4, hlap, hwl, hst4, rfl, rfl⟩
        repeat' (first | (focus (first | with_reducible (first | refine Thn_next ?_ | refine Thn_ret ?_ | refine Trn_next ?_ | refine S_nil ?_ | refine S_cons ?_ | refine S_ret ?_ | refine S_if ?_ | refine E_int ?_ | refine E_bytes ?_ | refine E_bool ?_ | refine L_nil ?_ | refine E_bin ?_ | refine T_op ?_ | refine T_or ?_ | refine T_or0 ?_ | refine E_op ?_ | refine E_op1 ?_ | refine E_or ?_ | refine E_tuple ?_ | refine E_list ?_ | refine B_add ?_ | refine C_lt ?_ | refine C_eq ?_ | refine Tr_bool ?_ | refine ite_f ?_ | refine ite_d (fun _ => ?_) (fun _ => ?_) | refine ite_b (fun _ => ?_) (fun _ => ?_)) | ((with_reducible refine' S_set ?_ ?_ ?_ ?_); assumption; rotate_left; wtm_at "loc"; wtm_at "mt") | ((with_reducible refine' S_unR2 ?_ ?_ ?_ ?_ ?_ ?_); assumption; rotate_left; wtm_at "loc"; wtm_at "loc"; wtm_at "mt"; wtm_at "sw") | ((with_reducible refine' S_un2 ?_ ?_ ?_ ?_ ?_ ?_); assumption; rotate_left; wtm_at "loc"; wtm_at "loc"; wtm_at "mt"; wtm_at "mt") | ((with_reducible apply Bi_append); wtm_at "upd"; wtm_at "sz") | ((with_reducible refine' B_addB ?_ ?_); rotate_left; wtm_at "sz") | ((with_reducible refine' S_expr ?_ ?_ ?_); assumption; rotate_left; wtm_at "mt") | ((with_reducible apply exSet); wtm_at "setv") | ((with_reducible apply exSets); wtm_at "setvs") | ((with_reducible refine' ⟨?_, fun _ => ?_⟩); exact Nat.le_of_ble_eq_true rfl) | ((with_reducible refine' ⟨_, TupL.t ?_, ?_⟩); rotate_left; wtm_at "mem") | ((with_reducible refine' ⟨Recv.list ?_, ?_⟩); rotate_left; wtm_at "mem") | (with_reducible refine ⟨_, rfl, ?_⟩) | (with_reducible refine ⟨_, _, rfl, ?_⟩) | (with_reducible refine ⟨_, _, _, rfl, ?_⟩) | (with_reducible refine Bi_range1 (fun _ => ?_)) | ((with_reducible (first | refine' L_cons ?_ ?_ | refine' E_cmp ?_ ?_ | refine' T_cmp ?_ ?_ | refine' E_item ?_ ?_)); rotate_left; wtm_at "mt") | wtm_at "name" | ((with_reducible refine' E_fn ?_ ?_ ?_ ?_ ?_ ?_); rotate_left 2; wtm_at "nm"; (exact fun w => by with_unfolding_all exact rfl); rotate_left; wtm_at "mt"; wtm_at "mt"; rotate_left) | ((with_reducible refine' E_bt ?_ ?_ ?_ ?_); rotate_left; wtm_at "nm"; wtm_at "mt"; wtm_at "mt") | ((with_reducible refine' E_meth PySem.F.plainAttrs_list PySem.F.slot_list_append PySem.F.type_list_append ?_ ?_ ?_ ?_ ?_); rotate_left; wtm_at "mt"; wtm_at "mt"; wtm_at "mt"; rotate_left))))
        refine ⟨([("script", .ref sa), ("pen", .ref P), ("due", .ref D), ("octets", .bytes (octL L ++ o ++ w))] : Vars), _, ⟨by wtm_at "subl", .refl _⟩, i + 1, L ++ [⟨o, w, told⟩], st4, by lia, rfl, fun l hl => ?_, by simp [hll], ?_, by rw [show 1 + 30 * (i + 1) = 1 + 30 * i + 30 by lia]; exact hst4, by simp only [octL_snoc], by simp only [dueL_snoc]⟩
        · rcases List.mem_append.mp hl with h | h
          · exact hL l h
          · rw [List.mem_singleton.mp h]; exact hlap
        · rw [octL_snoc]; simp only [List.length_append]; lia
      · exact ⟨_, _, ⟨.refl _, (List.sublist_cons_self _ _)⟩, 0, [], st1, by lia, rfl, by simp, rfl, by simp [octL], hst, rfl, rfl⟩
    rintro v l ⟨L, st1, hL, hLn, hLo, hst1, rfl, rfl⟩
    have hDl := dueL_len L
    refine S_cut (fun v l => v = ([("script", .ref sa), ("pen", .ref P), ("due", .ref D), ("octets", .bytes (octL L))] : Vars) ∧ l = [(D, .list ((dueL L).map PV.str)), (P, Pen.po C st1), (C, Pen.co st1)]) ?_ ?_
    · obtain ⟨ws, w1, w2, w3, w4, w5, w6⟩ := due_write hL hLn
      repeat' (first | (focus ((with_reducible apply E_fnS (fn := Str.ofString "read_ids")); wtm_at "nm"; (exact fun w => by with_unfolding_all exact rfl); rotate_left; assumption; assumption; wtm_at "mt"; wtm_at "mt"; rotate_left)) | (focus ((with_reducible apply C_neSame); wtm_at "mem"; wtm_at "mem"; simp)) | (focus (first | with_reducible (first | refine Thn_next ?_ | refine Thn_ret ?_ | refine Trn_next ?_ | refine S_nil ?_ | refine S_cons ?_ | refine S_ret ?_ | refine S_if ?_ | refine E_int ?_ | refine E_bytes ?_ | refine E_bool ?_ | refine L_nil ?_ | refine E_bin ?_ | refine T_op ?_ | refine T_or ?_ | refine T_or0 ?_ | refine E_op ?_ | refine E_op1 ?_ | refine E_or ?_ | refine E_tuple ?_ | refine E_list ?_ | refine B_add ?_ | refine C_lt ?_ | refine C_eq ?_ | refine Tr_bool ?_ | refine ite_f ?_ | refine ite_d (fun _ => ?_) (fun _ => ?_) | refine ite_b (fun _ => ?_) (fun _ => ?_)) | ((with_reducible refine' S_set ?_ ?_ ?_ ?_); assumption; rotate_left; wtm_at "loc"; wtm_at "mt") | ((with_reducible refine' S_unR2 ?_ ?_ ?_ ?_ ?_ ?_); assumption; rotate_left; wtm_at "loc"; wtm_at "loc"; wtm_at "mt"; wtm_at "sw") | ((with_reducible refine' S_un2 ?_ ?_ ?_ ?_ ?_ ?_); assumption; rotate_left; wtm_at "loc"; wtm_at "loc"; wtm_at "mt"; wtm_at "mt") | ((with_reducible apply Bi_append); wtm_at "upd"; wtm_at "sz") | ((with_reducible refine' B_addB ?_ ?_); rotate_left; wtm_at "sz") | ((with_reducible refine' S_expr ?_ ?_ ?_); assumption; rotate_left; wtm_at "mt") | ((with_reducible apply exSet); wtm_at "setv") | ((with_reducible apply exSets); wtm_at "setvs") | ((with_reducible refine' ⟨?_, fun _ => ?_⟩); exact Nat.le_of_ble_eq_true rfl) | ((with_reducible refine' ⟨_, TupL.t ?_, ?_⟩); rotate_left; wtm_at "mem") | ((with_reducible refine' ⟨Recv.list ?_, ?_⟩); rotate_left; wtm_at "mem") | (with_reducible refine ⟨_, rfl, ?_⟩) | (with_reducible refine ⟨_, _, rfl, ?_⟩) | (with_reducible refine ⟨_, _, _, rfl, ?_⟩) | (with_reducible refine Bi_range1 (fun _ => ?_)) | ((with_reducible (first | refine' L_cons ?_ ?_ | refine' E_cmp ?_ ?_ | refine' T_cmp ?_ ?_ | refine' E_item ?_ ?_)); rotate_left; wtm_at "mt") | wtm_at "name" | ((with_reducible refine' E_fn ?_ ?_ ?_ ?_ ?_ ?_); rotate_left 2; wtm_at "nm"; (exact fun w => by with_unfolding_all exact rfl); rotate_left; wtm_at "mt"; wtm_at "mt"; rotate_left) | ((with_reducible refine' E_bt ?_ ?_ ?_ ?_); rotate_left; wtm_at "nm"; wtm_at "mt"; wtm_at "mt") | ((with_reducible refine' E_meth PySem.F.plainAttrs_list PySem.F.slot_list_append PySem.F.type_list_append ?_ ?_ ?_ ?_ ?_); rotate_left; wtm_at "mt"; wtm_at "mt"; wtm_at "mt"; rotate_left)))
                     | (refine c_read_ids (d := octL L) (by lia) (fun ts hts r => ?_); have hts' := law_reads hL hts; subst hts')
                     | (refine c_write_ids (ts := dueL L) (ws := ws) w1 w2 w3 w4 (by wtm_at "pick") ?_)
                     | (refine c_read_ids (d := joinL [32] ws) w5 (fun ts hts r => ?_); have hts' := w6 ts hts; subst hts'))
      all_goals try (rw [hr]; decide)
      exact ⟨by trivial, _, _, ⟨.refl _, ((List.Sublist.refl _).cons _).cons _⟩, rfl, rfl⟩
    rintro v l ⟨rfl, rfl⟩
    refine S_cut (fun v l => (E4 fun (way many : Nat) (Lb : Addr) (st2 : Pen) => A5 (way < 5) (many < 40) (PenOk 210 st2) (v = ([("script", .ref sa), ("pen", .ref P), ("due", .ref D), ("octets", .bytes (octL L)), ("laid", .bytes (leadOf way many ++ tail13)), ("behind", .ref Lb)] : Vars)) (l = [(Lb, .list [.str [116, 64, 117], .str [118, 64, 91, 119, 93]]), (D, .list ((dueL L).map PV.str)), (P, Pen.po C st2), (C, Pen.co st2)]))) ?_ ?_
    · repeat' (first | (focus (first | with_reducible (first | refine Thn_next ?_ | refine Thn_ret ?_ | refine Trn_next ?_ | refine S_nil ?_ | refine S_cons ?_ | refine S_ret ?_ | refine S_if ?_ | refine E_int ?_ | refine E_bytes ?_ | refine E_bool ?_ | refine L_nil ?_ | refine E_bin ?_ | refine T_op ?_ | refine T_or ?_ | refine T_or0 ?_ | refine E_op ?_ | refine E_op1 ?_ | refine E_or ?_ | refine E_tuple ?_ | refine E_list ?_ | refine B_add ?_ | refine C_lt ?_ | refine C_eq ?_ | refine Tr_bool ?_ | refine ite_f ?_ | refine ite_d (fun _ => ?_) (fun _ => ?_) | refine ite_b (fun _ => ?_) (fun _ => ?_)) | ((with_reducible refine' S_set ?_ ?_ ?_ ?_); assumption; rotate_left; wtm_at "loc"; wtm_at "mt") | ((with_reducible refine' S_unR2 ?_ ?_ ?_ ?_ ?_ ?_); assumption; rotate_left; wtm_at "loc"; wtm_at "loc"; wtm_at "mt"; wtm_at "sw") | ((with_reducible refine' S_un2 ?_ ?_ ?_ ?_ ?_ ?_); assumption; rotate_left; wtm_at "loc"; wtm_at "loc"; wtm_at "mt"; wtm_at "mt") | ((with_reducible apply Bi_append); wtm_at "upd"; wtm_at "sz") | ((with_reducible refine' B_addB ?_ ?_); rotate_left; wtm_at "sz") | ((with_reducible refine' S_expr ?_ ?_ ?_); assumption; rotate_left; wtm_at "mt") | ((with_reducible apply exSet); wtm_at "setv") | ((with_reducible apply exSets); wtm_at "setvs") | ((with_reducible refine' ⟨?_, fun _ => ?_⟩); exact Nat.le_of_ble_eq_true rfl) | ((with_reducible refine' ⟨_, TupL.t ?_, ?_⟩); rotate_left; wtm_at "mem") | ((with_reducible refine' ⟨Recv.list ?_, ?_⟩); rotate_left; wtm_at "mem") | (with_reducible refine ⟨_, rfl, ?_⟩) | (with_reducible refine ⟨_, _, rfl, ?_⟩) | (with_reducible refine ⟨_, _, _, rfl, ?_⟩) | (with_reducible refine Bi_range1 (fun _ => ?_)) | ((with_reducible (first | refine' L_cons ?_ ?_ | refine' E_cmp ?_ ?_ | refine' T_cmp ?_ ?_ | refine' E_item ?_ ?_)); rotate_left; wtm_at "mt") | wtm_at "name" | ((with_reducible refine' E_fn ?_ ?_ ?_ ?_ ?_ ?_); rotate_left 2; wtm_at "nm"; (exact fun w => by with_unfolding_all exact rfl); rotate_left; wtm_at "mt"; wtm_at "mt"; rotate_left) | ((with_reducible refine' E_bt ?_ ?_ ?_ ?_); rotate_left; wtm_at "nm"; wtm_at "mt"; wtm_at "mt") | ((with_reducible refine' E_meth PySem.F.plainAttrs_list PySem.F.slot_list_append PySem.F.type_list_append ?_ ?_ ?_ ?_ ?_); rotate_left; wtm_at "mt"; wtm_at "mt"; wtm_at "mt"; rotate_left))) | refine c_tail (B := 200) (by lia) hst1 (U _ _) (fun way many T Lb st2 hway hmany hst2 => ?_))
      · rw [hr]; decide
      · exact ⟨by trivial, _, _, ⟨by wtm_at "subl", (List.Sublist.refl _).cons _⟩, way, many, _, st2, hway, hmany, ⟨hst2.1, by have := hst2.2; lia⟩, rfl, rfl⟩
    rintro v l ⟨way, many, Lb, st2, hway, hmany, hst2, rfl, rfl⟩
    have hlead := leadOf_len (way := way) hmany
    have h13 : tail13.length = 13 := rfl
    have hsz : (octL L ++ [32] ++ (leadOf way many ++ tail13)).length ≤ 100000 := by simp only [List.length_append, List.length_cons, List.length_nil]; lia
    have hde : octL L ++ [32] ++ (leadOf way many ++ tail13) = octL L ++ 32 :: (leadOf way many ++ tail13) := by simp
    refine S_cut (fun v l => v = ([("pen", .ref P)] : Vars) ∧ l = [(P, Pen.po C st2), (C, Pen.co st2)]) ?_ ?_
    · repeat' (first | (focus ((with_reducible apply E_fnS (fn := Str.ofString "read_ids")); wtm_at "nm"; (exact fun w => by with_unfolding_all exact rfl); rotate_left; assumption; assumption; wtm_at "mt"; wtm_at "mt"; rotate_left)) | (focus ((with_reducible apply C_neSame); wtm_at "mem"; wtm_at "mem"; simp)) | (focus (first | with_reducible (first | refine Thn_next ?_ | refine Thn_ret ?_ | refine Trn_next ?_ | refine S_nil ?_ | refine S_cons ?_ | refine S_ret ?_ | refine S_if ?_ | refine E_int ?_ | refine E_bytes ?_ | refine E_bool ?_ | refine L_nil ?_ | refine E_bin ?_ | refine T_op ?_ | refine T_or ?_ | refine T_or0 ?_ | refine E_op ?_ | refine E_op1 ?_ | refine E_or ?_ | refine E_tuple ?_ | refine E_list ?_ | refine B_add ?_ | refine C_lt ?_ | refine C_eq ?_ | refine Tr_bool ?_ | refine ite_f ?_ | refine ite_d (fun _ => ?_) (fun _ => ?_) | refine ite_b (fun _ => ?_) (fun _ => ?_)) | ((with_reducible refine' S_set ?_ ?_ ?_ ?_); assumption; rotate_left; wtm_at "loc"; wtm_at "mt") | ((with_reducible refine' S_unR2 ?_ ?_ ?_ ?_ ?_ ?_); assumption; rotate_left; wtm_at "loc"; wtm_at "loc"; wtm_at "mt"; wtm_at "sw") | ((with_reducible refine' S_un2 ?_ ?_ ?_ ?_ ?_ ?_); assumption; rotate_left; wtm_at "loc"; wtm_at "loc"; wtm_at "mt"; wtm_at "mt") | ((with_reducible apply Bi_append); wtm_at "upd"; wtm_at "sz") | ((with_reducible refine' B_addB ?_ ?_); rotate_left; wtm_at "sz") | ((with_reducible refine' S_expr ?_ ?_ ?_); assumption; rotate_left; wtm_at "mt") | ((with_reducible apply exSet); wtm_at "setv") | ((with_reducible apply exSets); wtm_at "setvs") | ((with_reducible refine' ⟨?_, fun _ => ?_⟩); exact Nat.le_of_ble_eq_true rfl) | ((with_reducible refine' ⟨_, TupL.t ?_, ?_⟩); rotate_left; wtm_at "mem") | ((with_reducible refine' ⟨Recv.list ?_, ?_⟩); rotate_left; wtm_at "mem") | (with_reducible refine ⟨_, rfl, ?_⟩) | (with_reducible refine ⟨_, _, rfl, ?_⟩) | (with_reducible refine ⟨_, _, _, rfl, ?_⟩) | (with_reducible refine Bi_range1 (fun _ => ?_)) | ((with_reducible (first | refine' L_cons ?_ ?_ | refine' E_cmp ?_ ?_ | refine' T_cmp ?_ ?_ | refine' E_item ?_ ?_)); rotate_left; wtm_at "mt") | wtm_at "name" | ((with_reducible refine' E_fn ?_ ?_ ?_ ?_ ?_ ?_); rotate_left 2; wtm_at "nm"; (exact fun w => by with_unfolding_all exact rfl); rotate_left; wtm_at "mt"; wtm_at "mt"; rotate_left) | ((with_reducible refine' E_bt ?_ ?_ ?_ ?_); rotate_left; wtm_at "nm"; wtm_at "mt"; wtm_at "mt") | ((with_reducible refine' E_meth PySem.F.plainAttrs_list PySem.F.slot_list_append PySem.F.type_list_append ?_ ?_ ?_ ?_ ?_); rotate_left; wtm_at "mt"; wtm_at "mt"; wtm_at "mt"; rotate_left)))
                     | refine B_addB ?_ (by simp only [List.length_append, List.length_cons, List.length_nil]; lia)
                     | (refine c_read_ids (d := octL L ++ [32] ++ (leadOf way many ++ tail13)) hsz (fun ts hts r => ?_); have hts' := law_tail hL hway hde hts; subst hts')
                     | ((with_reducible apply B_addL); (focus (wtm_at "mem")); (focus (wtm_at "mem")); (focus (rw [List.length_map]; simp only [List.length_cons, List.length_nil]; lia)); intro r2))
      all_goals try (rw [hr]; decide)
      exact ⟨by trivial, _, _, ⟨by wtm_at "subl", by wtm_at "subl"⟩, rfl, rfl⟩
    rintro v l ⟨rfl, rfl⟩
    have U2 : ∀ st : Pen, PenF P C st [(P, Pen.po C st), (C, Pen.co st)] (fun st' => [(P, Pen.po C st'), (C, Pen.co st')]) := fun _ => .here
    refine S_cut (fun v l => (E2 fun (B : List Nat) (st3 : Pen) => A4 (B ∈ basesS) (PenOk 211 st3) (v = ([("pen", .ref P), ("base", .str B)] : Vars)) (l = [(P, Pen.po C st3), (C, Pen.co st3)]))) ?_ ?_
    · repeat' (first | (focus (first | with_reducible (first | refine Thn_next ?_ | refine Thn_ret ?_ | refine Trn_next ?_ | refine S_nil ?_ | refine S_cons ?_ | refine S_ret ?_ | refine S_if ?_ | refine E_int ?_ | refine E_bytes ?_ | refine E_bool ?_ | refine L_nil ?_ | refine E_bin ?_ | refine T_op ?_ | refine T_or ?_ | refine T_or0 ?_ | refine E_op ?_ | refine E_op1 ?_ | refine E_or ?_ | refine E_tuple ?_ | refine E_list ?_ | refine B_add ?_ | refine C_lt ?_ | refine C_eq ?_ | refine Tr_bool ?_ | refine ite_f ?_ | refine ite_d (fun _ => ?_) (fun _ => ?_) | refine ite_b (fun _ => ?_) (fun _ => ?_)) | ((with_reducible refine' S_set ?_ ?_ ?_ ?_); assumption; rotate_left; wtm_at "loc"; wtm_at "mt") | ((with_reducible refine' S_unR2 ?_ ?_ ?_ ?_ ?_ ?_); assumption; rotate_left; wtm_at "loc"; wtm_at "loc"; wtm_at "mt"; wtm_at "sw") | ((with_reducible refine' S_un2 ?_ ?_ ?_ ?_ ?_ ?_); assumption; rotate_left; wtm_at "loc"; wtm_at "loc"; wtm_at "mt"; wtm_at "mt") | ((with_reducible apply Bi_append); wtm_at "upd"; wtm_at "sz") | ((with_reducible refine' B_addB ?_ ?_); rotate_left; wtm_at "sz") | ((with_reducible refine' S_expr ?_ ?_ ?_); assumption; rotate_left; wtm_at "mt") | ((with_reducible apply exSet); wtm_at "setv") | ((with_reducible apply exSets); wtm_at "setvs") | ((with_reducible refine' ⟨?_, fun _ => ?_⟩); exact Nat.le_of_ble_eq_true rfl) | ((with_reducible refine' ⟨_, TupL.t ?_, ?_⟩); rotate_left; wtm_at "mem") | ((with_reducible refine' ⟨Recv.list ?_, ?_⟩); rotate_left; wtm_at "mem") | (with_reducible refine ⟨_, rfl, ?_⟩) | (with_reducible refine ⟨_, _, rfl, ?_⟩) | (with_reducible refine ⟨_, _, _, rfl, ?_⟩) | (with_reducible refine Bi_range1 (fun _ => ?_)) | ((with_reducible (first | refine' L_cons ?_ ?_ | refine' E_cmp ?_ ?_ | refine' T_cmp ?_ ?_ | refine' E_item ?_ ?_)); rotate_left; wtm_at "mt") | wtm_at "name" | ((with_reducible refine' E_fn ?_ ?_ ?_ ?_ ?_ ?_); rotate_left 2; wtm_at "nm"; (exact fun w => by with_unfolding_all exact rfl); rotate_left; wtm_at "mt"; wtm_at "mt"; rotate_left) | ((with_reducible refine' E_bt ?_ ?_ ?_ ?_); rotate_left; wtm_at "nm"; wtm_at "mt"; wtm_at "mt") | ((with_reducible refine' E_meth PySem.F.plainAttrs_list PySem.F.slot_list_append PySem.F.type_list_append ?_ ?_ ?_ ?_ ?_); rotate_left; wtm_at "mt"; wtm_at "mt"; wtm_at "mt"; rotate_left))) | refine c_drawn (many := 7) (by decide) (by decide) (by lia) hst2 (U2 _) (fun v st3 hv hst3 => ?_) | refine it_bases hv (fun Bb hBb => ?_))
      · rw [hr]; decide
      · exact ⟨by trivial, _, _, Wk.refl, _, _, hBb, hst3, rfl, rfl⟩
    rintro v l ⟨B, st3, hBm, hst3, rfl, rfl⟩
    obtain ⟨hBl, hBn⟩ := bases_low B hBm
    refine S_cut (fun v l => v = ([("pen", .ref P), ("base", .str B), ("is_reply", .bool false), ("text", .str B)] : Vars) ∧ l = [(P, Pen.po C st3), (C, Pen.co st3)]) ?_ ?_
    · repeat' (first | (focus (first | with_reducible (first | refine Thn_next ?_ | refine Thn_ret ?_ | refine Trn_next ?_ | refine S_nil ?_ | refine S_cons ?_ | refine S_ret ?_ | refine S_if ?_ | refine E_int ?_ | refine E_bytes ?_ | refine E_bool ?_ | refine L_nil ?_ | refine E_bin ?_ | refine T_op ?_ | refine T_or ?_ | refine T_or0 ?_ | refine E_op ?_ | refine E_op1 ?_ | refine E_or ?_ | refine E_tuple ?_ | refine E_list ?_ | refine B_add ?_ | refine C_lt ?_ | refine C_eq ?_ | refine Tr_bool ?_ | refine ite_f ?_ | refine ite_d (fun _ => ?_) (fun _ => ?_) | refine ite_b (fun _ => ?_) (fun _ => ?_)) | ((with_reducible refine' S_set ?_ ?_ ?_ ?_); assumption; rotate_left; wtm_at "loc"; wtm_at "mt") | ((with_reducible refine' S_unR2 ?_ ?_ ?_ ?_ ?_ ?_); assumption; rotate_left; wtm_at "loc"; wtm_at "loc"; wtm_at "mt"; wtm_at "sw") | ((with_reducible refine' S_un2 ?_ ?_ ?_ ?_ ?_ ?_); assumption; rotate_left; wtm_at "loc"; wtm_at "loc"; wtm_at "mt"; wtm_at "mt") | ((with_reducible apply Bi_append); wtm_at "upd"; wtm_at "sz") | ((with_reducible refine' B_addB ?_ ?_); rotate_left; wtm_at "sz") | ((with_reducible refine' S_expr ?_ ?_ ?_); assumption; rotate_left; wtm_at "mt") | ((with_reducible apply exSet); wtm_at "setv") | ((with_reducible apply exSets); wtm_at "setvs") | ((with_reducible refine' ⟨?_, fun _ => ?_⟩); exact Nat.le_of_ble_eq_true rfl) | ((with_reducible refine' ⟨_, TupL.t ?_, ?_⟩); rotate_left; wtm_at "mem") | ((with_reducible refine' ⟨Recv.list ?_, ?_⟩); rotate_left; wtm_at "mem") | (with_reducible refine ⟨_, rfl, ?_⟩) | (with_reducible refine ⟨_, _, rfl, ?_⟩) | (with_reducible refine ⟨_, _, _, rfl, ?_⟩) | (with_reducible refine Bi_range1 (fun _ => ?_)) | ((with_reducible (first | refine' L_cons ?_ ?_ | refine' E_cmp ?_ ?_ | refine' T_cmp ?_ ?_ | refine' E_item ?_ ?_)); rotate_left; wtm_at "mt") | wtm_at "name" | ((with_reducible refine' E_fn ?_ ?_ ?_ ?_ ?_ ?_); rotate_left 2; wtm_at "nm"; (exact fun w => by with_unfolding_all exact rfl); rotate_left; wtm_at "mt"; wtm_at "mt"; rotate_left) | ((with_reducible refine' E_bt ?_ ?_ ?_ ?_); rotate_left; wtm_at "nm"; wtm_at "mt"; wtm_at "mt") | ((with_reducible refine' E_meth PySem.F.plainAttrs_list PySem.F.slot_list_append PySem.F.type_list_append ?_ ?_ ?_ ?_ ?_); rotate_left; wtm_at "mt"; wtm_at "mt"; wtm_at "mt"; rotate_left))))
      exact ⟨by trivial, _, _, ⟨.refl _, (List.sublist_cons_self _ _)⟩, rfl, rfl⟩
    rintro v l ⟨rfl, rfl⟩
    refine S_cut (fun v l => (E2 fun (x : List Nat) (k : Bool) => A5 (Subj B (sqz x) k) ((∀ u ∈ x, u < 300)) (x.length ≤ 1000) (v = ([("base", .str B), ("is_reply", .bool k), ("text", .str x)] : Vars)) (l = []))) ?_ ?_
    · repeat' (first | (focus (first | with_reducible (first | refine Thn_next ?_ | refine Thn_ret ?_ | refine Trn_next ?_ | refine S_nil ?_ | refine S_cons ?_ | refine S_ret ?_ | refine S_if ?_ | refine E_int ?_ | refine E_bytes ?_ | refine E_bool ?_ | refine L_nil ?_ | refine E_bin ?_ | refine T_op ?_ | refine T_or ?_ | refine T_or0 ?_ | refine E_op ?_ | refine E_op1 ?_ | refine E_or ?_ | refine E_tuple ?_ | refine E_list ?_ | refine B_add ?_ | refine C_lt ?_ | refine C_eq ?_ | refine Tr_bool ?_ | refine ite_f ?_ | refine ite_d (fun _ => ?_) (fun _ => ?_) | refine ite_b (fun _ => ?_) (fun _ => ?_)) | ((with_reducible refine' S_set ?_ ?_ ?_ ?_); assumption; rotate_left; wtm_at "loc"; wtm_at "mt") | ((with_reducible refine' S_unR2 ?_ ?_ ?_ ?_ ?_ ?_); assumption; rotate_left; wtm_at "loc"; wtm_at "loc"; wtm_at "mt"; wtm_at "sw") | ((with_reducible refine' S_un2 ?_ ?_ ?_ ?_ ?_ ?_); assumption; rotate_left; wtm_at "loc"; wtm_at "loc"; wtm_at "mt"; wtm_at "mt") | ((with_reducible apply Bi_append); wtm_at "upd"; wtm_at "sz") | ((with_reducible refine' B_addB ?_ ?_); rotate_left; wtm_at "sz") | ((with_reducible refine' S_expr ?_ ?_ ?_); assumption; rotate_left; wtm_at "mt") | ((with_reducible apply exSet); wtm_at "setv") | ((with_reducible apply exSets); wtm_at "setvs") | ((with_reducible refine' ⟨?_, fun _ => ?_⟩); exact Nat.le_of_ble_eq_true rfl) | ((with_reducible refine' ⟨_, TupL.t ?_, ?_⟩); rotate_left; wtm_at "mem") | ((with_reducible refine' ⟨Recv.list ?_, ?_⟩); rotate_left; wtm_at "mem") | (with_reducible refine ⟨_, rfl, ?_⟩) | (with_reducible refine ⟨_, _, rfl, ?_⟩) | (with_reducible refine ⟨_, _, _, rfl, ?_⟩) | (with_reducible refine Bi_range1 (fun _ => ?_)) | ((with_reducible (first | refine' L_cons ?_ ?_ | refine' E_cmp ?_ ?_ | refine' T_cmp ?_ ?_ | refine' E_item ?_ ?_)); rotate_left; wtm_at "mt") | wtm_at "name" | ((with_reducible refine' E_fn ?_ ?_ ?_ ?_ ?_ ?_); rotate_left 2; wtm_at "nm"; (exact fun w => by with_unfolding_all exact rfl); rotate_left; wtm_at "mt"; wtm_at "mt"; rotate_left) | ((with_reducible refine' E_bt ?_ ?_ ?_ ?_); rotate_left; wtm_at "nm"; wtm_at "mt"; wtm_at "mt") | ((with_reducible refine' E_meth PySem.F.plainAttrs_list PySem.F.slot_list_append PySem.F.type_list_append ?_ ?_ ?_ ?_ ?_); rotate_left; wtm_at "mt"; wtm_at "mt"; wtm_at "mt"; rotate_left))) | (focus ((with_reducible refine' S_for_range ?_ ?_ ?_ ?_ ?_); assumption; assumption; wtm_at "loc"; wtm_at "mt")) | refine c_drawn (many := 31) (by decide) (by decide) (by lia) hst3 (U2 _) (fun n st4 hn hst4 => ?_))
      · rw [hr]; decide
      refine ⟨_, _, _, _, _, rfl, .head _, RItems.up (by lia) (by lia) (by lia) (by lia), ?_⟩
      rw [show ((n : Int) - 0).toNat = n by lia]
      refine WFor_inv (fun its v l => (E4 fun (i : Nat) (x : List Nat) (k : Bool) (st' : Pen) => A8 (i ≤ n) (its = ups (i : Int) (n - i)) (Subj B (sqz x) k) ((∀ u ∈ x, u < 300)) (x.length ≤ 12 + 12 * i) (PenOk (212 + 2 * i) st') (v = ([("pen", .ref P), ("base", .str B), ("is_reply", .bool k), ("text", .str x)] : Vars)) (l = [(P, Pen.po C st'), (C, Pen.co st')]))) ?_ ?_ _ _ _ ?_
      · rintro v l ⟨i, x, k, st', hi1, hu, hS, hx1, hx2, hst', rfl, rfl⟩
        exact ⟨by trivial, _, _, ⟨by wtm_at "subl", by wtm_at "subl"⟩, x, k, hS, hx1, by lia, rfl, rfl⟩
      · rintro p its v l ⟨i, x, k, st', hi1, hu, hS, hx1, hx2, hst', rfl, rfl⟩
        have hlt : i < n := by
          rcases Nat.lt_or_ge i n with h | h
          · exact h
          · rw [show n - i = 0 by lia] at hu; cases hu
        rw [show n - i = (n - (i + 1)) + 1 by lia, ups_succ] at hu
        obtain ⟨rfl, rfl⟩ := List.cons.inj hu
        refine ⟨_, by wtm_at "setv", ?_⟩
        clear hu
        repeat' (first | (focus (first | with_reducible (first | refine Thn_next ?_ | refine Thn_ret ?_ | refine Trn_next ?_ | refine S_nil ?_ | refine S_cons ?_ | refine S_ret ?_ | refine S_if ?_ | refine E_int ?_ | refine E_bytes ?_ | refine E_bool ?_ | refine L_nil ?_ | refine E_bin ?_ | refine T_op ?_ | refine T_or ?_ | refine T_or0 ?_ | refine E_op ?_ | refine E_op1 ?_ | refine E_or ?_ | refine E_tuple ?_ | refine E_list ?_ | refine B_add ?_ | refine C_lt ?_ | refine C_eq ?_ | refine Tr_bool ?_ | refine ite_f ?_ | refine ite_d (fun _ => ?_) (fun _ => ?_) | refine ite_b (fun _ => ?_) (fun _ => ?_)) | ((with_reducible refine' S_set ?_ ?_ ?_ ?_); assumption; rotate_left; wtm_at "loc"; wtm_at "mt") | ((with_reducible refine' S_unR2 ?_ ?_ ?_ ?_ ?_ ?_); assumption; rotate_left; wtm_at "loc"; wtm_at "loc"; wtm_at "mt"; wtm_at "sw") | ((with_reducible refine' S_un2 ?_ ?_ ?_ ?_ ?_ ?_); assumption; rotate_left; wtm_at "loc"; wtm_at "loc"; wtm_at "mt"; wtm_at "mt") | ((with_reducible apply Bi_append); wtm_at "upd"; wtm_at "sz") | ((with_reducible refine' B_addB ?_ ?_); rotate_left; wtm_at "sz") | ((with_reducible refine' S_expr ?_ ?_ ?_); assumption; rotate_left; wtm_at "mt") | ((with_reducible apply exSet); wtm_at "setv") | ((with_reducible apply exSets); wtm_at "setvs") | ((with_reducible refine' ⟨?_, fun _ => ?_⟩); exact Nat.le_of_ble_eq_true rfl) | ((with_reducible refine' ⟨_, TupL.t ?_, ?_⟩); rotate_left; wtm_at "mem") | ((with_reducible refine' ⟨Recv.list ?_, ?_⟩); rotate_left; wtm_at "mem") | (with_reducible refine ⟨_, rfl, ?_⟩) | (with_reducible refine ⟨_, _, rfl, ?_⟩) | (with_reducible refine ⟨_, _, _, rfl, ?_⟩) | (with_reducible refine Bi_range1 (fun _ => ?_)) | ((with_reducible (first | refine' L_cons ?_ ?_ | refine' E_cmp ?_ ?_ | refine' T_cmp ?_ ?_ | refine' E_item ?_ ?_)); rotate_left; wtm_at "mt") | wtm_at "name" | ((with_reducible refine' E_fn ?_ ?_ ?_ ?_ ?_ ?_); rotate_left 2; wtm_at "nm"; (exact fun w => by with_unfolding_all exact rfl); rotate_left; wtm_at "mt"; wtm_at "mt"; rotate_left) | ((with_reducible refine' E_bt ?_ ?_ ?_ ?_); rotate_left; wtm_at "nm"; wtm_at "mt"; wtm_at "mt") | ((with_reducible refine' E_meth PySem.F.plainAttrs_list PySem.F.slot_list_append PySem.F.type_list_append ?_ ?_ ?_ ?_ ?_); rotate_left; wtm_at "mt"; wtm_at "mt"; wtm_at "mt"; rotate_left))) | refine c_around (B := 212 + 2 * i) (by lia) (by lia) hst' (U2 _) (fun y b T st5 hy hst5 => ?_))
        all_goals try (rw [hr]; decide)
        all_goals (have hwl := wrap_low hy hx1; have hws := wrap_subj (base_subj B hBm).1 hy hS)
        · rename (k = true) => hk
          subst hk
          exact ⟨_, _, ⟨by wtm_at "subl", by wtm_at "subl"⟩, i + 1, y, true, st5, by lia, rfl, hws, hwl.1, by lia, ⟨hst5.1, by have := hst5.2; lia⟩, rfl, rfl⟩
        · rename (k = false) => hk
          subst hk
          exact ⟨_, _, ⟨by wtm_at "subl", by wtm_at "subl"⟩, i + 1, y, b, st5, by lia, rfl, hws, hwl.1, by lia, ⟨hst5.1, by have := hst5.2; lia⟩, rfl, rfl⟩
      · exact ⟨_, _, ⟨.refl _, (List.sublist_cons_self _ _)⟩, 0, B, false, st4, by lia, rfl, subj_base hBm, hBl, by lia, hst4, rfl, rfl⟩
    rintro v l ⟨x, k, hS, hx1, hx2, rfl, rfl⟩
    have hxs := sqz_len x
    have hxl := sqz_low (n := 0x110000) (by lia) (fun u hu => Nat.lt_trans (hx1 u hu) (by lia))
    repeat' (first | (focus (first | with_reducible (first | refine Thn_next ?_ | refine Thn_ret ?_ | refine Trn_next ?_ | refine S_nil ?_ | refine S_cons ?_ | refine S_ret ?_ | refine S_if ?_ | refine E_int ?_ | refine E_bytes ?_ | refine E_bool ?_ | refine L_nil ?_ | refine E_bin ?_ | refine T_op ?_ | refine T_or ?_ | refine T_or0 ?_ | refine E_op ?_ | refine E_op1 ?_ | refine E_or ?_ | refine E_tuple ?_ | refine E_list ?_ | refine B_add ?_ | refine C_lt ?_ | refine C_eq ?_ | refine Tr_bool ?_ | refine ite_f ?_ | refine ite_d (fun _ => ?_) (fun _ => ?_) | refine ite_b (fun _ => ?_) (fun _ => ?_)) | ((with_reducible refine' S_set ?_ ?_ ?_ ?_); assumption; rotate_left; wtm_at "loc"; wtm_at "mt") | ((with_reducible refine' S_unR2 ?_ ?_ ?_ ?_ ?_ ?_); assumption; rotate_left; wtm_at "loc"; wtm_at "loc"; wtm_at "mt"; wtm_at "sw") | ((with_reducible refine' S_un2 ?_ ?_ ?_ ?_ ?_ ?_); assumption; rotate_left; wtm_at "loc"; wtm_at "loc"; wtm_at "mt"; wtm_at "mt") | ((with_reducible apply Bi_append); wtm_at "upd"; wtm_at "sz") | ((with_reducible refine' B_addB ?_ ?_); rotate_left; wtm_at "sz") | ((with_reducible refine' S_expr ?_ ?_ ?_); assumption; rotate_left; wtm_at "mt") | ((with_reducible apply exSet); wtm_at "setv") | ((with_reducible apply exSets); wtm_at "setvs") | ((with_reducible refine' ⟨?_, fun _ => ?_⟩); exact Nat.le_of_ble_eq_true rfl) | ((with_reducible refine' ⟨_, TupL.t ?_, ?_⟩); rotate_left; wtm_at "mem") | ((with_reducible refine' ⟨Recv.list ?_, ?_⟩); rotate_left; wtm_at "mem") | (with_reducible refine ⟨_, rfl, ?_⟩) | (with_reducible refine ⟨_, _, rfl, ?_⟩) | (with_reducible refine ⟨_, _, _, rfl, ?_⟩) | (with_reducible refine Bi_range1 (fun _ => ?_)) | ((with_reducible (first | refine' L_cons ?_ ?_ | refine' E_cmp ?_ ?_ | refine' T_cmp ?_ ?_ | refine' E_item ?_ ?_)); rotate_left; wtm_at "mt") | wtm_at "name" | ((with_reducible refine' E_fn ?_ ?_ ?_ ?_ ?_ ?_); rotate_left 2; wtm_at "nm"; (exact fun w => by with_unfolding_all exact rfl); rotate_left; wtm_at "mt"; wtm_at "mt"; rotate_left) | ((with_reducible refine' E_bt ?_ ?_ ?_ ?_); rotate_left; wtm_at "nm"; wtm_at "mt"; wtm_at "mt") | ((with_reducible refine' E_meth PySem.F.plainAttrs_list PySem.F.slot_list_append PySem.F.type_list_append ?_ ?_ ?_ ?_ ?_); rotate_left; wtm_at "mt"; wtm_at "mt"; wtm_at "mt"; rotate_left))) | refine c_base (y := sqz x) (by lia) (by lia) hxl rfl (fun b e k' hb r => ?_))
    · rw [hr]; decide
    · have hlaw := law_subject hBm hS hb
      refine C_eqTup' (by wtm_at "mem") (by wtm_at "mem") hlaw ?_
      repeat' (first | (focus (first | with_reducible (first | refine Thn_next ?_ | refine Thn_ret ?_ | refine Trn_next ?_ | refine S_nil ?_ | refine S_cons ?_ | refine S_ret ?_ | refine S_if ?_ | refine E_int ?_ | refine E_bytes ?_ | refine E_bool ?_ | refine L_nil ?_ | refine E_bin ?_ | refine T_op ?_ | refine T_or ?_ | refine T_or0 ?_ | refine E_op ?_ | refine E_op1 ?_ | refine E_or ?_ | refine E_tuple ?_ | refine E_list ?_ | refine B_add ?_ | refine C_lt ?_ | refine C_eq ?_ | refine Tr_bool ?_ | refine ite_f ?_ | refine ite_d (fun _ => ?_) (fun _ => ?_) | refine ite_b (fun _ => ?_) (fun _ => ?_)) | ((with_reducible refine' S_set ?_ ?_ ?_ ?_); assumption; rotate_left; wtm_at "loc"; wtm_at "mt") | ((with_reducible refine' S_unR2 ?_ ?_ ?_ ?_ ?_ ?_); assumption; rotate_left; wtm_at "loc"; wtm_at "loc"; wtm_at "mt"; wtm_at "sw") | ((with_reducible refine' S_un2 ?_ ?_ ?_ ?_ ?_ ?_); assumption; rotate_left; wtm_at "loc"; wtm_at "loc"; wtm_at "mt"; wtm_at "mt") | ((with_reducible apply Bi_append); wtm_at "upd"; wtm_at "sz") | ((with_reducible refine' B_addB ?_ ?_); rotate_left; wtm_at "sz") | ((with_reducible refine' S_expr ?_ ?_ ?_); assumption; rotate_left; wtm_at "mt") | ((with_reducible apply exSet); wtm_at "setv") | ((with_reducible apply exSets); wtm_at "setvs") | ((with_reducible refine' ⟨?_, fun _ => ?_⟩); exact Nat.le_of_ble_eq_true rfl) | ((with_reducible refine' ⟨_, TupL.t ?_, ?_⟩); rotate_left; wtm_at "mem") | ((with_reducible refine' ⟨Recv.list ?_, ?_⟩); rotate_left; wtm_at "mem") | (with_reducible refine ⟨_, rfl, ?_⟩) | (with_reducible refine ⟨_, _, rfl, ?_⟩) | (with_reducible refine ⟨_, _, _, rfl, ?_⟩) | (with_reducible refine Bi_range1 (fun _ => ?_)) | ((with_reducible (first | refine' L_cons ?_ ?_ | refine' E_cmp ?_ ?_ | refine' T_cmp ?_ ?_ | refine' E_item ?_ ?_)); rotate_left; wtm_at "mt") | wtm_at "name" | ((with_reducible refine' E_fn ?_ ?_ ?_ ?_ ?_ ?_); rotate_left 2; wtm_at "nm"; (exact fun w => by with_unfolding_all exact rfl); rotate_left; wtm_at "mt"; wtm_at "mt"; rotate_left) | ((with_reducible refine' E_bt ?_ ?_ ?_ ?_); rotate_left; wtm_at "nm"; wtm_at "mt"; wtm_at "mt") | ((with_reducible refine' E_meth PySem.F.plainAttrs_list PySem.F.slot_list_append PySem.F.type_list_append ?_ ?_ ?_ ?_ ?_); rotate_left; wtm_at "mt"; wtm_at "mt"; wtm_at "mt"; rotate_left))))
      rfl
end
end Mine
theorem PySem.Challenge.cw_sa0549_01_holds : PySem.Challenge.rw_sa0549_01.Holds :=
  Mine.law_holds
