import PyProof.Rows.All
import Wide.All
import OpenK.AllK
import Wide.FinOn
import Lean
import PySem.Challenge.RW_nn0053_01
open PySem PySem.W PySem.Calls PyProof.Rows
open PySem.AutoSeq1 (wpAny_loadPart')
set_option Elab.async false
set_option maxRecDepth 100000
set_option linter.unusedVariables false
set_option maxHeartbeats 1000000
set_option compiler.extract_closed false
namespace Mine
section
/-- all stays; what is in X up to its slots -/
noncomputable def Le (X : List Addr) (h h' : Heap) : Prop := ∀ a o, h.get? a = some o → (∃ sl, h'.get? a = some { o with slots := sl }) ∧ (a ∉ X → h'.get? a = some o)
theorem Le.of_stays {X : List Addr} {h h' : Heap} (k : ∀ a o, h.get? a = some o → h'.get? a = some o) : Le X h h' := fun a o e => ⟨⟨o.slots, k a o e⟩, fun _ => k a o e⟩
theorem Le.refl (X : List Addr) (h : Heap) : Le X h h := .of_stays fun _ _ e => e
theorem Le.trans {X : List Addr} {h₁ h₂ h₃ : Heap} (x : Le X h₁ h₂) (y : Le X h₂ h₃) : Le X h₁ h₃ := fun a o e => by
  obtain ⟨⟨sl, e₁⟩, k₁⟩ := x a o e
  obtain ⟨⟨sl', e₂⟩, _⟩ := y a _ e₁
  exact ⟨⟨sl', e₂⟩, fun hc => (y a o (k₁ hc)).2 hc⟩
theorem Le.push (X : List Addr) (h : Heap) (o : Obj) : Le X h (h.push o) := .of_stays fun _ _ e => Heap.get?_push_of_some _ e
theorem Le.get {X : List Addr} {h h' : Heap} (x : Le X h h') {a : Addr} {o : Obj} (e : h.get? a = some o) (hc : a ∉ X) : h'.get? a = some o := (x a o e).2 hc
theorem Le.ns {X : List Addr} {h h' : Heap} (x : Le X h h') {a : Addr} {m : Str → Option Value} (n : h.Ns a m) : h'.Ns a m := by
  obtain ⟨o, es, ep, ho, r⟩ := n
  obtain ⟨⟨sl, e⟩, _⟩ := x a o ho
  exact ⟨_, es, ep, e, r⟩
theorem Le.cell {X : List Addr} {h h' : Heap} (x : Le X h h') {a : Addr} {v : Option Value} (n : h.IsCell a v) : h'.IsCell a v := by
  obtain ⟨o, ho, r⟩ := n
  obtain ⟨⟨sl, e⟩, _⟩ := x a o ho
  exact ⟨_, e, r⟩
theorem Le.gone {X : List Addr} {h h' : Heap} (x : Le X h h') {a : Addr} (e : h'.get? a = none) : h.get? a = none := by
  cases q : h.get? a with
  | none => rfl
  | some o => obtain ⟨⟨sl, q'⟩, _⟩ := x a o q; rw [e] at q'; cases q'
theorem Le.live {X : List Addr} {h h' : Heap} (x : Le X h h') {a : Addr} (e : (h.get? a).isSome = true) : (h'.get? a).isSome = true := by
  obtain ⟨o, e⟩ := Option.isSome_iff_exists.mp e
  obtain ⟨⟨sl, q⟩, _⟩ := x a o e
  rw [q]; rfl
theorem Le.sub {X Y : List Addr} {h h' : Heap} (x : Le X h h') (s : ∀ a ∈ X, (h.get? a).isSome = true → a ∈ Y) : Le Y h h' := fun a o e => ⟨(x a o e).1, fun hY => (x a o e).2 fun hX => hY (s a hX (by rw [e]; rfl))⟩
/-- abstract values -/
inductive V where
  | none | bool (b : Bool) | int (i : Int) | str (s : Str) | bts (b : Array UInt8)
  | glob (v : Value)
  | tup (l : List V) | lst (l : List V)
  | scr (ns : List Int)
  | inst (C : Addr) (fs : List (String × V))
/-- an object with its dict -/
noncomputable def InstP (h : Heap) (x dx C : Addr) (es : List DictEntry) : Prop :=
  (∃ ox, h.get? x = some ox ∧ ox.cls = .ref C ∧ ox.dict = some dx ∧ ox.data = .plain) ∧ ∃ od n, h.get? dx = some od ∧ od.cls = .type "dict" ∧ od.data = .dict es.toArray n
/-- a list object without a dict -/
noncomputable def IsLs (h : Heap) (a : Addr) (items : Array Value) : Prop := ∃ o, h.get? a = some o ∧ o.cls = .type "list" ∧ o.dict = none ∧ ∃ n, o.data = .seq items n
theorem IsLs.isList {h : Heap} {a : Addr} {items : Array Value} (x : IsLs h a items) : h.IsList a items := let ⟨o, ho, hc, _, r⟩ := x; ⟨o, ho, hc, r⟩
theorem IsLs.noDict {s : Shared} {a : Addr} {items : Array Value} (x : IsLs s.heap a items) : s.heap.NoDictAt (.ref a) := let ⟨o, ho, _, hd, _⟩ := x; ⟨o, ho, hd⟩
mutual
noncomputable def Rp (X : List Addr) (h : Heap) : V → Value → Prop
  | .none, v => v = .none
  | .bool b, v => v = .bool b
  | .int i, v => ∃ t, v = .int i t
  | .str x, v => ∃ t, v = .str x t
  | .bts b, v => ∃ t, v = .bytes b t
  | .glob g, v => v = g
  | .tup l, v => ∃ a vs, v = .ref a ∧ a ∉ X ∧ IsTup h a vs.toArray ∧ RpL X h l vs
  | .lst l, v => ∃ a vs, v = .ref a ∧ a ∉ X ∧ IsLs h a vs.toArray ∧ RpL X h l vs
  | .scr ns, v => ∃ a vs, v = .ref a ∧ a ∉ X ∧ h.IsList a vs.toArray ∧ IntsAre vs ns
  | .inst C fs, v => ∃ x dx es, v = .ref x ∧ x ∉ X ∧ dx ∉ X ∧ InstP h x dx C es ∧ RpF X h fs es
noncomputable def RpL (X : List Addr) (h : Heap) : List V → List Value → Prop
  | [], vs => vs = []
  | d :: ds, vs => ∃ v ws, vs = v :: ws ∧ Rp X h d v ∧ RpL X h ds ws
noncomputable def RpF (X : List Addr) (h : Heap) : List (String × V) → List DictEntry → Prop
  | [], es => es = []
  | (k, d) :: fs, es => ∃ e r, es = e :: r ∧ (∃ t, e.key = .str (Str.ofString k) t) ∧ Rp X h d e.val ∧ RpF X h fs r
end
/-- the objects that a value stands on -/
noncomputable def Stays (X Y : List Addr) (h h' : Heap) : Prop := ∀ a o, a ∉ X → h.get? a = some o → (a ∉ Y ∧ h'.get? a = some o)
mutual
theorem Rp.mono {X Y : List Addr} {h h' : Heap} (k : Stays X Y h h') : ∀ (d : V) (v : Value), Rp X h d v → Rp Y h' d v
  | .none, v, e | .bool b, v, e | .int i, v, e | .str x, v, e | .bts b, v, e | .glob g, v, e => by simp only [Rp] at e ⊢; exact e
  | .tup l, v, e => by
    simp only [Rp] at e ⊢
    obtain ⟨a, vs, r, hx, ⟨o, ho, hg⟩, hl⟩ := e
    have q := k a _ hx ho
    exact ⟨a, vs, r, q.1, ⟨o, q.2, hg⟩, RpL.mono k l vs hl⟩
  | .lst l, v, e => by
    simp only [Rp] at e ⊢
    obtain ⟨a, vs, r, hx, ⟨o, ho, hg⟩, hl⟩ := e
    have q := k a _ hx ho
    exact ⟨a, vs, r, q.1, ⟨o, q.2, hg⟩, RpL.mono k l vs hl⟩
  | .scr ns, v, e => by
    simp only [Rp] at e ⊢
    obtain ⟨a, vs, r, hx, ⟨o, ho, hg⟩, hl⟩ := e
    have q := k a _ hx ho
    exact ⟨a, vs, r, q.1, ⟨o, q.2, hg⟩, hl⟩
  | .inst C fs, v, e => by
    simp only [Rp] at e ⊢
    obtain ⟨x, dx, es, r, hx, hdx, ⟨⟨ox, hg, go⟩, ⟨od, n, hgd, gd⟩⟩, hl⟩ := e
    have q := k x _ hx hg
    have q' := k dx _ hdx hgd
    exact ⟨x, dx, es, r, q.1, q'.1, ⟨⟨ox, q.2, go⟩, ⟨od, n, q'.2, gd⟩⟩, RpF.mono k fs es hl⟩
theorem RpL.mono {X Y : List Addr} {h h' : Heap} (k : Stays X Y h h') : ∀ (ds : List V) (vs : List Value), RpL X h ds vs → RpL Y h' ds vs
  | [], vs, e => by simp only [RpL] at e ⊢; exact e
  | d :: ds, vs, e => by
    simp only [RpL] at e ⊢
    obtain ⟨v, ws, r, hd, hr⟩ := e
    exact ⟨v, ws, r, Rp.mono k d v hd, RpL.mono k ds ws hr⟩
theorem RpF.mono {X Y : List Addr} {h h' : Heap} (k : Stays X Y h h') : ∀ (fs : List (String × V)) (es : List DictEntry), RpF X h fs es → RpF Y h' fs es
  | [], es, e => by simp only [RpF] at e ⊢; exact e
  | (n, d) :: fs, es, e => by
    simp only [RpF] at e ⊢
    obtain ⟨x, r, q, hk, hd, hr⟩ := e
    exact ⟨x, r, q, hk, Rp.mono k d x.val hd, RpF.mono k fs r hr⟩
end
theorem Rp.le {X : List Addr} {h h' : Heap} {d : V} {v : Value} (k : Le X h h') (r : Rp X h d v) : Rp X h' d v := r.mono (Y := X) (fun a o hx e => ⟨hx, k.get e hx⟩)
theorem RpL.le {X : List Addr} {h h' : Heap} {d : List V} {v : List Value} (k : Le X h h') (r : RpL X h d v) : RpL X h' d v := r.mono (Y := X) (fun a o hx e => ⟨hx, k.get e hx⟩)
theorem RpF.le {X : List Addr} {h h' : Heap} {d : List (String × V)} {v : List DictEntry} (k : Le X h h') (r : RpF X h d v) : RpF X h' d v := r.mono (Y := X) (fun a o hx e => ⟨hx, k.get e hx⟩)
theorem Rp.sub {X Y : List Addr} {h : Heap} {d : V} {v : Value} (s : ∀ a ∈ Y, (h.get? a).isSome = true → a ∈ X) (r : Rp X h d v) : Rp Y h d v := r.mono (fun a o hx e => ⟨fun hy => hx (s a hy (by rw [e]; rfl)), e⟩)
theorem RpL.sub {X Y : List Addr} {h : Heap} {d : List V} {v : List Value} (s : ∀ a ∈ Y, (h.get? a).isSome = true → a ∈ X) (r : RpL X h d v) : RpL Y h d v := r.mono (fun a o hx e => ⟨fun hy => hx (s a hy (by rw [e]; rfl)), e⟩)
end
section
/-- the frames on the stack -/
noncomputable def Frs (X : List Addr) (h : Heap) (l : List Env) : Prop := ∀ env ∈ l, env.scope.kind ≠ .module ∧ ∃ L o, env.frame = some L ∧ L ∈ X ∧ h.get? L = some o ∧ ∀ vs, o.data ≠ .fields vs
theorem Frs.le {X : List Addr} {h h' : Heap} {l : List Env} (k : Le X h h') (x : Frs X h l) : Frs X h' l := fun env he => by
  obtain ⟨hk, L, o, hf, hX, ho, hd⟩ := x env he
  obtain ⟨⟨sl, e⟩, _⟩ := k L o ho
  exact ⟨hk, L, _, hf, hX, e, hd⟩
structure AOk (n : Nat) (X : List Addr) (A : Around) (h : Heap) : Prop where
  dep : A.depth + 3 * n < recursionLimit
  uni : A.units + 100 + 20 * n < cLine
  hdl : A.handled = none
  frm : ∃ l, A.frames = some l ∧ Frs X h l
theorem AOk.le {n : Nat} {X : List Addr} {A : Around} {h h' : Heap} (k : Le X h h') (x : AOk n X A h) : AOk n X A h' := ⟨x.dep, x.uni, x.hdl, let ⟨l, a, b⟩ := x.frm; ⟨l, a, b.le k⟩⟩
theorem AOk.less {n m : Nat} {X : List Addr} {A : Around} {h : Heap} (x : AOk n X A h) (hm : m ≤ n) : AOk m X A h := ⟨by have := x.dep; omega, by have := x.uni; omega, x.hdl, x.frm⟩
section
variable {n : Nat} {X : List Addr} {A : Around} {h : Heap} (x : AOk n X A h)
include x
theorem AOk.cl : A.units < cLine := by have := x.uni; omega
theorem AOk.u64 : A.units + 64 < cLine := by have := x.uni; omega
theorem AOk.u65 : A.units + 65 < cLine := by have := x.uni; omega
theorem AOk.dp : A.depth < recursionLimit := by have := x.dep; omega
end
structure Cx (K : Frag) (X : List Addr) (h : Heap) : Prop where
  ki : K.In h
  off : ∀ a ∈ X, K.lookup a = none
  liv : ∀ a ∈ X, (h.get? a).isSome = true
  lim : h.NoLimit
  glb : ∃ mg, h.Ns mainGlobals mg
  blt : ∃ mb, h.Ns builtinsNs mb ∧ ∀ x : Str, x ≠ "__name__" → mb x = bootBuiltins x
  dig : ∃ mc, h.Ns cStatics mc ∧ mc "sys.int_max_str_digits" = none
theorem Cx.le {K : Frag} {X : List Addr} {h h' : Heap} (k : Le X h h') (x : Cx K X h) : Cx K X h' where
  ki := fun a o e => k.get (x.ki a o e) fun hX => by rw [x.off a hX] at e; cases e
  off := x.off
  liv := fun a ha => k.live (x.liv a ha)
  lim := let ⟨mc, a, b⟩ := x.lim; ⟨mc, k.ns a, b⟩
  glb := let ⟨mg, a⟩ := x.glb; ⟨mg, k.ns a⟩
  blt := let ⟨mb, a, b⟩ := x.blt; ⟨mb, k.ns a, b⟩
  dig := let ⟨mc, a, b⟩ := x.dig; ⟨mc, k.ns a, b⟩
noncomputable def Slot (env : Env) (m : Str → Option Value) (h : Heap) (X : List Addr) (x : Str) (v : Value) : Prop :=
  (env.kindOf x = some .local ∧ m x = some v) ∨ ((env.kindOf x = some .cell ∨ (env.kindOf x = some .free ∧ (x == ("__classdict__" : Str)) = false)) ∧ ∃ c, env.cells.lookup x = some c ∧ c ∈ X ∧ h.IsCell c (some v))
theorem Slot.le {env : Env} {m : Str → Option Value} {h h' : Heap} {X : List Addr} {x : Str} {v : Value} (k : Le X h h') : Slot env m h X x v → Slot env m h' X x v
  | .inl e => .inl e
  | .inr ⟨a, c, b, d, e⟩ => .inr ⟨a, c, b, d, k.cell e⟩
noncomputable abbrev Lc := List (String × V)
structure EOk (env : Env) : Prop where
  kind : env.scope.kind = .function
  glob : env.globals = mainGlobals
  blt : env.builtins = builtinsNs
structure LOk (X : List Addr) (env : Env) (Γ : Lc) (h : Heap) : Prop where
  ok : EOk env
  inX : env.locals ∈ X
  ns : ∃ m, h.Ns env.locals m ∧ ∀ x d, Γ.lookup x = some d → (Str.ofString x == ("__debug__" : Str)) = false ∧ ∃ v, Rp X h d v ∧ Slot env m h X (Str.ofString x) v
theorem LOk.le {X : List Addr} {env : Env} {Γ : Lc} {h h' : Heap} (k : Le X h h') (x : LOk X env Γ h) : LOk X env Γ h' :=
  ⟨x.ok, x.inX, let ⟨m, a, b⟩ := x.ns; ⟨m, k.ns a, fun y d e => let ⟨q, v, r, s⟩ := b y d e; ⟨q, v, r.le k, s.le k⟩⟩⟩
section
variable (prog : Program) (w : World) (K : Frag)
/-- the expression yields the value -/
noncomputable def Ev (n : Nat) (env : Env) (Γ : Lc) (e : PySem.Expr) (d : V) : Prop :=
  ∀ (X : List Addr) (A : Around) (s : Shared) (Q : Value → Shared → Prop) (E : Value → Shared → Prop), Cx K X s.heap → AOk n X A s.heap → LOk X env Γ s.heap →
    (∀ v h' tk, Le X s.heap h' → Rp X h' d v → Q v ⟨h', s.gens, s.drawn, tk, s.os⟩) → wpAny (model prog w) A (eval e env) Q E s
noncomputable def EvT (n : Nat) (env : Env) (Γ : Lc) (e : PySem.Expr) (b : Bool) : Prop :=
  ∀ (X : List Addr) (A : Around) (s : Shared) (Q : Bool → Shared → Prop) (E : Value → Shared → Prop), Cx K X s.heap → AOk n X A s.heap → LOk X env Γ s.heap →
    (∀ h' tk, Le X s.heap h' → Q b ⟨h', s.gens, s.drawn, tk, s.os⟩) → wpAny (model prog w) A (PySem.isTrue e env (eval e env)) Q E s
noncomputable def EvL (n : Nat) (env : Env) (Γ : Lc) (es : List PySem.Expr) (ds : List V) : Prop :=
  ∀ (X : List Addr) (A : Around) (s : Shared) (pos : Pos) (Q : List Value → Shared → Prop) (E : Value → Shared → Prop), Cx K X s.heap → AOk n X A s.heap → LOk X env Γ s.heap →
    (∀ vs h' tk, Le X s.heap h' → RpL X h' ds vs → Q vs ⟨h', s.gens, s.drawn, tk, s.os⟩) → wpAny (model prog w) A (spliced (backTo pos (starEach es env))) Q E s
/-- the call yields the value -/
noncomputable def Calls (n : Nat) (f : Value) (ds : List V) (d : V) : Prop :=
  ∀ (X : List Addr) (A : Around) (s : Shared) (vs : List Value) (Q : Value → Shared → Prop) (E : Value → Shared → Prop), Cx K X s.heap → AOk n X A s.heap → RpL X s.heap ds vs →
    (∀ v h' tk, Le X s.heap h' → Rp X h' d v → Q v ⟨h', s.gens, s.drawn, tk, s.os⟩) → wpAny (model prog w) A (call f vs) Q E s
end
section
variable {prog : Program} {w : World} {K : Frag} {n : Nat} {env : Env} {Γ : Lc}
theorem Ev.more {e : PySem.Expr} {d : V} {m : Nat} (h : Ev prog w K n env Γ e d) (hm : n ≤ m) : Ev prog w K m env Γ e d := fun X A s Q E c a l q => h X A s Q E c (a.less hm) l q
theorem Calls.more {f : Value} {ds : List V} {d : V} {m : Nat} (h : Calls prog w K n f ds d) (hm : n ≤ m) : Calls prog w K m f ds d := fun X A s vs Q E c a l q => h X A s vs Q E c (a.less hm) l q
theorem RpL.nil {X : List Addr} {h : Heap} : RpL X h [] [] := by simp only [RpL]
theorem RpL.cons {X : List Addr} {h : Heap} {d : V} {ds : List V} {v : Value} {vs : List Value} (a : Rp X h d v) (b : RpL X h ds vs) : RpL X h (d :: ds) (v :: vs) := by
  simp only [RpL]; exact ⟨v, vs, rfl, a, b⟩
theorem EvL.nil : EvL prog w K n env Γ [] [] := fun X A s pos Q E c a l q => spliced_none (q _ _ _ (Le.refl _ _) .nil)
theorem EvL.cons {e : PySem.Expr} {es : List PySem.Expr} {d : V} {ds : List V} (h : Ev prog w K n env Γ e d) (hs : EvL prog w K n env Γ es ds)
    (he : starEach (e :: es) env = (false, eval e env) :: starEach es env := by rfl) : EvL prog w K n env Γ (e :: es) (d :: ds) := fun X A s pos Q E c a l q => by
  refine spliced_more (h X A s _ E c a l fun v h' tk k r => ?_) he
  exact hs X A _ pos _ E (c.le k) (a.le k) (l.le k) fun vs h'' tk' k' r' => q _ _ _ (k.trans k') (.cons (r.le k') r')
-- constants
theorem Ev.cInt {i : Int} {k : Nat} {pos : Pos} : Ev prog w K n env Γ (.Constant (.int i) k pos) (.int i) := fun X A s Q E c a l q =>
  wpAny_Constant_int (q _ _ _ (Le.refl _ _) (by simp only [Rp]; exact ⟨_, rfl⟩))
theorem Ev.cStr {x : Str} {k : Nat} {pos : Pos} : Ev prog w K n env Γ (.Constant (.str x) k pos) (.str x) := fun X A s Q E c a l q => by
  rw [arm_eval_Constant]
  exact wpAny_mkText (q _ _ _ (Le.refl _ _) (by simp only [Rp]; exact ⟨_, rfl⟩))
theorem Ev.cBool {b : Bool} {k : Nat} {pos : Pos} : Ev prog w K n env Γ (.Constant (.bool b) k pos) (.bool b) := fun X A s Q E c a l q => by
  rw [arm_eval_Constant]
  exact wpAny_pure (q _ _ _ (Le.refl _ _) (by simp only [Rp]))
theorem Ev.cNone {k : Nat} {pos : Pos} : Ev prog w K n env Γ (.Constant .none k pos) .none := fun X A s Q E c a l q => by
  rw [arm_eval_Constant]
  exact wpAny_pure (q _ _ _ (Le.refl _ _) (by simp only [Rp]))
-- names
theorem Ev.name {x : String} {d : V} {pos : Pos} (hx : Γ.lookup x = some d) : Ev prog w K n env Γ (.Name (Str.ofString x) pos) d := fun X A s Q E c a l q => by
  obtain ⟨m, hn, hl⟩ := l.ns
  obtain ⟨hd, v, r, sl⟩ := hl x d hx
  refine wpAny_Name ?_ hd
  rcases sl with ⟨hk, hm⟩ | ⟨hk, cc, hc, _, ho⟩
  · exact wpAny_loadName_local l.ok.kind hk hn hm (q _ _ _ (Le.refl _ _) r)
  · have q' := q v _ s.toks (Le.refl _ _) r
    rcases hk with hk | ⟨hk, hn⟩
    · exact wpAny_loadName_cell l.ok.kind hk hc ho q'
    · exact wpAny_loadName_free l.ok.kind hk hc ho q' hn
theorem Ev.glob {x : String} {v : Value} {pos : Pos} (hk : env.kindOf (Str.ofString x) = some .globalImplicit) (hn : nsIn K mainGlobals (Str.ofString x) = some (some v))
    (hd : (Str.ofString x == ("__debug__" : Str)) = false := by decide +kernel) : Ev prog w K n env Γ (.Name (Str.ofString x) pos) (.glob v) := fun X A s Q E c a l q => by
  obtain ⟨mg, hg⟩ := c.glb
  refine Name_function_global l.ok.kind hk (loadGlobal_global (mg := mg) (by rw [l.ok.glob]; exact hg) (mg_of c.ki hg hn) (q _ _ _ (Le.refl _ _) (by simp only [Rp]))) hd
theorem Ev.bltn {x : String} {v : Value} {pos : Pos} (hk : env.kindOf (Str.ofString x) = some .globalImplicit) (hn : nsIn K mainGlobals (Str.ofString x) = some none) (hb : bootBuiltins (Str.ofString x) = some v)
    (h1 : Str.ofString x ≠ "__name__" := by decide +kernel) (hd : (Str.ofString x == ("__debug__" : Str)) = false := by decide +kernel) : Ev prog w K n env Γ (.Name (Str.ofString x) pos) (.glob v) := fun X A s Q E c a l q => by
  obtain ⟨mg, hg⟩ := c.glb
  obtain ⟨mb, hb', hb''⟩ := c.blt
  refine Name_function_global l.ok.kind hk (loadGlobal_builtin (mg := mg) (mb := mb) (by rw [l.ok.glob]; exact hg) (mg_none_of c.ki hg hn) (by rw [l.ok.blt]; exact hb') ((hb'' _ h1).trans hb) (q _ _ _ (Le.refl _ _) (by simp only [Rp]))) hd
end
end
section
section
variable {prog : Program} {w : World} {K : Frag} {n : Nat} {env : Env} {Γ : Lc}
/-- what an operation on two values gives -/
noncomputable def Op2 (prog : Program) (w : World) (K : Frag) (t : Value → Value → Sem Value) (d e r : V) : Prop :=
  ∀ (n : Nat) (X : List Addr) (A : Around) (s : Shared) (a b : Value) (Q : Value → Shared → Prop) (E : Value → Shared → Prop), Cx K X s.heap → AOk n X A s.heap → Rp X s.heap d a → Rp X s.heap e b →
    (∀ v h' tk, Le X s.heap h' → Rp X h' r v → Q v ⟨h', s.gens, s.drawn, tk, s.os⟩) → wpAny (model prog w) A (t a b) Q E s
theorem Ev.bin {l r : PySem.Expr} {op : Operator} {pos : Pos} {d e f : V} (hl : Ev prog w K n env Γ l d) (hr : Ev prog w K n env Γ r e) (h : Op2 prog w K (binaryOp op) d e f) : Ev prog w K n env Γ (.BinOp l op r pos) f := fun X A s Q E c a lo q => by
  refine wpAny_BinOp (hl X A s _ E c a lo fun v h' tk k r => ?_)
  refine hr X A _ _ E (c.le k) (a.le k) (lo.le k) fun v' h'' tk' k' r' => ?_
  exact h n X A _ v v' Q E ((c.le k).le k') ((a.le k).le k') (r.le k') r' fun v'' h3 tk3 k3 r3 => q _ _ _ ((k.trans k').trans k3) r3
theorem Ev.cmp {l r : PySem.Expr} {op : CmpOp} {pos : Pos} {d e f : V} (hl : Ev prog w K n env Γ l d) (hr : Ev prog w K n env Γ r e) (h : Op2 prog w K (compareOp op) d e f) (hm : behindInMarks op r = false := by rfl) : Ev prog w K n env Γ (.Compare l [op] [r] pos) f := fun X A s Q E c a lo q => by
  refine wpAny_Compare1 (hl X A s _ E c a lo fun v h' tk k r => ?_) hm
  refine hr X A _ _ E (c.le k) (a.le k) (lo.le k) fun v' h'' tk' k' r' => ?_
  exact h n X A _ v v' Q E ((c.le k).le k') ((a.le k).le k') (r.le k') r' fun v'' h3 tk3 k3 r3 => q _ _ _ ((k.trans k').trans k3) r3
theorem EvT.cmp {l r : PySem.Expr} {op : CmpOp} {pos : Pos} {d e : V} {f : Bool} (hl : Ev prog w K n env Γ l d) (hr : Ev prog w K n env Γ r e) (h : Op2 prog w K (compareOp op) d e (.bool f)) (hm : behindInMarks op r = false := by rfl) : EvT prog w K n env Γ (.Compare l [op] [r] pos) f := fun X A s Q E c a lo q => by
  refine wpAny_isTrue_Compare1 (hl X A s _ E c a lo fun v h' tk k r => ?_) hm
  refine hr X A _ _ E (c.le k) (a.le k) (lo.le k) fun v' h'' tk' k' r' => ?_
  refine h n X A _ v v' _ E ((c.le k).le k') ((a.le k).le k') (r.le k') r' fun v'' h3 tk3 k3 r3 => ?_
  simp only [Rp] at r3
  subst r3
  exact wpAny_truthy_bool (q _ _ ((k.trans k').trans k3))
/-- a plain test: its value is a bool -/
theorem EvT.plain {e : PySem.Expr} {b : Bool} (h : Ev prog w K n env Γ e (.bool b)) (he : PySem.isTrue e env (eval e env) = (do let v ← eval e env; standAt e.pos; holding [v] (truthy v)) := by rfl) : EvT prog w K n env Γ e b := fun X A s Q E c a lo q => by
  rw [he]
  refine wpAny_bind (h X A s _ E c a lo fun v h' tk k r => ?_)
  simp only [Rp] at r
  subst r
  exact wpAny_bind (wpAny_standAt (wpAny_holding (wpAny_truthy_bool (q _ _ k))))
-- ints
section
variable {a b : Int}
theorem Op2.add : Op2 prog w K (binaryOp .Add) (.int a) (.int b) (.int (a + b)) := fun n X A s x y Q E c ao ra rb q => by
  simp only [Rp] at ra rb; obtain ⟨t, rfl⟩ := ra; obtain ⟨u, rfl⟩ := rb
  exact PyProof.Rows.add_int (q _ _ _ (Le.refl _ _) (by simp only [Rp]; exact ⟨_, rfl⟩))
theorem Op2.sub : Op2 prog w K (binaryOp .Sub) (.int a) (.int b) (.int (a - b)) := fun n X A s x y Q E c ao ra rb q => by
  simp only [Rp] at ra rb; obtain ⟨t, rfl⟩ := ra; obtain ⟨u, rfl⟩ := rb
  exact PyProof.Rows.sub_int (q _ _ _ (Le.refl _ _) (by simp only [Rp]; exact ⟨_, rfl⟩))
theorem Op2.mul (hm : IntMulOk a b) : Op2 prog w K (binaryOp .Mult) (.int a) (.int b) (.int (a * b)) := fun n X A s x y Q E c ao ra rb q => by
  simp only [Rp] at ra rb; obtain ⟨t, rfl⟩ := ra; obtain ⟨u, rfl⟩ := rb
  exact PyProof.Rows.mul_int (q _ _ _ (Le.refl _ _) (by simp only [Rp]; exact ⟨_, rfl⟩)) hm
theorem Op2.mod (hb : b ≠ 0) : Op2 prog w K (binaryOp .Mod) (.int a) (.int b) (.int (a.fmod b)) := fun n X A s x y Q E c ao ra rb q => by
  simp only [Rp] at ra rb; obtain ⟨t, rfl⟩ := ra; obtain ⟨u, rfl⟩ := rb
  exact PyProof.Rows.mod_int' hb (q _ _ _ (Le.refl _ _) (by simp only [Rp]; exact ⟨_, rfl⟩))
theorem Op2.div (hb : b ≠ 0) (hp : b.natAbs < 1073741824) : Op2 prog w K (binaryOp .FloorDiv) (.int a) (.int b) (.int (a.fdiv b)) := fun n X A s x y Q E c ao ra rb q => by
  simp only [Rp] at ra rb; obtain ⟨t, rfl⟩ := ra; obtain ⟨u, rfl⟩ := rb
  exact PyProof.Rows.floordiv_int hb (q _ _ _ (Le.refl _ _) (by simp only [Rp]; exact ⟨_, rfl⟩)) (.inl (PyProof.noPylong_small hp))
theorem Op2.pow (h0 : 0 ≤ b) (h1 : b ≤ 1000000) (ha : a.natAbs < 2 ^ 64) : Op2 prog w K (binaryOp .Pow) (.int a) (.int b) (.int (a ^ b.toNat)) := fun n X A s x y Q E c ao ra rb q => by
  simp only [Rp] at ra rb; obtain ⟨t, rfl⟩ := ra; obtain ⟨u, rfl⟩ := rb
  exact PyProof.Rows.pow_int_small h0 h1 ha (q _ _ _ (Le.refl _ _) (by simp only [Rp]; exact ⟨_, rfl⟩))
theorem Op2.shl (h0 : 0 ≤ b) (h1 : b ≤ 1000000) (ha : a.natAbs < 2 ^ 64) : Op2 prog w K (binaryOp .LShift) (.int a) (.int b) (.int (a * 2 ^ b.toNat)) := fun n X A s x y Q E c ao ra rb q => by
  simp only [Rp] at ra rb; obtain ⟨t, rfl⟩ := ra; obtain ⟨u, rfl⟩ := rb
  exact PyProof.Rows.lshift_int_small h0 h1 ha (q _ _ _ (Le.refl _ _) (by simp only [Rp]; exact ⟨_, rfl⟩))
theorem Op2.and : Op2 prog w K (binaryOp .BitAnd) (.int a) (.int b) (.int (Builtin.bitAnd a b)) := fun n X A s x y Q E c ao ra rb q => by
  simp only [Rp] at ra rb; obtain ⟨t, rfl⟩ := ra; obtain ⟨u, rfl⟩ := rb
  exact PyProof.Rows.and_int (q _ _ _ (Le.refl _ _) (by simp only [Rp]; exact ⟨_, rfl⟩))
theorem Op2.lt : Op2 prog w K (compareOp .Lt) (.int a) (.int b) (.bool (decide (a < b))) := fun n X A s x y Q E c ao ra rb q => by
  simp only [Rp] at ra rb; obtain ⟨t, rfl⟩ := ra; obtain ⟨u, rfl⟩ := rb
  exact PyProof.Rows.lt_int (q _ _ _ (Le.refl _ _) (by simp only [Rp]))
theorem Op2.gt : Op2 prog w K (compareOp .Gt) (.int a) (.int b) (.bool (decide (b < a))) := fun n X A s x y Q E c ao ra rb q => by
  simp only [Rp] at ra rb; obtain ⟨t, rfl⟩ := ra; obtain ⟨u, rfl⟩ := rb
  exact PyProof.Rows.gt_int (q _ _ _ (Le.refl _ _) (by simp only [Rp]))
theorem Op2.le : Op2 prog w K (compareOp .LtE) (.int a) (.int b) (.bool (decide (a ≤ b))) := fun n X A s x y Q E c ao ra rb q => by
  simp only [Rp] at ra rb; obtain ⟨t, rfl⟩ := ra; obtain ⟨u, rfl⟩ := rb
  exact PyProof.Rows.le_int (q _ _ _ (Le.refl _ _) (by simp only [Rp]))
theorem Op2.ge : Op2 prog w K (compareOp .GtE) (.int a) (.int b) (.bool (decide (b ≤ a))) := fun n X A s x y Q E c ao ra rb q => by
  simp only [Rp] at ra rb; obtain ⟨t, rfl⟩ := ra; obtain ⟨u, rfl⟩ := rb
  exact PyProof.Rows.ge_int (q _ _ _ (Le.refl _ _) (by simp only [Rp]))
end
theorem Ev.neg {x : PySem.Expr} {pos : Pos} {a : Int} (h : Ev prog w K n env Γ x (.int a)) : Ev prog w K n env Γ (.UnaryOp .USub x pos) (.int (-a)) := fun X A s Q E c ao lo q => by
  rw [arm_eval_UnaryOp]
  refine wpAny_bind (h X A s _ E c ao lo fun v h' tk k r => ?_)
  simp only [Rp] at r; obtain ⟨t, rfl⟩ := r
  exact wpAny_bind (wpAny_standAt (wpAny_holding (PyProof.Rows.neg_int (q _ _ _ k (by simp only [Rp]; exact ⟨_, rfl⟩)))))
-- data
mutual
noncomputable def V.py : V → Option PyData
  | .none => some .none
  | .bool b => some (.bool b)
  | .int i => some (.int i)
  | .str x => some (.str x)
  | .tup l => (V.pyL l).map .tuple
  | .lst l => (V.pyL l).map .list
  | _ => Option.none
noncomputable def V.pyL : List V → Option (List PyData)
  | [] => some []
  | d :: ds => match V.py d, V.pyL ds with
    | some x, some xs => some (x :: xs)
    | _, _ => Option.none
end
mutual
theorem reads_of {X : List Addr} {h : Heap} : ∀ (d : V) (v : Value) (p : PyData), Rp X h d v → d.py = some p → ∃ as, Reads h v p as
  | .none, v, p, r, e => by simp only [Rp] at r; subst r; cases e; exact ⟨_, .none⟩
  | .bool b, v, p, r, e => by simp only [Rp] at r; subst r; cases e; exact ⟨_, .bool b⟩
  | .int i, v, p, r, e => by simp only [Rp] at r; obtain ⟨t, rfl⟩ := r; cases e; exact ⟨_, .int i t⟩
  | .str i, v, p, r, e => by simp only [Rp] at r; obtain ⟨t, rfl⟩ := r; cases e; exact ⟨_, .str i t⟩
  | .bts b, v, p, r, e => by cases e
  | .glob b, v, p, r, e => by cases e
  | .scr b, v, p, r, e => by cases e
  | .inst C fs, v, p, r, e => by cases e
  | .tup l, v, p, r, e => by
    simp only [Rp] at r
    obtain ⟨a, vs, rfl, _, ⟨o, ho, hc, n, hd⟩, hl⟩ := r
    simp only [V.py, Option.map_eq_some_iff] at e
    obtain ⟨ps, e, rfl⟩ := e
    obtain ⟨as, q⟩ := readsL_of l vs ps hl e
    exact ⟨_, .tuple ho hc hd (by simpa using q)⟩
  | .lst l, v, p, r, e => by
    simp only [Rp] at r
    obtain ⟨a, vs, rfl, _, ⟨o, ho, hc, _, n, hd⟩, hl⟩ := r
    simp only [V.py, Option.map_eq_some_iff] at e
    obtain ⟨ps, e, rfl⟩ := e
    obtain ⟨as, q⟩ := readsL_of l vs ps hl e
    exact ⟨_, .list ho hc hd (by simpa using q)⟩
theorem readsL_of {X : List Addr} {h : Heap} : ∀ (ds : List V) (vs : List Value) (ps : List PyData), RpL X h ds vs → V.pyL ds = some ps → ∃ as, ReadsAll h vs ps as
  | [], vs, ps, r, e => by simp only [RpL] at r; subst r; cases e; exact ⟨_, .nil⟩
  | d :: ds, vs, ps, r, e => by
    simp only [RpL] at r
    obtain ⟨v, ws, rfl, r1, r2⟩ := r
    simp only [V.pyL] at e
    split at e
    · rename_i x xs e1 e2
      cases e
      obtain ⟨as, q1⟩ := reads_of d v x r1 e1
      obtain ⟨bs, q2⟩ := readsL_of ds ws xs r2 e2
      exact ⟨_, .cons q1 q2⟩
    · cases e
end
noncomputable abbrev shp (p : PyData) : Prop := SeqAt.shaped p = true
theorem Op2.eq {d e : V} {p q : PyData} (hp : d.py = some p) (hq : e.py = some q) (sp : shp p) (sq : shp q) : Op2 prog w K (compareOp .Eq) d e (.bool (PyData.eqv p q)) := fun n X A s x y Q E c ao ra rb k => by
  obtain ⟨as, r1⟩ := reads_of d x p ra hp
  obtain ⟨bs, r2⟩ := reads_of e y q rb hq
  exact eq_dataH r1 r2 sp sq ao.u64 (k _ _ _ (Le.refl _ _) (by simp only [Rp]))
theorem Op2.ne {d e : V} {p q : PyData} (hp : d.py = some p) (hq : e.py = some q) (sp : shp p) (sq : shp q) : Op2 prog w K (compareOp .NotEq) d e (.bool (!PyData.eqv p q)) := fun n X A s x y Q E c ao ra rb k => by
  obtain ⟨as, r1⟩ := reads_of d x p ra hp
  obtain ⟨bs, r2⟩ := reads_of e y q rb hq
  exact ne_dataH r1 r2 sp sq ao.u64 (k _ _ _ (Le.refl _ _) (by simp only [Rp]))
theorem Op2.inT {d : V} {l : List V} {p : PyData} {ps : List PyData} (hp : d.py = some p) (hq : V.pyL l = some ps) (sp : shp p) (sq : shp (.tuple ps)) (hm : ∀ y ∈ ps, SeqAt.noMix y p = true) : Op2 prog w K (compareOp .In) d (.tup l) (.bool (decide (Spec.countIn p ps ≠ 0))) := fun n X A s x y Q E c ao ra rb k => by
  obtain ⟨as, r1⟩ := reads_of d x p ra hp
  obtain ⟨bs, r2⟩ := reads_of (.tup l) y (.tuple ps) rb (by simp [V.py, hq])
  exact in_tuple_dataH r2 r1 sq sp ao.u65 hm (k _ _ _ (Le.refl _ _) (by simp only [Rp]))
theorem Op2.notInT {d : V} {l : List V} {p : PyData} {ps : List PyData} (hp : d.py = some p) (hq : V.pyL l = some ps) (sp : shp p) (sq : shp (.tuple ps)) (hm : ∀ y ∈ ps, SeqAt.noMix y p = true) : Op2 prog w K (compareOp .NotIn) d (.tup l) (.bool (!decide (Spec.countIn p ps ≠ 0))) := fun n X A s x y Q E c ao ra rb k => by
  obtain ⟨as, r1⟩ := reads_of d x p ra hp
  obtain ⟨bs, r2⟩ := reads_of (.tup l) y (.tuple ps) rb (by simp [V.py, hq])
  exact notIn_tuple_dataH r2 r1 sq sp ao.u65 hm (k _ _ _ (Le.refl _ _) (by simp only [Rp]))
theorem Op2.inL {d : V} {l : List V} {p : PyData} {ps : List PyData} (hp : d.py = some p) (hq : V.pyL l = some ps) (sp : shp p) (sq : shp (.list ps)) (hm : ∀ y ∈ ps, SeqAt.noMix y p = true) : Op2 prog w K (compareOp .In) d (.lst l) (.bool (decide (Spec.countIn p ps ≠ 0))) := fun n X A s x y Q E c ao ra rb k => by
  obtain ⟨as, r1⟩ := reads_of d x p ra hp
  obtain ⟨bs, r2⟩ := reads_of (.lst l) y (.list ps) rb (by simp [V.py, hq])
  exact in_list_dataH r2 r1 sq sp ao.u65 hm (k _ _ _ (Le.refl _ _) (by simp only [Rp]))
theorem Op2.notInL {d : V} {l : List V} {p : PyData} {ps : List PyData} (hp : d.py = some p) (hq : V.pyL l = some ps) (sp : shp p) (sq : shp (.list ps)) (hm : ∀ y ∈ ps, SeqAt.noMix y p = true) : Op2 prog w K (compareOp .NotIn) d (.lst l) (.bool (!decide (Spec.countIn p ps ≠ 0))) := fun n X A s x y Q E c ao ra rb k => by
  obtain ⟨as, r1⟩ := reads_of d x p ra hp
  obtain ⟨bs, r2⟩ := reads_of (.lst l) y (.list ps) rb (by simp [V.py, hq])
  exact notIn_list_dataH r2 r1 sq sp ao.u65 hm (k _ _ _ (Le.refl _ _) (by simp only [Rp]))
end
end
section
theorem toNat_inj : ∀ {l r : List Char}, l.map Char.toNat = r.map Char.toNat → l = r
  | [], [], _ => rfl
  | [], _ :: _, h => by cases h
  | _ :: _, [], h => by cases h
  | a :: l, b :: r, h => by
    simp only [List.map_cons, List.cons.injEq] at h
    rw [toNat_inj h.2, Char.toNat_inj.mp h.1]
theorem ofString_inj {x y : String} (h : Str.ofString x = Str.ofString y) : x = y := by
  rw [Str.ofString_eq_toList, Str.ofString_eq_toList] at h
  have := congrArg (fun s : Str => s.cps.toList) h
  simp only at this
  exact String.toList_injective (toNat_inj this)
/-- what a frame owns alone -/
inductive OV where
  | lst (ds : List V)
  | inst (x dx : Addr) (C : Addr) (fs : List (String × V))
noncomputable def OwnAt (X : List Addr) (b : Heap) (L : Addr) (h : Heap) (v : Value) : OV → Prop
  | .lst ds => ∃ l vs, v = .ref l ∧ l ∈ X ∧ b.get? l = none ∧ IsLs h l vs.toArray ∧ RpL X h ds vs
  | .inst x dx C fs => ∃ es, v = .ref x ∧ x ∈ X ∧ dx ∈ X ∧ dx ≠ L ∧ x ≠ dx ∧ b.get? x = none ∧ b.get? dx = none ∧ InstP h x dx C es ∧ RpF X h fs es
/-- the own cells -/
noncomputable def CelOk (X : List Addr) (b : Heap) (env : Env) (h : Heap) : Prop :=
  (∀ x c, env.kindOf x = some .cell → env.cells.lookup x = some c → c ∈ X ∧ b.get? c = none ∧ ∃ v, h.IsCell c v) ∧ ∀ x y c, env.kindOf x = some .cell → env.cells.lookup x = some c → env.cells.lookup y = some c → x = y
theorem CelOk.of {X : List Addr} {b h h' : Heap} {env : Env} (x : CelOk X b env h) (k : ∀ c v, c ∈ X → h.IsCell c v → ∃ v', h'.IsCell c v') : CelOk X b env h' :=
  ⟨fun y c hk hc => let ⟨a, b, v, e⟩ := x.1 y c hk hc; ⟨a, b, k c v a e⟩, x.2⟩
structure SOk (K : Frag) (X₀ X : List Addr) (m : Str → Option Value) (b : Heap) (env : Env) (Γ : Lc) (O : Option (String × OV)) (h : Heap) : Prop where
  ok : EOk env
  cx : Cx K X₀ b
  sup : ∀ a ∈ X₀, a ∈ X
  new : ∀ a ∈ X, a ∈ X₀ ∨ b.get? a = none
  liv : ∀ a ∈ X, (h.get? a).isSome = true
  lin : env.locals ∈ X
  lnew : b.get? env.locals = none
  le : Le X₀ b h
  ns : h.Ns env.locals m
  vars : ∀ x d, Γ.lookup x = some d → (Str.ofString x == ("__debug__" : Str)) = false ∧ ∃ v, Rp X h d v ∧ Slot env m h X (Str.ofString x) v
  own : ∀ x o, O = some (x, o) → (Str.ofString x == ("__debug__" : Str)) = false ∧ env.kindOf (Str.ofString x) = some .local ∧ ∃ v, m (Str.ofString x) = some v ∧ OwnAt X b env.locals h v o
  cel : CelOk X b env h
/-- the stack around a body -/
structure AOb (n : Nat) (X₀ : List Addr) (b : Heap) (env : Env) (A : Around) : Prop where
  dep : A.depth + 3 * n < recursionLimit
  uni : A.units + 100 + 20 * n < cLine
  hdl : A.handled = none
  frm : ∃ l, A.frames = some l ∧ ∀ e ∈ l, e.scope.kind ≠ .module ∧ ∃ L, e.frame = some L ∧ (L = env.locals ∨ (L ∈ X₀ ∧ ∃ o, b.get? L = some o ∧ ∀ vs, o.data ≠ .fields vs))
section
variable {K : Frag} {X₀ X : List Addr} {m : Str → Option Value} {b h h' : Heap} {env : Env} {Γ : Lc} {O : Option (String × OV)} {n : Nat} {A : Around}
theorem SOk.cxX (S : SOk K X₀ X m b env Γ O h) : Cx K X h where
  ki := (S.cx.le S.le).ki
  off := fun a ha => by
    rcases S.new a ha with q | q
    · exact S.cx.off a q
    · cases e : K.lookup a with
      | none => rfl
      | some o => have := S.cx.ki a o e; rw [q] at this; cases this
  liv := S.liv
  lim := (S.cx.le S.le).lim
  glb := (S.cx.le S.le).glb
  blt := (S.cx.le S.le).blt
  dig := (S.cx.le S.le).dig
theorem SOk.lok (S : SOk K X₀ X m b env Γ O h) : LOk X env Γ h := ⟨S.ok, S.lin, m, S.ns, S.vars⟩
theorem AOb.aok (B : AOb n X₀ b env A) (S : SOk K X₀ X m b env Γ O h) : AOk n X A h :=
  ⟨B.dep, B.uni, B.hdl, let ⟨l, hl, hf⟩ := B.frm; ⟨l, hl, fun e he => by
    obtain ⟨hk, L, hL, q⟩ := hf e he
    refine ⟨hk, L, ?_⟩
    rcases q with rfl | ⟨hX, o, ho, hd⟩
    · obtain ⟨o, es, ep, ho, hd, _⟩ := S.ns
      exact ⟨o, hL, S.lin, ho, fun vs q => by rw [hd] at q; cases q⟩
    · obtain ⟨⟨sl, e⟩, _⟩ := S.le L o ho
      exact ⟨_, hL, S.sup L hX, e, hd⟩⟩⟩
theorem OwnAt.le {L : Addr} {v : Value} {o : OV} (k : Le X h h') (r : OwnAt X b L h v o) : OwnAt X b L h' v o := by
  cases o with
  | lst ds =>
    obtain ⟨l, vs, rfl, hX, hb, ⟨o, ho, hc, hdd, n, hd⟩, hl⟩ := r
    obtain ⟨⟨sl, e⟩, _⟩ := k l o ho
    exact ⟨l, vs, rfl, hX, hb, ⟨_, e, hc, hdd, n, hd⟩, hl.le k⟩
  | inst x dx C fs =>
    obtain ⟨es, rfl, hX, hdX, hL, hne, hb0, hb, ⟨⟨ox, hx, r1⟩, ⟨od, n, hd, r2⟩⟩, hl⟩ := r
    obtain ⟨⟨sl, e⟩, _⟩ := k x ox hx
    obtain ⟨⟨sl', e'⟩, _⟩ := k dx od hd
    exact ⟨es, rfl, hX, hdX, hL, hne, hb0, hb, ⟨⟨_, e, r1⟩, ⟨_, n, e', r2⟩⟩, hl.le k⟩
/-- an evaluation keeps the frame -/
theorem SOk.step (S : SOk K X₀ X m b env Γ O h) (k : Le X h h') : SOk K X₀ X m b env Γ O h' where
  ok := S.ok
  cx := S.cx
  sup := S.sup
  new := S.new
  liv := fun a ha => k.live (S.liv a ha)
  lin := S.lin
  lnew := S.lnew
  le := fun a o e => by
    obtain ⟨⟨sl, e₁⟩, k₁⟩ := S.le a o e
    obtain ⟨⟨sl', e₂⟩, _⟩ := k a _ e₁
    refine ⟨⟨sl', e₂⟩, fun hX => (k a o (k₁ hX)).2 fun hx => ?_⟩
    rcases S.new a hx with q | q
    · exact hX q
    · rw [q] at e; cases e
  ns := k.ns S.ns
  vars := fun x d e => let ⟨a, v, r, s⟩ := S.vars x d e; ⟨a, v, r.le k, s.le k⟩
  own := fun x o e => let ⟨a, q, v, r, s⟩ := S.own x o e; ⟨a, q, v, r, s.le k⟩
  cel := S.cel.of fun c v _ e => ⟨v, k.cell e⟩
/-- a store into the frame's own dict -/
theorem SOk.stored {x : String} {d : V} {v : Value} (S : SOk K X₀ X m b env Γ O h) (hs : Heap.SameBut env.locals h h') (hn : h'.Ns env.locals fun y => if y = Str.ofString x then some v else m y)
    (hd : (Str.ofString x == ("__debug__" : Str)) = false) (hk : env.kindOf (Str.ofString x) = some .local) (r : Rp X h d v) (hO : ∀ y o, O = some (y, o) → y ≠ x) :
    SOk K X₀ X (fun y => if y = Str.ofString x then some v else m y) b env ((x, d) :: Γ) O h' := by
  have st : Stays X X h h' := fun a o hX e => ⟨hX, (hs.2 a fun q => hX (q ▸ S.lin)).trans e⟩
  have slot : ∀ y u, Slot env m h X (Str.ofString y) u → y ≠ x → Slot env (fun y => if y = Str.ofString x then some v else m y) h' X (Str.ofString y) u := fun y u sl hy => by
    rcases sl with ⟨q, e⟩ | ⟨q, c, hc, hX, ho⟩
    · exact .inl ⟨q, by dsimp only; rw [if_neg fun z => hy (ofString_inj z)]; exact e⟩
    · refine .inr ⟨q, c, hc, hX, ho.sameBut hs fun z => ?_⟩
      obtain ⟨o, ho, hd⟩ := ho
      obtain ⟨o', es, ep, ho', hd', _⟩ := S.ns
      rw [z, ho'] at ho; cases ho; rw [hd] at hd'; cases hd'
  refine ⟨S.ok, S.cx, S.sup, S.new, fun a ha => ?_, S.lin, S.lnew, fun a o e => ?_, hn, fun y d' e => ?_, fun y o e => ?_, S.cel.of fun c v _ ho => ⟨v, ho.sameBut hs fun z => ?_⟩⟩
  · by_cases q : a = env.locals
    · obtain ⟨o, _, _, ho, _⟩ := hn
      rw [q, ho]; rfl
    · rw [hs.2 a q]; exact S.liv a ha
  · have hne : a ≠ env.locals := fun q => by rw [q, S.lnew] at e; cases e
    obtain ⟨⟨sl, e₁⟩, k₁⟩ := S.le a o e
    exact ⟨⟨sl, (hs.2 a hne).trans e₁⟩, fun hX => (hs.2 a hne).trans (k₁ hX)⟩
  · by_cases hy : y = x
    · subst hy
      rw [List.lookup_cons, beq_self_eq_true] at e
      cases e
      exact ⟨hd, v, r.mono st, .inl ⟨hk, by simp⟩⟩
    · rw [List.lookup_cons, beq_eq_false_iff_ne.mpr hy] at e
      obtain ⟨q, u, r', sl⟩ := S.vars y d' e
      exact ⟨q, u, r'.mono st, slot y u sl hy⟩
  · have hy := hO y o e
    obtain ⟨q, k, u, r', sl⟩ := S.own y o e
    refine ⟨q, k, u, by rw [if_neg fun z => hy (ofString_inj z)]; exact r', ?_⟩
    cases o with
    | lst ds =>
      obtain ⟨l, vs, rfl, hX, hb, ⟨ol, ho, hc, hdd, n, hdl⟩, hl⟩ := sl
      refine ⟨l, vs, rfl, hX, hb, ⟨ol, (hs.2 l fun z => ?_).trans ho, hc, hdd, n, hdl⟩, hl.mono st⟩
      obtain ⟨o', es, ep, ho', hd', _⟩ := S.ns
      rw [z, ho'] at ho; cases ho; rw [hdl] at hd'; cases hd'
    | inst z dx C fs =>
      obtain ⟨es, rfl, hX, hdX, hL, hne, hb0, hb, ⟨⟨ox, hx, r1, r3, r4⟩, ⟨od, n, hdo, r2⟩⟩, hl⟩ := sl
      refine ⟨es, rfl, hX, hdX, hL, hne, hb0, hb, ⟨⟨ox, (hs.2 z fun q => ?_).trans hx, r1, r3, r4⟩, ⟨od, n, (hs.2 dx hL).trans hdo, r2⟩⟩, hl.mono st⟩
      obtain ⟨o', es, ep, ho', hd', _⟩ := S.ns
      rw [q, ho'] at hx; cases hx; rw [r4] at hd'; cases hd'
  · obtain ⟨o, ho, hd⟩ := ho
    obtain ⟨o', es, ep, ho', hd', _⟩ := S.ns
    rw [z, ho'] at ho; cases ho; rw [hd] at hd'; cases hd'
end
inductive Out where
  | next (Γ : Lc) (O : Option (String × OV))
  | ret (d : V)
noncomputable def OutOk (K : Frag) (X₀ : List Addr) (b : Heap) (env : Env) : Out → Flow → Heap → Prop
  | .next Γ O, fl, h => fl = .next ∧ ∃ X m, SOk K X₀ X m b env Γ O h
  | .ret d, fl, h => ∃ v, fl = .ret v ∧ Le X₀ b h ∧ Rp X₀ h d v
section
variable (prog : Program) (w : World) (K : Frag)
noncomputable def Ex1 (n : Nat) (env : Env) (Γ : Lc) (O : Option (String × OV)) (st : Stmt) (out : Out) : Prop :=
  ∀ (X₀ X : List Addr) (m : Str → Option Value) (b : Heap) (A : Around) (s : Shared) (Q : Flow → Shared → Prop) (E : Value → Shared → Prop), AOb n X₀ b env A → SOk K X₀ X m b env Γ O s.heap →
    (∀ fl h' tk, OutOk K X₀ b env out fl h' → Q fl ⟨h', s.gens, s.drawn, tk, s.os⟩) → wpAny (model prog w) A (exec st env) Q E s
noncomputable def Ex (n : Nat) (env : Env) (Γ : Lc) (O : Option (String × OV)) (ss : List Stmt) (out : Out) : Prop :=
  ∀ (X₀ X : List Addr) (m : Str → Option Value) (b : Heap) (A : Around) (s : Shared) (Q : Flow → Shared → Prop) (E : Value → Shared → Prop), AOb n X₀ b env A → SOk K X₀ X m b env Γ O s.heap →
    (∀ fl h' tk, OutOk K X₀ b env out fl h' → Q fl ⟨h', s.gens, s.drawn, tk, s.os⟩) → wpAny (model prog w) A (execs ss env) Q E s
/-- an evaluation within a body -/
noncomputable def EvO (n : Nat) (env : Env) (Γ : Lc) (O : Option (String × OV)) (e : PySem.Expr) (d : V) : Prop :=
  ∀ (X₀ X : List Addr) (m : Str → Option Value) (b : Heap) (A : Around) (s : Shared) (Q : Value → Shared → Prop) (E : Value → Shared → Prop), AOb n X₀ b env A → SOk K X₀ X m b env Γ O s.heap →
    (∀ v h' tk, Le X s.heap h' → Rp X h' d v → Q v ⟨h', s.gens, s.drawn, tk, s.os⟩) → wpAny (model prog w) A (eval e env) Q E s
noncomputable def EvTO (n : Nat) (env : Env) (Γ : Lc) (O : Option (String × OV)) (e : PySem.Expr) (b : Bool) : Prop :=
  ∀ (X₀ X : List Addr) (m : Str → Option Value) (b₀ : Heap) (A : Around) (s : Shared) (Q : Bool → Shared → Prop) (E : Value → Shared → Prop), AOb n X₀ b₀ env A → SOk K X₀ X m b₀ env Γ O s.heap →
    (∀ h' tk, Le X s.heap h' → Q b ⟨h', s.gens, s.drawn, tk, s.os⟩) → wpAny (model prog w) A (PySem.isTrue e env (eval e env)) Q E s
end
section
variable {prog : Program} {w : World} {K : Frag} {n : Nat} {env : Env} {Γ : Lc} {O : Option (String × OV)}
theorem EvO.ev {e : PySem.Expr} {d : V} (h : Ev prog w K n env Γ e d) : EvO prog w K n env Γ O e d := fun X₀ X m b A s Q E B S q => h X A s Q E S.cxX (B.aok S) S.lok q
theorem EvTO.ev {e : PySem.Expr} {d : Bool} (h : EvT prog w K n env Γ e d) : EvTO prog w K n env Γ O e d := fun X₀ X m b A s Q E B S q => h X A s Q E S.cxX (B.aok S) S.lok q
theorem Ex.nil : Ex prog w K n env Γ O [] (.next Γ O) := fun X₀ X m b A s Q E B S q => wpAny_execs_nil (q _ _ _ ⟨rfl, X, m, S⟩)
theorem Ex.next {st : Stmt} {ss : List Stmt} {Γ' : Lc} {O' : Option (String × OV)} {out : Out} (h : Ex1 prog w K n env Γ O st (.next Γ' O')) (hs : Ex prog w K n env Γ' O' ss out) : Ex prog w K n env Γ O (st :: ss) out := fun X₀ X m b A s Q E B S q =>
  wpAny_execs_cons (h X₀ X m b A s _ E B S fun fl h' tk ok => by
    obtain ⟨rfl, X', m', S'⟩ := ok
    exact hs X₀ X' m' b A _ Q E B S' q)
theorem Ex.stop {st : Stmt} {ss : List Stmt} {d : V} (h : Ex1 prog w K n env Γ O st (.ret d)) : Ex prog w K n env Γ O (st :: ss) (.ret d) := fun X₀ X m b A s Q E B S q =>
  wpAny_execs_cons (h X₀ X m b A s _ E B S fun fl h' tk ok => by
    obtain ⟨v, rfl, r⟩ := ok
    exact q _ _ _ ⟨v, rfl, r⟩)
theorem Ex1.ret {e : PySem.Expr} {d : V} {pos : Pos} (h : EvO prog w K n env Γ O e d) : Ex1 prog w K n env Γ O (.Return (some e) pos) (.ret d) := fun X₀ X m b A s Q E B S q =>
  wpAny_Return_some (h X₀ X m b A s _ E B S fun v h' tk k r => q _ _ _ ⟨v, rfl, (S.step k).le, r.sub fun a ha _ => S.sup a ha⟩)
theorem Ex1.ret0 {pos : Pos} : Ex1 prog w K n env Γ O (.Return none pos) (.ret .none) := fun X₀ X m b A s Q E B S q =>
  wpAny_Return_none (q _ _ _ ⟨_, rfl, S.le, by simp only [Rp]⟩)
theorem Ex1.pass {pos : Pos} : Ex1 prog w K n env Γ O (.Pass pos) (.next Γ O) := fun X₀ X m b A s Q E B S q => wpAny_Pass (q _ _ _ ⟨rfl, X, m, S⟩)
theorem Ex1.ifT {t : PySem.Expr} {bs os : List Stmt} {pos : Pos} {out : Out} (h : EvTO prog w K n env Γ O t true) (hb : Ex prog w K n env Γ O bs out) : Ex1 prog w K n env Γ O (.If t bs os pos) out := fun X₀ X m b A s Q E B S q =>
  wpAny_If (h X₀ X m b A s _ E B S fun h' tk k => by
    rw [if_pos rfl]
    exact hb X₀ X m b A _ Q E B (S.step k) q)
theorem Ex1.ifF {t : PySem.Expr} {bs os : List Stmt} {pos : Pos} {out : Out} (h : EvTO prog w K n env Γ O t false) (hb : Ex prog w K n env Γ O os out) : Ex1 prog w K n env Γ O (.If t bs os pos) out := fun X₀ X m b A s Q E B S q =>
  wpAny_If (h X₀ X m b A s _ E B S fun h' tk k => by
    rw [if_neg (by decide)]
    exact hb X₀ X m b A _ Q E B (S.step k) q)
theorem Ex1.asg {x : String} {p pos : Pos} {e : PySem.Expr} {d : V} (h : EvO prog w K n env Γ O e d) (hk : env.kindOf (Str.ofString x) = some .local) (hO : ∀ y o, O = some (y, o) → y ≠ x := by intro y o h; cases h)
    (hd : (Str.ofString x == ("__debug__" : Str)) = false := by decide +kernel) (hs : swapsWith e (some (.Name (Str.ofString x) p)) pos.line env = pure false := by rfl) :
    Ex1 prog w K n env Γ O (.Assign [.Name (Str.ofString x) p] e pos) (.next ((x, d) :: Γ) O) := fun X₀ X m b A s Q E B S q =>
  wpAny_Assign_Name (h X₀ X m b A s _ E B S fun v h' tk k r => by
    refine wpAny_storeName_local hk (S.step k).ns (fun h'' hn hs => q _ _ _ ⟨rfl, X, _, (S.step k).stored hs hn hd hk r hO⟩) (by rw [S.ok.kind]; rfl)) hs
end
end
section
theorem bindL_pass {kindOf : Str → Option NameKind} : ∀ {binds : List (Str × Value)} {m : Str → Option Value} {x : Str}, x ∉ binds.map (·.1) → bindL kindOf binds m x = m x
  | [], _, _, _ => rfl
  | (y, v) :: r, m, x, h => by
    simp only [List.map_cons, List.mem_cons, not_or] at h
    unfold bindL
    rw [bindL_pass h.2]
    split
    · exact if_neg h.1
    · rfl
theorem bindL_has {kindOf : Str → Option NameKind} : ∀ {binds : List (Str × Value)} {m : Str → Option Value} {x : Str} {v : Value}, (binds.map (·.1)).Nodup → (x, v) ∈ binds → kindOf x = some .local → bindL kindOf binds m x = some v
  | (y, u) :: r, m, x, v, hn, hm, hk => by
    simp only [List.map_cons, List.nodup_cons] at hn
    unfold bindL
    rcases List.mem_cons.mp hm with q | q
    · cases q
      rw [bindL_pass hn.1, if_pos hk]
      simp
    · exact bindL_has hn.2 q hk
theorem bindC_pass {kindOf : Str → Option NameKind} : ∀ {binds : List (Str × Value)} {m : Str → Option Value} {x : Str}, x ∉ binds.map (·.1) → bindC kindOf binds m x = m x
  | [], _, _, _ => rfl
  | (y, v) :: r, m, x, h => by
    simp only [List.map_cons, List.mem_cons, not_or] at h
    unfold bindC
    rw [bindC_pass h.2]
    split
    · rfl
    · exact if_neg h.1
theorem bindC_has {kindOf : Str → Option NameKind} : ∀ {binds : List (Str × Value)} {m : Str → Option Value} {x : Str} {v : Value}, (binds.map (·.1)).Nodup → (x, v) ∈ binds → kindOf x ≠ some .local → bindC kindOf binds m x = some v
  | (y, u) :: r, m, x, v, hn, hm, hk => by
    simp only [List.map_cons, List.nodup_cons] at hn
    unfold bindC
    rcases List.mem_cons.mp hm with q | q
    · cases q
      rw [bindC_pass hn.1, if_neg hk]
      simp
    · exact bindC_has hn.2 q hk
noncomputable abbrev zipS (ps : List String) (vs : List Value) : List (Str × Value) := (ps.map Str.ofString).zip vs
theorem zip_fst : ∀ {ps : List Str} {vs : List Value}, ps.length = vs.length → (ps.zip vs).map (·.1) = ps
  | [], [], _ => rfl
  | p :: ps, v :: vs, h => by simp only [List.zip_cons_cons, List.map_cons, zip_fst (by simpa using h)]
  | [], _ :: _, h => by cases h
  | _ :: _, [], h => by cases h
theorem zip_find {X : List Addr} {h : Heap} : ∀ {ps : List String} {ds : List V} {vs : List Value} {x : String} {d : V}, RpL X h ds vs → (ps.zip ds).lookup x = some d → ∃ v, (Str.ofString x, v) ∈ zipS ps vs ∧ Rp X h d v
  | [], ds, vs, x, d, r, e => by cases ds <;> cases e
  | _ :: _, [], vs, x, d, r, e => by cases e
  | p :: ps, y :: ds, vs, x, d, r, e => by
    simp only [RpL] at r
    obtain ⟨v, ws, rfl, r1, r2⟩ := r
    simp only [List.zip_cons_cons, List.lookup_cons] at e
    by_cases q : x = p
    · subst q
      simp only [beq_self_eq_true] at e
      cases e
      exact ⟨v, by simp [zipS], r1⟩
    · simp only [beq_eq_false_iff_ne.mpr q] at e
      obtain ⟨u, hu, r⟩ := zip_find r2 e
      exact ⟨u, by simp only [zipS, List.map_cons, List.zip_cons_cons]; exact .tail _ hu, r⟩
theorem RpL.length {X : List Addr} {h : Heap} : ∀ {ds : List V} {vs : List Value}, RpL X h ds vs → vs.length = ds.length
  | [], vs, r => by simp only [RpL] at r; subst r; rfl
  | d :: ds, vs, r => by
    simp only [RpL] at r
    obtain ⟨v, ws, rfl, _, r2⟩ := r
    simp [r2.length]
theorem map_nodup {ps : List String} (h : ps.Nodup) : (ps.map Str.ofString).Nodup := by
  rw [List.nodup_iff_pairwise_ne] at h ⊢
  exact List.pairwise_map.mpr (h.imp fun hn e => hn (ofString_inj e))
theorem lookup_mem {α β : Type} [BEq α] [LawfulBEq α] {x : α} {c : β} : ∀ {l : List (α × β)}, l.lookup x = some c → (x, c) ∈ l
  | [], e => by cases e
  | (y, d) :: r, e => by
    rw [List.lookup_cons] at e
    split at e
    · rename_i q; cases e; rw [eq_of_beq q]; exact .head _
    · exact .tail _ (lookup_mem e)
noncomputable def liveCells (cs : List (Str × Addr)) : List Addr := cs.filterMap fun p => cs.lookup p.1
theorem liveCells_mem {cs : List (Str × Addr)} {c : Addr} (h : c ∈ liveCells cs) : ∃ n, cs.lookup n = some c := by
  obtain ⟨p, _, e⟩ := List.mem_filterMap.mp h
  exact ⟨p.1, e⟩
theorem liveCells_of {cs : List (Str × Addr)} {c : Addr} {n : Str} (h : cs.lookup n = some c) : c ∈ liveCells cs := List.mem_filterMap.mpr ⟨(n, c), lookup_mem h, h⟩
noncomputable def Out.val : Out → V
  | .next _ _ => .none
  | .ret d => d
section
variable {prog : Program} {w : World} {K : Frag} {n : Nat}
theorem AOk.body {n : Nat} {X : List Addr} {A : Around} {h : Heap} {env : Env} (a : AOk (n + 1) X A h) (hk : env.scope.kind = .function) (hf : env.frame = some env.locals) : AOb n X h env (A.deeper env) := by
  obtain ⟨l, hl, hf'⟩ := a.frm
  refine ⟨?_, ?_, a.hdl, env :: l, by show A.frames.map _ = _; rw [hl]; rfl, fun e he => ?_⟩
  · have := a.dep; show A.depth + 1 + 3 * n < _; omega
  · have := a.uni; show A.units + 3 + 100 + 20 * n < _; omega
  · rcases List.mem_cons.mp he with rfl | he
    · exact ⟨by rw [hk]; decide, _, hf, .inl rfl⟩
    · obtain ⟨q, L, o, hL, hX, ho, hd⟩ := hf' e he
      exact ⟨q, L, hL, .inr ⟨hX, o, ho, hd⟩⟩
theorem Calls.def {fa : Addr} {oc : Value} {od : Option Addr} {osl : Array (Option Value)} {fd : FuncData} {body : List Stmt} {ps : List String} {ds : List V} {out : Out}
    (hK : K.lookup fa = some ⟨oc, od, .func fd, osl⟩) (hb : fd.body = .stmts body) (hc : codeIn K fd.code fd.qualname = true) (hcl : fd.closure = []) (hg : fd.globals = mainGlobals) (hbu : fd.builtins = builtinsNs)
    (hlen : ps.length = ds.length) (hnd : ps.Nodup) (hbind : ∀ vs : List Value, vs.length = ds.length → bindArgs fd ⟨vs, []⟩ = pure (zipS ps vs))
    (hloc : ∀ x ∈ ps, (Str.ofString x == ("__debug__" : Str)) = false ∧ (fd.scope.names.lookup (Str.ofString x) = some .local ∨ (fd.scope.names.lookup (Str.ofString x) = some .cell ∧ ∀ L, ((cellsFrom L fd.scope.names []).lookup (Str.ofString x)).isSome = true)))
    (hx : ∀ L, Ex prog w K n (callEnvC fd L fa) (ps.zip ds) none body out)
    (h1 : fd.scope.isCoroutine = false := by rfl) (h2 : fd.scope.isGenerator = false := by rfl) (h3 : fd.scope.kind = .function := by rfl) : Calls prog w K (n + 1) (.ref fa) ds out.val := fun X A s vs Q E c a r q => by
  have hv : vs.length = ds.length := r.length
  have hzl : (ps.map Str.ofString).length = vs.length := by rw [List.length_map, hlen, hv]
  have hkey : ∀ y ∈ zipS ps vs, ∃ x ∈ ps, y.1 = Str.ofString x := fun y hy => by
    have := (List.of_mem_zip hy).1
    obtain ⟨x, hx, e⟩ := List.mem_map.mp this
    exact ⟨x, hx, e.symm⟩
  refine wpAny_call (codeAny_call_cells a.dp (c.ki fa _ hK) rfl c.lim (codeRec_of c.ki hc) hb (hbind vs hv) hcl (fun y hy => ?_) (fun s₁ C => ?_) h1 h2 h3)
  · obtain ⟨x, hx, e⟩ := hkey y hy
    rw [e]
    exact (hloc x hx).2.imp id fun z => ⟨z.1, z.2 _⟩
  obtain ⟨⟨⟨h₁, tk₁, rfl⟩, hns, hkeep, hfresh⟩, hcell, hap, hab⟩ := C
  have hnone : ∀ a, s.heap.objs.size ≤ a → s.heap.get? a = none := fun a ha => Heap.get?_none_of_le ha
  dsimp only at hns hkeep hcell
  have S : SOk K X ((callEnvC fd s.heap.objs.size fa).locals :: (liveCells (callEnvC fd s.heap.objs.size fa).cells ++ X)) (bindL (callEnvC fd s.heap.objs.size fa).kindOf (zipS ps vs) fun _ => none) s.heap (callEnvC fd s.heap.objs.size fa) (ps.zip ds) none h₁ := by
    refine ⟨⟨h3, hg, hbu⟩, c, fun a ha => by simp [ha], fun a ha => ?_, fun a ha => ?_, by simp, hnone _ hfresh, Le.of_stays hkeep, hns, fun x d e => ?_, fun x o e => (by cases e), ⟨fun x c _ hc => ⟨?_, hnone _ (Nat.le_trans hfresh (Nat.le_of_lt (hab x c (lookup_mem hc)))), _, hcell x c hc⟩, fun x y c _ hx hy => name_of_addr hap (lookup_mem hx) (lookup_mem hy)⟩⟩
    · rcases List.mem_cons.mp ha with rfl | ha
      · exact .inr (hnone _ hfresh)
      · rcases List.mem_append.mp ha with ha | ha
        · obtain ⟨y, hy⟩ := liveCells_mem ha
          exact .inr (hnone _ (Nat.le_trans hfresh (Nat.le_of_lt (hab y a (lookup_mem hy)))))
        · exact .inl ha
    · rcases List.mem_cons.mp ha with rfl | ha
      · obtain ⟨o, _, _, ho, _⟩ := hns
        rw [ho]; rfl
      · rcases List.mem_append.mp ha with ha | ha
        · obtain ⟨y, hy⟩ := liveCells_mem ha
          obtain ⟨o, ho, _⟩ := hcell y a hy
          rw [ho]; rfl
        · obtain ⟨o, ho⟩ := Option.isSome_iff_exists.mp (c.liv a ha)
          rw [hkeep a o ho]; rfl
    · obtain ⟨v, hm, rv⟩ := zip_find r e
      obtain ⟨x', hx', ex⟩ := hkey _ hm
      have exx : x = x' := ofString_inj ex
      subst exx
      have hnd' : ((zipS ps vs).map (·.1)).Nodup := by rw [zip_fst hzl]; exact map_nodup hnd
      refine ⟨(hloc x hx').1, v, rv.mono fun a o ha e => ⟨fun z => ?_, hkeep a o e⟩, ?_⟩
      · rcases List.mem_cons.mp z with rfl | z
        · rw [hnone _ hfresh] at e; cases e
        · rcases List.mem_append.mp z with z | z
          · obtain ⟨y, hy⟩ := liveCells_mem z
            rw [hnone _ (Nat.le_trans hfresh (Nat.le_of_lt (hab y a (lookup_mem hy))))] at e; cases e
          · exact ha z
      · rcases (hloc x hx').2 with hl | ⟨hl, hs⟩
        · exact .inl ⟨hl, bindL_has hnd' hm hl⟩
        · obtain ⟨cc, hcc⟩ := Option.isSome_iff_exists.mp (hs (s.heap.objs.size + 1))
          refine .inr ⟨.inl hl, cc, hcc, by simp only [List.mem_cons, List.mem_append]; exact .inr (.inl (liveCells_of hcc)), ?_⟩
          have := hcell _ cc hcc
          rwa [bindC_has hnd' hm (by show fd.scope.names.lookup _ ≠ _; rw [hl]; decide)] at this
    · simp only [List.mem_cons, List.mem_append]; exact .inr (.inl (liveCells_of hc))
  refine hx s.heap.objs.size X _ _ s.heap _ _ _ _ (a.body h3 rfl) S fun fl h' tk ok => ?_
  cases out with
  | next Γ' O' =>
    obtain ⟨rfl, X', m', S'⟩ := ok
    exact q _ _ _ S'.le (by simp only [Out.val, Rp])
  | ret d =>
    obtain ⟨v, rfl, k, rv⟩ := ok
    exact q _ _ _ k rv
-- calls
theorem Ev.call {env : Env} {Γ : Lc} {x : Str} {p pos : Pos} {f : Value} {e : PySem.Expr} {es : List PySem.Expr} {ds : List V} {d : V} {m : Nat} (hf : Ev prog w K n env Γ (.Name x p) (.glob f)) (hk : keepIn K f = true)
    (hs : EvL prog w K n env Γ (e :: es) ds) (hc : Calls prog w K m f ds d) (hm : m ≤ n := by decide)
    (he : starEach (e :: es) env = (false, eval e env) :: starEach es env := by rfl) (hp : (backTo pos (starEach es env)).any (·.1) = false := by rfl) : Ev prog w K n env Γ (.Call (.Name x p) (e :: es) [] pos) d := fun X A s Q E c a l q => by
  refine wpAny_Call_NameR (hf X A s _ E c a l fun v h' tk k r => ?_)
  simp only [Rp] at r
  subst r
  refine callWith_K (h₀ := h') (c.le k).ki hk (hs X A _ pos _ E (c.le k) (a.le k) (l.le k) fun vs h'' tk' k' r' => ⟨((c.le k).le k').ki, ?_⟩) he hp
  exact hc X A _ vs Q E ((c.le k).le k') (((a.le k).le k').less hm) r' fun v h3 tk3 k3 r3 => q _ _ _ ((k.trans k').trans k3) r3
theorem Ev.call0 {env : Env} {Γ : Lc} {x : Str} {p pos : Pos} {f : Value} {d : V} {m : Nat} (hf : Ev prog w K n env Γ (.Name x p) (.glob f)) (hk : keepIn K f = true) (hc : Calls prog w K m f [] d) (hm : m ≤ n := by decide) :
    Ev prog w K n env Γ (.Call (.Name x p) [] [] pos) d := fun X A s Q E c a l q => by
  refine wpAny_Call_NameR (hf X A s _ E c a l fun v h' tk k r => ?_)
  simp only [Rp] at r
  subst r
  refine callWith_K0 (c.le k).ki hk ?_
  exact hc X A _ [] Q E (c.le k) ((a.le k).less hm) .nil fun v h3 tk3 k3 r3 => q _ _ _ (k.trans k3) r3
theorem Ev.globS {env : Env} {Γ : Lc} {x : String} {y : Str} {t : Tok} {pos : Pos} (hk : env.kindOf (Str.ofString x) = some .globalImplicit) (hn : nsIn K mainGlobals (Str.ofString x) = some (some (.str y t)))
    (hd : (Str.ofString x == ("__debug__" : Str)) = false := by decide +kernel) : Ev prog w K n env Γ (.Name (Str.ofString x) pos) (.str y) := fun X A s Q E c a l q =>
  Ev.glob hk hn hd X A s Q E c a l fun v h' tk k r => q _ _ _ k (by simp only [Rp] at r ⊢; exact ⟨_, r⟩)
theorem Ev.globI {env : Env} {Γ : Lc} {x : String} {y : Int} {t : Tok} {pos : Pos} (hk : env.kindOf (Str.ofString x) = some .globalImplicit) (hn : nsIn K mainGlobals (Str.ofString x) = some (some (.int y t)))
    (hd : (Str.ofString x == ("__debug__" : Str)) = false := by decide +kernel) : Ev prog w K n env Γ (.Name (Str.ofString x) pos) (.int y) := fun X A s Q E c a l q =>
  Ev.glob hk hn hd X A s Q E c a l fun v h' tk k r => q _ _ _ k (by simp only [Rp] at r ⊢; exact ⟨_, r⟩)
theorem ball0 {P : List Value → Prop} (h : P []) : ∀ vs : List Value, vs.length = 0 → P vs
  | [], _ => h
theorem ball1 {P : List Value → Prop} (h : ∀ x0 : Value, P [x0]) : ∀ vs : List Value, vs.length = 1 → P vs := fun vs e => by
  cases vs with
  | nil => cases e
  | cons a vs => exact ball0 (P := fun l => P (a :: l)) (h a) vs (Nat.succ.inj e)
theorem ball2 {P : List Value → Prop} (h : ∀ x0 x1 : Value, P [x0, x1]) : ∀ vs : List Value, vs.length = 2 → P vs := fun vs e => by
  cases vs with
  | nil => cases e
  | cons a vs => exact ball1 (P := fun l => P (a :: l)) (fun x1 => h a x1) vs (Nat.succ.inj e)
theorem ball3 {P : List Value → Prop} (h : ∀ x0 x1 x2 : Value, P [x0, x1, x2]) : ∀ vs : List Value, vs.length = 3 → P vs := fun vs e => by
  cases vs with
  | nil => cases e
  | cons a vs => exact ball2 (P := fun l => P (a :: l)) (fun x1 x2 => h a x1 x2) vs (Nat.succ.inj e)
theorem ball4 {P : List Value → Prop} (h : ∀ x0 x1 x2 x3 : Value, P [x0, x1, x2, x3]) : ∀ vs : List Value, vs.length = 4 → P vs := fun vs e => by
  cases vs with
  | nil => cases e
  | cons a vs => exact ball3 (P := fun l => P (a :: l)) (fun x1 x2 x3 => h a x1 x2 x3) vs (Nat.succ.inj e)
theorem ball5 {P : List Value → Prop} (h : ∀ x0 x1 x2 x3 x4 : Value, P [x0, x1, x2, x3, x4]) : ∀ vs : List Value, vs.length = 5 → P vs := fun vs e => by
  cases vs with
  | nil => cases e
  | cons a vs => exact ball4 (P := fun l => P (a :: l)) (fun x1 x2 x3 x4 => h a x1 x2 x3 x4) vs (Nat.succ.inj e)
theorem ball6 {P : List Value → Prop} (h : ∀ x0 x1 x2 x3 x4 x5 : Value, P [x0, x1, x2, x3, x4, x5]) : ∀ vs : List Value, vs.length = 6 → P vs := fun vs e => by
  cases vs with
  | nil => cases e
  | cons a vs => exact ball5 (P := fun l => P (a :: l)) (fun x1 x2 x3 x4 x5 => h a x1 x2 x3 x4 x5) vs (Nat.succ.inj e)
theorem ball7 {P : List Value → Prop} (h : ∀ x0 x1 x2 x3 x4 x5 x6 : Value, P [x0, x1, x2, x3, x4, x5, x6]) : ∀ vs : List Value, vs.length = 7 → P vs := fun vs e => by
  cases vs with
  | nil => cases e
  | cons a vs => exact ball6 (P := fun l => P (a :: l)) (fun x1 x2 x3 x4 x5 x6 => h a x1 x2 x3 x4 x5 x6) vs (Nat.succ.inj e)
end
end
section
section
variable {prog : Program} {w : World} {K : Frag} {n : Nat} {env : Env} {Γ : Lc}
theorem Cx.nx {X : List Addr} {h : Heap} {a : Addr} (c : Cx K X h) (ha : h.get? a = none) : a ∉ X := fun q => by
  have := c.liv a q
  rw [ha] at this; cases this
theorem Cx.nxs {X : List Addr} {h : Heap} {a : Addr} (c : Cx K X h) (ha : h.objs.size ≤ a) : a ∉ X := c.nx (Heap.get?_none_of_le ha)
theorem Rp.tup_new {X : List Addr} {h h' : Heap} {ds : List V} {vs : List Value} (r : RpL X h ds vs) (k : Le X h h') {a : Addr} (ha : a ∉ X) (e : IsTup h' a vs.toArray) : Rp X h' (.tup ds) (.ref a) := by
  simp only [Rp]; exact ⟨a, vs, rfl, ha, e, r.le k⟩
theorem Rp.lst_new {X : List Addr} {h h' : Heap} {ds : List V} {vs : List Value} (r : RpL X h ds vs) (k : Le X h h') {a : Addr} (ha : a ∉ X) (e : IsLs h' a vs.toArray) : Rp X h' (.lst ds) (.ref a) := by
  simp only [Rp]; exact ⟨a, vs, rfl, ha, e, r.le k⟩
theorem Ev.tup {es : List PySem.Expr} {ds : List V} {k : Nat} {pos : Pos} (h : EvL prog w K n env Γ es ds) (hz : ds.length ≤ 1000 := by decide) : Ev prog w K n env Γ (.Tuple es k pos) (.tup ds) := fun X A s Q E c a l q => by
  refine Tuple_ (h X A s pos _ E c a l fun vs h' tk k r => ?_)
  refine wpAny_newObj_type (q _ _ _ (k.trans (Le.push _ _ _)) (Rp.tup_new r (Le.push _ _ _) ((c.le k).nxs (Nat.le_refl _)) ⟨_, Heap.get?_push_size _ rfl, rfl, 0, rfl⟩)) ?_
  show vs.toArray.size ≤ sizeLine
  rw [List.size_toArray, r.length, sizeLine_eq]; omega
theorem Ev.lst {es : List PySem.Expr} {ds : List V} {pos : Pos} (h : EvL prog w K n env Γ es ds) (hz : ds.length ≤ 1000 := by decide) : Ev prog w K n env Γ (.List es pos) (.lst ds) := fun X A s Q E c a l q => by
  refine List_ (h X A s pos _ E c a l fun vs h' tk k r => ?_)
  refine wpAny_newObj_type (q _ _ _ (k.trans (Le.push _ _ _)) (Rp.lst_new r (Le.push _ _ _) ((c.le k).nxs (Nat.le_refl _)) ⟨_, Heap.get?_push_size _ rfl, rfl, rfl, 0, rfl⟩)) ?_
  show vs.toArray.size ≤ sizeLine
  rw [List.size_toArray, r.length, sizeLine_eq]; omega
theorem Ev.ifT {t b o : PySem.Expr} {pos : Pos} {d : V} (ht : EvT prog w K n env Γ t true) (h : Ev prog w K n env Γ b d) : Ev prog w K n env Γ (.IfExp t b o pos) d := fun X A s Q E c a l q =>
  IfExp_ (ht X A s _ E c a l fun h' tk k => by rw [if_pos rfl]; exact h X A _ Q E (c.le k) (a.le k) (l.le k) fun v h'' tk' k' r => q _ _ _ (k.trans k') r)
theorem Ev.ifF {t b o : PySem.Expr} {pos : Pos} {d : V} (ht : EvT prog w K n env Γ t false) (h : Ev prog w K n env Γ o d) : Ev prog w K n env Γ (.IfExp t b o pos) d := fun X A s Q E c a l q =>
  IfExp_ (ht X A s _ E c a l fun h' tk k => by rw [if_neg (by decide)]; exact h X A _ Q E (c.le k) (a.le k) (l.le k) fun v h'' tk' k' r => q _ _ _ (k.trans k') r)
theorem Ev.if_ {t b o : PySem.Expr} {pos : Pos} {d e : V} {x : Bool} (ht : EvT prog w K n env Γ t x) (h : x = true → Ev prog w K n env Γ b d) (h' : x = false → Ev prog w K n env Γ o e) : Ev prog w K n env Γ (.IfExp t b o pos) (bif x then d else e) := by
  cases x with
  | true => exact Ev.ifT ht (h rfl)
  | false => exact Ev.ifF ht (h' rfl)
theorem EvT.not {x : PySem.Expr} {pos : Pos} {b : Bool} (h : EvT prog w K n env Γ x b) : EvT prog w K n env Γ (.UnaryOp .Not x pos) (!b) := fun X A s Q E c a l q =>
  isTrue_not (h X A s _ E c a l fun h' tk k => q _ _ k)
theorem EvT.andT {x : PySem.Expr} {r : List PySem.Expr} {pos : Pos} {b : Bool} (h : EvT prog w K n env Γ x true) (hr : EvT prog w K n env Γ (.BoolOp .And r pos) b) : EvT prog w K n env Γ (.BoolOp .And (x :: r) pos) b := fun X A s Q E c a l q =>
  isTrue_and (h X A s _ E c a l fun h' tk k => by rw [if_pos rfl]; exact hr X A _ Q E (c.le k) (a.le k) (l.le k) fun h'' tk' k' => q _ _ (k.trans k'))
theorem EvT.andF {x : PySem.Expr} {r : List PySem.Expr} {pos : Pos} (h : EvT prog w K n env Γ x false) : EvT prog w K n env Γ (.BoolOp .And (x :: r) pos) false := fun X A s Q E c a l q =>
  isTrue_and (h X A s _ E c a l fun h' tk k => by rw [if_neg (by decide)]; exact q _ _ k)
theorem EvT.and0 {pos : Pos} : EvT prog w K n env Γ (.BoolOp .And [] pos) true := fun X A s Q E c a l q => isTrue_and_nil (q _ _ (Le.refl _ _))
theorem EvT.orF {x : PySem.Expr} {r : List PySem.Expr} {pos : Pos} {b : Bool} (h : EvT prog w K n env Γ x false) (hr : EvT prog w K n env Γ (.BoolOp .Or r pos) b) : EvT prog w K n env Γ (.BoolOp .Or (x :: r) pos) b := fun X A s Q E c a l q =>
  isTrue_or (h X A s _ E c a l fun h' tk k => by rw [if_neg (by decide)]; exact hr X A _ Q E (c.le k) (a.le k) (l.le k) fun h'' tk' k' => q _ _ (k.trans k'))
theorem EvT.orT {x : PySem.Expr} {r : List PySem.Expr} {pos : Pos} (h : EvT prog w K n env Γ x true) : EvT prog w K n env Γ (.BoolOp .Or (x :: r) pos) true := fun X A s Q E c a l q =>
  isTrue_or (h X A s _ E c a l fun h' tk k => by rw [if_pos rfl]; exact q _ _ k)
theorem EvT.or0 {pos : Pos} : EvT prog w K n env Γ (.BoolOp .Or [] pos) false := fun X A s Q E c a l q => isTrue_or_nil (q _ _ (Le.refl _ _))
theorem EvT.or_ {x : PySem.Expr} {r : List PySem.Expr} {pos : Pos} {a b : Bool} (h : EvT prog w K n env Γ x a) (hr : a = false → EvT prog w K n env Γ (.BoolOp .Or r pos) b) : EvT prog w K n env Γ (.BoolOp .Or (x :: r) pos) (a || b) := by
  cases a with
  | true => exact EvT.orT h
  | false => simpa using EvT.orF h (hr rfl)
theorem EvT.and_ {x : PySem.Expr} {r : List PySem.Expr} {pos : Pos} {a b : Bool} (h : EvT prog w K n env Γ x a) (hr : a = true → EvT prog w K n env Γ (.BoolOp .And r pos) b) : EvT prog w K n env Γ (.BoolOp .And (x :: r) pos) (a && b) := by
  cases a with
  | false => exact EvT.andF h
  | true => simpa using EvT.andT h (hr rfl)
theorem EvT.to {e : PySem.Expr} {a b : Bool} (h : EvT prog w K n env Γ e a) (q : a = b) : EvT prog w K n env Γ e b := q ▸ h
theorem Ev.to {e : PySem.Expr} {a b : V} (h : Ev prog w K n env Γ e a) (q : a = b) : Ev prog w K n env Γ e b := q ▸ h
-- and, or as values: bools
theorem Ev.and_ {x y : PySem.Expr} {r : List PySem.Expr} {pos : Pos} {a b : Bool} (h : Ev prog w K n env Γ x (.bool a)) (hr : a = true → Ev prog w K n env Γ (.BoolOp .And (y :: r) pos) (.bool b)) : Ev prog w K n env Γ (.BoolOp .And (x :: y :: r) pos) (.bool (a && b)) := fun X A s Q E c ao l q =>
  BoolOp_and (h X A s _ E c ao l fun v h' tk k r => by
    have r' := r
    simp only [Rp] at r'; subst r'
    refine wpAny_truthy_bool ?_
    cases a with
    | true => rw [if_pos rfl]; exact hr rfl X A _ Q E (c.le k) (ao.le k) (l.le k) fun v h'' tk' k' r => q _ _ _ (k.trans k') (by simpa using r)
    | false => rw [if_neg (by decide)]; exact q _ _ _ k (by simpa using r))
theorem Ev.or_ {x y : PySem.Expr} {r : List PySem.Expr} {pos : Pos} {a b : Bool} (h : Ev prog w K n env Γ x (.bool a)) (hr : a = false → Ev prog w K n env Γ (.BoolOp .Or (y :: r) pos) (.bool b)) : Ev prog w K n env Γ (.BoolOp .Or (x :: y :: r) pos) (.bool (a || b)) := fun X A s Q E c ao l q =>
  BoolOp_or (h X A s _ E c ao l fun v h' tk k r => by
    have r' := r
    simp only [Rp] at r'; subst r'
    refine wpAny_truthy_bool ?_
    cases a with
    | false => rw [if_neg (by decide)]; exact hr rfl X A _ Q E (c.le k) (ao.le k) (l.le k) fun v h'' tk' k' r => q _ _ _ (k.trans k') (by simpa using r)
    | true => rw [if_pos rfl]; exact q _ _ _ k (by simpa using r))
theorem Ev.bool1 {x : PySem.Expr} {op : BoolOp} {pos : Pos} {d : V} (h : Ev prog w K n env Γ x d) : Ev prog w K n env Γ (.BoolOp op [x] pos) d := fun X A s Q E c a l q => BoolOp_one (h X A s Q E c a l q)
/-- not, as a value -/
theorem Ev.not_ {x : PySem.Expr} {pos : Pos} {b : Bool} (h : Ev prog w K n env Γ x (.bool b)) : Ev prog w K n env Γ (.UnaryOp .Not x pos) (.bool (!b)) := fun X A s Q E c ao l q => by
  rw [arm_eval_UnaryOp]
  refine wpAny_bind (h X A s _ E c ao l fun v h' tk k r => ?_)
  simp only [Rp] at r; subst r
  refine wpAny_bind (wpAny_standAt (wpAny_holding (PyProof.Rows.not_of (wpAny_truthy_bool (q _ _ _ k (by simp only [Rp]))))))
-- is None
noncomputable def V.isNone : V → Bool
  | .none => true
  | _ => false
noncomputable def V.glb : V → Bool
  | .glob _ => true
  | _ => false
theorem none_beq {X : List Addr} {h : Heap} {d : V} {v : Value} (r : Rp X h d v) (hg : d.glb = false) : (v == Value.none) = d.isNone := by
  cases d with
  | none => simp only [Rp] at r; subst r; rfl
  | bool => simp only [Rp] at r; subst r; rfl
  | int => simp only [Rp] at r; obtain ⟨_, rfl⟩ := r; rfl
  | str => simp only [Rp] at r; obtain ⟨_, rfl⟩ := r; rfl
  | bts => simp only [Rp] at r; obtain ⟨_, rfl⟩ := r; rfl
  | glob => cases hg
  | tup => simp only [Rp] at r; obtain ⟨_, _, rfl, _⟩ := r; rfl
  | lst => simp only [Rp] at r; obtain ⟨_, _, rfl, _⟩ := r; rfl
  | scr => simp only [Rp] at r; obtain ⟨_, _, rfl, _⟩ := r; rfl
  | inst => simp only [Rp] at r; obtain ⟨_, _, _, rfl, _⟩ := r; rfl
theorem Op2.isN {d : V} (hg : d.glb = false) : Op2 prog w K (compareOp .Is) d .none (.bool d.isNone) := fun n X A s x y Q E c ao ra rb q => by
  simp only [Rp] at rb; subst rb
  exact PyProof.Rows.is_none_gen (q _ _ _ (Le.refl _ _) (by simp only [Rp]; rw [none_beq ra hg]))
theorem Op2.isNotN {d : V} (hg : d.glb = false) : Op2 prog w K (compareOp .IsNot) d .none (.bool (!d.isNone)) := fun n X A s x y Q E c ao ra rb q => by
  simp only [Rp] at rb; subst rb
  exact PySem.isNot_none (q _ _ _ (Le.refl _ _) (by simp only [Rp]; rw [none_beq ra hg]))
-- joins
theorem Op2.addS {x y : Str} (hz : x.length + y.length ≤ 1000) : Op2 prog w K (binaryOp .Add) (.str x) (.str y) (.str (x ++ y)) := fun n X A s a b Q E c ao ra rb q => by
  simp only [Rp] at ra rb; obtain ⟨t, rfl⟩ := ra; obtain ⟨u, rfl⟩ := rb
  exact PyProof.Rows.add_str (fun t' tk => q _ _ _ (Le.refl _ _) (by simp only [Rp]; exact ⟨_, rfl⟩)) (by rw [sizeLine_eq]; omega)
theorem RpL.append {X : List Addr} {h : Heap} : ∀ {ds es : List V} {vs ws : List Value}, RpL X h ds vs → RpL X h es ws → RpL X h (ds ++ es) (vs ++ ws)
  | [], es, vs, ws, a, b => by simp only [RpL] at a; subst a; simpa using b
  | d :: ds, es, vs, ws, a, b => by
    simp only [RpL] at a
    obtain ⟨v, r, rfl, a1, a2⟩ := a
    exact .cons a1 (a2.append b)
theorem Op2.addL {ds es : List V} (hz : ds.length + es.length ≤ 1000) : Op2 prog w K (binaryOp .Add) (.lst ds) (.lst es) (.lst (ds ++ es)) := fun n X A s a b Q E c ao ra rb q => by
  simp only [Rp] at ra rb
  obtain ⟨l, vs, rfl, hl, ⟨⟨c1, d1, x1, s1⟩, ho, rfl, hd1, n1, rfl⟩, rl⟩ := ra
  obtain ⟨l2, ws, rfl, hl2, ⟨⟨c2, d2, x2, s2⟩, ho2, rfl, hd2, n2, rfl⟩, rl2⟩ := rb
  refine concat_meets ⟨_, ho, rfl⟩ ⟨_, ho2, rfl⟩ noFill_list_add seq_list_add PySem.F.slot_list_add PySem.F.entry_list_add (PySem.F.args_list_add_2 _ _) (list_addW l l2 vs.toArray ws.toArray n1 n2 d1 d2 s1 s2 ?_) ⟨ho, ho2, ?_⟩
  · rw [List.size_toArray, List.size_toArray, rl.length, rl2.length, sizeLine_eq]; omega
  · refine q _ _ _ (Le.push _ _ _) (Rp.lst_new (rl.append rl2) (Le.push _ _ _) (c.nxs (Nat.le_refl _)) ⟨_, Heap.get?_push_size _ rfl, rfl, rfl, 0, by simp⟩)
theorem Op2.addT {ds es : List V} (hz : ds.length + es.length ≤ 1000) : Op2 prog w K (binaryOp .Add) (.tup ds) (.tup es) (.tup (ds ++ es)) := fun n X A s a b Q E c ao ra rb q => by
  have ra' := ra
  have rb' := rb
  simp only [Rp] at ra rb
  obtain ⟨l, vs, rfl, hl, ⟨⟨c1, d1, x1, s1⟩, ho, rfl, n1, rfl⟩, rl⟩ := ra
  obtain ⟨l2, ws, rfl, hl2, ⟨⟨c2, d2, x2, s2⟩, ho2, rfl, n2, rfl⟩, rl2⟩ := rb
  by_cases hv : vs = []
  · have : ds = [] := by have := rl.length; rw [hv] at this; exact List.eq_nil_of_length_eq_zero this.symm
    subst this
    exact concat_meets ⟨_, ho, rfl⟩ ⟨_, ho2, rfl⟩ noFill_tuple_add seq_tuple_add PySem.F.slot_tuple_add PySem.F.entry_tuple_add (PySem.F.args_tuple_add_2 _ _)
      (tuple_addW0 l l2 vs.toArray ws.toArray n1 n2 d1 d2 s1 s2 (by simp [hv])) ⟨ho, ho2, q _ _ _ (Le.refl _ _) (by simpa using rb')⟩
  · by_cases hw : ws = []
    · have : es = [] := by have := rl2.length; rw [hw] at this; exact List.eq_nil_of_length_eq_zero this.symm
      subst this
      exact concat_meets ⟨_, ho, rfl⟩ ⟨_, ho2, rfl⟩ noFill_tuple_add seq_tuple_add PySem.F.slot_tuple_add PySem.F.entry_tuple_add (PySem.F.args_tuple_add_2 _ _)
        (tuple_addW1 l l2 vs.toArray ws.toArray n1 n2 d1 d2 s1 s2 (by simpa using hv) (by simp [hw])) ⟨ho, ho2, q _ _ _ (Le.refl _ _) (by simpa using ra')⟩
    · refine concat_meets ⟨_, ho, rfl⟩ ⟨_, ho2, rfl⟩ noFill_tuple_add seq_tuple_add PySem.F.slot_tuple_add PySem.F.entry_tuple_add (PySem.F.args_tuple_add_2 _ _)
        (tuple_addW2 l l2 vs.toArray ws.toArray n1 n2 d1 d2 s1 s2 (by simpa using hv) (by simpa using hw) ?_) ⟨ho, ho2, ?_⟩
      · rw [List.size_toArray, List.size_toArray, rl.length, rl2.length, sizeLine_eq]; omega
      · refine q _ _ _ (Le.push _ _ _) (Rp.tup_new (rl.append rl2) (Le.push _ _ _) (c.nxs (Nat.le_refl _)) ⟨_, Heap.get?_push_size _ rfl, rfl, 0, by simp⟩)
-- names behind a dot
theorem find_fields {X : List Addr} {h : Heap} {x : String} {d : V} : ∀ {fs : List (String × V)} {es : List DictEntry}, RpF X h fs es → fs.lookup x = some d → ∃ e, es.find? (·.key.isStr (Str.ofString x)) = some e ∧ Rp X h d e.val
  | [], es, r, e => by cases e
  | (y, d') :: fs, es, r, e => by
    simp only [RpF] at r
    obtain ⟨en, rest, rfl, ⟨t, hk⟩, r1, r2⟩ := r
    rw [List.lookup_cons] at e
    by_cases q : x = y
    · subst q
      rw [beq_self_eq_true] at e
      cases e
      exact ⟨en, by rw [List.find?_cons, hk]; simp [Value.isStr], r1⟩
    · rw [beq_eq_false_iff_ne.mpr q] at e
      obtain ⟨e', he, r'⟩ := find_fields r2 e
      refine ⟨e', ?_, r'⟩
      rw [List.find?_cons, hk]
      have : (Value.str (Str.ofString y) t).isStr (Str.ofString x) = false := by
        show (Str.ofString y == Str.ofString x) = false
        exact beq_eq_false_iff_ne.mpr fun z => q (ofString_inj z).symm
      rw [this]
      exact he
noncomputable def attrFree (K : Frag) (C : Addr) (x : Str) : Bool := plainGet K C x && hasDictIn K C && findIn K (.ref C) x == some none
theorem handed_of {X : List Addr} {h : Heap} {d : V} {v : Value} (r : Rp X h d v) (hg : d.glb = false) : handedIn v = true := by
  cases d with
  | none => simp only [Rp] at r; subst r; rfl
  | bool => simp only [Rp] at r; subst r; rfl
  | int => simp only [Rp] at r; obtain ⟨_, rfl⟩ := r; rfl
  | str => simp only [Rp] at r; obtain ⟨_, rfl⟩ := r; rfl
  | bts => simp only [Rp] at r; obtain ⟨_, rfl⟩ := r; rfl
  | glob => cases hg
  | tup => simp only [Rp] at r; obtain ⟨_, _, rfl, _⟩ := r; rfl
  | lst => simp only [Rp] at r; obtain ⟨_, _, rfl, _⟩ := r; rfl
  | scr => simp only [Rp] at r; obtain ⟨_, _, rfl, _⟩ := r; rfl
  | inst => simp only [Rp] at r; obtain ⟨_, _, _, rfl, _⟩ := r; rfl
theorem Ev.attr {e : PySem.Expr} {x : String} {pos : Pos} {C : Addr} {fs : List (String × V)} {d : V} (h : Ev prog w K n env Γ e (.inst C fs)) (hx : fs.lookup x = some d) (ha : attrFree K C (Str.ofString x) = true) (hg : d.glb = false)
    (he : eval (e.Attribute (Str.ofString x) pos) env = (do let o ← eval e env; standAt pos.atName; let r ← holding [o] (getAttr o (Str.ofString x) true); letTemporaryGo e o r; pure r) := by with_unfolding_all rfl) :
    Ev prog w K n env Γ (.Attribute e (Str.ofString x) pos) d := fun X A s Q E c a l q => by
  refine Attribute_any_ (h X A s _ E c a l fun v h' tk k r => ?_) he
  simp only [Rp] at r
  obtain ⟨y, dy, es, rfl, hX, hdX, ⟨⟨ox, ho, hc, hd, hp⟩, ⟨od, nn, hod, hdc, hdd⟩⟩, rf⟩ := r
  obtain ⟨en, hen, ren⟩ := find_fields rf hx
  simp only [attrFree, Bool.and_eq_true, beq_iff_eq] at ha
  obtain ⟨⟨a1, a2⟩, a3⟩ := ha
  refine get_value (K := K) (x := y) (C := C) (ox := ox) (od := some od) (c.le k).ki ⟨ho, hc, by unfold notCls; rw [hp], by rw [hd]; exact hod⟩ (plainGet_of a1).1 (findObj_own a2 a3 rfl ?_) (handed_of ren hg) (q _ _ _ k ren)
  unfold lookIn
  rw [hdd]
  simp only [hen]
end
end
section
section
variable {prog : Program} {w : World} {K : Frag} {n : Nat} {env : Env} {Γ : Lc}
/-- a class whose instances take plain stores -/
noncomputable def storeOkC (K : Frag) (C : Addr) (x : Str) : Bool :=
  findIn K (.ref C) "__setattr__" == some (some (.builtin "object.__setattr__")) && plainOver K C && (match takerIn K C x with | some none => true | _ => false) && hasDictIn K C
theorem keys_of {X : List Addr} {h : Heap} : ∀ {fs : List (String × V)} {es : List DictEntry}, RpF X h fs es → ∀ e ∈ es, ∃ y ∈ fs.map (·.1), ∃ t, e.key = .str (Str.ofString y) t
  | [], es, r, e, he => by simp only [RpF] at r; subst r; cases he
  | (y, d) :: fs, es, r, e, he => by
    simp only [RpF] at r
    obtain ⟨en, rest, rfl, ⟨t, hk⟩, r1, r2⟩ := r
    rcases List.mem_cons.mp he with rfl | he
    · exact ⟨y, by simp, t, hk⟩
    · obtain ⟨z, hz, q⟩ := keys_of r2 e he
      exact ⟨z, by simp only [List.map_cons, List.mem_cons]; exact .inr hz, q⟩
theorem RpF.length {X : List Addr} {h : Heap} : ∀ {fs : List (String × V)} {es : List DictEntry}, RpF X h fs es → es.length = fs.length
  | [], es, r => by simp only [RpF] at r; subst r; rfl
  | (y, d) :: fs, es, r => by
    simp only [RpF] at r
    obtain ⟨en, rest, rfl, _, _, r2⟩ := r
    simp [r2.length]
theorem RpF.snoc {X : List Addr} {h : Heap} {x : String} {d : V} {e : DictEntry} {t : Tok} (hk : e.key = .str (Str.ofString x) t) (r : Rp X h d e.val) : ∀ {fs : List (String × V)} {es : List DictEntry}, RpF X h fs es → RpF X h (fs ++ [(x, d)]) (es ++ [e])
  | [], es, q => by simp only [RpF] at q; subst q; simp only [List.nil_append, RpF]; exact ⟨e, [], rfl, ⟨t, hk⟩, r, rfl⟩
  | (y, d') :: fs, es, q => by
    simp only [RpF] at q
    obtain ⟨en, rest, rfl, k, r1, r2⟩ := q
    simp only [List.cons_append, RpF]
    exact ⟨en, rest ++ [e], rfl, k, r1, r2.snoc hk r⟩
open Builtin Builtin.ObjectAttr in
/-- a store under a new name -/
theorem setAttr_new {A : Around} {s : Shared} {E : Value → Shared → Prop} {Q : Unit → Shared → Prop} {x dx C : Addr} {es : List DictEntry} {y : String} {v : Value} (X : K.In s.heap) (I : InstP s.heap x dx C es) (ho : storeOkC K C (Str.ofString y) = true)
    (hk : ∀ e ∈ es, ∃ z, z ≠ y ∧ ∃ t, e.key = .str (Str.ofString z) t) (hz : es.length ≤ 900)
    (h : ∀ h' e t, Heap.SameBut dx s.heap h' → e.key = .str (Str.ofString y) t → e.val = v → (∃ od n, h'.get? dx = some od ∧ od.cls = .type "dict" ∧ od.data = .dict (es ++ [e]).toArray n) → Q () ⟨h', s.gens, s.drawn, s.toks + 1 + 1, s.os⟩) :
    wpAny (model prog w) A (setAttr (.ref x) (Str.ofString y) v) Q E s := by
  obtain ⟨⟨⟨oc, odi, oda, osl⟩, hx, hxc, hxd, hxp⟩, ⟨⟨dc, dd, dda, dsl⟩, n, hdx, hdc, hdd⟩⟩ := I
  dsimp only at hxc hxd hxp hdc hdd
  subst hxc hxd hxp hdc hdd
  simp only [storeOkC, Bool.and_eq_true, beq_iff_eq] at ho
  obtain ⟨⟨⟨o1, o2⟩, o3⟩, o4⟩ := ho
  have o3' : takerIn K C (Str.ofString y) = some none := by
    split at o3
    · assumption
    · cases o3
  refine set_plain (ox := ⟨.ref C, some dx, .plain, osl⟩) (od := some ⟨.type "dict", dd, .dict es.toArray n, dsl⟩) X ⟨hx, rfl, rfl, hdx⟩ o1 ?_
  refine osa_open (ox := ⟨.ref C, some dx, .plain, osl⟩) (od := some ⟨.type "dict", dd, .dict es.toArray n, dsl⟩) X ⟨hx, rfl, rfl, hdx⟩ o2 o3' fun b => ?_
  obtain ⟨cd, hc, hd'⟩ := any_some o4
  have hno : es.any (·.key.isStr (Str.ofString y)) = false := by
    rw [List.any_eq_false]
    intro e he
    obtain ⟨z, hz, t, hk⟩ := hk e he
    rw [hk]
    show ¬ ((Str.ofString z == Str.ofString y) = true)
    rw [beq_iff_eq]
    exact fun q => hz (ofString_inj q)
  have hnr : es.any (·.refKey) = false := by
    rw [List.any_eq_false]
    intro e he
    obtain ⟨z, hz, t, hk⟩ := hk e he
    unfold DictEntry.refKey
    rw [hk]
    simp
  have hD := Heap.get?_update_self (Obj.putName (Str.ofString y) (PyData.keyHash w.params (Str.ofString y)) (.str (Str.ofString y) (s.toks + 1)) v) hdx (by rw [putName_eq]; rfl)
  rw [putName_eq] at hD
  have hput : PySem.putIn (fun x => x.key.isStr (Str.ofString y)) (fun e => { e with val := v }) { hash := PyData.keyHash w.params (Str.ofString y), key := .str (Str.ofString y) (s.toks + 1), val := v } es = es ++ [{ hash := PyData.keyHash w.params (Str.ofString y), key := .str (Str.ofString y) (s.toks + 1), val := v }] := by
    unfold PySem.putIn
    have : es.findIdx? (fun x => x.key.isStr (Str.ofString y)) = none := by
      rw [List.findIdx?_eq_none_iff]
      intro e he
      have := (List.any_eq_false.mp hno) e he
      simpa using this
    rw [this]
  rw [hput] at hD
  refine wpAny_bind (wpAny_pure (wpAny_bind (wpAny_bind (wpAny_loadPart hx (wpAny_bind (looks_clsIn X hc _ _ _ _ (fun _ _ e => e) ?_))))))
  rw [hd']
  refine wpAny_pure (a := some dx) (wpAny_bind (wpAny_pure (wpAny_bind ?_)))
  unfold nsSet
  refine wpAny_bind (wpAny_bind (wpAny_askSetting (wpAny_pure (wpAny_bind (wpAny_mkText (wpAny_bind (wpAny_loadPart hdx ?_)))))))
  dsimp only
  rw [aRefKeyMayBeTheName_at]
  have : (!es.toArray.any (·.key.isStr (Str.ofString y)) && es.toArray.any (·.refKey)) = false := by
    rw [← Array.any_toList, ← Array.any_toList]
    simp [hnr]
  rw [this]
  refine wpAny_updatePart hdx ?_
  refine wpAny_bind (wpAny_lookBehind hD (by exact pastItsLine_dict (by rw [List.size_toArray, sizeLine_eq, List.length_append, List.length_singleton]; omega)) ?_)
  exact wpAny_pure (h _ _ _ (Heap.SameBut.update ..) rfl rfl ⟨_, _, hD, rfl, rfl⟩)
end
end
section
section
variable {prog : Program} {w : World} {K : Frag} {n : Nat} {env : Env} {Γ : Lc}
theorem lookup_none {α β : Type} [BEq α] [LawfulBEq α] {x : α} : ∀ {l : List (α × β)}, l.lookup x = none → ∀ y ∈ l.map (·.1), y ≠ x
  | [], _, y, hy => by cases hy
  | (z, d) :: r, e, y, hy => by
    rw [List.lookup_cons] at e
    split at e
    · cases e
    · rename_i q
      simp only [List.map_cons, List.mem_cons] at hy
      rcases hy with rfl | hy
      · exact fun z => by rw [z] at q; simp at q
      · exact lookup_none e y hy
/-- the state behind a change of the own object's dict -/
theorem SOk.grown {X₀ X : List Addr} {m : Str → Option Value} {b h h' : Heap} {x dx C : Addr} {fs : List (String × V)} {self y : String} {d : V} {v : Value} {e : DictEntry} {t : Tok}
    (S : SOk K X₀ X m b env Γ (some (self, .inst x dx C fs)) h) (hs : Heap.SameBut dx h h') (r : Rp X h d v) (hk : e.key = .str (Str.ofString y) t) (hv : e.val = v)
    (hd : ∀ es, InstP h x dx C es → RpF X h fs es → ∃ od n, h'.get? dx = some od ∧ od.cls = .type "dict" ∧ od.data = .dict (es ++ [e]).toArray n) :
    SOk K X₀ X m b env Γ (some (self, .inst x dx C (fs ++ [(y, d)]))) h' := by
  obtain ⟨q1, q2, u, hm, es, rfl, hX, hdX, hL, hne, hb0, hb, I, rf⟩ := S.own self _ rfl
  have st : Stays X X h h' := fun a o ha e => ⟨ha, (hs.2 a fun q => ha (q ▸ hdX)).trans e⟩
  obtain ⟨od, n, hd1, hd2, hd3⟩ := hd es I rf
  refine ⟨S.ok, S.cx, S.sup, S.new, fun a ha => ?_, S.lin, S.lnew, fun a o e => ?_, S.ns.sameBut hs (Ne.symm hL), fun z d' e => ?_, fun z o e => ?_, S.cel.of fun c v _ ho => ⟨v, ho.sameBut hs fun q => ?_⟩⟩
  · by_cases q : a = dx
    · rw [q, hd1]; rfl
    · rw [hs.2 a q]; exact S.liv a ha
  · have hne : a ≠ dx := fun q => by rw [q, hb] at e; cases e
    obtain ⟨⟨sl, e₁⟩, k₁⟩ := S.le a o e
    exact ⟨⟨sl, (hs.2 a hne).trans e₁⟩, fun hX => (hs.2 a hne).trans (k₁ hX)⟩
  · obtain ⟨p1, u, p2, p3⟩ := S.vars z d' e
    refine ⟨p1, u, p2.mono st, ?_⟩
    rcases p3 with p3 | ⟨p, c, hc, hX, ho⟩
    · exact .inl p3
    · refine .inr ⟨p, c, hc, hX, ho.sameBut hs fun q => ?_⟩
      obtain ⟨o, ho, hdat⟩ := ho
      obtain ⟨_, ⟨od', n', hod, _, hdd⟩⟩ := I
      rw [q, hod] at ho; cases ho; rw [hdat] at hdd; cases hdd
  · cases e
    refine ⟨q1, q2, _, hm, es ++ [_], rfl, hX, hdX, hL, hne, hb0, hb, ⟨?_, ⟨od, n, hd1, hd2, hd3⟩⟩, ?_⟩
    · obtain ⟨⟨ox, hx, r1⟩, _⟩ := I
      exact ⟨ox, (hs.2 x hne).trans hx, r1⟩
    · exact RpF.snoc hk (by rw [hv]; exact r.mono st) (rf.mono st)
  · obtain ⟨o, ho, hdat⟩ := ho
    obtain ⟨_, ⟨od', n', hod, _, hdd⟩⟩ := I
    rw [q, hod] at ho; cases ho; rw [hdat] at hdd; cases hdd
theorem Ex1.setA {x dx C : Addr} {fs : List (String × V)} {y : String} {d : V} {e : PySem.Expr} {sp ap pos : Pos} {self : String} (h : EvO prog w K n env Γ (some (self, .inst x dx C fs)) e d) (hy : fs.lookup y = none) (hc : storeOkC K C (Str.ofString y) = true) (hz : fs.length ≤ 100 := by decide)
    (hs : swapsWith e (some (.Attribute (.Name (Str.ofString self) sp) (Str.ofString y) ap)) pos.line env = pure false := by rfl) :
    Ex1 prog w K n env Γ (some (self, .inst x dx C fs)) (.Assign [.Attribute (.Name (Str.ofString self) sp) (Str.ofString y) ap] e pos) (.next Γ (some (self, .inst x dx C (fs ++ [(y, d)])))) := fun X₀ X m b A s Q E B S q => by
  refine plainObj_wpAny_Assign_Attribute (h X₀ X m b A s _ E B S fun v h' tk k r => ?_) hs
  have S' := S.step k
  obtain ⟨q1, q2, u, hm, es, rfl, hX, hdX, hL, hne, hb0, hb, I, rf⟩ := S'.own self _ rfl
  refine wpAny_Name (wpAny_loadName_local S.ok.kind q2 S'.ns hm ?_) q1
  refine setAttr_new S'.cxX.ki I hc (fun e he => ?_) (by rw [rf.length]; omega) fun h'' e t hsb hk hv hd => ?_
  · obtain ⟨z, hz, t, hk⟩ := keys_of rf e he
    exact ⟨z, lookup_none hy z hz, t, hk⟩
  · refine q _ _ _ ⟨rfl, X, m, S'.grown hsb r hk hv fun es' I' rf' => ?_⟩
    obtain ⟨_, ⟨o1, n1, a1, _, a2⟩⟩ := I
    obtain ⟨_, ⟨o2, n2, b1, _, b2⟩⟩ := I'
    rw [a1] at b1; cases b1; rw [a2] at b2
    have : es = es' := by
      have := Data.dict.inj b2
      simpa using this.1
    subst this
    exact hd
end
section
variable (prog : Program) (w : World) (K : Frag)
/-- what an __init__ does to its object -/
noncomputable def Inits (n : Nat) (f C : Addr) (ds : List V) (fs fs' : List (String × V)) : Prop :=
  ∀ (X : List Addr) (A : Around) (s : Shared) (x dx : Addr) (es : List DictEntry) (vs : List Value) (R : Result → Shared → Prop), Cx K X ((s.heap.hide dx).hide x) → AOk n X A s.heap → RpL (x :: dx :: X) s.heap ds vs → x ∉ X → dx ∉ X → x ≠ dx → K.lookup x = none → K.lookup dx = none →
    InstP s.heap x dx C es → RpF (x :: dx :: X) s.heap fs es →
    (∀ h' tk es', Le X ((s.heap.hide dx).hide x) h' → InstP h' x dx C es' → RpF (x :: dx :: X) h' fs' es' → R (.ok (.ret .none)) ⟨h', s.gens, s.drawn, tk, s.os⟩) →
    codeAny (model prog w) A (.call (.ref f) ⟨.ref x :: vs, []⟩) R s
end
section
variable {prog : Program} {w : World} {K : Frag} {n : Nat}
theorem hide2 {h : Heap} {x dx a : Addr} {o : Obj} (e : ((h.hide dx).hide x).get? a = some o) : h.get? a = some o ∧ a ≠ x ∧ a ≠ dx := by
  have e1 := Heap.of_hide e
  refine ⟨Heap.of_hide e1, fun q => ?_, fun q => ?_⟩
  · rw [q, Heap.hide_self] at e; cases e
  · rw [q, Heap.hide_self] at e1; cases e1
theorem hide2_of {h : Heap} {x dx a : Addr} {o : Obj} (e : h.get? a = some o) (h1 : a ≠ x) (h2 : a ≠ dx) : ((h.hide dx).hide x).get? a = some o := by
  rw [Heap.hide_ne _ h1, Heap.hide_ne _ h2]; exact e
theorem lookup_rev {l : List (Str × Value)} {x : Str} {v : Value} (hn : (l.map (·.1)).Nodup) (hm : (x, v) ∈ l) : l.reverse.lookup x = some v := by
  induction l with
  | nil => cases hm
  | cons p r ih =>
    obtain ⟨y, u⟩ := p
    simp only [List.map_cons, List.nodup_cons] at hn
    rw [List.reverse_cons, List.lookup_append]
    rcases List.mem_cons.mp hm with q | q
    · cases q
      have : r.reverse.lookup x = none := by
        rw [List.lookup_eq_none_iff]
        intro p hp
        have := List.mem_reverse.mp hp
        rw [bne_iff_ne]
        intro z
        exact hn.1 (z ▸ List.mem_map_of_mem this)
      rw [this]
      simp
    · rw [ih hn.2 q]; rfl
theorem Inits.def {f C : Addr} {oc : Value} {od : Option Addr} {osl : Array (Option Value)} {fd : FuncData} {body : List Stmt} {self : String} {ps : List String} {ds es : List V} {dvs : List Value} {fs fs' : List (String × V)} {Γ' : Addr → Addr → Lc}
    (hK : K.lookup f = some ⟨oc, od, .func fd, osl⟩) (hb : fd.body = .stmts body) (hc : codeIn K fd.code fd.qualname = true) (hg : fd.globals = mainGlobals) (hbu : fd.builtins = builtinsNs)
    (hlen : ps.length = (ds ++ es).length) (hnd : (self :: ps).Nodup) (hdv : ∀ X h, RpL X h es dvs)
    (hbind : ∀ (s : Shared) (v : Value) (vs : List Value), K.In s.heap → vs.length = ds.length → BindsTo s fd ⟨v :: vs, []⟩ (zipS (self :: ps) (v :: (vs ++ dvs))))
    (hcell : ∀ x ∈ fd.scope.names, x.2 ≠ .cell) (hloc : ∀ x ∈ self :: ps, (Str.ofString x == ("__debug__" : Str)) = false ∧ fd.scope.names.lookup (Str.ofString x) = some .local)
    (hx : ∀ L x dx, Ex prog w K n (callEnv fd L f) (ps.zip (ds ++ es)) (some (self, .inst x dx C fs)) body (.next (Γ' x dx) (some (self, .inst x dx C fs'))))
    (h1 : fd.scope.isCoroutine = false := by rfl) (h2 : fd.scope.isGenerator = false := by rfl) (h3 : fd.scope.kind = .function := by rfl) : Inits prog w K (n + 1) f C ds fs fs' := fun X A s x dx ens vs R c a r hxX hdX hne hkx hkd I rf q => by
  have ki : K.In s.heap := fun a o e => (hide2 (c.ki a o e)).1
  have hv : vs.length = ds.length := r.length
  have r2 : RpL (x :: dx :: X) s.heap (ds ++ es) (vs ++ dvs) := r.append (hdv _ _)
  have hzl : ((self :: ps).map Str.ofString).length = ((Value.ref x) :: (vs ++ dvs)).length := by
    rw [List.length_map, List.length_cons, List.length_cons, hlen, r2.length]
  have lim : s.heap.NoLimit := by
    obtain ⟨mc, hn, e⟩ := c.lim
    obtain ⟨o, es, ep, ho, rr⟩ := hn
    exact ⟨mc, ⟨o, es, ep, (hide2 ho).1, rr⟩, e⟩
  have hcl : (callEnv fd s.heap.objs.size f).locals = s.heap.objs.size := rfl
  refine codeAny_call_def (binds := zipS (self :: ps) (.ref x :: (vs ++ dvs))) a.dp (ki f _ hK) rfl lim (codeRec_of ki hc) hb (hbind s _ vs ki hv) hcell (fun y hy => ?_) (fun h₁ hns hkeep => ?_) h1 h2 h3
  · have := (List.of_mem_zip hy).1
    obtain ⟨z, hz, e⟩ := List.mem_map.mp this
    rw [← e]
    exact (hloc z hz).2
  have hnone : s.heap.get? s.heap.objs.size = none := Heap.get?_none_of_le (Nat.le_refl _)
  have hLx : x ≠ s.heap.objs.size := fun q => by obtain ⟨⟨ox, hx, _⟩, _⟩ := I; rw [q, hnone] at hx; cases hx
  have hLd : dx ≠ s.heap.objs.size := fun q => by obtain ⟨_, ⟨od, _, hx, _⟩⟩ := I; rw [q, hnone] at hx; cases hx
  have hnd' : ((zipS (self :: ps) (.ref x :: (vs ++ dvs))).map (·.1)).Nodup := by rw [zip_fst hzl]; exact map_nodup hnd
  have find : ∀ y v, (Str.ofString y, v) ∈ zipS (self :: ps) (.ref x :: (vs ++ dvs)) → (zipS (self :: ps) (.ref x :: (vs ++ dvs))).reverse.lookup (Str.ofString y) = some v := fun y v hm => lookup_rev hnd' hm
  have st : Stays (x :: dx :: X) (s.heap.objs.size :: x :: dx :: X) s.heap h₁ := fun a o ha e => ⟨fun z => by
    rcases List.mem_cons.mp z with rfl | z
    · rw [hnone] at e; cases e
    · exact ha z, hkeep a o e⟩
  have S : SOk K X (s.heap.objs.size :: x :: dx :: X) (fun y => (zipS (self :: ps) (.ref x :: (vs ++ dvs))).reverse.lookup y) ((s.heap.hide dx).hide x) (callEnv fd s.heap.objs.size f) (ps.zip (ds ++ es)) (some (self, .inst x dx C fs)) h₁ := by
    refine ⟨⟨h3, hg, hbu⟩, c, fun a ha => by simp [ha], fun a ha => ?_, fun a ha => ?_, by rw [hcl]; simp, ?_, Le.of_stays fun a o e => hkeep a o (hide2 e).1, hns, fun y d e => ?_, fun y o e => ?_, fun y c hk _ => absurd rfl (hcell _ (lookup_mem hk)), fun y z c hk _ _ => absurd rfl (hcell _ (lookup_mem hk))⟩
    · rcases List.mem_cons.mp ha with rfl | ha
      · refine .inr ?_
        cases e : ((s.heap.hide dx).hide x).get? s.heap.objs.size with
        | none => rfl
        | some o => have := (hide2 e).1; rw [hnone] at this; cases this
      · rcases List.mem_cons.mp ha with rfl | ha
        · exact .inr (Heap.hide_self _ _)
        · rcases List.mem_cons.mp ha with rfl | ha
          · refine .inr ?_
            cases e : ((s.heap.hide a).hide x).get? a with
            | none => rfl
            | some o => exact absurd rfl (hide2 e).2.2
          · exact .inl ha
    · rcases List.mem_cons.mp ha with rfl | ha
      · obtain ⟨o, _, _, ho, _⟩ := hns
        rw [ho]; rfl
      · rcases List.mem_cons.mp ha with rfl | ha
        · obtain ⟨⟨ox, hx, _⟩, _⟩ := I
          rw [hkeep _ _ hx]; rfl
        · rcases List.mem_cons.mp ha with rfl | ha
          · obtain ⟨_, ⟨od, _, hx, _⟩⟩ := I
            rw [hkeep _ _ hx]; rfl
          · obtain ⟨o, ho⟩ := Option.isSome_iff_exists.mp (c.liv a ha)
            rw [hkeep a o (hide2 ho).1]; rfl
    · rw [hcl]
      cases e : ((s.heap.hide dx).hide x).get? s.heap.objs.size with
      | none => rfl
      | some o => have := (hide2 e).1; rw [hnone] at this; cases this
    · obtain ⟨v, hm, rv⟩ := zip_find r2 e
      have hm' : (Str.ofString y, v) ∈ zipS (self :: ps) (.ref x :: (vs ++ dvs)) := .tail _ hm
      obtain ⟨y', hy', ey⟩ := List.mem_map.mp (List.of_mem_zip hm).1
      have eyy : y' = y := ofString_inj ey
      subst eyy
      exact ⟨(hloc y' (.tail _ hy')).1, v, rv.mono st, .inl ⟨(hloc y' (.tail _ hy')).2, find y' v hm'⟩⟩
    · cases e
      refine ⟨(hloc self (.head _)).1, (hloc self (.head _)).2, _, find self _ (.head _), ens, rfl, by simp, by simp, by rw [hcl]; exact hLd, hne, Heap.hide_self _ _, ?_, ?_, rf.mono st⟩
      · cases e : ((s.heap.hide dx).hide x).get? dx with
        | none => rfl
        | some o => exact absurd rfl (hide2 e).2.2
      · obtain ⟨⟨ox, hx, r1⟩, ⟨od, n, hd, r2⟩⟩ := I
        exact ⟨⟨ox, hkeep _ _ hx, r1⟩, ⟨od, n, hkeep _ _ hd, r2⟩⟩
  have ab : AOb n X ((s.heap.hide dx).hide x) (callEnv fd s.heap.objs.size f) (A.deeper (callEnv fd s.heap.objs.size f)) := by
    obtain ⟨d1, d2, d3, l, hl, hf⟩ := AOk.body (env := callEnv fd s.heap.objs.size f) a h3 rfl
    refine ⟨d1, d2, d3, l, hl, fun e he => ?_⟩
    obtain ⟨hk, L, hL, hq⟩ := hf e he
    refine ⟨hk, L, hL, hq.imp id fun ⟨hX, o, ho, hd⟩ => ⟨hX, o, hide2_of ho (fun z => hxX (z ▸ hX)) (fun z => hdX (z ▸ hX)), hd⟩⟩
  refine hx s.heap.objs.size x dx X _ _ _ _ _ _ _ ab S fun fl h' tk ok => ?_
  obtain ⟨rfl, X', m', S'⟩ := ok
  obtain ⟨q1, q2, u, hm, es', rfl, hX', hdX', hL', hne', hb0', hb', I', rf'⟩ := S'.own self _ rfl
  refine q _ _ es' S'.le I' (rf'.mono fun a o ha e => ⟨fun z => ?_, e⟩)
  rcases List.mem_cons.mp z with rfl | z
  · exact ha hX'
  · rcases List.mem_cons.mp z with rfl | z
    · exact ha hdX'
    · exact ha (S'.sup a z)
theorem under_make (A : Around) (C : Addr) (vs : List Value) : (A.under (.builtin "type.__call__" ⟨.ref C :: vs, []⟩)).depth = A.depth + 1 := rfl
theorem AOk.make {X : List Addr} {A : Around} {h h' : Heap} {C : Addr} {vs : List Value} (a : AOk (n + 1) X A h) (k : ∀ a o, a ∈ X → h.get? a = some o → h'.get? a = some o) : AOk n X (A.under (.builtin "type.__call__" ⟨.ref C :: vs, []⟩)) h' := by
  refine ⟨?_, ?_, a.hdl, ?_⟩
  · have := a.dep; show A.depth + 1 + 3 * n < _; omega
  · have := a.uni
    have hf : (Code.builtin "type.__call__" ⟨.ref C :: vs, []⟩).frames = 0 := rfl
    show A.units + _ + 100 + 20 * n < _; simp only [Code.cUnits, hf]; omega
  · obtain ⟨l, hl, hf⟩ := a.frm
    refine ⟨l, ?_, fun e he => ?_⟩
    · have he : (Code.builtin "type.__call__" ⟨.ref C :: vs, []⟩).envs = [] := rfl
      show pushEnvs (Code.builtin "type.__call__" ⟨.ref C :: vs, []⟩).envs A.frames = _
      rw [he, hl]; rfl
    · obtain ⟨hk, L, o, hL, hX, ho, hd⟩ := hf e he
      exact ⟨hk, L, o, hL, hX, k L o hX ho, hd⟩
/-- a class called -/
theorem Calls.cls {C f : Addr} {ds : List V} {fs : List (String × V)} (hm : makesIn K C = true) (hi : findIn K (.ref C) "__init__" = some (some (.ref f))) (hf : typeIn K (.ref f) = some (.type "function"))
    (h : Inits prog w K n f C ds [] fs) : Calls prog w K (n + 1) (.ref C) ds (.inst C fs) := fun X A s vs Q E c a r q => by
  obtain ⟨hh, g, d, t, os⟩ := s
  dsimp only at c a r q
  have k1 : ∀ a o, hh.get? a = some o → ((hh.push emptyDict).push (instObj C hh.objs.size)).get? a = some o := fun a o e => Heap.get?_push_of_some _ (Heap.get?_push_of_some _ e)
  have n0 : hh.get? hh.objs.size = none := Heap.get?_none_of_le (Nat.le_refl _)
  have n1 : hh.get? (hh.objs.size + 1) = none := Heap.get?_none_of_le (by omega)
  have gx : ((hh.push emptyDict).push (instObj C hh.objs.size)).get? (hh.objs.size + 1) = some (instObj C hh.objs.size) := by
    have := Heap.get?_push_size (hh.push emptyDict) (o := instObj C hh.objs.size) rfl
    rwa [Heap.size_push] at this
  have gd : ((hh.push emptyDict).push (instObj C hh.objs.size)).get? hh.objs.size = some emptyDict := Heap.get?_push_of_some _ (Heap.get?_push_size _ rfl)
  have kl : ∀ a, hh.get? a = none → K.lookup a = none := fun a e => by
    cases q : K.lookup a with
    | none => rfl
    | some o => have := c.ki a o q; rw [e] at this; cases this
  have keep : ∀ a o, hh.get? a = some o → ((((hh.push emptyDict).push (instObj C hh.objs.size)).hide hh.objs.size).hide (hh.objs.size + 1)).get? a = some o := fun a o e => hide2_of (k1 a o e) (fun z => by rw [z, n1] at e; cases e) (fun z => by rw [z, n0] at e; cases e)
  have kle : Le X hh ((((hh.push emptyDict).push (instObj C hh.objs.size)).hide hh.objs.size).hide (hh.objs.size + 1)) := .of_stays keep
  refine wpAny_call (make_core (makes_of c.ki hm) (looks_findIn c.ki hi) (fun self => bind_fn c.ki self hf) (.inl rfl) ?_)
  refine h X _ ⟨(hh.push emptyDict).push (instObj C hh.objs.size), g, d, t, os⟩ (hh.objs.size + 1) hh.objs.size [] vs _ (c.le kle) (a.make fun a o _ e => k1 a o e) ?_ (c.nx n1) (c.nx n0) (Nat.succ_ne_self _) (kl _ n1) (kl _ n0)
    ⟨⟨_, gx, rfl, rfl, rfl⟩, ⟨_, 0, gd, rfl, rfl⟩⟩ (by simp only [RpF]) fun h' tk es' k I rf => ⟨rfl, ?_⟩
  · refine r.mono fun a o ha e => ⟨fun z => ?_, k1 a o e⟩
    rcases List.mem_cons.mp z with rfl | z
    · rw [n1] at e; cases e
    · rcases List.mem_cons.mp z with rfl | z
      · rw [n0] at e; cases e
      · exact ha z
  · refine q _ _ _ (fun a o e => k a o (keep a o e)) ?_
    simp only [Rp]
    exact ⟨_, _, es', rfl, c.nx n1, c.nx n0, I, rf.mono fun a o ha e => ⟨fun z => ha (by simp [z]), e⟩⟩
end
end
section
section
variable {prog : Program} {w : World} {K : Frag} {n : Nat} {env : Env} {Γ : Lc}
noncomputable def methOk (K : Frag) (C f : Addr) (x : Str) : Bool := plainGet K C x && isFn K (.ref f) && findIn K (.ref C) x == some (some (.ref f)) && keepIn K (.ref f)
theorem look_free {X : List Addr} {h : Heap} {C x dx : Addr} {es : List DictEntry} {fs : List (String × V)} {y : String} (rf : RpF X h fs es) (hy : fs.lookup y = none) {od : Obj} {n : Nat} (hd : od.data = .dict es.toArray n) : lookIn (Str.ofString y) od = some none := by
  have h1 : es.find? (·.key.isStr (Str.ofString y)) = none := by
    rw [List.find?_eq_none]
    intro e he
    obtain ⟨z, hz, t, hk⟩ := keys_of rf e he
    rw [hk]
    show ¬ ((Str.ofString z == Str.ofString y) = true)
    rw [beq_iff_eq]
    exact fun q => lookup_none hy z hz (ofString_inj q)
  have h2 : es.any (·.refKey) = false := by
    rw [List.any_eq_false]
    intro e he
    obtain ⟨z, hz, t, hk⟩ := keys_of rf e he
    unfold DictEntry.refKey
    rw [hk]
    simp
  unfold lookIn
  rw [hd]
  simp only [h1, h2, Bool.false_eq_true, if_false]
theorem getMethod_inst {X : List Addr} {A : Around} {s : Shared} {E : Value → Shared → Prop} {Q : Value × List Value → Shared → Prop} {C f : Addr} {fs : List (String × V)} {y : String} {v : Value} {pl : Sem Bool} (c : Cx K X s.heap) (r : Rp X s.heap (.inst C fs) v)
    (hm : methOk K C f (Str.ofString y) = true) (hy : fs.lookup y = none) (h : Q (.ref f, [v]) s) : wpAny (model prog w) A (getMethod v (Str.ofString y) pl) Q E s := by
  simp only [Rp] at r
  obtain ⟨x, dx, es, rfl, hX, hdX, ⟨⟨ox, ho, hc, hd, hp⟩, ⟨od, nn, hod, hdc, hdd⟩⟩, rf⟩ := r
  simp only [methOk, Bool.and_eq_true, beq_iff_eq] at hm
  obtain ⟨⟨⟨m1, m2⟩, m3⟩, m4⟩ := hm
  refine method_fn (ox := ox) (od := some od) c.ki ⟨ho, hc, by unfold notCls; rw [hp], by rw [hd]; exact hod⟩ (plainGet_of m1).1 (plainGet_of m1).2 m3 (beq_iff_eq.mp m2) ?_ h
  show (lookIn (Str.ofString y) od).map _ = _
  rw [look_free (C := C) (x := x) (dx := dx) rf hy hdd]; rfl
theorem Ev.meth0 {o : PySem.Expr} {y : String} {apos pos : Pos} {C f : Addr} {fs : List (String × V)} {d : V} {m : Nat} (ho : Ev prog w K n env Γ o (.inst C fs)) (hm : methOk K C f (Str.ofString y) = true) (hy : fs.lookup y = none) (hc : Calls prog w K m (.ref f) [.inst C fs] d) (hmn : m ≤ n := by decide)
    (hl : (apos.endLine == pos.line) = true := by rfl) (hb : attributeBase o (Str.ofString y) env (eval o env) = eval o env := by with_unfolding_all rfl) : Ev prog w K n env Γ (.Call (.Attribute o (Str.ofString y) apos) [] [] pos) d := fun X A s Q E c a l q => by
  rw [arm_eval_Call, hb]
  refine wpAny_bind (ho X A s _ E c a l fun v h' tk k r => wpAny_bind (wpAny_standAt ?_))
  unfold methodCall
  have hf : methodCallForm (([] : List PySem.Expr).length + ([] : List Keyword).length) (backTo pos (starEach [] env)) (backToKw pos (keywordEach [] env)) = true := rfl
  rw [hf]
  refine wpAny_bind (wpAny_holding ?_)
  refine getMethod_inst (c.le k) r hm hy ?_
  unfold methodCallPos
  rw [hl]
  refine wpAny_bind (wpAny_pure ?_)
  simp only [methOk, Bool.and_eq_true, beq_iff_eq] at hm
  refine callWith_K0 (c.le k).ki hm.2 ?_
  exact hc X A _ [v] Q E (c.le k) ((a.le k).less hmn) (.cons r .nil) fun v h3 tk3 k3 r3 => q _ _ _ (k.trans k3) r3
theorem Ev.meth {o e : PySem.Expr} {es : List PySem.Expr} {y : String} {apos pos : Pos} {C f : Addr} {fs : List (String × V)} {ds : List V} {d : V} {m : Nat} (ho : Ev prog w K n env Γ o (.inst C fs)) (hs : EvL prog w K n env Γ (e :: es) ds) (hm : methOk K C f (Str.ofString y) = true) (hy : fs.lookup y = none)
    (hc : Calls prog w K m (.ref f) (.inst C fs :: ds) d) (hmn : m ≤ n := by decide)
    (hl : (apos.endLine == pos.line) = true := by rfl) (hb : attributeBase o (Str.ofString y) env (eval o env) = eval o env := by with_unfolding_all rfl)
    (hf : methodCallForm ((e :: es).length + ([] : List Keyword).length) (backTo pos (starEach (e :: es) env)) (backToKw pos (keywordEach [] env)) = true := by rfl)
    (he : starEach (e :: es) env = (false, eval e env) :: starEach es env := by rfl) (hp : (backTo pos (starEach es env)).any (·.1) = false := by rfl) : Ev prog w K n env Γ (.Call (.Attribute o (Str.ofString y) apos) (e :: es) [] pos) d := fun X A s Q E c a l q => by
  rw [arm_eval_Call, hb]
  refine wpAny_bind (ho X A s _ E c a l fun v h' tk k r => wpAny_bind (wpAny_standAt ?_))
  unfold methodCall
  rw [hf]
  refine wpAny_bind (wpAny_holding ?_)
  refine getMethod_inst (c.le k) r hm hy ?_
  unfold methodCallPos
  rw [hl]
  refine wpAny_bind (wpAny_pure ?_)
  simp only [methOk, Bool.and_eq_true, beq_iff_eq] at hm
  refine callWith_K (h₀ := h') (first := [v]) (c.le k).ki hm.2 (hs X A _ pos _ E (c.le k) (a.le k) (l.le k) fun vs h'' tk' k' r' => ⟨((c.le k).le k').ki, ?_⟩) he hp
  exact hc X A _ (v :: vs) Q E ((c.le k).le k') (((a.le k).le k').less hmn) (.cons (r.le k') r') fun v h3 tk3 k3 r3 => q _ _ _ ((k.trans k').trans k3) r3
theorem SOk.reinst {X₀ X X' : List Addr} {m : Str → Option Value} {b h h' : Heap} {x dx C : Addr} {fs fs' : List (String × V)} {self : String} {es' : List DictEntry}
    (S : SOk K X₀ X m b env Γ (some (self, .inst x dx C fs)) h) (hX' : ∀ a, a ∈ X' → a ∈ X) (k : Le X' ((h.hide dx).hide x) h') (I : InstP h' x dx C es') (rf : RpF X h' fs' es') :
    SOk K X₀ X m b env Γ (some (self, .inst x dx C fs')) h' := by
  obtain ⟨q1, q2, u, hm, es, rfl, hX, hdX, hL, hne, hb0, hb, I0, rf0⟩ := S.own self _ rfl
  have hLx : env.locals ≠ x := fun q => by
    obtain ⟨o, es, ep, ho, hd, _⟩ := S.ns
    obtain ⟨⟨ox, hx, _, _, hp⟩, _⟩ := I0
    rw [q, hx] at ho; cases ho; rw [hp] at hd; cases hd
  have st : Stays X X h h' := fun a o ha e => ⟨ha, k.get (hide2_of e (fun z => ha (z ▸ hX)) (fun z => ha (z ▸ hdX))) fun z => ha (hX' a z)⟩
  have cell : ∀ c v, h.IsCell c v → h'.IsCell c v := fun c v hc => by
    obtain ⟨o, ho, hd⟩ := hc
    refine k.cell ⟨o, hide2_of ho (fun z => ?_) (fun z => ?_), hd⟩
    · obtain ⟨⟨ox, hx, _, _, hp⟩, _⟩ := I0
      rw [z, hx] at ho; cases ho; rw [hp] at hd; cases hd
    · obtain ⟨_, ⟨od, n, hx, _, hp⟩⟩ := I0
      rw [z, hx] at ho; cases ho; rw [hp] at hd; cases hd
  refine ⟨S.ok, S.cx, S.sup, S.new, fun a ha => ?_, S.lin, S.lnew, fun a o e => ?_, ?_, fun z d' e => ?_, fun z o e => ?_, S.cel.of fun c v _ ho => ⟨v, cell c v ho⟩⟩
  · by_cases q : a = x
    · obtain ⟨⟨ox, hx, _⟩, _⟩ := I
      rw [q, hx]; rfl
    · by_cases q' : a = dx
      · obtain ⟨_, ⟨od, n, hx, _⟩⟩ := I
        rw [q', hx]; rfl
      · obtain ⟨o, ho⟩ := Option.isSome_iff_exists.mp (S.liv a ha)
        exact k.live (by rw [hide2_of ho q q']; rfl)
  · obtain ⟨⟨sl, e₁⟩, k₁⟩ := S.le a o e
    have n1 : a ≠ x := fun q => by rw [q, hb0] at e; cases e
    have n2 : a ≠ dx := fun q => by rw [q, hb] at e; cases e
    obtain ⟨⟨sl', e₂⟩, _⟩ := k a _ (hide2_of e₁ n1 n2)
    refine ⟨⟨sl', e₂⟩, fun hX0 => (k a o (hide2_of (k₁ hX0) n1 n2)).2 fun hx => ?_⟩
    rcases S.new a (hX' a hx) with q | q
    · exact hX0 q
    · rw [q] at e; cases e
  · obtain ⟨o, es, ep, ho, r⟩ := S.ns
    exact k.ns ⟨o, es, ep, hide2_of ho hLx (Ne.symm hL), r⟩
  · obtain ⟨p1, u, p2, p3⟩ := S.vars z d' e
    exact ⟨p1, u, p2.mono st, p3.imp id fun ⟨p, c, hc, hX, ho⟩ => ⟨p, c, hc, hX, cell _ _ ho⟩⟩
  · cases e
    exact ⟨q1, q2, _, hm, es', rfl, hX, hdX, hL, hne, hb0, hb, I, rf⟩
/-- «Base.__init__(self, e)» within an __init__ -/
theorem Ex1.super {x dx C B f : Addr} {fs fs' : List (String × V)} {self base : String} {bp ap pos p2 sp : Pos} {e : PySem.Expr} {d : V} {m : Nat} (hb : Ev prog w K n env Γ (.Name (Str.ofString base) bp) (.glob (.ref B)))
    (hg : specialIn K (.ref B) "__getattribute__" = some (some (.builtin "type.__getattribute__"))) {mc : Value} (hr : readsIn K B mc = true) (hfc : findCls K (.ref B) mc "__init__" = some (.val (.ref f))) (hk : keepIn K (.ref f) = true)
    (he : Ev prog w K n env Γ e d) (hI : Inits prog w K m f C [d] fs fs') (hmn : m ≤ n := by decide) (hl : (ap.endLine == pos.line) = true := by rfl)
    (hse2 : starEach [e] env = [(false, eval e env)] := by rfl)
    (hi : interactive env = false := by rfl) (hsw : swapsWith (.Call (.Attribute (.Name (Str.ofString base) bp) "__init__" ap) [.Name (Str.ofString self) sp, e] [] pos) none p2.line env = pure false := by rfl) :
    Ex1 prog w K n env Γ (some (self, .inst x dx C fs)) (.Expr (.Call (.Attribute (.Name (Str.ofString base) bp) "__init__" ap) [.Name (Str.ofString self) sp, e] [] pos) p2) (.next Γ (some (self, .inst x dx C fs'))) := fun X₀ X m' b A s Q E B' S q => by
  have hse : starEach [.Name (Str.ofString self) sp, e] env = [(false, eval (.Name (Str.ofString self) sp) env), (false, eval e env)] := by
    rw [show starEach (Expr.Name (Str.ofString self) sp :: [e]) env = (false, eval (.Name (Str.ofString self) sp) env) :: starEach [e] env from rfl, hse2]
  refine wpAny_Expr ?_ hi hsw
  rw [arm_eval_Call]
  refine wpAny_bind (hb X A s _ E S.cxX (B'.aok S) S.lok fun v h1 tk1 k1 r1 => wpAny_bind (wpAny_standAt ?_))
  simp only [Rp] at r1
  subst r1
  have S1 := S.step k1
  unfold methodCall
  have hf : methodCallForm ([Expr.Name (Str.ofString self) sp, e].length + ([] : List Keyword).length) (backTo pos (starEach [.Name (Str.ofString self) sp, e] env)) (backToKw pos (keywordEach [] env)) = true := by rw [hse]; rfl
  rw [hf]
  refine wpAny_bind (wpAny_holding ?_)
  refine method_cls S1.cxX.ki hg ?_
  refine cls_value S1.cxX.ki hr hfc rfl ?_
  unfold methodCallPos
  rw [hl]
  refine wpAny_bind (wpAny_pure ?_)
  refine callWith_K (h₀ := h1) (first := []) S1.cxX.ki hk ?_ rfl (by rw [hse2]; rfl)
  rw [hse]
  show wpAny _ _ (spliced [(false, eval (.Name (Str.ofString self) sp) env), (false, eval e env)]) _ _ _
  obtain ⟨q1, q2, u, hm, es, rfl, hX, hdX, hL, hne, hb0, hb1, I, rf⟩ := S1.own self _ rfl
  refine spliced_cons (wpAny_Name (wpAny_loadName_local S.ok.kind q2 S1.ns hm ?_) q1)
  refine spliced_cons (he X A _ _ E S1.cxX (B'.aok S1) S1.lok fun v2 h2 tk2 k2 r2 => ?_)
  have S2 := S1.step k2
  refine spliced_nil ⟨S2.cxX.ki, ?_⟩
  obtain ⟨q1, q2, u, hm', es2, hu, hX, hdX, hL, hne, hb0, hb1, I2, rf2⟩ := S2.own self _ rfl
  have hLx : env.locals ≠ x := fun q => by
    obtain ⟨o, es, ep, ho, hd, _⟩ := S2.ns
    obtain ⟨⟨ox, hx, _, _, hp⟩, _⟩ := I2
    rw [q, hx] at ho; cases ho; rw [hp] at hd; cases hd
  have hfl : ∀ a, a ∈ X.filter (fun a => decide (a ≠ x ∧ a ≠ dx)) ↔ a ∈ X ∧ a ≠ x ∧ a ≠ dx := fun a => by simp [List.mem_filter]
  have kl : ∀ a, a ∈ X → b.get? a = none → K.lookup a = none := fun a ha q => S2.cxX.off a ha
  have cxf : Cx K (X.filter (fun a => decide (a ≠ x ∧ a ≠ dx))) ((h2.hide dx).hide x) := by
    have c := S2.cxX
    have ns2 : ∀ {a mm}, h2.Ns a mm → K.lookup a ≠ none ∨ a ≠ x ∧ a ≠ dx → ((h2.hide dx).hide x).Ns a mm := fun {a mm} hn hq => by
      obtain ⟨o, es, ep, ho, r⟩ := hn
      have : a ≠ x ∧ a ≠ dx := hq.elim (fun z => ⟨fun q => z (q ▸ c.off x hX), fun q => z (q ▸ c.off dx hdX)⟩) id
      exact ⟨o, es, ep, hide2_of ho this.1 this.2, r⟩
    have nb : ∀ {a mm}, b.Ns a mm → a ≠ x ∧ a ≠ dx := fun {a mm} hn => by
      obtain ⟨o, es, ep, ho, r⟩ := hn
      exact ⟨fun q => (by rw [q, hb0] at ho; cases ho), fun q => (by rw [q, hb1] at ho; cases ho)⟩
    refine ⟨fun a o e => hide2_of (c.ki a o e) (fun q => ?_) (fun q => ?_), fun a ha => c.off a ((hfl a).mp ha).1, fun a ha => ?_, ?_, ?_, ?_, ?_⟩
    · rw [q, c.off x hX] at e; cases e
    · rw [q, c.off dx hdX] at e; cases e
    · obtain ⟨h1, h2, h3⟩ := (hfl a).mp ha
      obtain ⟨o, ho⟩ := Option.isSome_iff_exists.mp (c.liv a h1)
      rw [hide2_of ho h2 h3]; rfl
    · obtain ⟨mc, hn, e⟩ := S2.cx.lim
      exact ⟨mc, ns2 (S2.le.ns hn) (.inr (nb hn)), e⟩
    · obtain ⟨mc, hn⟩ := S2.cx.glb
      exact ⟨mc, ns2 (S2.le.ns hn) (.inr (nb hn))⟩
    · obtain ⟨mc, hn, e⟩ := S2.cx.blt
      exact ⟨mc, ns2 (S2.le.ns hn) (.inr (nb hn)), e⟩
    · obtain ⟨mc, hn, e⟩ := S2.cx.dig
      exact ⟨mc, ns2 (S2.le.ns hn) (.inr (nb hn)), e⟩
  have aof : AOk m (X.filter (fun a => decide (a ≠ x ∧ a ≠ dx))) A h2 := by
    have ao := (B'.aok S2).less hmn
    refine ⟨ao.dep, ao.uni, ao.hdl, ?_⟩
    obtain ⟨l, hl, hf⟩ := B'.frm
    refine ⟨l, hl, fun e he => ?_⟩
    obtain ⟨hk, L, hL', q⟩ := hf e he
    refine ⟨hk, L, ?_⟩
    rcases q with rfl | ⟨hX0, o, ho, hd⟩
    · obtain ⟨o, es, ep, ho, hd, _⟩ := S2.ns
      exact ⟨o, hL', (hfl _).mpr ⟨S2.lin, hLx, Ne.symm hL⟩, ho, fun vs q => by rw [hd] at q; cases q⟩
    · obtain ⟨⟨sl, e⟩, _⟩ := S2.le L o ho
      exact ⟨_, hL', (hfl _).mpr ⟨S2.sup L hX0, fun q => (by rw [q, hb0] at ho; cases ho), fun q => (by rw [q, hb1] at ho; cases ho)⟩, e, hd⟩
  have inc : ∀ a, a ∈ x :: dx :: X.filter (fun a => decide (a ≠ x ∧ a ≠ dx)) → a ∈ X := fun a ha => by
    rcases List.mem_cons.mp ha with rfl | ha
    · exact hX
    · rcases List.mem_cons.mp ha with rfl | ha
      · exact hdX
      · exact ((hfl a).mp ha).1
  have inc' : ∀ a, a ∈ X → a ∈ x :: dx :: X.filter (fun a => decide (a ≠ x ∧ a ≠ dx)) := fun a ha => by
    by_cases q : a = x
    · simp [q]
    · by_cases q' : a = dx
      · simp [q']
      · exact .tail _ (.tail _ ((hfl a).mpr ⟨ha, q, q'⟩))
  refine wpAny_call (hI (X.filter (fun a => decide (a ≠ x ∧ a ≠ dx))) A ⟨h2, _, _, _, _⟩ x dx es2 [v2] _ cxf aof (.cons (r2.sub fun a ha _ => inc a ha) .nil) (fun z => ((hfl x).mp z).2.1 rfl) (fun z => ((hfl dx).mp z).2.2 rfl) hne (S2.cxX.off x hX) (S2.cxX.off dx hdX) I2 (rf2.mono fun a o ha e => ⟨fun z => ha (inc a z), e⟩) fun h3 tk3 es3 k3 I3 rf3 => ?_)
  exact q _ _ _ ⟨rfl, X, m', S2.reinst (fun a ha => ((hfl a).mp ha).1) k3 I3 (rf3.mono fun a o ha e => ⟨fun z => ha (inc' a z), e⟩)⟩
end
end
section
noncomputable def noRef : Value → Bool
  | .ref _ => false
  | _ => true
theorem keeper_noRef {f : Value} (h : noRef f = true) : keeperOf f = pure .machine := by
  cases f <;> first | rfl | cases h
section
variable {M : Model} {A : Around} {E : Value → Shared → Prop} {Q : Value → Shared → Prop} {s : Shared} {env : Env} {f : Value} {first : List Value} {pos : Pos}
theorem callWith_B {e : PySem.Expr} {rest : List PySem.Expr} (hk : noRef f = true) (h : wpAny M A (spliced (backTo pos (starEach (e :: rest) env))) (fun vs s₁ => wpAny M A (call f (first ++ vs)) Q E s₁) E s)
    (he : starEach (e :: rest) env = (false, eval e env) :: starEach rest env := by rfl) (hplain : (backTo pos (starEach rest env)).any (·.1) = false := by rfl) :
    wpAny M A (callWith pos f first (backTo pos (starEach (e :: rest) env)) []) Q E s := by
  rw [he] at h ⊢
  exact callWith_of (P := fun _ => True) (by show ((false || (backTo pos (starEach rest env)).any (·.1)) || false) = false; rw [hplain]; rfl) (fun _ _ => ⟨.machine, .inr (.inl rfl), Looks.of_pure (keeper_noRef hk)⟩)
    (evalArgs_plain (wpAny_mono h (fun _ _ q => ⟨trivial, q⟩) fun _ _ q => q))
theorem callWith_B0 (hk : noRef f = true) (h : wpAny M A (call f (first ++ [])) Q E s) : wpAny M A (callWith pos f first (backTo pos (starEach [] env)) []) Q E s :=
  callWith_of (P := fun _ => True) rfl (fun _ _ => ⟨.machine, .inr (.inl rfl), Looks.of_pure (keeper_noRef hk)⟩) (evalArgs_nil3 ⟨trivial, h⟩)
end
section
variable {prog : Program} {w : World} {K : Frag} {n : Nat} {env : Env} {Γ : Lc}
theorem Ev.callB {x : Str} {p pos : Pos} {f : Value} {e : PySem.Expr} {es : List PySem.Expr} {ds : List V} {d : V} (hf : Ev prog w K n env Γ (.Name x p) (.glob f)) (hk : noRef f = true)
    (hs : EvL prog w K n env Γ (e :: es) ds) (hc : Calls prog w K 0 f ds d)
    (he : starEach (e :: es) env = (false, eval e env) :: starEach es env := by rfl) (hp : (backTo pos (starEach es env)).any (·.1) = false := by rfl) : Ev prog w K n env Γ (.Call (.Name x p) (e :: es) [] pos) d := fun X A s Q E c a l q => by
  refine wpAny_Call_NameR (hf X A s _ E c a l fun v h' tk k r => ?_)
  simp only [Rp] at r
  subst r
  refine callWith_B hk (hs X A _ pos _ E (c.le k) (a.le k) (l.le k) fun vs h'' tk' k' r' => ?_) he hp
  exact hc X A _ vs Q E ((c.le k).le k') (((a.le k).le k').less (Nat.zero_le _)) r' fun v h3 tk3 k3 r3 => q _ _ _ ((k.trans k').trans k3) r3
theorem RpL.one {X : List Addr} {h : Heap} {d : V} {vs : List Value} (r : RpL X h [d] vs) : ∃ v, vs = [v] ∧ Rp X h d v := by
  simp only [RpL] at r
  obtain ⟨v, ws, rfl, r, rfl⟩ := r
  exact ⟨v, rfl, r⟩
theorem RpL.two {X : List Addr} {h : Heap} {d e : V} {vs : List Value} (r : RpL X h [d, e] vs) : ∃ v u, vs = [v, u] ∧ Rp X h d v ∧ Rp X h e u := by
  simp only [RpL] at r
  obtain ⟨v, ws, rfl, r, u, ws', rfl, r', rfl⟩ := r
  exact ⟨v, u, rfl, r, r'⟩
theorem Rp.int {X : List Addr} {h : Heap} {i : Int} {t : Tok} : Rp X h (.int i) (.int i t) := by simp only [Rp]; exact ⟨_, rfl⟩
theorem Rp.str {X : List Addr} {h : Heap} {i : Str} {t : Tok} : Rp X h (.str i) (.str i t) := by simp only [Rp]; exact ⟨_, rfl⟩
theorem Rp.bool {X : List Addr} {h : Heap} {i : Bool} : Rp X h (.bool i) (.bool i) := by simp only [Rp]
theorem Rp.none {X : List Addr} {h : Heap} : Rp X h .none .none := by simp only [Rp]
theorem Calls.lenL {ds : List V} {m : Int} (hz : ds.length ≤ 1000 := by decide) (hm : (ds.length : Int) = m := by rfl) : Calls prog w K 0 (.builtin "len") [.lst ds] (.int m) := fun X A s vs Q E c a r q => by
  subst hm
  replace r := r.one; obtain ⟨v, rfl, r⟩ := r
  simp only [Rp] at r
  obtain ⟨b, vs, rfl, hb, hl, rl⟩ := r
  have := rl.length
  exact PyProof.Rows.len_list hl.isList (by rw [List.size_toArray]; omega) (q _ _ _ (Le.refl _ _) (by simp only [Rp, List.size_toArray, this]; exact ⟨_, rfl⟩))
theorem Calls.lenS {ns : List Int} (hz : ns.length ≤ 1000) : Calls prog w K 0 (.builtin "len") [.scr ns] (.int ns.length) := fun X A s vs Q E c a r q => by
  replace r := r.one; obtain ⟨v, rfl, r⟩ := r
  simp only [Rp] at r
  obtain ⟨b, vs, rfl, hb, hl, rl⟩ := r
  have := rl.length
  exact PyProof.Rows.len_list hl (by rw [List.size_toArray]; omega) (q _ _ _ (Le.refl _ _) (by simp only [Rp, List.size_toArray, this]; exact ⟨_, rfl⟩))
theorem Calls.lenB {b : Array UInt8} {m : Int} (hm : (b.size : Int) = m) (hz : b.size ≤ 1000) : Calls prog w K 0 (.builtin "len") [.bts b] (.int m) := fun X A s vs Q E c a r q => by
  subst hm
  replace r := r.one; obtain ⟨v, rfl, r⟩ := r
  simp only [Rp] at r
  obtain ⟨t, rfl⟩ := r
  exact PySem.W.len_bytes (by omega) (q _ _ _ (Le.refl _ _) .int)
theorem Calls.strI {a : Int} (ha : a.natAbs.log2 < 1920) : Calls prog w K 0 (.type "str") [.int a] (.str (toString a)) := fun X A s vs Q E c ao r q => by
  replace r := r.one; obtain ⟨v, rfl, r⟩ := r
  simp only [Rp] at r
  obtain ⟨t, rfl⟩ := r
  exact PySem.P.str_of_int ha (q _ _ _ (Le.refl _ _) .str)
theorem Calls.tupL {ds : List V} (hz : ds.length ≤ 1000) : Calls prog w K 0 (.type "tuple") [.lst ds] (.tup ds) := fun X A s vs Q E c a r q => by
  replace r := r.one; obtain ⟨v, rfl, r⟩ := r
  simp only [Rp] at r
  obtain ⟨b, vs, rfl, hb, hl, rl⟩ := r
  have := rl.length
  refine call_tuple_list hl.isList (fun h' k => ?_) (by rw [List.size_toArray, sizeLine_eq]; omega)
  have le : Le X s.heap (h'.push { cls := .type "tuple", data := .seq vs.toArray }) := .of_stays fun a o e => Heap.get?_push_of_some _ (k a o e)
  have le' : Le X s.heap h' := .of_stays k
  exact q _ _ _ le (Rp.tup_new rl le ((c.le le').nxs (Nat.le_refl _)) ⟨_, Heap.get?_push_size _ rfl, rfl, 0, rfl⟩)
theorem list_copy {X : List Addr} {A : Around} {s : Shared} {Q : Value → Shared → Prop} {E : Value → Shared → Prop} (c : Cx K X s.heap) {T : String} {b : Addr} {ds : List V} {vs : List Value} {o : Obj} {nn : Nat} (hT : T = "list" ∨ T = "tuple") (ho : s.heap.get? b = some o) (hc : o.cls = .type T) (hd : o.data = .seq vs.toArray nn) (rl : RpL X s.heap ds vs) (hz : ds.length ≤ 1000)
    (q : ∀ v h' tk, Le X s.heap h' → Rp X h' (.lst ds) v → Q v ⟨h', s.gens, s.drawn, tk, s.os⟩) : wpAny (model prog w) A (call (.type "list") [.ref b]) Q E s := by
  refine call_list_seq b hT ho hc hd (fun h' c' k e => ?_) (by rw [List.size_toArray, sizeLine_eq, rl.length]; omega)
  have le : Le X s.heap h' := .of_stays k
  exact q _ _ _ le (Rp.lst_new rl le (c.nxs (Nat.le_refl _)) ⟨_, e, rfl, rfl, c', rfl⟩)
theorem Calls.lstL {ds : List V} (hz : ds.length ≤ 1000) : Calls prog w K 0 (.type "list") [.lst ds] (.lst ds) := fun X A s vs Q E c a r q => by
  replace r := r.one; obtain ⟨v, rfl, r⟩ := r
  simp only [Rp] at r
  obtain ⟨b, vs, rfl, hb, ⟨o, ho, hc, _, nn, hd⟩, rl⟩ := r
  exact list_copy c (.inl rfl) ho hc hd rl hz q
theorem Calls.lstT {ds : List V} (hz : ds.length ≤ 1000) : Calls prog w K 0 (.type "list") [.tup ds] (.lst ds) := fun X A s vs Q E c a r q => by
  replace r := r.one; obtain ⟨v, rfl, r⟩ := r
  simp only [Rp] at r
  obtain ⟨b, vs, rfl, hb, ⟨o, ho, hc, nn, hd⟩, rl⟩ := r
  exact list_copy c (.inr rfl) ho hc hd rl hz q
theorem Calls.intB {b : Bool} : Calls prog w K 0 (.type "int") [.bool b] (.int (if b then 1 else 0)) := fun X A s vs Q E c a r q => by
  replace r := r.one; obtain ⟨v, rfl, r⟩ := r
  simp only [Rp] at r
  subst r
  exact call_int_bool (q _ _ _ (Le.refl _ _) .int)
theorem ints_of {X : List Addr} {h : Heap} : ∀ {ns : List Int} {vs : List Value}, RpL X h (ns.map .int) vs → IntsAre vs ns
  | [], vs, r => by simp only [List.map_nil, RpL] at r; subst r; exact .nil
  | i :: ns, vs, r => by
    simp only [List.map_cons, RpL, Rp] at r
    obtain ⟨v, ws, rfl, ⟨t, rfl⟩, r⟩ := r
    exact .cons _ _ (ints_of r)
theorem Calls.bts {ns : List Int} (hz : ns.length ≤ 1000) (hr : ∀ n ∈ ns, 0 ≤ n ∧ n < 256) : Calls prog w K 0 (.type "bytes") [.lst (ns.map .int)] (.bts (byteArr ns)) := fun X A s vs Q E c a r q => by
  replace r := r.one; obtain ⟨v, rfl, r⟩ := r
  simp only [Rp] at r
  obtain ⟨b, vs, rfl, hb, hl, rl⟩ := r
  have := rl.length
  rw [List.length_map] at this
  exact call_bytes_ints hl.isList (ints_of rl) hr (by rw [sizeLine_eq]; omega) a.hdl fun h' t k kk => q _ _ _ (.of_stays kk) (by simp only [Rp]; exact ⟨_, rfl⟩)
end
end
section
section
variable {prog : Program} {w : World} {K : Frag} {n : Nat} {env : Env} {Γ : Lc}
theorem RpL.get {X : List Addr} {h : Heap} : ∀ {ds : List V} {vs : List Value} (r : RpL X h ds vs) (i : Nat) {d : V}, ds[i]? = some d → ∃ v, vs[i]? = some v ∧ Rp X h d v
  | [], vs, r, i, d, e => by cases e
  | d :: ds, vs, r, i, d', e => by
    simp only [RpL] at r
    obtain ⟨v, ws, rfl, r, rs⟩ := r
    cases i with
    | zero => cases e; exact ⟨v, rfl, r⟩
    | succ i => simpa using RpL.get rs i (by simpa using e)
theorem RpL.take {X : List Addr} {h : Heap} : ∀ {ds : List V} {vs : List Value} (r : RpL X h ds vs) (i : Nat), RpL X h (ds.take i) (vs.take i)
  | [], vs, r, i => by simp only [RpL] at r; subst r; simp only [List.take_nil, RpL]
  | d :: ds, vs, r, i => by
    simp only [RpL] at r
    obtain ⟨v, ws, rfl, r, rs⟩ := r
    cases i with
    | zero => simp only [List.take_zero, RpL]
    | succ i => simp only [List.take_succ_cons]; exact .cons r (rs.take i)
theorem RpL.pick {X : List Addr} {h : Heap} {ds : List V} {vs : List Value} (r : RpL X h ds vs) (f : Nat → Nat) : ∀ ks : List Nat, RpL X h (ks.filterMap fun k => ds[f k]?) (ks.filterMap fun k => vs[f k]?)
  | [] => by simp only [List.filterMap_nil, RpL]
  | k :: ks => by
    rw [List.filterMap_cons, List.filterMap_cons]
    cases e : ds[f k]? with
    | none =>
      have : vs[f k]? = none := by
        have := r.length
        rw [List.getElem?_eq_none_iff] at e ⊢
        omega
      simp only [this]
      exact r.pick f ks
    | some d =>
      obtain ⟨v, hv, rv⟩ := r.get _ e
      simp only [hv]
      exact .cons rv (r.pick f ks)
theorem Op2.itemT {ds : List V} {i : Int} {j : Nat} {d : V} (hj : seqIndex? i ds.length = some j) (hd : ds[j]? = some d) (h0 : -(2 ^ 63) ≤ i := by decide) (h1 : i < 2 ^ 63 := by decide) : Op2 prog w K getItem (.tup ds) (.int i) d := fun n X A s x y Q E c ao ra rb q => by
  simp only [Rp] at ra rb; obtain ⟨t, rfl⟩ := rb
  obtain ⟨a, vs, rfl, ha, ht, rl⟩ := ra
  obtain ⟨v, hv, rv⟩ := rl.get _ hd
  exact PyProof.Rows.getItem_tuple ht h0 h1 (by rw [List.size_toArray, rl.length]; exact hj) (by simpa using hv) (q _ _ _ (Le.refl _ _) rv)
theorem Op2.itemL {ds : List V} {i : Int} {d : V} (h0 : 0 ≤ i) (hd : ds[i.toNat]? = some d) (h1 : i < 2 ^ 63 := by omega) : Op2 prog w K getItem (.lst ds) (.int i) d := fun n X A s x y Q E c ao ra rb q => by
  simp only [Rp] at ra rb; obtain ⟨t, rfl⟩ := rb
  obtain ⟨a, vs, rfl, ha, ht, rl⟩ := ra
  obtain ⟨v, hv, rv⟩ := rl.get _ hd
  exact wpAny_getItem_list ht.isList h0 h1 (by simpa using hv) (q _ _ _ (Le.refl _ _) rv)
theorem ints_get : ∀ {vs : List Value} {ns : List Int} (r : IntsAre vs ns) (i : Nat) {k : Int}, ns[i]? = some k → ∃ t, vs[i]? = some (.int k t)
  | _, _, .nil, i, k, e => by cases e
  | _, _, .cons m t r, i, k, e => by
    cases i with
    | zero => cases e; exact ⟨t, rfl⟩
    | succ i => simpa using ints_get r i (by simpa using e)
theorem Op2.itemS {ns : List Int} {i : Int} {d : Int} (h0 : 0 ≤ i) (hd : ns[i.toNat]? = some d) (h1 : i < 2 ^ 63 := by omega) : Op2 prog w K getItem (.scr ns) (.int i) (.int d) := fun n X A s x y Q E c ao ra rb q => by
  simp only [Rp] at ra rb; obtain ⟨t, rfl⟩ := rb
  obtain ⟨a, vs, rfl, ha, ht, rl⟩ := ra
  obtain ⟨v, hv⟩ := ints_get rl _ hd
  exact wpAny_getItem_list ht h0 h1 (by simpa using hv) (q _ _ _ (Le.refl _ _) .int)
theorem Op2.itemC {x : Str} {i : Int} {d : Nat} (hd : (seqIndex? i x.length).bind (x.cps[·]?) = some d) (h0 : -(2 ^ 63) ≤ i := by decide) (h1 : i < 2 ^ 63 := by decide) : Op2 prog w K getItem (.str x) (.int i) (.str ⟨#[d]⟩) := fun n X A s a b Q E c ao ra rb q => by
  simp only [Rp] at ra rb; obtain ⟨t, rfl⟩ := rb; obtain ⟨u, rfl⟩ := ra
  exact PyProof.Rows.getItem_str (by simp; omega) hd (q _ _ _ (Le.refl _ _) .str)
noncomputable def V.subT : V → Option String
  | .lst _ | .scr _ => some "list"
  | .tup _ => some "tuple"
  | .str _ => some "str"
  | _ => Option.none
theorem sub_tail {X : List Addr} {A : Around} {s : Shared} {Q : Value → Shared → Prop} {E : Value → Shared → Prop} {value slice : PySem.Expr} {d : V} {o i : Value} {ops : List Value} (r : Rp X s.heap d o) (hd : d.subT.isSome = true)
    (hs : subscripted slice false o i = operate ops (getItem o i)) (hg : wpAny (model prog w) A (getItem o i) Q E s) : wpAny (model prog w) A (subscriptTail value slice o i) Q E s := by
  cases d with
  | lst ds =>
    simp only [Rp] at r
    obtain ⟨a, vs, rfl, ha, ht, rl⟩ := r
    exact tail_any ht.isList.typeIs PySem.F.slot_list_getitem.lookup hg hs
  | scr ds =>
    simp only [Rp] at r
    obtain ⟨a, vs, rfl, ha, ht, rl⟩ := r
    exact tail_any ht.typeIs PySem.F.slot_list_getitem.lookup hg hs
  | tup ds =>
    simp only [Rp] at r
    obtain ⟨a, vs, rfl, ha, ht, rl⟩ := r
    exact tail_any ht.typeIs PySem.F.slot_tuple_getitem.lookup hg hs
  | str x =>
    simp only [Rp] at r
    obtain ⟨t, rfl⟩ := r
    exact tail_any (typeIs_str _ _ _) PySem.F.slot_str_getitem.lookup hg hs
  | _ => exact absurd hd (by simp [V.subT])
theorem Ev.sub {o i : PySem.Expr} {pos : Pos} {d e r : V} (ho : Ev prog w K n env Γ o d) (hi : Ev prog w K n env Γ i e) (h : Op2 prog w K getItem d e r) (hd : d.subT.isSome = true := by rfl)
    (hs : ∀ a b, subscripted i false a b = operate [a, b] (getItem a b) := by intro _ _; rfl) : Ev prog w K n env Γ (.Subscript o i pos) r := fun X A s Q E c a l q => by
  refine Subscript_ (ho X A s _ E c a l fun v h' tk k ro => hi X A _ _ E (c.le k) (a.le k) (l.le k) fun u h'' tk' k' ri => ?_)
  exact sub_tail (ro.le k') hd (hs _ _) (h n X A _ v u Q E ((c.le k).le k') ((a.le k).le k') (ro.le k') ri fun v h3 tk3 k3 r3 => q _ _ _ ((k.trans k').trans k3) r3)
-- slices
noncomputable def EvP (prog : Program) (w : World) (K : Frag) (n : Nat) (env : Env) (Γ : Lc) (x : Option PySem.Expr) (o : Option Int) : Prop :=
  ∀ (X : List Addr) (A : Around) (s : Shared) (Q : Value → Shared → Prop) (E : Value → Shared → Prop), Cx K X s.heap → AOk n X A s.heap → LOk X env Γ s.heap →
    (∀ v h' tk, Le X s.heap h' → IsPart v o → Q v ⟨h', s.gens, s.drawn, tk, s.os⟩) → wpAny (model prog w) A (evalPart x env) Q E s
theorem EvP.no : EvP prog w K n env Γ none none := fun X A s Q E c a l q => by
  rw [evalPart_none]; exact wpAny_pure (q _ _ _ (Le.refl _ _) .none)
theorem EvP.yes {e : PySem.Expr} {i : Int} (h : Ev prog w K n env Γ e (.int i)) : EvP prog w K n env Γ (some e) (some i) := fun X A s Q E c a l q => by
  rw [evalPart_some]
  exact h X A s _ E c a l fun v h' tk k r => by
    simp only [Rp] at r; obtain ⟨t, rfl⟩ := r
    exact q _ _ _ k (.int _ _)
theorem slicePart_of {A : Around} {s : Shared} {E : Value → Shared → Prop} {v : Value} {o : Option Int} {Q : Option Int → Shared → Prop} (p : IsPart v o) (h : Q o s) : wpAny (model prog w) A (Builtin.Slice.slicePartIndex v) Q E s := by
  cases p with
  | none => exact slicePart_none h
  | int i t => exact slicePart_int h
theorem sliceApplied_of {A : Around} {s : Shared} {E : Value → Shared → Prop} {sl : Addr} {nn : Nat} {vl vu : Value} {lo hi : Option Int} {Q : Int × Int × Nat → Shared → Prop} (hs : s.heap.IsSliceOf sl vl vu .none) (pl : IsPart vl lo) (pu : IsPart vu hi)
    (h : Q ((Builtin.Slice.sliceAdjust lo hi 1 nn).1, 1, Builtin.Slice.slicePlaces (Builtin.Slice.sliceAdjust lo hi 1 nn).1 (Builtin.Slice.sliceAdjust lo hi 1 nn).2 1) s) :
    wpAny (model prog w) A (Builtin.Slice.sliceApplied (.ref sl) (pure (nn : Int))) Q E s := by
  obtain ⟨os, hos, hcs, hds⟩ := id hs
  unfold Builtin.Slice.sliceApplied Builtin.Slice.sliceFields
  refine wpAny_bind (wpAny_bind (wpAny_field hos hds (x := vl) rfl (wpAny_bind (wpAny_field hos hds (x := vu) rfl (wpAny_bind (wpAny_field hos hds (x := .none) rfl (wpAny_pure ?_)))))))
  refine wpAny_bind (slicePart_none ?_)
  show wpAny _ _ (if ((1 : Int) == 0) = true then _ else _) _ _ s
  rw [if_neg (by decide)]
  refine wpAny_bind (slicePart_of pl (wpAny_bind (slicePart_of pu (wpAny_bind (wpAny_pure ?_)))))
  exact wpAny_pure h
noncomputable def cutAt (lo hi : Option Int) (nn : Nat) : Int × Nat := ((Builtin.Slice.sliceAdjust lo hi 1 nn).1, Builtin.Slice.slicePlaces (Builtin.Slice.sliceAdjust lo hi 1 nn).1 (Builtin.Slice.sliceAdjust lo hi 1 nn).2 1)
noncomputable def cutT (lo hi : Option Int) (ds : List V) : List V := (List.range (cutAt lo hi ds.length).2).filterMap fun (k : Nat) => ds[((cutAt lo hi ds.length).1 + (k : Int) * 1).toNat]?
theorem getItem_cut {A : Around} {s : Shared} {E : Value → Shared → Prop} {t sl : Addr} {items : Array Value} {vl vu : Value} {lo hi : Option Int} {Q : Value → Shared → Prop} (ht : IsTup s.heap t items) (hs : s.heap.IsSliceOf sl vl vu .none) (pl : IsPart vl lo) (pu : IsPart vu hi)
    (hno : ((cutAt lo hi items.size).1 == 0 && (1 : Int) == 1 && (cutAt lo hi items.size).2 == items.size) = false) (hsm : (cutAt lo hi items.size).2 ≤ 1000)
    (h : Q (.ref s.heap.objs.size) { s with heap := s.heap.push { cls := .type "tuple", data := .seq ((List.range (cutAt lo hi items.size).2).filterMap fun (k : Nat) => items[((cutAt lo hi items.size).1 + (k : Int) * 1).toNat]?).toArray } }) :
    wpAny (model prog w) A (getItem (.ref t) (.ref sl)) Q E s := by
  have hdrop : sizeOk (.seq ((List.range (cutAt lo hi items.size).2).filterMap fun (k : Nat) => items[((cutAt lo hi items.size).1 + (k : Int) * 1).toNat]?).toArray) := by
    show Array.size _ ≤ sizeLine
    rw [List.size_toArray]
    have := List.length_filterMap_le (fun k : Nat => items[((cutAt lo hi items.size).1 + (k : Int) * 1).toNat]?) (List.range (cutAt lo hi items.size).2)
    rw [List.length_range] at this
    rw [sizeLine_eq]; omega
  obtain ⟨os, hos, hcs, hds⟩ := id hs
  have hTs : s.TypeIs (.ref sl) "slice" := ⟨os, hos, hcs⟩
  unfold getItem
  try with_reducible refine wpAny_holding ?_
  first | refine wpAny_bind (wpAny_pure ?_) | skip
  refine wpAny_bind (wpAny_sequenceKey ht.typeIs (by decide) ?_)
  refine wpAny_bind (wpAny_callSpecial?_slot (name := Str.ofString "__getitem__") ht.typeIs slot_tuple_getitem
    (wpAny_call_entry slot_tuple_getitem ht.typeIs entry_tuple_getitem ?_ (args_tuple_getitem _ _)))
  show wpAny _ _ (Builtin.Tuple.tupleItemsOf (.ref t) >>= _) _ _ s
  refine wpAny_bind (tupleItemsOf_ ht ?_)
  refine wpAny_bind (wpAny_typeOf hTs ?_)
  rw [if_pos (by decide)]
  refine wpAny_bind (sliceApplied_of hs pl pu ?_)
  show wpAny _ _ (if ((cutAt lo hi items.size).1 == 0 && (1 : Int) == 1 && (cutAt lo hi items.size).2 == items.size) = true then _ else _) _ _ s
  rw [if_neg (by rw [hno]; decide)]
  first
    | exact wpAny_bind (m := Builtin.Tuple.tupleExact _) (wpAny_newObj_type (wpAny_pure ⟨_, rfl, wpAny_pure h⟩) hdrop)
    | exact wpAny_bind (m := Builtin.Tuple.tupleExact _) (wpAny_newObj_type (wpAny_bind (wpAny_pure (wpAny_pure ⟨_, rfl, wpAny_pure h⟩))) hdrop)
    | exact wpAny_bind (wpAny_bind (m := Builtin.Tuple.tupleExact _) (wpAny_newObj_type (wpAny_pure (wpAny_pure ⟨_, rfl, wpAny_pure h⟩)) hdrop))
    | exact wpAny_bind (wpAny_bind (m := Builtin.Tuple.tupleExact _) (wpAny_newObj_type (wpAny_pure ⟨_, rfl, wpAny_pure h⟩) hdrop))
theorem Ev.cut {o : PySem.Expr} {a b : Option PySem.Expr} {sp pos : Pos} {ds es : List V} {lo hi : Option Int} (ho : Ev prog w K n env Γ o (.tup ds)) (ha : EvP prog w K n env Γ a lo) (hb : EvP prog w K n env Γ b hi) (he : cutT lo hi ds = es := by rfl)
    (hno : ((cutAt lo hi ds.length).1 == 0 && (1 : Int) == 1 && (cutAt lo hi ds.length).2 == ds.length) = false := by rfl) (hsm : (cutAt lo hi ds.length).2 ≤ 1000 := by decide) :
    Ev prog w K n env Γ (.Subscript o (.Slice a b none sp) pos) (.tup es) := fun X A s Q E c ao l q => by
  refine Subscript_ (ho X A s _ E c ao l fun v h' tk k ro => wpAny_Slice (ha X A _ _ E (c.le k) (ao.le k) (l.le k) fun u h'' tk' k' pl => hb X A _ _ E ((c.le k).le k') ((ao.le k).le k') ((l.le k).le k') fun u2 h3 tk3 k3 pu => ?_))
  rw [evalPart_none]
  refine wpAny_pure ?_
  have kk : Le X h3 (h3.push { cls := .type "slice", data := .fields #[u, u2, .none] }) := Le.push _ _ _
  have ro' := ((ro.le k').le k3).le kk
  have roo := ro'
  simp only [Rp] at ro'
  obtain ⟨t, vs, rfl, hX, ht, rl⟩ := ro'
  have hl := rl.length
  refine sub_tail roo rfl (ops := [.ref h3.objs.size, .ref t]) (by rfl) (getItem_cut ht (Heap.IsSliceOf.new ..) pl pu (by rw [List.size_toArray, hl]; exact hno) (by rw [List.size_toArray, hl]; exact hsm) ?_)
  refine q _ _ _ ((((k.trans k').trans k3).trans kk).trans (Le.push _ _ _)) ?_
  subst he
  refine Rp.tup_new (vs := (List.range (cutAt lo hi ds.length).2).filterMap fun (k : Nat) => vs[((cutAt lo hi ds.length).1 + (k : Int) * 1).toNat]?) (rl.pick (fun k => ((cutAt lo hi ds.length).1 + (k : Int) * 1).toNat) _) (Le.push _ _ _) (((((c.le k).le k').le k3).le kk).nxs (Nat.le_refl _)) ⟨_, Heap.get?_push_size _ rfl, rfl, 0, ?_⟩
  simp only [List.size_toArray, hl, List.getElem?_toArray]
theorem getItem_lcut {X : List Addr} {A : Around} {s : Shared} {E : Value → Shared → Prop} {Q : Value → Shared → Prop} (c : Cx K X s.heap) {t sl : Addr} {vs : List Value} {vl vu : Value} {lo hi : Option Int} {f : List Value → List Value} {es : List V} (ht : s.heap.IsList t vs.toArray) (hs : s.heap.IsSliceOf sl vl vu .none) (pl : IsPart vl lo) (pu : IsPart vu hi)
    (he : slicePick vs.toArray lo hi none = (f vs).toArray) (re : RpL X s.heap es (f vs)) (hz : vs.length ≤ 1000)
    (q : ∀ v h' tk, Le X s.heap h' → Rp X h' (.lst es) v → Q v ⟨h', s.gens, s.drawn, tk, s.os⟩) : wpAny (model prog w) A (getItem (.ref t) (.ref sl)) Q E s := by
  refine wpAny_getItem_list_slice ht hs pl pu .none (by simp) ?_ (by rw [List.size_toArray, sizeLine_eq]; omega)
  rw [he]
  exact q _ _ _ (Le.push _ _ _) (Rp.lst_new re (Le.push _ _ _) (c.nxs (Nat.le_refl _)) ⟨_, Heap.get?_push_size _ rfl, rfl, rfl, 0, rfl⟩)
theorem Ev.lcut {o : PySem.Expr} {a b : Option PySem.Expr} {sp pos : Pos} {ds es : List V} {lo hi : Option Int} {f : List Value → List Value} (ho : Ev prog w K n env Γ o (.lst ds)) (ha : EvP prog w K n env Γ a lo) (hb : EvP prog w K n env Γ b hi)
    (he : ∀ vs : List Value, vs.length = ds.length → slicePick vs.toArray lo hi none = (f vs).toArray) (hf : ∀ X h vs, RpL X h ds vs → RpL X h es (f vs)) (hz : ds.length ≤ 1000) :
    Ev prog w K n env Γ (.Subscript o (.Slice a b none sp) pos) (.lst es) := fun X A s Q E c ao l q => by
  refine Subscript_ (ho X A s _ E c ao l fun v h' tk k ro => wpAny_Slice (ha X A _ _ E (c.le k) (ao.le k) (l.le k) fun u h'' tk' k' pl => hb X A _ _ E ((c.le k).le k') ((ao.le k).le k') ((l.le k).le k') fun u2 h3 tk3 k3 pu => ?_))
  rw [evalPart_none]
  refine wpAny_pure ?_
  have kk : Le X h3 (h3.push { cls := .type "slice", data := .fields #[u, u2, .none] }) := Le.push _ _ _
  have ro' := ((ro.le k').le k3).le kk
  have roo := ro'
  simp only [Rp] at ro'
  obtain ⟨t, vs, rfl, hX, ht, rl⟩ := ro'
  have hl := rl.length
  exact sub_tail roo rfl (ops := [.ref h3.objs.size, .ref t]) (by rfl) (getItem_lcut (s := ⟨h3.push _, _, _, _, _⟩) ((((c.le k).le k').le k3).le kk) ht.isList (Heap.IsSliceOf.new ..) pl pu (he vs hl) (hf _ _ _ rl) (by omega)
    fun v h' tk k4 r4 => q _ _ _ ((((k.trans k').trans k3).trans kk).trans k4) r4)
theorem Ev.upto {o : PySem.Expr} {b : PySem.Expr} {sp pos : Pos} {ds : List V} {k : Nat} (ho : Ev prog w K n env Γ o (.lst ds)) (hb : Ev prog w K n env Γ b (.int k)) (hz : ds.length ≤ 1000) :
    Ev prog w K n env Γ (.Subscript o (.Slice none (some b) none sp) pos) (.lst (ds.take k)) :=
  Ev.lcut ho .no (.yes hb) (f := fun vs => vs.take k) (fun vs hl => by rw [slicePick_upto']) (fun X h vs r => r.take k) hz
theorem Ev.butLast {o : PySem.Expr} {b : PySem.Expr} {sp pos : Pos} {ds : List V} (ho : Ev prog w K n env Γ o (.lst ds)) (hb : Ev prog w K n env Γ b (.int (-1))) (hz : ds.length ≤ 1000) :
    Ev prog w K n env Γ (.Subscript o (.Slice none (some b) none sp) pos) (.lst (ds.take (ds.length - 1))) :=
  Ev.lcut ho .no (.yes hb) (f := fun vs => vs.take (ds.length - 1)) (fun vs hl => by have := slicePick_butLast vs.toArray 1 (Nat.le_refl _); simp only [List.size_toArray, hl] at this; exact this) (fun X h vs r => r.take _) hz
end
end
section
section
variable {prog : Program} {w : World} {K : Frag} {n : Nat} {env : Env} {Γ : Lc}
/-- a method of a built-in type -/
noncomputable def MB (prog : Program) (w : World) (d : V) (y : Str) (id : String) : Prop :=
  ∀ (X : List Addr) (A : Around) (s : Shared) (v : Value) (pl : Sem Bool) (Q : Value × List Value → Shared → Prop) (E : Value → Shared → Prop), Rp X s.heap d v → Q (.builtin id, [v]) s → wpAny (model prog w) A (getMethod v y pl) Q E s
theorem MB.split {x : Str} : MB prog w (.str x) "split" "str.split" := fun X A s v pl Q E r q => by
  simp only [Rp] at r; obtain ⟨t, rfl⟩ := r
  exact PySem.GM.split q
theorem MB.index {ds : List V} : MB prog w (.lst ds) "index" "list.index" := fun X A s v pl Q E r q => by
  simp only [Rp] at r; obtain ⟨a, vs, rfl, _, hl, _⟩ := r
  exact getMethod_list_of PySem.F.slot_list_index PySem.F.type_list_index hl.isList hl.noDict q
theorem MB.count {ds : List V} : MB prog w (.lst ds) "count" "list.count" := fun X A s v pl Q E r q => by
  simp only [Rp] at r; obtain ⟨a, vs, rfl, _, hl, _⟩ := r
  exact getMethod_list_of PySem.F.slot_list_count PySem.F.type_list_count hl.isList hl.noDict q
theorem Ev.methB0 {o : PySem.Expr} {y : Str} {id : String} {apos pos : Pos} {d r : V} (ho : Ev prog w K n env Γ o d) (hm : MB prog w d y id) (hc : Calls prog w K 0 (.builtin id) [d] r)
    (hl : (apos.endLine == pos.line) = true := by rfl) (hb : attributeBase o y env (eval o env) = eval o env := by with_unfolding_all rfl) : Ev prog w K n env Γ (.Call (.Attribute o y apos) [] [] pos) r := fun X A s Q E c a l q => by
  rw [arm_eval_Call, hb]
  refine wpAny_bind (ho X A s _ E c a l fun v h' tk k r => wpAny_bind (wpAny_standAt ?_))
  unfold methodCall
  have hf : methodCallForm (([] : List PySem.Expr).length + ([] : List Keyword).length) (backTo pos (starEach [] env)) (backToKw pos (keywordEach [] env)) = true := rfl
  rw [hf]
  refine wpAny_bind (wpAny_holding ?_)
  refine hm X A _ v _ _ E r ?_
  unfold methodCallPos
  rw [hl]
  refine wpAny_bind (wpAny_pure ?_)
  refine callWith_B0 rfl ?_
  exact hc X A _ [v] Q E (c.le k) ((a.le k).less (Nat.zero_le _)) (.cons r .nil) fun v h3 tk3 k3 r3 => q _ _ _ (k.trans k3) r3
theorem Ev.methB {o e : PySem.Expr} {es : List PySem.Expr} {y : Str} {id : String} {apos pos : Pos} {d r : V} {ds : List V} (ho : Ev prog w K n env Γ o d) (hs : EvL prog w K n env Γ (e :: es) ds) (hm : MB prog w d y id) (hc : Calls prog w K 0 (.builtin id) (d :: ds) r)
    (hl : (apos.endLine == pos.line) = true := by rfl) (hb : attributeBase o y env (eval o env) = eval o env := by with_unfolding_all rfl)
    (hf : methodCallForm ((e :: es).length + ([] : List Keyword).length) (backTo pos (starEach (e :: es) env)) (backToKw pos (keywordEach [] env)) = true := by rfl)
    (he : starEach (e :: es) env = (false, eval e env) :: starEach es env := by rfl) (hp : (backTo pos (starEach es env)).any (·.1) = false := by rfl) : Ev prog w K n env Γ (.Call (.Attribute o y apos) (e :: es) [] pos) r := fun X A s Q E c a l q => by
  rw [arm_eval_Call, hb]
  refine wpAny_bind (ho X A s _ E c a l fun v h' tk k r => wpAny_bind (wpAny_standAt ?_))
  unfold methodCall
  rw [hf]
  refine wpAny_bind (wpAny_holding ?_)
  refine hm X A _ v _ _ E r ?_
  unfold methodCallPos
  rw [hl]
  refine wpAny_bind (wpAny_pure ?_)
  refine callWith_B (first := [v]) rfl (hs X A _ pos _ E (c.le k) (a.le k) (l.le k) fun vs h'' tk' k' r' => ?_) he hp
  exact hc X A _ (v :: vs) Q E ((c.le k).le k') (((a.le k).le k').less (Nat.zero_le _)) (.cons (r.le k') r') fun v h3 tk3 k3 r3 => q _ _ _ ((k.trans k').trans k3) r3
theorem RpL.strs {X : List Addr} {h : Heap} : ∀ {l : List (Str × Tok)} {ys : List Str}, l.map (·.1) = ys → RpL X h (ys.map .str) (strValues l)
  | [], ys, e => by subst e; exact .nil
  | (x, t) :: l, ys, e => by subst e; exact .cons .str (RpL.strs rfl)
theorem push_strs {X : List Addr} {s : Shared} {Q : Value → Shared → Prop} (c : Cx K X s.heap) {ys : List Str} (q : ∀ v h' tk, Le X s.heap h' → Rp X h' (.lst (ys.map .str)) v → Q v ⟨h', s.gens, s.drawn, tk, s.os⟩) (l : List (Str × Tok)) (tk : Nat) (e : l.map (·.1) = ys) :
    Q (.ref s.heap.objs.size) ⟨s.heap.push { cls := .type "list", data := .seq (strValues l).toArray }, s.gens, s.drawn, tk, s.os⟩ :=
  q _ _ _ (Le.push _ _ _) (Rp.lst_new (RpL.strs (h := s.heap) e) (Le.push _ _ _) (c.nxs (Nat.le_refl _)) ⟨_, Heap.get?_push_size _ rfl, rfl, rfl, 0, rfl⟩)
open PySem.Builtin PySem.Builtin.Str in
theorem Calls.split0 {x : Str} {ys : List Str} (hy : Txt.words x = ys) (hz : x.length ≤ 1000) : Calls prog w K 0 (.builtin "str.split") [.str x] (.lst (ys.map .str)) := fun X A s vs Q E c a r q => by
  replace r := r.one; obtain ⟨v, rfl, r⟩ := r
  simp only [Rp] at r; obtain ⟨t, rfl⟩ := r
  have hn : (spaceWords x (x.length + 1)).length ≤ sizeLine := by
    have e1 := (StrLaws.sw_weight x).1
    have e2 := StrLaws.len_le_wsum (spaceWords x (x.length + 1))
    rw [sizeLine_eq]; omega
  refine call_meets PySem.F.slot_str_split (typeIs_str _ _ _) PySem.F.entry_str_split (PySem.F.args_str_split_1 _) (meets_str_split_space x t (by rw [sizeLine_eq]; omega) hn) ?_
  cases hw : spaceWords x (x.length + 1) == [(0, x.length)]
  · simp only [Bool.false_eq_true, if_false]
    rw [strsFrom_eq]
    exact push_strs c q (numbered s.toks (PySem.wordsOf x)) _ (((numbered_texts _ _).trans (if_neg (ne_true_of_eq_false hw)).symm).trans hy)
  · simp only [if_true]
    exact push_strs c q [(x, t)] s.toks (((if_pos hw).symm : [x] = Txt.words x).trans hy)
open PySem.Builtin PySem.Builtin.Str in
theorem Calls.split1 {x y : Str} {ys : List Str} (hy : (y.length == 0) = false) (hw : Txt.split x y = ys) (hz : x.length ≤ 1000) : Calls prog w K 0 (.builtin "str.split") [.str x, .str y] (.lst (ys.map .str)) := fun X A s vs Q E c a r q => by
  replace r := r.two; obtain ⟨v, v', rfl, r, r'⟩ := r
  simp only [Rp] at r r'; obtain ⟨t, rfl⟩ := r; obtain ⟨u, rfl⟩ := r'
  have hn : (partsBetween x (occurrences x y 0 x.length (x.length + 1)) y.length).length ≤ sizeLine := by
    have e1 := StrLaws.occ_length_le x y 0 x.length (x.length + 1)
    rw [length_partsBetween, sizeLine_eq]; omega
  cases h1 : (decide (x.length < y.length) || decide (strKind x < strKind y))
  · cases hf : (occurrences x y 0 x.length (x.length + 1)).isEmpty
    · refine call_meets PySem.F.slot_str_split (typeIs_str _ _ _) PySem.F.entry_str_split (PySem.F.args_str_split_2 _ _) (meets_str_split_sep x y t u h1 hy hf (by rw [sizeLine_eq]; omega) hn) ?_
      show wants Q E _ { s with toks := _, heap := s.heap.push { cls := .type "list", data := .seq (strsFrom s.toks (partsBetween x (occurrences x y 0 x.length (x.length + 1)) y.length)).toArray } }
      rw [strsFrom_eq]
      exact push_strs c q (numbered s.toks _) _ (((numbered_texts _ _).trans ((if_neg (ne_true_of_eq_false h1)).trans (if_neg (ne_true_of_eq_false hf))).symm).trans hw)
    · exact call_meets PySem.F.slot_str_split (typeIs_str _ _ _) PySem.F.entry_str_split (PySem.F.args_str_split_2 _ _) (meets_str_split_not_found x y t u h1 hy hf)
        (push_strs c q [(x, t)] s.toks ((((if_neg (ne_true_of_eq_false h1)).trans (if_pos hf)).symm : [x] = Txt.split x y).trans hw))
  · exact call_meets PySem.F.slot_str_split (typeIs_str _ _ _) PySem.F.entry_str_split (PySem.F.args_str_split_2 _ _) (meets_str_split_cannot_occur x y t u h1)
      (push_strs c q [(x, t)] s.toks (((if_pos h1).symm : [x] = Txt.split x y).trans hw))
theorem strs_of {X : List Addr} {h : Heap} : ∀ {ys : List Str} {vs : List Value}, RpL X h (ys.map .str) vs → StrsAre vs ys
  | [], vs, r => by simp only [List.map_nil, RpL] at r; subst r; exact .nil
  | i :: ns, vs, r => by
    simp only [List.map_cons, RpL, Rp] at r
    obtain ⟨v, ws, rfl, ⟨t, rfl⟩, r⟩ := r
    exact .cons _ _ (strs_of r)
theorem isStr_at (k : Str) : ∀ {vs : List Value} {ns : List Str}, StrsAre vs ns → ∀ (i : Nat) (h1 : i < vs.length) (h2 : i < ns.length), PyProof.Rows.isStrOf k vs[i] = (ns[i] == k)
  | _, _, .nil, i, h1, h2 => absurd h1 (Nat.not_lt_zero _)
  | _, _, .cons n u h, 0, h1, h2 => rfl
  | _, _, .cons n u h, i + 1, h1, h2 => isStr_at k h i (by simpa using h1) (by simpa using h2)
theorem ne_idx {k : Str} : ∀ {ns : List Str} {j : Nat}, j < ns.idxOf k → ∀ (h2 : j < ns.length), (ns[j] == k) = false
  | n :: r, 0, h, _ => by
    by_cases e : n = k
    · subst e; simp at h
    · simpa using e
  | n :: r, j + 1, h, h2 => by
    by_cases e : n = k
    · subst e; simp at h
    · have hb : (n == k) = false := by simpa using e
      rw [List.idxOf_cons, hb] at h
      simp only [cond_false] at h
      exact ne_idx (ns := r) (j := j) (by omega) (by simpa using h2)
theorem Calls.count {ys : List Str} {k : Str} {m : Int} (hm : Spec.countIn (.str k) (ys.map PyData.str) = m) : Calls prog w K 0 (.builtin "list.count") [.lst (ys.map .str), .str k] (.int m) := fun X A s vs Q E c a r q => by
  subst hm
  replace r := r.two; obtain ⟨v, v', rfl, r, r'⟩ := r
  simp only [Rp] at r r'; obtain ⟨t, rfl⟩ := r'
  obtain ⟨l, ws, rfl, _, hl, rl⟩ := r
  exact count_list_strs hl.isList (strs_of rl) (q _ _ _ (Le.refl _ _) .int)
theorem Calls.index {ys : List Str} {k : Str} {m : Int} (hk : k ∈ ys) (hm : ((ys.idxOf k : Nat) : Int) = m) (hz : ys.length ≤ 1000) : Calls prog w K 0 (.builtin "list.index") [.lst (ys.map .str), .str k] (.int m) := fun X A s vs Q E c a r q => by
  subst hm
  replace r := r.two; obtain ⟨v, v', rfl, r, r'⟩ := r
  simp only [Rp] at r r'; obtain ⟨t, rfl⟩ := r'
  obtain ⟨l, ws, rfl, _, ⟨⟨cls, dd, data, sl⟩, ho, hc, hdd, nn, hd⟩, rl⟩ := r
  simp only at hc hd
  subst hc hd
  have hi := strs_of rl
  have hlen := rl.length
  rw [List.length_map] at hlen
  have hj : ys.idxOf k < ys.length := List.idxOf_lt_length_iff.mpr hk
  refine call_meets PySem.F.slot_list_index ⟨_, ho, rfl⟩ PySem.F.entry_list_index (PySem.F.args_list_index_2 _ _)
    (PySem.SeqAt.list_indexAt l ws.toArray nn dd sl (.str k t) (PyProof.Rows.isStrOf k) (ys.idxOf k) (by simpa [hlen] using hj) (by omega) ?_ ?_) ⟨ho, fun y hy => (eq_isStrOf k t hi y (by simpa using hy)).at _ _, q _ _ _ (Le.refl _ _) .int⟩
  · show PyProof.Rows.isStrOf k ws[ys.idxOf k] = true
    rw [isStr_at k hi _ (by omega) hj]
    simp [List.getElem_idxOf hj]
  · intro j hjs hlt
    show PyProof.Rows.isStrOf k ws[j] = false
    rw [isStr_at k hi j (by simpa using hjs) (by omega)]
    exact ne_idx hlt _
/-- a display of a dict from ints to strings, and one of its items -/
theorem Ev.pick {keys : List (Option PySem.Expr)} {values : List PySem.Expr} {pos p2 : Pos} {i : PySem.Expr} {k : Int} {x : Str} {D : List (PyData × PyData)} (hi : Ev prog w K n env Γ i (.int k)) (hx : Spec.lookup (.int k) D = some (.str x))
    (hD : litPairs keys values = some D := by rfl) (hs : intKeyed D = true := by rfl) (hn : (intKeysOf D).Nodup := by decide)
    (hall : keys.all (·.isSome) = true := by rfl) (hl : keys.length = values.length := by rfl) (h0 : keys ≠ [] := by simp) (hlen : keys.length ≤ 15 := by decide)
    (hss : ∀ a b, subscripted i false a b = operate [a, b] (getItem a b) := by intro _ _; rfl) : Ev prog w K n env Γ (.Subscript (.Dict keys values pos) i p2) (.str x) := fun X A s Q E c a l q => by
  refine Subscript_ (Dict_lits_int hD hs hn hall hl h0 hlen fun d o h₁ tk hsz ho hT hk => ?_)
  have k1 : Le X s.heap h₁ := .of_stays hk
  refine hi X A _ _ E (c.le k1) (a.le k1) (l.le k1) fun v h2 tk2 k2 r2 => ?_
  simp only [Rp] at r2; obtain ⟨t, rfl⟩ := r2
  have hdX : d ∉ X := c.nxs hsz
  have hne : (d == sysModules) = false := by
    obtain ⟨mg, om, _, _, hom, _⟩ := c.glb
    have := Heap.lt_size hom
    have : mainGlobals = 3 := rfl
    have e2 : sysModules = 1 := rfl
    rw [beq_eq_false_iff_ne, e2]
    intro e3
    have e4 : (1 : Nat) < d := Nat.lt_of_lt_of_le (Nat.lt_of_le_of_lt (show (1 : Nat) ≤ mainGlobals by decide) ‹mainGlobals < _›) hsz
    exact absurd e3 (Nat.ne_of_gt e4)
  obtain ⟨kvs, hd, hf⟩ := hT
  refine item_tab_any PyProof.V.same_int (intKind_is prog w k t) (TabAt.ofObj hne (k2.get ho hdX) hd hf) hx (fun v hv => ?_) (hss _ _)
  obtain ⟨t', rfl, _⟩ := reads_str_inv (hv h2)
  exact q _ _ _ (k1.trans k2) .str
end
end
section
noncomputable def stepS (σ : List Str) (v : Str) : List Str := if σ.any (· == v) then σ else σ ++ [v]
noncomputable def firsts (ys : List Str) : List Str := ys.foldl stepS []
theorem firsts_snoc (ys : List Str) (y : Str) : firsts (ys ++ [y]) = stepS (firsts ys) y := by unfold firsts; rw [List.foldl_append]; rfl
theorem stepS_any (σ : List Str) (v k : Str) : (stepS σ v).any (· == k) = (σ.any (· == k) || decide (k = v)) := by
  unfold stepS
  by_cases h : σ.any (· == v) = true
  · rw [if_pos h]
    by_cases e : k = v
    · subst e; rw [h]; simp
    · simp [e]
  · rw [if_neg h, List.any_append]
    by_cases e : k = v
    · subst e; simp
    · have hb : (v == k) = false := by simpa [beq_iff_eq] using (fun h' : v = k => e h'.symm)
      simp [hb, e]
theorem stepS_length (σ : List Str) (v : Str) : (stepS σ v).length = if σ.any (· == v) then σ.length else σ.length + 1 := by
  unfold stepS; split <;> simp
theorem firsts_le : ∀ (ys σ : List Str), (ys.foldl stepS σ).length ≤ σ.length + ys.length
  | [], σ => by simp
  | y :: ys, σ => by
    have := firsts_le ys (stepS σ y)
    rw [stepS_length] at this
    simp only [List.foldl_cons, List.length_cons]
    split at this <;> omega
theorem take_snoc {ys : List Str} {i : Nat} {y : Str} (h : ys[i]? = some y) : ys.take (i + 1) = ys.take i ++ [y] := by
  rw [List.take_add_one, h]; rfl
theorem strs_at : ∀ {vs : List Value} {ns : List Str}, StrsAre vs ns → ∀ (i : Nat) (v : Value), vs[i]? = some v → ∃ y t, ns[i]? = some y ∧ v = .str y t
  | _, _, .nil, i, v, h => by simp at h
  | _, _, .cons n t hr, 0, v, h => by simp at h; exact ⟨n, t, rfl, h.symm⟩
  | _, _, .cons n t hr, i + 1, v, h => by
    simp only [List.getElem?_cons_succ] at h ⊢
    exact strs_at hr i v h
section
variable {prog : Program} {w : World} {A : Around} {R : Result → Shared → Prop} {I : Addr} {fp wr : List Addr} {G : Array GenState → Array GenState → Prop} {n : Nat} {P : Nat → Value → Prop} {St : Nat → Shared → Prop}
theorem set_loop (W : WalksS prog w A.in1 I fp wr G n P St) (S : Addr) (hSf : S ∉ fp) (ys : List Str) (hyn : ys.length = n)
    (hval : ∀ i v, P i v → ∃ y t, ys[i]? = some y ∧ v = .str y t) (hb : n + 1 < scanBound) :
    ∀ (k i : Nat) (s : Shared), n - i = k → i ≤ n → St i s →
      s.heap.SetOf (strKind prog w) S (fun k' => (firsts (ys.take i)).any (· == k')) (firsts (ys.take i)).length →
      (∀ s', Moved (S :: wr) G s s' → s'.heap.SetOf (strKind prog w) S (fun k' => (firsts ys).any (· == k')) (firsts ys).length → R (.ok (.ret .none)) s') →
      codeAny (model prog w) A (.builtin "set.update.loop" ⟨[.ref S, .ref I], []⟩) R s := by
  have hSw : S ∉ wr := fun h => hSf (W.sub _ h)
  have hsub : ∀ b ∈ wr, b ∈ S :: wr := fun b hb => List.mem_cons_of_mem _ hb
  intro k
  induction k with
  | zero =>
    intro i s hk hi hst hS hR
    have hin : i = n := by omega
    subst hin
    rw [List.take_of_length_le (by omega)] at hS
    refine codeAny_builtin PyProof.Rows.F.entry_set_update_loop ?_
    rw [Around.under_plainId PyProof.Rows.F.plain_set_update_loop _]
    show wpAny _ A.in1 (pyNext (.ref I) >>= _) _ _ s
    refine wpAny_bind (W.done s _ _ hst fun s' hm => ?_)
    show wpAny _ A.in1 (ret Value.none) _ _ s'
    exact wpAny_pure (hR s' (hm.mono hsub) (by
      obtain ⟨o, es, ep, t, ho, rest⟩ := hS
      exact ⟨o, es, ep, t, hm.heap S _ hSw ho, rest⟩))
  | succ k ih =>
    intro i s hk hi hst hS hR
    have hlt : i < n := by omega
    refine codeAny_builtin PyProof.Rows.F.entry_set_update_loop ?_
    rw [Around.under_plainId PyProof.Rows.F.plain_set_update_loop _]
    show wpAny _ A.in1 (pyNext (.ref I) >>= _) _ _ s
    refine wpAny_bind (W.item i s _ _ hlt hst fun v s' hP hst' hm => ?_)
    obtain ⟨y, t, hy, rfl⟩ := hval i v hP
    have hS' : s'.heap.SetOf (strKind prog w) S (fun k' => (firsts (ys.take i)).any (· == k')) (firsts (ys.take i)).length := by
      obtain ⟨o, es, ep, tb, ho, rest⟩ := hS
      exact ⟨o, es, ep, tb, hm.heap S _ hSw ho, rest⟩
    show wpAny _ A.in1 (holding [Value.str y t] (setAdd S (.str y t)) >>= _) _ _ s'
    refine wpAny_bind (wpAny_holding ?_)
    unfold setAdd
    refine wpAny_holding ?_
    refine wpAny_bind ((strKind prog w).pyHash (k := y) (strKind_is _ _ _ _) ?_)
    have hroom : (firsts (ys.take i)).length + 1 < scanBound := by
      have := firsts_le (ys.take i) []
      have e : (ys.take i).length ≤ i := List.length_take_le _ _
      show (List.foldl stepS [] (ys.take i)).length + 1 < scanBound
      simp only [List.length_nil] at this
      omega
    refine wpAny_setAddHashed_of (knd := strKind prog w) (s := { s' with toks := s'.toks + 1 }) (strKind_is _ _ _ _) rfl hS' hroom fun h' hsb hS2 => ?_
    have hSi : h'.SetOf (strKind prog w) S (fun k' => (firsts (ys.take (i + 1))).any (· == k')) (firsts (ys.take (i + 1))).length :=
      SetOf_congr hS2 (fun k' => by rw [take_snoc hy, firsts_snoc, stepS_any]) (by rw [take_snoc hy, firsts_snoc, stepS_length])
    refine wpAny_pure ⟨plainId_quiet PyProof.Rows.F.plain_set_update_loop _, ih (i + 1) _ (by omega) hlt (W.frame _ s' _ _ hst' (Nat.le_succ _) fun b hb o e => ?_) hSi fun s'' hm'' hS'' => ?_⟩
    · rw [hsb.2 b (fun h : b = S => hSf (by rw [← h]; exact hb))]; exact e
    · refine hR s'' (Moved.trans W.gtrans ((hm.mono hsub).then_heap (Nat.le_succ _) fun b o hb e => ?_) hm'') hS''
      rw [hsb.2 b (fun h : b = S => hb (by rw [h]; exact List.mem_cons_self))]; exact e
end
section
variable {prog : Program} {w : World} {A : Around} {E : Value → Shared → Prop} {s : Shared}
set_option maxHeartbeats 3200000 in
theorem call_set_strs {l : Addr} {items : Array Value} {ys : List Str} {Q : Value → Shared → Prop}
    (hh : A.handled = none) (hl : s.heap.IsList l items) (hi : StrsAre items.toList ys) (hyn : ys.length = items.size) (hb : items.size + 1 < scanBound)
    (h : ∀ (h' : Heap) (tk : Nat), h'.SetOf (strKind prog w) s.heap.objs.size (fun k' => (firsts ys).any (· == k')) (firsts ys).length →
      (∀ b o, b < s.heap.objs.size → s.heap.get? b = some o → h'.get? b = some o) → Q (.ref s.heap.objs.size) { s with heap := h', toks := tk }) :
    wpAny (model prog w) A (call (.type "set") [.ref l]) Q E s := by
  obtain ⟨c, tl, hmro⟩ := PySem.F.called_set.mro
  have hmade := PySem.F.called_set.made
  have hsub := PySem.F.called_set.sub
  refine wpAny_call (codeAny_of_tree ?_)
  show wpAny _ _ (callAny (.type "set") _) _ _ _
  refine wpAny_pure ⟨Code.quiet_builtin _ (by decide +kernel), codeAny_builtin PySem.F.entry_type_call ?_⟩
  rw [Around.under_plain (weight_type_call_type "set" [.ref l] []) rfl]
  have h1 := PySem.F.called_set.notType
  have h2 := PySem.F.called_set.canCreate
  have hct := PySem.F.typeCall_set_1 (.ref l)
  repeat (any_goals (first | assumption | wp_step))
  refine codeAny_mono (code_set_new_1 (.ref l) (E := E) (Q₁ := fun obj s₁ => ∃ led : Bool, obj = .ref s.heap.objs.size ∧ s₁ = { s with heap := s.heap.push { cls := .type "set", dict := none, data := .set #[] 0 (.fresh 0 0 led) } }) fun led => ⟨led, rfl, rfl⟩) fun r s₁ hr => ?_
  cases r with
  | error e => exact hr
  | ok fl =>
    cases fl with
    | ret obj =>
      obtain ⟨led, rfl, rfl⟩ := hr
      have hS : (s.heap.push { cls := .type "set", dict := none, data := .set #[] 0 (.fresh 0 0 led) }).get? s.heap.objs.size = some { cls := .type "set", dict := none, data := .set #[] 0 (.fresh 0 0 led) } := Heap.get?_push_size _ rfl
      have hT : Shared.TypeIs { s with heap := s.heap.push { cls := .type "set", dict := none, data := .set #[] 0 (.fresh 0 0 led) } } (.ref s.heap.objs.size) "set" := ⟨_, hS, rfl⟩
      have hli := PySem.F.called_set.init.lookup
      have hbi := PySem.F.called_set.init.bind (.ref s.heap.objs.size)
      repeat (any_goals (first | assumption | wp_step))
      refine codeAny_mono (codeAny_call_builtin (R := wants (fun r s₂ => r = .none ∧ ∃ h' tk, s₂ = { s with heap := h', toks := tk } ∧
          h'.SetOf (strKind prog w) s.heap.objs.size (fun k' => (firsts ys).any (· == k')) (firsts ys).length ∧
          (∀ b o, b < s.heap.objs.size → s.heap.get? b = some o → h'.get? b = some o)) E) PySem.F.called_set.init.plain PySem.F.entry_set_init (check_set_init_1 hT ?_)) fun r₂ s₂ hr₂ => ?_
      · obtain ⟨ol, hol, hcl, nl, hdl⟩ := hl
        obtain ⟨ocls, odict, odata, oslots⟩ := ol
        simp only at hcl hdl
        subst hcl; subst hdl
        have hol' : (s.heap.push { cls := .type "set", dict := none, data := .set #[] 0 (.fresh 0 0 led) }).get? l = some { cls := .type "list", dict := odict, data := .seq items nl, slots := oslots } := Heap.get?_push_of_some _ hol
        have hsls := PySem.F.sub_list_set
        have hslf := PySem.F.sub_list_frozenset
        have hne : (Value.type "list" == Value.type "dict") = false := by decide
        have hl1 : (s.heap.push { cls := .type "set", dict := none, data := .set #[] 0 (.fresh 0 0 led) }).IsList l items := ⟨_, hol', rfl, nl, rfl⟩
        unfold Builtin.«set.__init__» noKeywords Builtin.Frozenset.updateFrom
        generalize hPI : pyIter = PI
        wp_walk
        subst hPI
        refine wpAny_pyIter_list hl1 ?_
        refine wpAny_bind (wpAny_runValue ?_)
        have hlS : l < s.heap.objs.size := Heap.lt_size hol
        have hh3 : A.in1.in1.in1.handled = none := by simp [hh]
        have hneI : l ≠ (s.heap.push { cls := .type "set", dict := none, data := .set #[] 0 (.fresh 0 0 led) }).objs.size := by
          rw [Heap.size_push]; exact Nat.ne_of_lt (Nat.lt_succ_of_lt hlS)
        have hSf : s.heap.objs.size ∉ [(s.heap.push { cls := .type "set", dict := none, data := .set #[] 0 (.fresh 0 0 led) }).objs.size, l] := by
          rw [Heap.size_push]; simp only [List.mem_cons, List.mem_singleton, List.not_mem_nil, or_false, not_or]
          exact ⟨Nat.ne_of_lt (Nat.lt_succ_self _), Nat.ne_of_gt hlS⟩
        have hval : ∀ (i : Nat) (v : Value), items[i]? = some v → ∃ y t, ys[i]? = some y ∧ v = .str y t := fun i v hv =>
          strs_at hi i v (by rw [Array.getElem?_toList]; exact hv)
        refine set_loop ((Walks.list hh3 _ l hneI items).toS) s.heap.objs.size
          hSf ys hyn hval hb (items.size - 0) 0 _ (by omega) (Nat.zero_le _)
          ⟨⟨_, Heap.get?_push_size _ rfl, rfl, rfl⟩, (hl1.push _)⟩ ?hS0 ?hR
        case hS0 =>
          have hget : ((s.heap.push { cls := .type "set", dict := none, data := .set #[] 0 (.fresh 0 0 led) }).push { cls := .type "list_iterator", data := .fields #[.ref l, .int 0 0] }).get? s.heap.objs.size
              = some { cls := .type "set", dict := none, data := .set #[] 0 (.fresh 0 0 led) } := Heap.get?_push_of_some _ hS
          exact PyProof.Rows.SetOf_congr ((PyProof.Rows.setObjOf_fresh (knd := strKind prog w) led).setOf hget (by unfold scanBound; omega)) (fun _ => rfl) rfl
        case hR =>
          intro s' hm hS'
          obtain ⟨h', g', d', tk', os'⟩ := s'
          have eg : g' = s.gens := hm.gens
          have ed : d' = s.drawn := hm.drawn
          have eo : os' = s.os := hm.os
          subst eg; subst ed; subst eo
          show wpAny _ _ _ _ _ _
          refine wpAny_pure ?_
          show wpAny _ _ (ret Value.none) _ _ _
          refine wpAny_pure ⟨rfl, h', tk', rfl, hS', fun b o hb e => ?_⟩
          have hb1 : b ≠ s.heap.objs.size := Nat.ne_of_lt hb
          have hb2 : b ≠ (s.heap.push { cls := .type "set", dict := none, data := .set #[] 0 (.fresh 0 0 led) }).objs.size := by
            rw [Heap.size_push]; exact Nat.ne_of_lt (Nat.lt_succ_of_lt hb)
          exact hm.heap b o (by simp only [List.mem_cons, List.mem_singleton, List.not_mem_nil, or_false, not_or]; exact ⟨hb1, hb2⟩) (Heap.get?_push_of_some _ (Heap.get?_push_of_some _ e))
      · cases r₂ with
        | error e => exact hr₂
        | ok fl₂ =>
          cases fl₂ with
          | ret r =>
            obtain ⟨rfl, h', tk, rfl, hS', hk'⟩ := hr₂
            repeat (any_goals (first | assumption | wp_step))
            exact h _ _ hS' hk'
          | _ => exact hr₂.elim
    | _ => exact hr.elim
end
section
variable {prog : Program} {w : World} {K : Frag} {n : Nat} {env : Env} {Γ : Lc}
theorem Ev.lenSet {x y : Str} {p p2 pos pos2 : Pos} {e : PySem.Expr} {ys : List Str} (hf : Ev prog w K n env Γ (.Name x p) (.glob (.builtin "len"))) (hg : Ev prog w K n env Γ (.Name y p2) (.glob (.type "set")))
    (he : Ev prog w K n env Γ e (.lst (ys.map .str))) (hz : ys.length ≤ 1000)
    (hs1 : starEach [.Call (.Name y p2) [e] [] pos2] env = [(false, eval (.Call (.Name y p2) [e] [] pos2) env)] := by rfl) (hs2 : starEach [e] env = [(false, eval e env)] := by rfl) :
    Ev prog w K n env Γ (.Call (.Name x p) [.Call (.Name y p2) [e] [] pos2] [] pos) (.int (firsts ys).length) := fun X A s Q E c a l q => by
  refine wpAny_Call_NameR (hf X A s _ E c a l fun v h1 tk1 k1 r1 => ?_)
  simp only [Rp] at r1
  subst r1
  refine callWith_B rfl ?_ (by rw [hs1]; rfl) (by rfl)
  rw [hs1]
  refine spliced_cons ?_
  refine wpAny_Call_NameR (hg X A _ _ E (c.le k1) (a.le k1) (l.le k1) fun v h2 tk2 k2 r2 => ?_)
  simp only [Rp] at r2
  subst r2
  refine callWith_B rfl ?_ (by rw [hs2]; rfl) (by rfl)
  rw [hs2]
  refine spliced_cons (he X A _ _ E ((c.le k1).le k2) ((a.le k1).le k2) ((l.le k1).le k2) fun v h3 tk3 k3 r3 => spliced_nil ?_)
  simp only [Rp] at r3
  obtain ⟨b, vs, rfl, _, hl, rl⟩ := r3
  have hlen := rl.length
  rw [List.length_map] at hlen
  refine call_set_strs a.hdl hl.isList (strs_of (by simpa using rl)) (by simp [hlen]) (by rw [List.size_toArray, hlen]; unfold scanBound; omega) fun h4 tk4 hS hk => ?_
  refine spliced_nil ?_
  obtain ⟨o, es, ep, t, ho, hex, hd, _, _, hbd, hft, hn⟩ := hS
  refine call_len_set ho hex hd hft (by unfold scanBound at hbd; omega) ?_
  rw [hn]
  exact q _ _ _ (((k1.trans k2).trans k3).trans (.of_stays fun a o e => hk a o (Heap.lt_size e) e)) .int
end
end
section
section
variable {prog : Program} {w : World} {K : Frag} {n : Nat} {env : Env} {Γ : Lc} {O : Option (String × OV)} {X₀ X : List Addr} {m : Str → Option Value} {b h h' : Heap}
theorem SOk.storedC {x : String} {d : V} {v : Value} {c : Addr} (S : SOk K X₀ X m b env Γ O h) (hk : env.kindOf (Str.ofString x) = some .cell) (hc : env.cells.lookup (Str.ofString x) = some c) (hs : Heap.SameBut c h h') (hv : h'.IsCell c (some v))
    (hd : (Str.ofString x == ("__debug__" : Str)) = false) (r : Rp X h d v) (hO : ∀ y o, O = some (y, o) → y ≠ x) : SOk K X₀ X m b env ((x, d) :: Γ) O h' := by
  obtain ⟨hcX, hcb, v₀, hc0⟩ := S.cel.1 _ c hk hc
  have st : Stays X X h h' := fun a o hX e => ⟨hX, (hs.2 a fun q => hX (q ▸ hcX)).trans e⟩
  have hcL : c ≠ env.locals := fun q => by
    obtain ⟨o, ho, hd⟩ := hc0
    obtain ⟨o', es, ep, ho', hd', _⟩ := S.ns
    rw [q, ho'] at ho; cases ho; rw [hd] at hd'; cases hd'
  refine ⟨S.ok, S.cx, S.sup, S.new, fun a ha => ?_, S.lin, S.lnew, fun a o e => ?_, S.ns.sameBut hs (Ne.symm hcL), fun y d' e => ?_, fun y o e => ?_, ⟨fun y c' hky hcy => ?_, S.cel.2⟩⟩
  · by_cases q : a = c
    · obtain ⟨o, ho, _⟩ := hv
      rw [q, ho]; rfl
    · rw [hs.2 a q]; exact S.liv a ha
  · have hne : a ≠ c := fun q => by rw [q, hcb] at e; cases e
    obtain ⟨⟨sl, e₁⟩, k₁⟩ := S.le a o e
    exact ⟨⟨sl, (hs.2 a hne).trans e₁⟩, fun hX => (hs.2 a hne).trans (k₁ hX)⟩
  · by_cases hy : y = x
    · subst hy
      rw [List.lookup_cons, beq_self_eq_true] at e
      cases e
      exact ⟨hd, v, r.mono st, .inr ⟨.inl hk, c, hc, hcX, hv⟩⟩
    · rw [List.lookup_cons, beq_eq_false_iff_ne.mpr hy] at e
      obtain ⟨q, u, r', sl⟩ := S.vars y d' e
      refine ⟨q, u, r'.mono st, ?_⟩
      rcases sl with sl | ⟨q1, c', hc', hX', ho⟩
      · exact .inl sl
      · refine .inr ⟨q1, c', hc', hX', ho.sameBut hs fun z => hy ?_⟩
        rw [z] at hc'
        exact (ofString_inj (S.cel.2 _ _ c hk hc hc')).symm
  · obtain ⟨q, k, u, r', sl⟩ := S.own y o e
    refine ⟨q, k, u, r', ?_⟩
    cases o with
    | lst ds =>
      obtain ⟨l, vs, rfl, hX, hb, ⟨ol, ho, hc, hdd, n, hdl⟩, hl⟩ := sl
      refine ⟨l, vs, rfl, hX, hb, ⟨ol, (hs.2 l fun z => ?_).trans ho, hc, hdd, n, hdl⟩, hl.mono st⟩
      obtain ⟨o', ho', hd'⟩ := hc0
      rw [z, ho'] at ho; cases ho; rw [hdl] at hd'; cases hd'
    | inst z dx C fs =>
      obtain ⟨es, rfl, hX, hdX, hL, hne, hb0, hb, ⟨⟨ox, hx, r1, r3, r4⟩, ⟨od, n, hdo, r2, r5⟩⟩, hl⟩ := sl
      refine ⟨es, rfl, hX, hdX, hL, hne, hb0, hb, ⟨⟨ox, (hs.2 z fun q => ?_).trans hx, r1, r3, r4⟩, ⟨od, n, (hs.2 dx fun q => ?_).trans hdo, r2, r5⟩⟩, hl.mono st⟩
      · obtain ⟨o', ho', hd'⟩ := hc0
        rw [q, ho'] at hx; cases hx; rw [r4] at hd'; cases hd'
      · obtain ⟨o', ho', hd'⟩ := hc0
        rw [q, ho'] at hdo; cases hdo; rw [r5] at hd'; cases hd'
  · by_cases q : c' = c
    · rw [q]; exact ⟨hcX, hcb, _, hv⟩
    · obtain ⟨a1, a2, v', hv'⟩ := S.cel.1 y c' hky hcy
      exact ⟨a1, a2, v', hv'.sameBut hs q⟩
/-- what a store needs of the name -/
noncomputable def locOk (env : Env) (x : String) : Prop := env.kindOf (Str.ofString x) = some .local ∧ (Str.ofString x == ("__debug__" : Str)) = false
noncomputable def celOk (env : Env) (x : String) : Prop := env.kindOf (Str.ofString x) = some .cell ∧ (env.cells.lookup (Str.ofString x)).isSome = true ∧ (Str.ofString x == ("__debug__" : Str)) = false
theorem store1 {A : Around} {s : Shared} {Q : Unit → Shared → Prop} {E : Value → Shared → Prop} {x : String} {d : V} {v : Value} (S : SOk K X₀ X m b env Γ O s.heap) (hk : locOk env x) (r : Rp X s.heap d v) (hO : ∀ y o, O = some (y, o) → y ≠ x)
    (q : ∀ h' m' tk, SOk K X₀ X m' b env ((x, d) :: Γ) O h' → Stays X X s.heap h' → Q () ⟨h', s.gens, s.drawn, tk, s.os⟩) : wpAny (model prog w) A (storeName env (Str.ofString x) v) Q E s :=
  wpAny_storeName_local hk.1 S.ns (fun h'' hn hs => q _ _ _ (S.stored hs hn hk.2 hk.1 r hO) fun a o hX e => ⟨hX, (hs.2 a fun z => hX (z ▸ S.lin)).trans e⟩) (by rw [S.ok.kind]; rfl)
theorem storeC {A : Around} {s : Shared} {Q : Unit → Shared → Prop} {E : Value → Shared → Prop} {x : String} {d : V} {v : Value} (S : SOk K X₀ X m b env Γ O s.heap) (hk : celOk env x) (r : Rp X s.heap d v) (hO : ∀ y o, O = some (y, o) → y ≠ x)
    (q : ∀ h' m' tk, SOk K X₀ X m' b env ((x, d) :: Γ) O h' → Q () ⟨h', s.gens, s.drawn, tk, s.os⟩) : wpAny (model prog w) A (storeName env (Str.ofString x) v) Q E s := by
  obtain ⟨c, hc⟩ := Option.isSome_iff_exists.mp hk.2.1
  obtain ⟨hcX, hcb, v₀, hc0⟩ := S.cel.1 _ c hk.1 hc
  exact wpAny_storeName_cell S.ok.kind hk.1 hc hc0 fun h'' hn hs => q _ _ _ (S.storedC hk.1 hc hs hn hk.2.2 r hO)
theorem Le.but (X : List Addr) (k : Heap.ExtBut h.objs.size h h') : Le X h h' := .of_stays fun a o e => k a o (fun q => by rw [q, Heap.get?_none_of_le (Nat.le_refl _)] at e; cases e) e
theorem RpL.three {X : List Addr} {h : Heap} {d e f : V} {vs : List Value} (r : RpL X h [d, e, f] vs) : ∃ v u t, vs = [v, u, t] ∧ Rp X h d v ∧ Rp X h e u ∧ Rp X h f t := by
  simp only [RpL] at r
  obtain ⟨v, ws, rfl, r, u, ws', rfl, r', t, ws'', rfl, r'', rfl⟩ := r
  exact ⟨v, u, t, rfl, r, r', r''⟩
theorem Ex1.pair {x y : String} {k : Nat} {px py tpos pos : Pos} {e : PySem.Expr} {d d' : V} (hv : EvO prog w K n env Γ O e (.tup [d, d'])) (hx : locOk env x) (hy : locOk env y) (hO : ∀ z o, O = some (z, o) → z ≠ x ∧ z ≠ y := by intro y o h; cases h)
    (hs : swapsWithSole [.Tuple [.Name (Str.ofString x) px, .Name (Str.ofString y) py] k tpos] e pos.line env = pure false := by rfl)
    (hw : swappedStores [.Tuple [.Name (Str.ofString x) px, .Name (Str.ofString y) py] k tpos] e env = pure (some [Str.ofString x, Str.ofString y]) := by rfl) :
    Ex1 prog w K n env Γ O (.Assign [.Tuple [.Name (Str.ofString x) px, .Name (Str.ofString y) py] k tpos] e pos) (.next ((x, d) :: (y, d') :: Γ) O) := fun X₀ X m b A s Q E B S q =>
  Assign_Tuple_swapped (names := [Str.ofString x, Str.ofString y]) (hv X₀ X m b A s _ E B S fun v h' tk k r => by
    have S' := S.step k
    simp only [Rp] at r
    obtain ⟨a, vs, rfl, ha, ht, rl⟩ := r
    have hz := rl.length
    show wpAny _ A (unpackItems _ 2 Option.none) _ _ _
    rw [show 2 = vs.toArray.size by rw [List.size_toArray, hz]; rfl]
    refine unpackItems_tuple B.hdl ht fun h'' ke => ?_
    have S2 := S'.step (Le.but _ ke)
    replace rl := rl.le (Le.but X ke)
    obtain ⟨v, u, rfl, r1, r2⟩ := rl.two
    show wpAny _ A (assignInOrder [_, _] [u, v]) _ _ _
    refine assignInOrder_cons (bindName_ (store1 S2 hy r2 (fun z o e => (hO z o e).2) fun h3 m3 tk3 S3 st3 => ?_))
    refine assignInOrder_cons (bindName_ (store1 S3 hx (r1.mono st3) (fun z o e => (hO z o e).1) fun h4 m4 tk4 S4 st4 => ?_))
    exact assignInOrder_nil (q _ _ _ ⟨rfl, X, m4, S4⟩)) hs hw
theorem Ex1.three {x y z : String} {k : Nat} {px py pz tpos pos : Pos} {e : PySem.Expr} {d d' d'' : V} (hv : EvO prog w K n env Γ O e (.tup [d, d', d''])) (hx : locOk env x) (hy : locOk env y) (hz : locOk env z) (hO : ∀ z' o, O = some (z', o) → z' ≠ x ∧ z' ≠ y ∧ z' ≠ z := by intro y o h; cases h)
    (hs : swapsWithSole [.Tuple [.Name (Str.ofString x) px, .Name (Str.ofString y) py, .Name (Str.ofString z) pz] k tpos] e pos.line env = pure false := by rfl)
    (hw : swappedStores [.Tuple [.Name (Str.ofString x) px, .Name (Str.ofString y) py, .Name (Str.ofString z) pz] k tpos] e env = pure none := by rfl) :
    Ex1 prog w K n env Γ O (.Assign [.Tuple [.Name (Str.ofString x) px, .Name (Str.ofString y) py, .Name (Str.ofString z) pz] k tpos] e pos) (.next ((z, d'') :: (y, d') :: (x, d) :: Γ) O) := fun X₀ X m b A s Q E B S q =>
  Assign_Tuple (hv X₀ X m b A s _ E B S fun v h' tk k r => by
    have S' := S.step k
    simp only [Rp] at r
    obtain ⟨a, vs, rfl, ha, ht, rl⟩ := r
    have hz' := rl.length
    refine assign_Tuple_tuple B.hdl ht (by rw [List.size_toArray, hz']; rfl) rfl fun h'' ke => ?_
    have S2 := S'.step (Le.but _ ke)
    replace rl := rl.le (Le.but X ke)
    obtain ⟨v, u, t, rfl, r1, r2, r3⟩ := rl.three
    show wpAny _ A (assignInOrder [_, _, _] [v, u, t]) _ _ _
    refine assignInOrder_cons (wpAny_assign_Name (store1 S2 hx r1 (fun z o e => (hO z o e).1) fun h3 m3 tk3 S3 st3 => ?_))
    refine assignInOrder_cons (wpAny_assign_Name (store1 S3 hy (r2.mono st3) (fun z o e => (hO z o e).2.1) fun h4 m4 tk4 S4 st4 => ?_))
    refine assignInOrder_cons (wpAny_assign_Name (store1 S4 hz ((r3.mono st3).mono st4) (fun z o e => (hO z o e).2.2) fun h5 m5 tk5 S5 st5 => ?_))
    exact assignInOrder_nil (q _ _ _ ⟨rfl, X, m5, S5⟩)) hs hw
theorem Ex1.asgC {x : String} {p pos : Pos} {e : PySem.Expr} {d : V} (h : EvO prog w K n env Γ O e d) (hk : celOk env x) (hO : ∀ y o, O = some (y, o) → y ≠ x := by intro y o h; cases h)
    (hs : swapsWith e (some (.Name (Str.ofString x) p)) pos.line env = pure false := by rfl) :
    Ex1 prog w K n env Γ O (.Assign [.Name (Str.ofString x) p] e pos) (.next ((x, d) :: Γ) O) := fun X₀ X m b A s Q E B S q =>
  wpAny_Assign_Name (h X₀ X m b A s _ E B S fun v h' tk k r => storeC (S.step k) hk r hO fun h'' m'' tk'' S'' => q _ _ _ ⟨rfl, X, _, S''⟩) hs
/-- an expression statement -/
theorem Ex1.expr {e : PySem.Expr} {d : V} {p2 : Pos} (h : EvO prog w K n env Γ O e d) (hi : interactive env = false := by rfl) (hsw : swapsWith e none p2.line env = pure false := by rfl) : Ex1 prog w K n env Γ O (.Expr e p2) (.next Γ O) := fun X₀ X m b A s Q E B S q =>
  wpAny_Expr_any (h X₀ X m b A s _ E B S fun v h' tk k r => q _ _ _ ⟨rfl, X, m, S.step k⟩) hi hsw
end
end
section
theorem obj_eta {o : Obj} {c : Value} {dct : Option Addr} {dd : Data} (hc : o.cls = c) (hd : o.dict = dct) (hdd : o.data = dd) : o = { cls := c, dict := dct, data := dd, slots := o.slots } := by
  cases o; cases hc; cases hd; cases hdd; rfl
theorem RpL.snoc {X : List Addr} {h : Heap} {d : V} {v : Value} (r : Rp X h d v) : ∀ {ds : List V} {vs : List Value}, RpL X h ds vs → RpL X h (ds ++ [d]) (vs ++ [v])
  | [], vs, e => by simp only [RpL] at e; subst e; exact .cons r .nil
  | d :: ds, vs, e => by
    simp only [RpL] at e
    obtain ⟨v, ws, rfl, hd, hr⟩ := e
    exact .cons hd (hr.snoc r)
theorem RpL.set {X : List Addr} {h : Heap} {d : V} {v : Value} (r : Rp X h d v) : ∀ {ds : List V} {vs : List Value}, RpL X h ds vs → ∀ k, RpL X h (ds.set k d) (vs.set k v)
  | [], vs, e, k => by simp only [RpL] at e; subst e; exact .nil
  | d :: ds, vs, e, k => by
    simp only [RpL] at e
    obtain ⟨v, ws, rfl, hd, hr⟩ := e
    cases k with
    | zero => exact .cons r hr
    | succ k => exact .cons hd (hr.set r k)
section
variable {prog : Program} {w : World} {K : Frag} {n : Nat} {env : Env} {Γ : Lc} {O : Option (String × OV)} {X₀ X : List Addr} {m : Str → Option Value} {b h h' : Heap}
theorem append_ls {A : Around} {s : Shared} {E : Value → Shared → Prop} {D : Addr} {its : List Value} {x : Value} {Q : Value → Shared → Prop} (hl : IsLs s.heap D its.toArray) (hsz : its.length ≤ 1000)
    (h : ∀ h', Heap.SameBut D s.heap h' → IsLs h' D (its ++ [x]).toArray → Q .none { s with heap := h' }) : wpAny (model prog w) A (call (.builtin "list.append") [.ref D, x]) Q E s := by
  obtain ⟨o, ho, hc, hd, n, hdd⟩ := hl
  refine wpAny_call_entry slot_list_append ⟨_, ho, hc⟩ entry_list_append ?_ (args_list_append _ _)
  show wpAny _ _ (updateSeq D (·.push x) >>= fun _ => ret .none) _ _ s
  refine wpAny_bind ?_
  rw [obj_eta hc hd hdd] at ho
  refine wpAny_updateSeq ho rfl (wpAny_pure ⟨.none, rfl, h _ (Heap.SameBut.update ..) ⟨_, Heap.get?_update_self _ ho (by rw [mapSeq_push]; rfl), ?_⟩⟩) (by rw [List.size_toArray, sizeLine_eq]; omega)
  rw [mapSeq_push]
  exact ⟨rfl, rfl, n + 1, by simp⟩
theorem setItem_ls {A : Around} {s : Shared} {E : Value → Shared → Prop} {l : Addr} {items : Array Value} {k : Int} {t : Tok} {v : Value} {Q : Unit → Shared → Prop} (hl : IsLs s.heap l items) (h0 : 0 ≤ k) (hfit : k < 2 ^ 63) (hn : k < items.size)
    (hQ : ∀ h', Heap.SameBut l s.heap h' → IsLs h' l (items.setIfInBounds k.toNat v) → Q () { s with heap := h' }) : wpAny (model prog w) A (setItem (.ref l) (.int k t) v) Q E s := by
  have hl' := hl.isList
  obtain ⟨o, ho, hc, hdi, ne, hd⟩ := hl
  unfold setItem
  try with_reducible refine wpAny_holding ?_
  first | refine wpAny_bind (wpAny_pure ?_) | skip
  refine wpAny_bind (wpAny_sequenceKey hl'.typeIs (by decide) ?_)
  refine wpAny_bind (wpAny_callSpecial?_slot (name := Str.ofString "__setitem__") hl'.typeIs slot_list_setitem
    (wpAny_call_entry slot_list_setitem hl'.typeIs entry_list_setitem ?_ (args_list_setitem _ _ _)))
  show wpAny _ _ (Builtin.List.listSubscript? (.int k t) >>= _) _ _ s
  refine wpAny_bind (wpAny_listSubscript_int (fitsIndex_of h0 hfit) ?_)
  clear hfit
  obtain ⟨k, rfl⟩ := Int.eq_ofNat_of_zero_le h0
  have hj : k < items.size := by omega
  have hx' : items[k]? = some items[k] := Array.getElem?_eq_getElem hj
  show wpAny _ _ ((seqItemAt l k >>= fun r => pure (r.map (k, ·))) >>= _) _ _ s
  refine wpAny_bind (wpAny_bind (wpAny_seqItemAt ho hd (wpAny_pure ?_)))
  rw [hx']
  show wpAny _ _ (setSeqItemAt l k v >>= _) _ _ s
  obtain ⟨n', hd'⟩ := Obj.data_mapSeq hd (·.setIfInBounds k v)
  have hdic : (Obj.mapSeq (·.setIfInBounds k v) o).dict = none := by
    rw [obj_eta hc hdi hd]; simp only [Obj.mapSeq]
  have hfin : IsLs (s.heap.update l (Obj.mapSeq (·.setIfInBounds k v))) l (items.setIfInBounds k v) :=
    ⟨_, Heap.get?_update_self _ ho (Obj.isFreed_of_seq hd'), (Obj.cls_mapSeq ..).trans hc, hdic, n', hd'⟩
  refine wpAny_bind (wpAny_setSeqItemAt ho hd ?_)
  first
    | exact wpAny_bind (wpAny_pure (wpAny_pure ⟨.none, rfl, wpAny_pure (hQ _ (Heap.SameBut.update ..) hfin)⟩))
    | exact wpAny_pure ⟨.none, rfl, wpAny_pure (hQ _ (Heap.SameBut.update ..) hfin)⟩
/-- a change of the owned list -/
theorem SOk.relist {x : String} {ds ds' : List V} {l : Addr} {vs' : List Value} (S : SOk K X₀ X m b env Γ (some (x, .lst ds)) h) (hm : m (Str.ofString x) = some (.ref l)) (hs : Heap.SameBut l h h') (hl : IsLs h' l vs'.toArray) (r : RpL X h ds' vs') :
    SOk K X₀ X m b env Γ (some (x, .lst ds')) h' := by
  obtain ⟨q1, q2, u, hm', l', vs, hu, hX, hb, hI, rl⟩ := S.own x _ rfl
  rw [hm] at hm'; cases hm'; cases hu
  have st : Stays X X h h' := fun a o ha e => ⟨ha, (hs.2 a fun q => ha (q ▸ hX)).trans e⟩
  have nl : ∀ a o, h.get? a = some o → (∀ xs n, o.data ≠ .seq xs n) → a ≠ l := fun a o e ne q => by
    obtain ⟨o', ho', _, _, n, hd⟩ := hI
    rw [q, ho'] at e; cases e; exact ne _ _ hd
  have cel : ∀ c v, h.IsCell c v → h'.IsCell c v := fun c v ho => ho.sameBut hs (by
    obtain ⟨o, ho, hd⟩ := ho
    exact nl c o ho fun xs n q => by rw [hd] at q; cases q)
  have hL : env.locals ≠ l := by
    obtain ⟨o, es, ep, ho, hd, _⟩ := S.ns
    exact nl _ o ho fun xs n q => by rw [hd] at q; cases q
  refine ⟨S.ok, S.cx, S.sup, S.new, fun a ha => ?_, S.lin, S.lnew, fun a o e => ?_, S.ns.sameBut hs hL, fun z d' e => ?_, fun z o e => ?_, S.cel.of fun c v _ ho => ⟨v, cel c v ho⟩⟩
  · by_cases q : a = l
    · obtain ⟨o, ho, _⟩ := hl
      rw [q, ho]; rfl
    · rw [hs.2 a q]; exact S.liv a ha
  · have hne : a ≠ l := fun q => by rw [q, hb] at e; cases e
    obtain ⟨⟨sl, e₁⟩, k₁⟩ := S.le a o e
    exact ⟨⟨sl, (hs.2 a hne).trans e₁⟩, fun hX => (hs.2 a hne).trans (k₁ hX)⟩
  · obtain ⟨p1, u, p2, p3⟩ := S.vars z d' e
    exact ⟨p1, u, p2.mono st, p3.imp id fun ⟨p, c, hc, hX, ho⟩ => ⟨p, c, hc, hX, cel _ _ ho⟩⟩
  · cases e
    exact ⟨q1, q2, _, hm, l, vs', rfl, hX, hb, hl, r.mono st⟩
mutual
noncomputable def noLst : V → Bool
  | .lst _ | .scr _ => false
  | .tup l => noLsts l
  | .inst _ fs => noLstF fs
  | _ => true
noncomputable def noLsts : List V → Bool
  | [] => true
  | d :: r => noLst d && noLsts r
noncomputable def noLstF : List (String × V) → Bool
  | [] => true
  | (_, d) :: r => noLst d && noLstF r
end
noncomputable def Keep2 (X Y : List Addr) (h : Heap) : Prop := ∀ a o, a ∉ X → h.get? a = some o → o.cls ≠ .type "list" → a ∉ Y
mutual
theorem Rp.shift {X Y : List Addr} {h : Heap} (k : Keep2 X Y h) : ∀ (d : V) (v : Value), noLst d = true → Rp X h d v → Rp Y h d v
  | .none, v, _, e | .bool b, v, _, e | .int i, v, _, e | .str x, v, _, e | .bts b, v, _, e | .glob g, v, _, e => by simp only [Rp] at e ⊢; exact e
  | .tup l, v, n, e => by
    simp only [Rp] at e ⊢
    obtain ⟨a, vs, r, hx, ⟨o, ho, hc, hg⟩, hl⟩ := e
    exact ⟨a, vs, r, k a _ hx ho (by rw [hc]; simp), ⟨o, ho, hc, hg⟩, RpL.shift k l vs (by simpa only [noLst] using n) hl⟩
  | .lst l, v, n, e => by simp only [noLst] at n; cases n
  | .scr ns, v, n, e => by simp only [noLst] at n; cases n
  | .inst C fs, v, n, e => by
    simp only [Rp] at e ⊢
    obtain ⟨x, dx, es, r, hx, hdx, ⟨⟨ox, hg, go, gd, gp⟩, ⟨od, n', hgd, gd', gp'⟩⟩, hl⟩ := e
    exact ⟨x, dx, es, r, k x _ hx hg (by rw [go]; simp), k dx _ hdx hgd (by rw [gd']; simp), ⟨⟨ox, hg, go, gd, gp⟩, ⟨od, n', hgd, gd', gp'⟩⟩, RpF.shift k fs es (by simpa only [noLst] using n) hl⟩
theorem RpL.shift {X Y : List Addr} {h : Heap} (k : Keep2 X Y h) : ∀ (ds : List V) (vs : List Value), noLsts ds = true → RpL X h ds vs → RpL Y h ds vs
  | [], vs, _, e => by simp only [RpL] at e ⊢; exact e
  | d :: ds, vs, n, e => by
    simp only [noLsts, Bool.and_eq_true] at n
    simp only [RpL] at e ⊢
    obtain ⟨v, ws, r, hd, hr⟩ := e
    exact ⟨v, ws, r, Rp.shift k d v n.1 hd, RpL.shift k ds ws n.2 hr⟩
theorem RpF.shift {X Y : List Addr} {h : Heap} (k : Keep2 X Y h) : ∀ (fs : List (String × V)) (es : List DictEntry), noLstF fs = true → RpF X h fs es → RpF Y h fs es
  | [], es, _, e => by simp only [RpF] at e ⊢; exact e
  | (n, d) :: fs, es, q, e => by
    simp only [noLstF, Bool.and_eq_true] at q
    simp only [RpF] at e ⊢
    obtain ⟨x, r, p, hk, hd, hr⟩ := e
    exact ⟨x, r, p, hk, Rp.shift k d x.val q.1 hd, RpF.shift k fs r q.2 hr⟩
end
noncomputable abbrev without (X : List Addr) (l : Addr) : List Addr := X.filter (fun a => decide (a ≠ l))
theorem mem_without {X : List Addr} {l a : Addr} : a ∈ without X l ↔ a ∈ X ∧ a ≠ l := by simp [List.mem_filter]
/-- the owned list let go into the frame -/
theorem SOk.freeze {x : String} {ds : List V} (S : SOk K X₀ X m b env Γ (some (x, .lst ds)) h) : ∃ X', (∀ a ∈ X', a ∈ X) ∧ SOk K X₀ X' m b env ((x, .lst ds) :: Γ) none h := by
  obtain ⟨q1, q2, u, hm, l, vs, rfl, hX, hb, hI, rl⟩ := S.own x _ rfl
  have sub : ∀ a ∈ without X l, a ∈ X := fun a ha => (mem_without.mp ha).1
  have nl : ∀ a o, h.get? a = some o → (∀ xs n, o.data ≠ .seq xs n) → a ≠ l := fun a o e ne q => by
    obtain ⟨o', ho', _, _, n, hd⟩ := hI
    rw [q, ho'] at e; cases e; exact ne _ _ hd
  have nc : ∀ c v, h.IsCell c v → c ≠ l := fun c v ho => by
    obtain ⟨o, ho, hd⟩ := ho
    exact nl c o ho fun xs n q => by rw [hd] at q; cases q
  have nb : ∀ a ∈ X₀, a ≠ l := fun a ha q => by
    have := S.cx.liv a ha
    rw [q, hb] at this; cases this
  have lk : ∀ a ∈ X, a ∉ without X l → a = l := fun a ha hn => Classical.byContradiction fun q => hn (mem_without.mpr ⟨ha, q⟩)
  refine ⟨without X l, sub, ⟨S.ok, S.cx, fun a ha => mem_without.mpr ⟨S.sup a ha, nb a ha⟩, fun a ha => S.new a (sub a ha), fun a ha => S.liv a (sub a ha), mem_without.mpr ⟨S.lin, ?_⟩, S.lnew, S.le, S.ns, fun z d' e => ?_, fun z o e => (by cases e),
    ⟨fun y c hk hc => ?_, S.cel.2⟩⟩⟩
  · obtain ⟨o, es, ep, ho, hd, _⟩ := S.ns
    exact nl _ o ho fun xs n q => by rw [hd] at q; cases q
  · by_cases hz : z = x
    · subst hz
      rw [List.lookup_cons, beq_self_eq_true] at e
      cases e
      refine ⟨q1, _, ?_, .inl ⟨q2, hm⟩⟩
      simp only [Rp]
      exact ⟨l, vs, rfl, fun q => (mem_without.mp q).2 rfl, hI, rl.sub fun a ha _ => sub a ha⟩
    · rw [List.lookup_cons, beq_eq_false_iff_ne.mpr hz] at e
      obtain ⟨p1, u, p2, p3⟩ := S.vars z d' e
      exact ⟨p1, u, p2.sub fun a ha _ => sub a ha, p3.imp id fun ⟨p, c, hc, hX, ho⟩ => ⟨p, c, hc, mem_without.mpr ⟨hX, nc _ _ ho⟩, ho⟩⟩
  · obtain ⟨a1, a2, v, a3⟩ := S.cel.1 y c hk hc
    exact ⟨mem_without.mpr ⟨a1, nc _ _ a3⟩, a2, v, a3⟩
theorem Ex.freeze {x : String} {ds : List V} {ss : List Stmt} {out : Out} (hs : Ex prog w K n env ((x, .lst ds) :: Γ) none ss out) : Ex prog w K n env Γ (some (x, .lst ds)) ss out := fun X₀ X m b A s Q E B S q => by
  obtain ⟨X', _, S'⟩ := S.freeze
  exact hs X₀ X' m b A s Q E B S' q
theorem Ex.thin {Γ' : Lc} {ss : List Stmt} {out : Out} (hs : Ex prog w K n env Γ' O ss out) (hΓ : ∀ x d, Γ'.lookup x = some d → Γ.lookup x = some d) : Ex prog w K n env Γ O ss out := fun X₀ X m b A s Q E B S q =>
  hs X₀ X m b A s Q E B { S with vars := fun x d e => S.vars x d (hΓ x d e) } q
/-- an evaluation that reads the owned list -/
theorem EvTO.thaw {x : String} {ds : List V} {e : PySem.Expr} {t : Bool} (hv : EvT prog w K n env ((x, .lst ds) :: Γ) e t) : EvTO prog w K n env Γ (some (x, .lst ds)) e t := fun X₀ X m b A s Q E B S q => by
  obtain ⟨X', sub, S'⟩ := S.freeze
  exact hv X' A s Q E S'.cxX (B.aok S') S'.lok fun h' tk k => q _ _ (k.sub fun a ha _ => sub a ha)
/-- «x.append(e)» -/
theorem Ex1.append {x : String} {ds : List V} {d : V} {e : PySem.Expr} {xp ap pos p2 : Pos} (h : EvO prog w K n env Γ (some (x, .lst ds)) e d) (hz : ds.length ≤ 1000) (hl : (ap.endLine == pos.line) = true := by rfl)
    (hse : starEach [e] env = [(false, eval e env)] := by rfl) (hb : attributeBase (.Name (Str.ofString x) xp) "append" env (eval (.Name (Str.ofString x) xp) env) = eval (.Name (Str.ofString x) xp) env := by with_unfolding_all rfl)
    (hi : interactive env = false := by rfl) (hsw : swapsWith (.Call (.Attribute (.Name (Str.ofString x) xp) "append" ap) [e] [] pos) none p2.line env = pure false := by rfl) :
    Ex1 prog w K n env Γ (some (x, .lst ds)) (.Expr (.Call (.Attribute (.Name (Str.ofString x) xp) "append" ap) [e] [] pos) p2) (.next Γ (some (x, .lst (ds ++ [d])))) := fun X₀ X m b A s Q E B S q => by
  refine wpAny_Expr_any ?_ hi hsw
  rw [arm_eval_Call, hb]
  obtain ⟨q1, q2, u, hm, l, vs, rfl, hX, hb0, hI, rl⟩ := S.own x _ rfl
  refine wpAny_bind (wpAny_Name (wpAny_loadName_local S.ok.kind q2 S.ns hm (wpAny_bind (wpAny_standAt ?_))) q1)
  unfold methodCall
  have hf : methodCallForm (([e] : List PySem.Expr).length + ([] : List Keyword).length) (backTo pos (starEach [e] env)) (backToKw pos (keywordEach [] env)) = true := by rw [hse]; rfl
  rw [hf]
  refine wpAny_bind (wpAny_holding ?_)
  obtain ⟨o, ho, hc, hdi, hd⟩ := hI
  refine Calls.getMethod_list_append ho hc hdi ?_
  unfold methodCallPos
  rw [hl]
  refine wpAny_bind (wpAny_pure ?_)
  refine callWith_B (first := [.ref l]) rfl ?_ hse rfl
  rw [hse]
  show wpAny _ _ (spliced [(false, eval e env)]) _ _ _
  refine spliced_cons (h X₀ X m b A s _ E B S fun v h' tk k r => spliced_nil ?_)
  have S' := S.step k
  obtain ⟨q1', q2', u', hm', l', vs', hu, hX', hb0', hI', rl'⟩ := S'.own x _ rfl
  rw [hm] at hm'; cases hm'; cases hu
  refine append_ls hI' (by rw [rl'.length]; exact hz) fun h'' hs hl => ?_
  exact q _ _ _ ⟨rfl, X, m, S'.relist hm hs hl (rl'.snoc r)⟩
theorem Ex1.setItem {x : String} {ds : List V} {d : V} {e i : PySem.Expr} {k : Nat} {xp ap pos : Pos} (h : EvO prog w K n env Γ (some (x, .lst ds)) e d) (hi : EvO prog w K n env Γ (some (x, .lst ds)) i (.int k)) (hk : k < ds.length) (hz : ds.length ≤ 1000)
    (hs : swapsWith e (some (.Subscript (.Name (Str.ofString x) xp) i ap)) pos.line env = pure false := by rfl) :
    Ex1 prog w K n env Γ (some (x, .lst ds)) (.Assign [.Subscript (.Name (Str.ofString x) xp) i ap] e pos) (.next Γ (some (x, .lst (ds.set k d)))) := fun X₀ X m b A s Q E B S q => by
  refine wpAny_Assign_Subscript (h X₀ X m b A s _ E B S fun v h' tk kk r => ?_) hs
  have S' := S.step kk
  obtain ⟨q1, q2, u, hm, l, vs, rfl, hX, hb0, hI, rl⟩ := S'.own x _ rfl
  refine wpAny_Name (wpAny_loadName_local S.ok.kind q2 S'.ns hm ?_) q1
  refine hi X₀ X m b A _ _ E B S' fun iv h'' tk' k' ri => ?_
  simp only [Rp] at ri
  obtain ⟨t, rfl⟩ := ri
  have S2 := S'.step k'
  obtain ⟨q1', q2', u', hm', l', vs', hu, hX', hb0', hI', rl'⟩ := S2.own x _ rfl
  rw [hm] at hm'; cases hm'; cases hu
  refine setItem_ls hI' (Int.natCast_nonneg k) (Int.lt_of_lt_of_le (show (k : Int) < 1001 by omega) (by decide)) (by rw [List.size_toArray, rl'.length]; omega) fun h3 hs hl => ?_
  refine q _ _ _ ⟨rfl, X, m, S2.relist hm hs (vs' := vs'.set _ v) (by simpa using hl) (rl'.set (r.le k') _)⟩
end
end
section
section
variable {prog : Program} {w : World} {K : Frag} {n : Nat} {env : Env} {Γ : Lc} {O : Option (String × OV)} {X₀ X : List Addr} {m : Str → Option Value} {b h h' : Heap}
theorem SOk.taken {x : String} {l : Addr} {vs : List Value} {ds : List V} {h1 h2 : Heap} (S : SOk K X₀ X m b env Γ none h) (hl0 : h.get? l = none) (k : Le X h h1) (hI : IsLs h1 l vs.toArray) (rl : RpL (l :: X) h1 ds vs) (hs : Heap.SameBut env.locals h1 h2)
    (hn : h2.Ns env.locals fun y => if y = Str.ofString x then some (.ref l) else m y) (hx : locOk env x) (hΓ : Γ.lookup x = none) : SOk K X₀ (l :: X) (fun y => if y = Str.ofString x then some (.ref l) else m y) b env Γ (some (x, .lst ds)) h2 := by
  have nb : b.get? l = none := S.le.gone hl0
  have ne : ∀ a o, h.get? a = some o → a ≠ l := fun a o e q => by rw [q, hl0] at e; cases e
  have st : Stays X (l :: X) h h2 := fun a o hX e => ⟨fun z => (List.mem_cons.mp z).elim (ne a o e) hX, (hs.2 a fun q => hX (q ▸ S.lin)).trans (k.get e hX)⟩
  have hlL : l ≠ env.locals := by
    obtain ⟨o, es, ep, ho, hd, _⟩ := S.ns
    exact Ne.symm (ne _ o ho)
  have st1 : Stays (l :: X) (l :: X) h1 h2 := fun a o hX e => ⟨hX, (hs.2 a fun q => hX (by rw [q]; exact .tail _ S.lin)).trans e⟩
  have cel : ∀ c v, h.IsCell c v → h2.IsCell c v := fun c v ho => (k.cell ho).sameBut hs fun q => by
    obtain ⟨o, ho, hd⟩ := ho
    obtain ⟨o', es, ep, ho', hd', _⟩ := S.ns
    rw [q, ho'] at ho; cases ho; rw [hd] at hd'; cases hd'
  have S1 := S.step k
  refine ⟨S.ok, S.cx, fun a ha => .tail _ (S.sup a ha), fun a ha => ?_, fun a ha => ?_, .tail _ S.lin, S.lnew, fun a o e => ?_, hn, fun y d' e => ?_, fun y o e => ?_, ⟨fun y c hk hc => ?_, S.cel.2⟩⟩
  · rcases List.mem_cons.mp ha with rfl | ha
    · exact .inr nb
    · exact S.new a ha
  · rcases List.mem_cons.mp ha with rfl | ha
    · obtain ⟨o, ho, _⟩ := hI
      rw [hs.2 _ hlL, ho]; rfl
    · by_cases q : a = env.locals
      · obtain ⟨o, _, _, ho, _⟩ := hn
        rw [q, ho]; rfl
      · rw [hs.2 a q]; exact S1.liv a ha
  · have hne : a ≠ env.locals := fun q => by rw [q, S.lnew] at e; cases e
    obtain ⟨⟨sl, e₁⟩, k₁⟩ := S1.le a o e
    exact ⟨⟨sl, (hs.2 a hne).trans e₁⟩, fun hX => (hs.2 a hne).trans (k₁ hX)⟩
  · have hy : y ≠ x := fun q => by rw [q, hΓ] at e; cases e
    obtain ⟨q, u, r', sl⟩ := S.vars y d' e
    refine ⟨q, u, r'.mono st, ?_⟩
    rcases sl with ⟨a1, a2⟩ | ⟨a1, c, hc, hX, ho⟩
    · exact .inl ⟨a1, by dsimp only; rw [if_neg fun z => hy (ofString_inj z)]; exact a2⟩
    · exact .inr ⟨a1, c, hc, .tail _ hX, cel _ _ ho⟩
  · cases e
    refine ⟨hx.2, hx.1, _, if_pos rfl, l, vs, rfl, .head _, nb, ?_, rl.mono st1⟩
    obtain ⟨o, ho, r⟩ := hI
    exact ⟨o, (hs.2 l hlL).trans ho, r⟩
  · obtain ⟨a1, a2, v, a3⟩ := S.cel.1 y c hk hc
    exact ⟨.tail _ a1, a2, v, cel _ _ a3⟩
variable (prog w K) in
/-- the expression yields a new list -/
noncomputable def EvNew (n : Nat) (env : Env) (Γ : Lc) (e : PySem.Expr) (ds : List V) : Prop :=
  ∀ (X : List Addr) (A : Around) (s : Shared) (Q : Value → Shared → Prop) (E : Value → Shared → Prop), Cx K X s.heap → AOk n X A s.heap → LOk X env Γ s.heap →
    (∀ l vs h' tk, s.heap.get? l = none → Le X s.heap h' → IsLs h' l vs.toArray → RpL (l :: X) h' ds vs → Q (.ref l) ⟨h', s.gens, s.drawn, tk, s.os⟩) → wpAny (model prog w) A (eval e env) Q E s
theorem EvNew.nil {pos : Pos} : EvNew prog w K n env Γ (.List [] pos) [] := fun X A s Q E c a l q => by
  have n0 : s.heap.get? s.heap.objs.size = none := Heap.get?_none_of_le (Nat.le_refl _)
  refine List_ (EvL.nil X A s pos _ E c a l fun vs h' tk k r => ?_)
  simp only [RpL] at r
  subst r
  have n1 : h'.get? h'.objs.size = none := Heap.get?_none_of_le (Nat.le_refl _)
  exact wpAny_newObj_type (q _ _ _ _ (k.gone n1) (k.trans (Le.push _ _ _)) ⟨_, Heap.get?_push_size _ rfl, rfl, rfl, 0, rfl⟩ .nil)
theorem RpL.more {X : List Addr} {h : Heap} {ds : List V} {vs : List Value} {l : Addr} (r : RpL X h ds vs) (hl : h.get? l = none) : RpL (l :: X) h ds vs := r.mono fun a o ha e => ⟨fun z => (List.mem_cons.mp z).elim (fun q => by rw [q, hl] at e; cases e) ha, e⟩
theorem EvNew.list {x : Str} {p pos : Pos} {e : PySem.Expr} {ds : List V} {d : V} (hf : Ev prog w K n env Γ (.Name x p) (.glob (.type "list"))) (he : Ev prog w K n env Γ e d) (hd : d = .tup ds ∨ d = .lst ds) (hz : ds.length ≤ 1000)
    (hs : starEach [e] env = [(false, eval e env)] := by rfl) : EvNew prog w K n env Γ (.Call (.Name x p) [e] [] pos) ds := fun X A s Q E c a l q => by
  refine wpAny_Call_NameR (hf X A s _ E c a l fun v h' tk k r => ?_)
  simp only [Rp] at r
  subst r
  refine callWith_B (first := []) rfl ?_ hs rfl
  rw [hs]
  show wpAny _ _ (spliced [(false, eval e env)]) _ _ _
  refine spliced_cons (he X A _ _ E (c.le k) (a.le k) (l.le k) fun v h2 tk2 k2 r2 => spliced_nil ?_)
  have key : ∀ b vs o nn (T : String), v = .ref b → (T = "list" ∨ T = "tuple") → h2.get? b = some o → o.cls = .type T → o.data = .seq vs.toArray nn → RpL X h2 ds vs → wpAny (model prog w) A (call (.type "list") [v]) Q E ⟨h2, s.gens, s.drawn, tk2, s.os⟩ := by
    intro b vs o nn T hv hT ho hc hdd rl
    subst hv
    refine call_list_seq b hT ho hc hdd (fun h' c' k' e => ?_) (by rw [List.size_toArray, sizeLine_eq, rl.length]; omega)
    have n2 : h2.get? h2.objs.size = none := Heap.get?_none_of_le (Nat.le_refl _)
    have le : Le X h2 h' := .of_stays k'
    exact q _ vs _ _ (k.gone (k2.gone n2)) ((k.trans k2).trans le) ⟨_, e, rfl, rfl, c', rfl⟩ ((rl.more n2).mono fun a o ha e => ⟨ha, k' a o e⟩)
  rcases hd with rfl | rfl
  · simp only [Rp] at r2
    obtain ⟨b, vs, hv, hb, ⟨o, ho, hc, nn, hdd⟩, rl⟩ := r2
    exact key b vs o nn "tuple" hv (.inr rfl) ho hc hdd rl
  · simp only [Rp] at r2
    obtain ⟨b, vs, hv, hb, ⟨o, ho, hc, _, nn, hdd⟩, rl⟩ := r2
    exact key b vs o nn "list" hv (.inl rfl) ho hc hdd rl
theorem Ex1.own {x : String} {p pos : Pos} {e : PySem.Expr} {ds : List V} (h : EvNew prog w K n env Γ e ds) (hk : locOk env x) (hΓ : Γ.lookup x = none := by rfl) (hs : swapsWith e (some (.Name (Str.ofString x) p)) pos.line env = pure false := by rfl) :
    Ex1 prog w K n env Γ none (.Assign [.Name (Str.ofString x) p] e pos) (.next Γ (some (x, .lst ds))) := fun X₀ X m b A s Q E B S q =>
  wpAny_Assign_Name (h X A s _ E S.cxX (B.aok S) S.lok fun l vs h' tk hl k hI rl =>
    wpAny_storeName_local hk.1 (S.step k).ns (fun h'' hn hs => q _ _ _ ⟨rfl, l :: X, _, S.taken hl k hI rl hs hn hk hΓ⟩) (by rw [S.ok.kind]; rfl)) hs
end
end
section
/-- all but iterators stays -/
noncomputable def Flds (h h' : Heap) : Prop := ∀ a o, h.get? a = some o → (∀ vs, o.data ≠ .fields vs) → h'.get? a = some o
mutual
theorem Rp.flds {X : List Addr} {h h' : Heap} (k : Flds h h') : ∀ (d : V) (v : Value), Rp X h d v → Rp X h' d v
  | .none, v, e | .bool b, v, e | .int i, v, e | .str x, v, e | .bts b, v, e | .glob g, v, e => by simp only [Rp] at e ⊢; exact e
  | .tup l, v, e => by
    simp only [Rp] at e ⊢
    obtain ⟨a, vs, r, hx, ⟨o, ho, hc, n, hg⟩, hl⟩ := e
    exact ⟨a, vs, r, hx, ⟨o, k a _ ho (by rw [hg]; simp), hc, n, hg⟩, RpL.flds k l vs hl⟩
  | .lst l, v, e => by
    simp only [Rp] at e ⊢
    obtain ⟨a, vs, r, hx, ⟨o, ho, hc, hd, n, hg⟩, hl⟩ := e
    exact ⟨a, vs, r, hx, ⟨o, k a _ ho (by rw [hg]; simp), hc, hd, n, hg⟩, RpL.flds k l vs hl⟩
  | .scr ns, v, e => by
    simp only [Rp] at e ⊢
    obtain ⟨a, vs, r, hx, ⟨o, ho, hc, n, hg⟩, hl⟩ := e
    exact ⟨a, vs, r, hx, ⟨o, k a _ ho (by rw [hg]; simp), hc, n, hg⟩, hl⟩
  | .inst C fs, v, e => by
    simp only [Rp] at e ⊢
    obtain ⟨x, dx, es, r, hx, hdx, ⟨⟨ox, hg, go, gd, gp⟩, ⟨od, n', hgd, gd', gp'⟩⟩, hl⟩ := e
    exact ⟨x, dx, es, r, hx, hdx, ⟨⟨ox, k x _ hg (by rw [gp]; simp), go, gd, gp⟩, ⟨od, n', k dx _ hgd (by rw [gp']; simp), gd', gp'⟩⟩, RpF.flds k fs es hl⟩
theorem RpL.flds {X : List Addr} {h h' : Heap} (k : Flds h h') : ∀ (ds : List V) (vs : List Value), RpL X h ds vs → RpL X h' ds vs
  | [], vs, e => by simp only [RpL] at e ⊢; exact e
  | d :: ds, vs, e => by
    simp only [RpL] at e ⊢
    obtain ⟨v, ws, r, hd, hr⟩ := e
    exact ⟨v, ws, r, Rp.flds k d v hd, RpL.flds k ds ws hr⟩
theorem RpF.flds {X : List Addr} {h h' : Heap} (k : Flds h h') : ∀ (fs : List (String × V)) (es : List DictEntry), RpF X h fs es → RpF X h' fs es
  | [], es, e => by simp only [RpF] at e ⊢; exact e
  | (n, d) :: fs, es, e => by
    simp only [RpF] at e ⊢
    obtain ⟨x, r, p, hk, hd, hr⟩ := e
    exact ⟨x, r, p, hk, Rp.flds k d x.val hd, RpF.flds k fs r hr⟩
end
theorem Flds.ns {h h' : Heap} (k : Flds h h') {a : Addr} {m : Str → Option Value} (n : h.Ns a m) : h'.Ns a m := by
  obtain ⟨o, es, ep, ho, hd, r⟩ := n
  exact ⟨o, es, ep, k a o ho (by rw [hd]; simp), hd, r⟩
theorem Flds.cell {h h' : Heap} (k : Flds h h') {a : Addr} {v : Option Value} (n : h.IsCell a v) : h'.IsCell a v := by
  obtain ⟨o, ho, hd⟩ := n
  exact ⟨o, k a o ho (by rw [hd]; simp), hd⟩
theorem Flds.ls {h h' : Heap} (k : Flds h h') {a : Addr} {v : Array Value} (n : IsLs h a v) : IsLs h' a v := by
  obtain ⟨o, ho, hc, hdi, n, hd⟩ := n
  exact ⟨o, k a o ho (by rw [hd]; simp), hc, hdi, n, hd⟩
theorem IsLs.le {X : List Addr} {h h' : Heap} (k : Le X h h') {a : Addr} {v : Array Value} (n : IsLs h a v) : IsLs h' a v := by
  obtain ⟨o, ho, r⟩ := n
  obtain ⟨⟨sl, e⟩, _⟩ := k a o ho
  exact ⟨_, e, r⟩
structure Wk (prog : Program) (w : World) (I : Addr) (fp : List Addr) (ds : List V) (St : List Addr → Nat → Heap → Prop) : Prop where
  frame : ∀ X X' i h h', St X i h → Stays X X' h h' → St X' i h'
  flds : ∀ X i h, St X i h → ∀ a ∈ fp, ∃ o vs, h.get? a = some o ∧ o.data = .fields vs
  out : ∀ X i h, St X i h → ∀ a ∈ fp, a ∉ X
  item : ∀ (X : List Addr) (A : Around) (i : Nat) (d : V) (s : Shared) (Q : Option Value → Shared → Prop) (E : Value → Shared → Prop), A.handled = none → St X i s.heap → ds[i]? = some d →
    (∀ v h' tk, St X (i + 1) h' → Rp X h' d v → (∀ a o, a ∉ fp → s.heap.get? a = some o → h'.get? a = some o) → Q (some v) ⟨h', s.gens, s.drawn, tk, s.os⟩) → wpAny (model prog w) A (pyNext (.ref I)) Q E s
  done : ∀ (X : List Addr) (A : Around) (i : Nat) (s : Shared) (Q : Option Value → Shared → Prop) (E : Value → Shared → Prop), A.handled = none → St X i s.heap → ds[i]? = none →
    (∀ h' tk, (∀ a o, a ∉ fp → s.heap.get? a = some o → h'.get? a = some o) → Q none ⟨h', s.gens, s.drawn, tk, s.os⟩) → wpAny (model prog w) A (pyNext (.ref I)) Q E s
  self : ∀ (X : List Addr) (A : Around) (i : Nat) (s : Shared) (Q : Value → Shared → Prop) (E : Value → Shared → Prop), St X i s.heap → Q (.ref I) s → wpAny (model prog w) A (pyIter (.ref I)) Q E s
theorem RpL.at {X : List Addr} {h : Heap} {d : V} : ∀ {ds : List V} {vs : List Value} {i : Nat}, RpL X h ds vs → ds[i]? = some d → ∃ v, vs[i]? = some v ∧ Rp X h d v
  | [], vs, i, r, e => by simp at e
  | d :: ds, vs, i, r, e => by
    simp only [RpL] at r
    obtain ⟨v, ws, rfl, hd, hr⟩ := r
    cases i with
    | zero => simp at e; subst e; exact ⟨v, by simp, hd⟩
    | succ i => simp at e; obtain ⟨u, hu, r⟩ := hr.at e; exact ⟨u, by simpa using hu, r⟩
theorem get_none {α β : Type} {l : List α} {k : List β} {i : Nat} (hl : l.length = k.length) (e : k[i]? = none) : l[i]? = none := by
  rw [List.getElem?_eq_none_iff] at e ⊢; omega
section
variable {prog : Program} {w : World}
theorem Wk.tup (I ax : Addr) (vs : List Value) (ds : List V) : Wk prog w I [I] ds (fun X i h => I ∉ X ∧ ax ∉ X ∧ I ≠ ax ∧ h.IsTupleIter I ax i ∧ IsTup h ax vs.toArray ∧ RpL X h ds vs) where
  frame := fun X X' i h h' ⟨h1, h2, h3, ⟨o, ho, r⟩, ⟨o', ho', r'⟩, rl⟩ k => ⟨(k I o h1 ho).1, (k ax o' h2 ho').1, h3, ⟨o, (k I o h1 ho).2, r⟩, ⟨o', (k ax o' h2 ho').2, r'⟩, rl.mono k⟩
  flds := fun X i h ⟨h1, h2, h3, ⟨o, ho, _, r⟩, _⟩ a ha => by rw [List.mem_singleton.mp ha]; exact ⟨o, _, ho, r⟩
  out := fun X i h ⟨h1, _⟩ a ha => by rw [List.mem_singleton.mp ha]; exact h1
  item := fun X A i d s Q E hA ⟨h1, h2, h3, hi, ht, rl⟩ hd q => by
    obtain ⟨v, hv, r⟩ := rl.at hd
    have hi' := hi
    obtain ⟨oi, hoi, _, hfi⟩ := hi'
    refine wpAny_pyNext_tuple_item hi ht (x := v) (by rw [List.getElem?_toArray]; exact hv) fun h' hi2 hs => ?_
    have kf : Flds s.heap h' := fun a o e ne => (hs.2 a fun z => by rw [z, hoi] at e; cases e; exact ne _ hfi).trans e
    obtain ⟨o', ho', r'⟩ := ht
    exact q v h' _ ⟨h1, h2, h3, hi2, ⟨o', (hs.2 ax (Ne.symm h3)).trans ho', r'⟩, RpL.flds kf _ _ rl⟩ (Rp.flds kf _ _ r) fun a o ha e => (hs.2 a fun z => ha (by simp [z])).trans e
  done := fun X A i s Q E hA ⟨h1, h2, h3, hi, ht, rl⟩ hd q =>
    wpAny_pyNext_tuple_end hA hi ht (by rw [List.getElem?_toArray]; exact get_none rl.length hd) fun h' hs => q h' _ fun a o ha e => hs a o (fun z => ha (by simp [z])) e
  self := fun X A i s Q E ⟨h1, h2, h3, hi, ht, rl⟩ q => wpAny_pyIter_tupleiter hi q
theorem Wk.lst (I ax : Addr) (vs : List Value) (ds : List V) : Wk prog w I [I] ds (fun X i h => I ∉ X ∧ ax ∉ X ∧ I ≠ ax ∧ h.IsListIter I ax i ∧ IsLs h ax vs.toArray ∧ RpL X h ds vs) where
  frame := fun X X' i h h' ⟨h1, h2, h3, ⟨o, ho, r⟩, ⟨o', ho', r'⟩, rl⟩ k => ⟨(k I o h1 ho).1, (k ax o' h2 ho').1, h3, ⟨o, (k I o h1 ho).2, r⟩, ⟨o', (k ax o' h2 ho').2, r'⟩, rl.mono k⟩
  flds := fun X i h ⟨h1, h2, h3, ⟨o, ho, _, r⟩, _⟩ a ha => by rw [List.mem_singleton.mp ha]; exact ⟨o, _, ho, r⟩
  out := fun X i h ⟨h1, _⟩ a ha => by rw [List.mem_singleton.mp ha]; exact h1
  item := fun X A i d s Q E hA ⟨h1, h2, h3, hi, ht, rl⟩ hd q => by
    obtain ⟨v, hv, r⟩ := rl.at hd
    have hi' := hi
    obtain ⟨oi, hoi, _, hfi⟩ := hi'
    refine wpAny_pyNext_list_item hi ht.isList (x := v) (by rw [List.getElem?_toArray]; exact hv) fun h' hi2 hs => ?_
    have kf : Flds s.heap h' := fun a o e ne => (hs.2 a fun z => by rw [z, hoi] at e; cases e; exact ne _ hfi).trans e
    exact q v h' _ ⟨h1, h2, h3, hi2, kf.ls ht, RpL.flds kf _ _ rl⟩ (Rp.flds kf _ _ r) fun a o ha e => (hs.2 a fun z => ha (by simp [z])).trans e
  done := fun X A i s Q E hA ⟨h1, h2, h3, hi, ht, rl⟩ hd q =>
    wpAny_pyNext_list_end hA hi ht.isList (by rw [List.getElem?_toArray]; exact get_none rl.length hd) fun h' hs => q h' _ fun a o ha e => hs a o (fun z => ha (by simp [z])) e
  self := fun X A i s Q E ⟨h1, h2, h3, hi, ht, rl⟩ q => wpAny_pyIter_listiter hi q
/-- range(n) -/
theorem Wk.range (I : Addr) (n : Nat) : Wk prog w I [I] ((List.range n).map fun (i : Nat) => V.int (i : Int)) (fun X i h => I ∉ X ∧ i ≤ n ∧ IsRangeIter h I (i : Int) ((n : Int) - i) 1) where
  frame := fun X X' i h h' ⟨h1, h2, h3⟩ k => ⟨(k I _ h1 h3).1, h2, (k I _ h1 h3).2⟩
  flds := fun X i h ⟨h1, h2, h3⟩ a ha => by rw [List.mem_singleton.mp ha]; exact ⟨_, _, h3, rfl⟩
  out := fun X i h ⟨h1, _⟩ a ha => by rw [List.mem_singleton.mp ha]; exact h1
  item := fun X A i d s Q E hA ⟨h1, h2, h3⟩ hd q => by
    have hi : i < n := by
      have := List.getElem?_eq_some_iff.mp hd
      obtain ⟨hl, _⟩ := this
      simpa using hl
    have hd' : d = .int i := by
      rw [List.getElem?_map, List.getElem?_range hi] at hd
      simpa using hd.symm
    subst hd'
    refine wpAny_pyNext_range_item h3 (by omega) fun h' hi2 hs => ?_
    exact q _ h' _ ⟨h1, hi, by rw [show ((n : Int) - (i + 1 : Nat)) = (n : Int) - i - 1 by omega]; exact hi2⟩ .int fun a o ha e => (hs.2 a fun z => ha (by simp [z])).trans e
  done := fun X A i s Q E hA ⟨h1, h2, h3⟩ hd q => by
    have hi : n ≤ i := by
      have := List.getElem?_eq_none_iff.mp hd
      simpa using this
    exact wpAny_pyNext_range_end hA h3 (by omega) fun h' hs => q h' _ fun a o ha e => hs a o (fun z => ha (by simp [z])) e
  self := fun X A i s Q E ⟨h1, h2, h3⟩ q => wpAny_pyIter_rangeiter h3 q
variable (prog w) (K : Frag) in
noncomputable def EvIt (n : Nat) (env : Env) (Γ : Lc) (e : PySem.Expr) (ds : List V) : Prop :=
  ∀ (X : List Addr) (A : Around) (s : Shared) (Q : Value → Shared → Prop) (E : Value → Shared → Prop), Cx K X s.heap → AOk n X A s.heap → LOk X env Γ s.heap →
    (∀ I fp St h' tk, Wk prog w I fp ds St → Le X s.heap h' → (∀ a ∈ fp, s.heap.get? a = none) → St X 0 h' → Q (.ref I) ⟨h', s.gens, s.drawn, tk, s.os⟩) →
    wpAny (model prog w) A (eval e env) (fun v s₁ => wpAny (model prog w) A (pyIter v) Q E s₁) E s
variable {K : Frag} {n : Nat} {env : Env} {Γ : Lc}
theorem EvIt.tup {e : PySem.Expr} {ds : List V} (h : Ev prog w K n env Γ e (.tup ds)) : EvIt prog w K n env Γ e ds := fun X A s Q E c a l q =>
  h X A s _ E c a l fun v h' tk k r => by
    simp only [Rp] at r
    obtain ⟨ax, vs, rfl, ha, ht, rl⟩ := r
    have nI : h'.get? h'.objs.size = none := Heap.get?_none_of_le (Nat.le_refl _)
    have hne : h'.objs.size ≠ ax := fun z => by obtain ⟨o, ho, _⟩ := ht; rw [← z, nI] at ho; cases ho
    refine wpAny_pyIter_tuple ht (q _ [h'.objs.size] _ _ _ (Wk.tup (prog := prog) (w := w) _ ax vs ds) (k.trans (Le.push _ _ _)) (fun a ha => ?_) ⟨(c.le k).nx nI, ha, hne, ⟨_, Heap.get?_push_size _ rfl, rfl, rfl⟩, ?_, rl.le (Le.push _ _ _)⟩)
    · rw [List.mem_singleton.mp ha]; exact k.gone nI
    · obtain ⟨o, ho, r⟩ := ht
      exact ⟨o, Heap.get?_push_of_some _ ho, r⟩
theorem EvIt.lst {e : PySem.Expr} {ds : List V} (h : Ev prog w K n env Γ e (.lst ds)) : EvIt prog w K n env Γ e ds := fun X A s Q E c a l q =>
  h X A s _ E c a l fun v h' tk k r => by
    simp only [Rp] at r
    obtain ⟨ax, vs, rfl, ha, ht, rl⟩ := r
    have nI : h'.get? h'.objs.size = none := Heap.get?_none_of_le (Nat.le_refl _)
    have hne : h'.objs.size ≠ ax := fun z => by obtain ⟨o, ho, _⟩ := ht; rw [← z, nI] at ho; cases ho
    refine wpAny_pyIter_list ht.isList (q _ [h'.objs.size] _ _ _ (Wk.lst (prog := prog) (w := w) _ ax vs ds) (k.trans (Le.push _ _ _)) (fun a ha => ?_) ⟨(c.le k).nx nI, ha, hne, ⟨_, Heap.get?_push_size _ rfl, rfl, rfl⟩, ht.le (Le.push X _ _), rl.le (Le.push _ _ _)⟩)
    rw [List.mem_singleton.mp ha]; exact k.gone nI
end
end
section
section
variable {prog : Program} {w : World} {K : Frag} {n : Nat} {env : Env} {Γ : Lc}
theorem EvIt.range {x : Str} {p pos : Pos} {e : PySem.Expr} {nn : Nat} (hf : Ev prog w K n env Γ (.Name x p) (.glob (.type "range"))) (he : Ev prog w K n env Γ e (.int nn)) (h1 : Builtin.Range.small 0 nn 1 = true) (h2 : Builtin.Range.rangeSize 0 nn 1 = nn)
    (hs : starEach [e] env = [(false, eval e env)] := by rfl) : EvIt prog w K n env Γ (.Call (.Name x p) [e] [] pos) ((List.range nn).map fun (i : Nat) => V.int (i : Int)) := fun X A s Q E c a l q => by
  refine wpAny_Call_NameR (hf X A s _ E c a l fun v h' tk k r => ?_)
  simp only [Rp] at r
  subst r
  refine callWith_B (first := []) rfl ?_ hs rfl
  rw [hs]
  show wpAny _ _ (spliced [(false, eval e env)]) _ _ _
  refine spliced_cons (he X A _ _ E (c.le k) (a.le k) (l.le k) fun v h2' tk2 k2 r2 => spliced_nil ?_)
  simp only [Rp] at r2
  obtain ⟨t, rfl⟩ := r2
  refine call_range_1 (wpAny_pyIter_range (Heap.get?_push_size _ rfl) h1 ?_)
  rw [h2]
  have n2 : h2'.get? h2'.objs.size = none := Heap.get?_none_of_le (Nat.le_refl _)
  have k3 : Le X s.heap (h2'.push { cls := .type "range", data := .fields #[.int 0 tk2, .int (nn : Int) t, .int 1 (tk2 + 1)] }) := (k.trans k2).trans (Le.push _ _ _)
  refine q _ [_] _ _ _ (Wk.range (prog := prog) (w := w) _ _) (k3.trans (Le.push _ _ _)) (fun a ha => ?_) ⟨(c.le k3).nxs (Nat.le_refl _), Nat.zero_le _, ?_⟩
  · rw [List.mem_singleton.mp ha]; exact k3.gone (Heap.get?_none_of_le (Nat.le_refl _))
  · show Heap.get? _ _ = _
    rw [Heap.get?_push_size _ rfl]
    simp
/-- the tests of a comprehension -/
noncomputable def EvTs (prog : Program) (w : World) (K : Frag) (n : Nat) (env : Env) (Γ : Lc) (ifs : List PySem.Expr) (b : Bool) : Prop :=
  ∀ (X : List Addr) (A : Around) (s : Shared) (Q : Bool → Shared → Prop) (E : Value → Shared → Prop), Cx K X s.heap → AOk n X A s.heap → LOk X env Γ s.heap →
    (∀ h' tk, Le X s.heap h' → Q b ⟨h', s.gens, s.drawn, tk, s.os⟩) → wpAny (model prog w) A (forIn ifs true fun c r => if r = true then do let ok ← PySem.isTrue c env (eval c env); pure (ForInStep.yield ok) else pure (ForInStep.yield r)) Q E s
theorem EvTs.nil : EvTs prog w K n env Γ [] true := fun X A s Q E c a l q => wpAny_tests_nil (q _ _ (Le.refl _ _))
theorem EvTs.one {t : PySem.Expr} {b : Bool} (h : EvT prog w K n env Γ t b) : EvTs prog w K n env Γ [t] b := fun X A s Q E c a l q => wpAny_tests_one (h X A s Q E c a l q)
/-- the free names of a comprehension -/
structure FreeOk (scope : Scope) (cl : List (Str × Addr)) (env : Env) (Γ Γf : Lc) : Prop where
  sub : ∀ y d, Γf.lookup y = some d → Γ.lookup y = some d ∧ env.kindOf (Str.ofString y) = some .cell ∧ (relabel scope env).names.lookup (Str.ofString y) = some .cell ∧ cl.lookup (Str.ofString y) = env.cells.lookup (Str.ofString y)
theorem FreeOk.nil {scope : Scope} {cl : List (Str × Addr)} : FreeOk scope cl env Γ [] := ⟨fun y d e => by cases e⟩
theorem AOk.grow {X Y : List Addr} {A : Around} {h : Heap} (a : AOk n X A h) (k : ∀ x ∈ X, x ∈ Y) : AOk n Y A h :=
  ⟨a.dep, a.uni, a.hdl, let ⟨l, h1, h2⟩ := a.frm; ⟨l, h1, fun e he => let ⟨q, L, o, r1, r2, r3⟩ := h2 e he; ⟨q, L, o, r1, k L r2, r3⟩⟩⟩
theorem Cx.grow {X : List Addr} {h₀ h : Heap} {Y : List Addr} (c : Cx K X h₀) (k : Le X h₀ h) (hY : ∀ a ∈ Y, a ∈ X ∨ (h₀.get? a = none ∧ (h.get? a).isSome = true)) : Cx K Y h :=
  let c' := c.le k
  ⟨c'.ki, fun a ha => (hY a ha).elim (c.off a) fun q => (by
    cases e : K.lookup a with
    | none => rfl
    | some o => have := c.ki a o e; rw [q.1] at this; cases this), fun a ha => (hY a ha).elim (c'.liv a) (·.2), c'.lim, c'.glb, c'.blt, c'.dig⟩
/-- what holds between the turns of a comprehension -/
structure CInv (X : List Addr) (C D : Addr) (h₀ : Heap) (St : List Addr → Nat → Heap → Prop) (i : Nat) (res : List V) (h : Heap) : Prop where
  le : Le X h₀ h
  st : St (C :: D :: X) i h
  ls : ∃ ys, IsLs h D ys.toArray ∧ RpL (C :: D :: X) h res ys
  ns : ∃ m, h.Ns C m
theorem not_two {X : List Addr} {C D b : Addr} {h₀ : Heap} {o : Obj} (fC : h₀.get? C = none) (fD : h₀.get? D = none) (e : h₀.get? b = some o) (hb : b ∉ X) : b ∉ C :: D :: X := fun z => by
  rcases List.mem_cons.mp z with q | z
  · rw [q, fC] at e; cases e
  · rcases List.mem_cons.mp z with q | z
    · rw [q, fD] at e; cases e
    · exact hb z
section
variable {X fp : List Addr} {C D : Addr} {h₀ h h' : Heap} {St : List Addr → Nat → Heap → Prop} {i : Nat} {res : List V}
theorem CInv.live (V : CInv X C D h₀ St i res h) (fC : h₀.get? C = none) (fD : h₀.get? D = none) : ∀ b ∈ C :: D :: X, b ∈ X ∨ (h₀.get? b = none ∧ (h.get? b).isSome = true) := fun b hb => by
  rcases List.mem_cons.mp hb with q | hb
  · subst q
    obtain ⟨m, o, _, _, ho, _⟩ := V.ns
    exact .inr ⟨fC, by rw [ho]; rfl⟩
  · rcases List.mem_cons.mp hb with q | hb
    · subst q
      obtain ⟨ys, ⟨o, ho, _⟩, _⟩ := V.ls
      exact .inr ⟨fD, by rw [ho]; rfl⟩
    · exact .inl hb
theorem CInv.up (V : CInv X C D h₀ St i res h) (fr : ∀ X X' i h h', St X i h → Stays X X' h h' → St X' i h') (fC : h₀.get? C = none) (fD : h₀.get? D = none) (k : Le (C :: D :: X) h h') : CInv X C D h₀ St i res h' := by
  obtain ⟨ys, ls, rl⟩ := V.ls
  obtain ⟨m, hn⟩ := V.ns
  refine ⟨fun b o e => ?_, fr _ _ _ _ _ V.st fun b o hb e => ⟨hb, k.get e hb⟩, ⟨ys, ls.le k, rl.le k⟩, _, k.ns hn⟩
  obtain ⟨⟨sl, e1⟩, k1⟩ := V.le b o e
  obtain ⟨⟨sl', e2⟩, k2⟩ := k b _ e1
  exact ⟨⟨sl', e2⟩, fun hX => k.get (k1 hX) (not_two fC fD e hX)⟩
theorem fp_le {h₀ h h3 : Heap} (le : Le X h₀ h) (hfp : ∀ a ∈ fp, h₀.get? a = none) (k3 : ∀ a o, a ∉ fp → h.get? a = some o → h3.get? a = some o) : Le X h₀ h3 := fun b o e => by
  have hb : b ∉ fp := fun z => by rw [hfp b z] at e; cases e
  obtain ⟨⟨sl, e1⟩, k1⟩ := le b o e
  exact ⟨⟨sl, k3 b _ hb e1⟩, fun hX => k3 b _ hb (k1 hX)⟩
theorem fp_flds {h h3 : Heap} (fl : ∀ a ∈ fp, ∃ o vs, h.get? a = some o ∧ o.data = .fields vs) (k3 : ∀ a o, a ∉ fp → h.get? a = some o → h3.get? a = some o) : Flds h h3 := fun b o e ne => k3 b o (fun hb => by
  obtain ⟨o', vs, e', q⟩ := fl b hb
  rw [e] at e'; cases e'; exact ne _ q) e
theorem but_le {a : Addr} {h₀ h h3 : Heap} (le : Le X h₀ h) (fa : h₀.get? a = none) (k3 : ∀ b o, b ≠ a → h.get? b = some o → h3.get? b = some o) : Le X h₀ h3 := fun b o e => by
  have hb : b ≠ a := fun z => by rw [z, fa] at e; cases e
  obtain ⟨⟨sl, e1⟩, k1⟩ := le b o e
  exact ⟨⟨sl, k3 b _ hb e1⟩, fun hX => k3 b _ hb (k1 hX)⟩
end
/-- the free names, behind the turn's own -/
theorem FreeOk.slot {scope : Scope} {cl : List (Str × Addr)} {Γf : Lc} {X : List Addr} {C D : Addr} {h₀ h : Heap} {m : Str → Option Value} (hΓ : FreeOk scope cl env Γ Γf) (l : LOk X env Γ h₀) (le : Le X h₀ h) (fC : h₀.get? C = none) (fD : h₀.get? D = none) {y : String} {d : V} (e : Γf.lookup y = some d) :
    (Str.ofString y == ("__debug__" : Str)) = false ∧ ∃ v, Rp (C :: D :: X) h d v ∧ Slot (compEnvC scope cl C env) m h (C :: D :: X) (Str.ofString y) v := by
  obtain ⟨z1, z2, z3, z4⟩ := hΓ.sub y d e
  obtain ⟨m', hm', hv'⟩ := l.ns
  obtain ⟨q1, u, q2, q3⟩ := hv' y d z1
  refine ⟨q1, u, q2.mono fun b o hb e => ⟨not_two fC fD e hb, le.get e hb⟩, ?_⟩
  rcases q3 with ⟨q, _⟩ | ⟨_, cc, hc1, hc2, hc3⟩
  · rw [z2] at q; cases q
  · exact .inr ⟨.inl z3, cc, z4.trans hc1, .tail _ (.tail _ hc2), le.cell hc3⟩
theorem comp_core {elt iter : PySem.Expr} {x : String} {px : Pos} {ifs : List PySem.Expr} {scope : Scope} {cl : List (Str × Addr)} {pos : Pos} {Γf : Lc} {α : Type} {as : List α} {g : α → V} {p : α → Bool} {f : α → V} {RR : Value → Addr → Result → Shared → Prop}
    {X : List Addr} {A : Around} {s : Shared} {E : Value → Shared → Prop} (c : Cx K X s.heap) (a : AOk n X A s.heap) (l : LOk X env Γ s.heap)
    (hcell : ∀ y ∈ scope.names, y.2 ≠ .cell) (hkind : scope.kind = .function) (hx : scope.names.lookup (Str.ofString x) = some .local) (hdb : (Str.ofString x == ("__debug__" : Str)) = false) (hΓ : FreeOk scope cl env Γ Γf) (hΓx : Γf.lookup x = none)
    (hit : EvIt prog w K n env Γ iter (as.map g)) (hz : as.length ≤ 1000)
    (ht : ∀ C, ∀ d ∈ as, EvTs prog w K n (compEnvC scope cl C env) ((x, g d) :: Γf) ifs (p d)) (he : ∀ C, ∀ d ∈ as, p d = true → Ev prog w K n (compEnvC scope cl C env) ((x, g d) :: Γf) elt (f d))
    (hRR : ∀ D C h' tk ys, s.heap.get? D = none → s.heap.get? C = none → D ≠ C → Le X s.heap h' → IsLs h' D ys.toArray → RpL (C :: D :: X) h' ((as.filter p).map f) ys → (∃ m, h'.Ns C m) → RR (.ref D) C (.ok .next) ⟨h', s.gens, s.drawn, tk, s.os⟩) :
    wpAny (model prog w) A (eval iter env) (fun x' s₁ => wpAny (model prog w) A (pyIter x') (fun it s₂ => wpAny (model prog w) A (newList []) (fun acc s₃ => wpAny (model prog w) A (newFunctionEnv scope env.globals cl [] env.qual none .none (some env)) (fun cenv s₄ =>
      codeAny (model prog w) A (.compStart (.ListComp elt [⟨.Name (Str.ofString x) px, iter, ifs, 0⟩] scope pos) 0 it acc { cenv with scope := relabel scope env }) (RR acc cenv.locals) s₄) E s₃) E s₂) E s₁) E s := by
  refine hit X A s _ E c a l fun I fp St h2 tk2 W k2 hfp hst => ?_
  refine wpAny_newObj_type (wpAny_newFunctionEnv hcell (by intro y hy; simp at hy) (fun h₁ hns₁ hsb₁ => ?_) hkind)
  dsimp only at hns₁ hsb₁ ⊢
  generalize hH2 : h2.push { cls := .type "list", dict := none, data := .seq ([] : List Value).toArray } = H2 at hns₁ hsb₁ ⊢
  have hC : H2.objs.size = h2.objs.size + 1 := by rw [← hH2, Heap.size_push]
  have hDC : h2.objs.size ≠ H2.objs.size := by rw [hC]; exact Nat.ne_of_lt (Nat.lt_succ_self _)
  have nD : h2.get? h2.objs.size = none := Heap.get?_none_of_le (Nat.le_refl _)
  have nC : h2.get? H2.objs.size = none := Heap.get?_none_of_le (by omega)
  have old : ∀ b o, h2.get? b = some o → h₁.get? b = some o := fun b o e => hsb₁.extBut b o (fun z => by rw [z, nC] at e; cases e) (Heap.get?_push_of_some _ (hH2 ▸ Heap.get?_push_of_some _ e))
  have hacc : IsLs h₁ h2.objs.size ([] : List Value).toArray := ⟨_, hsb₁.extBut _ _ hDC (Heap.get?_push_of_some _ (hH2 ▸ Heap.get?_push_size _ rfl)), rfl, rfl, 0, rfl⟩
  generalize H2.objs.size = C at *
  generalize h2.objs.size = D at *
  have fD : s.heap.get? D = none := k2.gone nD
  have fC : s.heap.get? C = none := k2.gone nC
  have st2 : Stays X (C :: D :: X) h2 h₁ := fun b o hb e => ⟨not_two nC nD e hb, old b o e⟩
  have inv₀ : CInv X C D s.heap St 0 [] h₁ := ⟨k2.trans (Le.of_stays old), W.frame _ _ _ _ _ hst st2, ⟨[], hacc, .nil⟩, _, hns₁⟩
  have loop : ∀ s₃ : Shared, s₃.heap = h₁ → s₃.gens = s.gens → s₃.drawn = s.drawn → s₃.os = s.os →
      codeAny (model prog w) A (.compLoop (.ListComp elt [⟨.Name (Str.ofString x) px, iter, ifs, 0⟩] scope pos) 0 (.ref I) (.ref D) (compEnvC scope cl C env)) (RR (.ref D) C) s₃ := by
    intro s₃ e1 e2 e3 e4
    refine codeAny_compLoop_tests (fun k s' => ∃ h tk i, i ≤ as.length ∧ k = as.length - i ∧ s' = ⟨h, s.gens, s.drawn, tk, s.os⟩ ∧ CInv X C D s.heap St i (((as.take i).filter p).map f) h) ?_ as.length
      ⟨h₁, s₃.toks, 0, Nat.zero_le _, rfl, by cases s₃; cases e1; cases e2; cases e3; cases e4; rfl, by simpa using inv₀⟩
    rintro k s' ⟨h, tk, i, hi, rfl, rfl, V⟩
    rcases Nat.lt_or_ge i as.length with hlt | hge
    · have hd : as[i]? = some as[i] := List.getElem?_eq_getElem hlt
      generalize hdd : as[i] = d at hd
      have hmem : d ∈ as := by rw [← hdd]; exact List.getElem_mem hlt
      have htake : as.take (i + 1) = as.take i ++ [d] := by rw [List.take_add_one, hd]; rfl
      refine W.item _ A i (g d) ⟨h, s.gens, s.drawn, tk, s.os⟩ _ _ a.hdl V.st (by rw [List.getElem?_map, hd]; rfl) fun v h3 tk3 hst3 hv k3 => ?_
      have fl3 : Flds h h3 := fp_flds (W.flds _ _ _ V.st) k3
      have le3 : Le X s.heap h3 := fp_le V.le hfp k3
      obtain ⟨m₁, hn₁⟩ := V.ns
      obtain ⟨ys, hls, hrl⟩ := V.ls
      refine wpAny_assign_Name (wpAny_storeName_local (lookup_relabel_local hx) (fl3.ns hn₁) (fun h4 hn4 hs4 => ?_) (by simp [compEnvC, relabel, hkind]))
      have stX : Stays (C :: D :: X) (C :: D :: X) h3 h4 := fun b o hb e => ⟨hb, (hs4.2 b fun z => hb (by rw [z]; exact .head _)).trans e⟩
      have le4 : Le X s.heap h4 := but_le le3 fC fun b o hb e => (hs4.2 b hb).trans e
      have ls4 : IsLs h4 D ys.toArray := by
        obtain ⟨o, ho, r⟩ := fl3.ls hls
        exact ⟨o, (hs4.2 D hDC).trans ho, r⟩
      have V4 : CInv X C D s.heap St (i + 1) (((as.take i).filter p).map f) h4 := ⟨le4, W.frame _ _ _ _ _ hst3 stX, ⟨ys, ls4, (RpL.flds fl3 _ _ hrl).mono stX⟩, _, hn4⟩
      have ctx : ∀ h', Le (C :: D :: X) h4 h' → Cx K (C :: D :: X) h' ∧ AOk n (C :: D :: X) A h' ∧ LOk (C :: D :: X) (compEnvC scope cl C env) ((x, g d) :: Γf) h' := fun h' k' => by
        have c4 : Cx K (C :: D :: X) h4 := c.grow le4 (V4.live fC fD)
        have l4 : LOk (C :: D :: X) (compEnvC scope cl C env) ((x, g d) :: Γf) h4 := by
          refine ⟨⟨hkind, l.ok.glob, l.ok.blt⟩, .head _, _, hn4, fun y d' e => ?_⟩
          by_cases hy : y = x
          · subst hy
            rw [List.lookup_cons, beq_self_eq_true] at e
            cases e
            exact ⟨hdb, v, hv.mono stX, .inl ⟨lookup_relabel_local hx, by simp⟩⟩
          · rw [List.lookup_cons, beq_eq_false_iff_ne.mpr hy] at e
            exact hΓ.slot l le4 fC fD e
        exact ⟨c4.le k', ((a.le le4).grow fun b hb => .tail _ (.tail _ hb)).le k', l4.le k'⟩
      obtain ⟨cx4, ax4, lx4⟩ := ctx h4 (Le.refl _ _)
      refine ht C d hmem _ A ⟨h4, s.gens, s.drawn, _, s.os⟩ _ _ cx4 ax4 lx4 fun h5 tk5 k5 => ?_
      have up : ∀ {h5}, Le (C :: D :: X) h4 h5 → CInv X C D s.heap St (i + 1) (((as.take i).filter p).map f) h5 := fun k5 => V4.up W.frame fC fD k5
      cases hp : p d with
      | false =>
        rw [if_neg (by decide)]
        refine ⟨as.length - (i + 1), by omega, h5, tk5, i + 1, hlt, rfl, rfl, ?_⟩
        rw [htake, List.filter_append, List.filter_cons_of_neg (by rw [hp]; decide), List.filter_nil, List.append_nil]
        exact up k5
      | true =>
        rw [if_pos rfl]
        obtain ⟨cx5, ax5, lx5⟩ := ctx h5 k5
        refine he C d hmem hp _ A ⟨h5, s.gens, s.drawn, tk5, s.os⟩ _ _ cx5 ax5 lx5 fun y h6 tk6 k6 ry => ?_
        have V6 := up (k5.trans k6)
        obtain ⟨ys6, hls6, hrl6⟩ := V6.ls
        have hlen : ys6.length ≤ 1000 := by
          rw [hrl6.length, List.length_map]
          have h1 := List.length_filter_le p (as.take i)
          have h2 := List.length_take_le i as
          omega
        refine append_ls hls6 hlen fun h7 hs7 hls7 => ?_
        have st7 : Stays (C :: D :: X) (C :: D :: X) h6 h7 := fun b o hb e => ⟨hb, (hs7.2 b fun z => hb (by rw [z]; exact .tail _ (.head _))).trans e⟩
        refine ⟨as.length - (i + 1), by omega, h7, tk6, i + 1, hlt, rfl, rfl, ⟨but_le V6.le fD fun b o hb e => (hs7.2 b hb).trans e, W.frame _ _ _ _ _ V6.st st7, ⟨ys6 ++ [y], hls7, ?_⟩, ?_⟩⟩
        · rw [htake, List.filter_append, List.filter_cons_of_pos (by rw [hp]), List.filter_nil, List.map_append]
          exact (hrl6.mono st7).snoc (ry.mono st7)
        · obtain ⟨m6, hn6⟩ := V6.ns
          exact ⟨m6, hn6.sameBut hs7 (Ne.symm hDC)⟩
    · have hie : i = as.length := by omega
      subst hie
      refine W.done _ A _ ⟨h, s.gens, s.drawn, tk, s.os⟩ _ _ a.hdl V.st (by simp) fun h3 tk3 k3 => ?_
      have fl3 : Flds h h3 := fp_flds (W.flds _ _ _ V.st) k3
      obtain ⟨ys, hls, hrl⟩ := V.ls
      obtain ⟨m₁, hn₁⟩ := V.ns
      rw [List.take_length] at hrl
      exact hRR D C h3 tk3 ys fD fC hDC (fp_le V.le hfp k3) (fl3.ls hls) (RpL.flds fl3 _ _ hrl) ⟨m₁, fl3.ns hn₁⟩
  exact codeAny_compStart_list (loop _ rfl rfl rfl rfl) (W.self _ A 0 _ _ _ inv₀.st (loop _ rfl rfl rfl rfl))
end
end
section
section
variable {prog : Program} {w : World} {K : Frag} {n : Nat} {env : Env} {Γ : Lc} {O : Option (String × OV)} {X₀ X : List Addr} {m : Str → Option Value} {b h h' : Heap}
variable (prog w K) in
/-- a list comprehension runs -/
noncomputable def CompRuns (n : Nat) (env : Env) (Γ : Lc) (e iter : PySem.Expr) (scope : Scope) (cl : List (Str × Addr)) (res : List V) : Prop :=
  ∀ (X : List Addr) (A : Around) (s : Shared) (E : Value → Shared → Prop) (RR : Value → Addr → Result → Shared → Prop), Cx K X s.heap → AOk n X A s.heap → LOk X env Γ s.heap →
    (∀ D C h' tk ys, s.heap.get? D = none → s.heap.get? C = none → D ≠ C → Le X s.heap h' → IsLs h' D ys.toArray → RpL (C :: D :: X) h' res ys → (∃ m, h'.Ns C m) → RR (.ref D) C (.ok .next) ⟨h', s.gens, s.drawn, tk, s.os⟩) →
    wpAny (model prog w) A (eval iter env) (fun x' s₁ => wpAny (model prog w) A (pyIter x') (fun it s₂ => wpAny (model prog w) A (newList []) (fun acc s₃ => wpAny (model prog w) A (newFunctionEnv scope env.globals cl [] env.qual none .none (some env)) (fun cenv s₄ =>
      codeAny (model prog w) A (.compStart e 0 it acc { cenv with scope := relabel scope env }) (RR acc cenv.locals) s₄) E s₃) E s₂) E s₁) E s
theorem CompRuns.name {elt iter : PySem.Expr} {x : String} {px : Pos} {ifs : List PySem.Expr} {scope : Scope} {cl : List (Str × Addr)} {pos : Pos} {Γf : Lc} {α : Type} {as : List α} {g : α → V} {p : α → Bool} {f : α → V}
    (hcell : ∀ y ∈ scope.names, y.2 ≠ .cell) (hkind : scope.kind = .function) (hx : scope.names.lookup (Str.ofString x) = some .local) (hdb : (Str.ofString x == ("__debug__" : Str)) = false) (hΓ : FreeOk scope cl env Γ Γf) (hΓx : Γf.lookup x = none)
    (hit : EvIt prog w K n env Γ iter (as.map g)) (hz : as.length ≤ 1000)
    (ht : ∀ C, ∀ d ∈ as, EvTs prog w K n (compEnvC scope cl C env) ((x, g d) :: Γf) ifs (p d)) (he : ∀ C, ∀ d ∈ as, p d = true → Ev prog w K n (compEnvC scope cl C env) ((x, g d) :: Γf) elt (f d)) :
    CompRuns prog w K n env Γ (.ListComp elt [⟨.Name (Str.ofString x) px, iter, ifs, 0⟩] scope pos) iter scope cl ((as.filter p).map f) := fun X A s E RR c a l hRR => comp_core c a l hcell hkind hx hdb hΓ hΓx hit hz ht he hRR
/-- what a comprehension's scope needs -/
structure ScOk (scope : Scope) (cl : List (Str × Addr)) (env : Env) : Prop where
  clos : closureFor scope env = pure cl
  kind : scope.kind = .function
  names : ∀ y ∈ scope.names, y.2 = .local → scope.names.lookup y.1 = some .local
theorem EvNew.comp {e elt iter target : PySem.Expr} {ifs : List PySem.Expr} {scope : Scope} {cl : List (Str × Addr)} {pos : Pos} {res : List V} (h : CompRuns prog w K n env Γ e iter scope cl res) (he : e = .ListComp elt [⟨target, iter, ifs, 0⟩] scope pos) (hs : ScOk scope cl env)
    (hf : ∀ x, foldedSetIterable iter env x = pure x := by intro _; rfl) : EvNew prog w K n env Γ e res := fun X A s Q E c a l q => by
  subst he
  rw [eval_ListComp]
  refine wpAny_comprehension_free (use := none) rfl hf hs.clos hs.kind hs.names (h X A s E (fun acc C => compPost (model prog w) A E none Q acc C) c a l fun D C h' tk ys hD hC hDC k hl hr hn => ?_)
  obtain ⟨m, hn⟩ := hn
  refine ⟨m, hn, fun h'' hs'' => q D ys h'' _ hD (fun b o e => ?_) ?_ (hr.mono fun b o hb e => ⟨fun z => hb (.tail _ z), (hs''.2 b fun z => hb (by rw [z]; exact .head _)).trans e⟩)⟩
  · have hb : b ≠ C := fun z => by rw [z, hC] at e; cases e
    obtain ⟨⟨sl, e1⟩, k1⟩ := k b o e
    exact ⟨⟨sl, (hs''.2 b hb).trans e1⟩, fun hX => (hs''.2 b hb).trans (k1 hX)⟩
  · obtain ⟨o, ho, r⟩ := hl
    exact ⟨o, (hs''.2 D hDC).trans ho, r⟩
theorem EvNew.ev {e : PySem.Expr} {ds : List V} (h : EvNew prog w K n env Γ e ds) : Ev prog w K n env Γ e (.lst ds) := fun X A s Q E c a l q =>
  h X A s Q E c a l fun d vs h' tk hd k hl r => q _ _ _ k (by
    simp only [Rp]
    exact ⟨d, vs, rfl, c.nx hd, hl, r.sub fun a ha _ => .tail _ ha⟩)
theorem SOk.lift {C : Addr} (S : SOk K X₀ X m b env Γ none h) (k : Le X h h') (hf : h.get? C = none) (hl : (h'.get? C).isSome = true) : SOk K X₀ (C :: X) m b env Γ none h' := by
  have S' := S.step k
  have st : Stays X (C :: X) h h' := fun a o hX e => ⟨fun z => (List.mem_cons.mp z).elim (fun q => by rw [q, hf] at e; cases e) hX, k.get e hX⟩
  refine ⟨S.ok, S.cx, fun a ha => .tail _ (S.sup a ha), fun a ha => ?_, fun a ha => ?_, .tail _ S.lin, S.lnew, S'.le, S'.ns, fun y d e => ?_, fun y o e => (by cases e), ⟨fun y c hk hc => ?_, S.cel.2⟩⟩
  · rcases List.mem_cons.mp ha with rfl | ha
    · exact .inr (S.le.gone hf)
    · exact S.new a ha
  · rcases List.mem_cons.mp ha with rfl | ha
    · exact hl
    · exact S'.liv a ha
  · obtain ⟨q, v, r, sl⟩ := S.vars y d e
    exact ⟨q, v, r.mono st, sl.imp id fun ⟨q1, c, hc, hX, ho⟩ => ⟨q1, c, hc, .tail _ hX, k.cell ho⟩⟩
  · obtain ⟨a1, a2, v, a3⟩ := S'.cel.1 y c hk hc
    exact ⟨.tail _ a1, a2, v, a3⟩
theorem SOk.drop {C : Addr} {mC : Str → Option Value} (S : SOk K X₀ X m b env Γ O h) (hCX : C ∈ X) (hb : b.get? C = none) (hL : C ≠ env.locals) (hn : h.Ns C mC) (hs : Heap.SameBut C h h') (hO : ∀ x z dx C' fs, O ≠ some (x, .inst z dx C' fs)) : SOk K X₀ (without X C) m b env Γ O h' := by
  have nC : ∀ a o, h.get? a = some o → (∀ es n, o.data ≠ .dict es n) → a ≠ C := fun a o e ne q => by
    obtain ⟨o', es, ep, ho', hd', _⟩ := hn
    rw [q, ho'] at e; cases e; exact ne _ _ hd'
  have ncell : ∀ c v, h.IsCell c v → c ≠ C := fun c v ⟨o, ho, hd⟩ => nC c o ho fun es n q => by rw [hd] at q; cases q
  have st : Stays X (without X C) h h' := fun a o hX e => ⟨fun z => hX (mem_without.mp z).1, (hs.2 a fun q => hX (q ▸ hCX)).trans e⟩
  · have nX : ∀ a ∈ X₀, a ≠ C := fun a ha q => by
      have := S.cx.liv a ha
      rw [q, hb] at this; cases this
    refine ⟨S.ok, S.cx, fun a ha => mem_without.mpr ⟨S.sup a ha, nX a ha⟩, fun a ha => S.new a (mem_without.mp ha).1, fun a ha => ?_, mem_without.mpr ⟨S.lin, Ne.symm hL⟩, S.lnew, fun a o e => ?_, S.ns.sameBut hs (Ne.symm hL), fun y d e => ?_, fun y o e => ?_, ⟨fun y c hk hc => ?_, S.cel.2⟩⟩
    · rw [hs.2 a (mem_without.mp ha).2]; exact S.liv a (mem_without.mp ha).1
    · have hne : a ≠ C := fun q => by rw [q, hb] at e; cases e
      obtain ⟨⟨sl, e1⟩, k1⟩ := S.le a o e
      exact ⟨⟨sl, (hs.2 a hne).trans e1⟩, fun hX => (hs.2 a hne).trans (k1 hX)⟩
    · obtain ⟨q, v, r, sl⟩ := S.vars y d e
      exact ⟨q, v, r.mono st, sl.imp id fun ⟨q1, c, hc, hX, ho⟩ => ⟨q1, c, hc, mem_without.mpr ⟨hX, ncell _ _ ho⟩, ho.sameBut hs (ncell _ _ ho)⟩⟩
    · obtain ⟨q, k, v, hm, r⟩ := S.own y o e
      refine ⟨q, k, v, hm, ?_⟩
      cases o with
      | inst z dx C' fs => exact absurd e (hO _ _ _ _ _)
      | lst ds =>
        obtain ⟨l, vs, rfl, hX, hb', hI, rl⟩ := r
        obtain ⟨o, ho, hc, hd, n, hdd⟩ := hI
        have hne : l ≠ C := nC l o ho fun es n q => by rw [hdd] at q; cases q
        exact ⟨l, vs, rfl, mem_without.mpr ⟨hX, hne⟩, hb', ⟨o, (hs.2 l hne).trans ho, hc, hd, n, hdd⟩, rl.mono st⟩
    · obtain ⟨a1, a2, v, a3⟩ := S.cel.1 y c hk hc
      exact ⟨mem_without.mpr ⟨a1, ncell _ _ a3⟩, a2, v, a3.sameBut hs (ncell _ _ a3)⟩
/-- «x = [..]» of a comprehension -/
theorem Ex1.asgComp {e elt iter target : PySem.Expr} {ifs : List PySem.Expr} {scope : Scope} {cl : List (Str × Addr)} {pos spos py : Pos} {res : List V} {y : String} (h : CompRuns prog w K n env Γ e iter scope cl res) (he : e = .ListComp elt [⟨target, iter, ifs, 0⟩] scope pos) (hs : ScOk scope cl env)
    (hy : locOk env y) (hsw : swapsWith e (some (.Name (Str.ofString y) py)) spos.line env = pure true := by rfl)
    (hf : ∀ x, foldedSetIterable iter env x = pure x := by intro _; rfl) : Ex1 prog w K n env Γ none (.Assign [.Name (Str.ofString y) py] e spos) (.next ((y, .lst res) :: Γ) none) := fun X₀ X m b A s Q E B S q => by
  rw [exec_Assign_Name_used _ _ _ _ hsw]
  refine wpAny_bind (wpAny_standAt (wpAny_bind ?_))
  subst he
  show wpAny _ A (do let _ ← comprehension (.ListComp elt [⟨target, iter, ifs, 0⟩] scope pos) scope env _ (newList []) false (eval iter env) (some (assign (.Name (Str.ofString y) py) env))) _ _ s
  refine wpAny_bind (wpAny_mono (wpAny_comprehension_free (use := some (assign (.Name (Str.ofString y) py) env)) (Q := fun _ s' => Q .next s') rfl hf hs.clos hs.kind hs.names
    (h X A s E (fun acc C => compPost (model prog w) A E (some (assign (.Name (Str.ofString y) py) env)) (fun _ s' => Q .next s') acc C) S.cxX (B.aok S) S.lok fun D C h' tk ys hD hC hDC k hl hr hn => ?_)) (fun _ s' hq => wpAny_pure (wpAny_pure hq)) fun _ _ e => e)
  obtain ⟨mC, hn⟩ := hn
  have hCX : C ∉ X := S.cxX.nx hC
  have hDX : D ∉ X := S.cxX.nx hD
  have hCL : C ≠ env.locals := fun q => hCX (q ▸ S.lin)
  have S' := S.lift k hC (by obtain ⟨o, _, _, ho, _⟩ := hn; rw [ho]; rfl)
  show wpAny _ A (assign (.Name (Str.ofString y) py) env (.ref D)) _ _ _
  have r : Rp (C :: X) h' (.lst res) (.ref D) := by
    simp only [Rp]
    exact ⟨D, ys, rfl, fun z => (List.mem_cons.mp z).elim hDC hDX, hl, hr.sub fun a ha _ => (List.mem_cons.mp ha).elim (fun q => by rw [q]; exact .head _) fun q => .tail _ (.tail _ q)⟩
  refine wpAny_assign_Name (wpAny_storeName_local hy.1 S'.ns (fun h2 hn2 hs2 => ?_) (by rw [S.ok.kind]; rfl))
  have S2 := S'.stored hs2 hn2 hy.2 hy.1 r (fun z o e => by cases e)
  exact ⟨mC, hn.sameBut hs2 hCL, fun h3 hs3 => q _ _ _ ⟨rfl, _, _, S2.drop (.head _) (S.le.gone hC) hCL (hn.sameBut hs2 hCL) hs3 (by intro x z dx C' fs; simp)⟩⟩
/-- the same, the list owned -/
theorem Ex1.ownComp {e elt iter target : PySem.Expr} {ifs : List PySem.Expr} {scope : Scope} {cl : List (Str × Addr)} {pos spos py : Pos} {res : List V} {y : String} (h : CompRuns prog w K n env Γ e iter scope cl res) (he : e = .ListComp elt [⟨target, iter, ifs, 0⟩] scope pos) (hs : ScOk scope cl env)
    (hy : locOk env y) (hΓ : Γ.lookup y = none := by rfl) (hsw : swapsWith e (some (.Name (Str.ofString y) py)) spos.line env = pure true := by rfl)
    (hf : ∀ x, foldedSetIterable iter env x = pure x := by intro _; rfl) : Ex1 prog w K n env Γ none (.Assign [.Name (Str.ofString y) py] e spos) (.next Γ (some (y, .lst res))) := fun X₀ X m b A s Q E B S q => by
  rw [exec_Assign_Name_used _ _ _ _ hsw]
  refine wpAny_bind (wpAny_standAt (wpAny_bind ?_))
  subst he
  show wpAny _ A (do let _ ← comprehension (.ListComp elt [⟨target, iter, ifs, 0⟩] scope pos) scope env _ (newList []) false (eval iter env) (some (assign (.Name (Str.ofString y) py) env))) _ _ s
  refine wpAny_bind (wpAny_mono (wpAny_comprehension_free (use := some (assign (.Name (Str.ofString y) py) env)) (Q := fun _ s' => Q .next s') rfl hf hs.clos hs.kind hs.names
    (h X A s E (fun acc C => compPost (model prog w) A E (some (assign (.Name (Str.ofString y) py) env)) (fun _ s' => Q .next s') acc C) S.cxX (B.aok S) S.lok fun D C h' tk ys hD hC hDC k hl hr hn => ?_)) (fun _ s' hq => wpAny_pure (wpAny_pure hq)) fun _ _ e => e)
  obtain ⟨mC, hn⟩ := hn
  have hCX : C ∉ X := S.cxX.nx hC
  have hDX : D ∉ X := S.cxX.nx hD
  have hCL : C ≠ env.locals := fun q => hCX (q ▸ S.lin)
  have kh : Le X s.heap (h'.hide D) := fun a o e => by
    have hne : a ≠ D := fun q => by rw [q, hD] at e; cases e
    rw [Heap.hide_ne _ hne]
    exact k a o e
  have kh' : Le (C :: X) (h'.hide D) h' := .of_stays fun a o e => Heap.of_hide e
  have S' := S.lift kh hC (by obtain ⟨o, _, _, ho, _⟩ := hn; rw [Heap.hide_ne _ (Ne.symm hDC), ho]; rfl)
  show wpAny _ A (assign (.Name (Str.ofString y) py) env (.ref D)) _ _ _
  refine wpAny_assign_Name (wpAny_storeName_local hy.1 (kh'.ns S'.ns) (fun h2 hn2 hs2 => ?_) (by rw [S.ok.kind]; rfl))
  have S2 := S'.taken (Heap.hide_self _ _) kh' hl (hr.sub fun a ha _ => (List.mem_cons.mp ha).elim (fun q => by rw [q]; exact .tail _ (.head _)) fun q => (List.mem_cons.mp q).elim (fun q => by rw [q]; exact .head _) fun q => .tail _ (.tail _ q)) hs2 hn2 hy hΓ
  exact ⟨mC, hn.sameBut hs2 hCL, fun h3 hs3 => q _ _ _ ⟨rfl, _, _, S2.drop (.tail _ (.head _)) (S.le.gone hC) hCL (hn.sameBut hs2 hCL) hs3 (by intro x z dx C' fs; simp)⟩⟩
end
end
section
noncomputable def hideL : List Addr → Heap → Heap
  | [], h => h
  | a :: r, h => (hideL r h).hide a
theorem hideL_in {a : Addr} {h : Heap} : ∀ {l : List Addr}, a ∈ l → (hideL l h).get? a = none
  | x :: r, q => by
    by_cases e : a = x
    · subst e; exact Heap.hide_self _ _
    · rw [hideL, Heap.hide_ne _ e]; exact hideL_in ((List.mem_cons.mp q).resolve_left e)
theorem hideL_out {a : Addr} {h : Heap} : ∀ {l : List Addr}, a ∉ l → (hideL l h).get? a = h.get? a
  | [], _ => rfl
  | x :: r, q => by
    rw [hideL, Heap.hide_ne _ fun e => q (by rw [e]; exact .head _)]; exact hideL_out fun z => q (.tail _ z)
noncomputable def newOf (X : List Addr) (b : Heap) : List Addr := X.filter fun a => (b.get? a).isNone
theorem mem_newOf {X : List Addr} {b : Heap} {a : Addr} : a ∈ newOf X b ↔ a ∈ X ∧ b.get? a = none := by simp [newOf, List.mem_filter]
section
variable {prog : Program} {w : World} {K : Frag} {n : Nat} {env : Env} {Γ : Lc} {O : Option (String × OV)} {X₀ X : List Addr} {m : Str → Option Value} {b h h' : Heap}
theorem OwnAt.base {b' : Heap} {L : Addr} {v : Value} {o : OV} (k : ∀ a ∈ X, b.get? a = none → b'.get? a = none) (r : OwnAt X b L h v o) : OwnAt X b' L h v o := by
  cases o with
  | lst ds => obtain ⟨l, vs, e, hX, hb, r⟩ := r; exact ⟨l, vs, e, hX, k l hX hb, r⟩
  | inst x dx C fs => obtain ⟨es, e, hX, hdX, hL, hne, hb0, hb, r⟩ := r; exact ⟨es, e, hX, hdX, hL, hne, k x hX hb0, k dx hdX hb, r⟩
theorem CelOk.base {b' : Heap} (k : ∀ a ∈ X, b.get? a = none → b'.get? a = none) (r : CelOk X b env h) : CelOk X b' env h := ⟨fun x c hk hc => let ⟨a1, a2, a3⟩ := r.1 x c hk hc; ⟨a1, k c a1 a2, a3⟩, r.2⟩
/-- the present as the base -/
theorem SOk.rebase (S : SOk K X₀ X m b env Γ O h) : SOk K X₀ X m (hideL (newOf X b) h) env Γ O h := by
  have out : ∀ a o, b.get? a = some o → a ∉ newOf X b := fun a o e z => by rw [(mem_newOf.mp z).2] at e; cases e
  have up : ∀ {a o}, b.get? a = some o → ∃ sl, (hideL (newOf X b) h).get? a = some { o with slots := sl } := fun {a o} e => by
    obtain ⟨⟨sl, e1⟩, _⟩ := S.le a o e
    exact ⟨sl, by rw [hideL_out (out a o e)]; exact e1⟩
  have ns : ∀ {a m}, b.Ns a m → (hideL (newOf X b) h).Ns a m := fun {a m} ⟨o, es, ep, ho, r⟩ => by
    obtain ⟨sl, e⟩ := up ho
    exact ⟨_, es, ep, e, r⟩
  have k : ∀ a ∈ X, b.get? a = none → (hideL (newOf X b) h).get? a = none := fun a ha e => hideL_in (mem_newOf.mpr ⟨ha, e⟩)
  refine ⟨S.ok, ⟨fun a o e => ?_, S.cx.off, fun a ha => ?_, ?_, ?_, ?_, ?_⟩, S.sup, fun a ha => (S.new a ha).imp id (k a ha), S.liv, S.lin, k _ S.lin S.lnew, .of_stays fun a o e => ?_, S.ns, S.vars, fun x o e => ?_, S.cel.base k⟩
  · rw [hideL_out (out a o (S.cx.ki a o e))]; exact S.cxX.ki a o e
  · obtain ⟨o, ho⟩ := Option.isSome_iff_exists.mp (S.cx.liv a ha)
    obtain ⟨sl, e⟩ := up ho
    rw [e]; rfl
  · obtain ⟨mc, hn, e⟩ := S.cx.lim; exact ⟨mc, ns hn, e⟩
  · obtain ⟨mc, hn⟩ := S.cx.glb; exact ⟨mc, ns hn⟩
  · obtain ⟨mc, hn, e⟩ := S.cx.blt; exact ⟨mc, ns hn, e⟩
  · obtain ⟨mc, hn, e⟩ := S.cx.dig; exact ⟨mc, ns hn, e⟩
  · by_cases q : a ∈ newOf X b
    · rw [hideL_in q] at e; cases e
    · rwa [hideL_out q] at e
  · obtain ⟨q1, q2, v, q3, q4⟩ := S.own x o e
    exact ⟨q1, q2, v, q3, q4.base k⟩
theorem AOb.rebase {A : Around} (B : AOb n X₀ b env A) (S : SOk K X₀ X m b env Γ O h) : AOb n X₀ (hideL (newOf X b) h) env A :=
  ⟨B.dep, B.uni, B.hdl, let ⟨l, hl, hf⟩ := B.frm; ⟨l, hl, fun e he => by
    obtain ⟨hk, L, hL, q⟩ := hf e he
    refine ⟨hk, L, hL, q.imp id fun ⟨hX, o, ho, hd⟩ => ?_⟩
    obtain ⟨⟨sl, e1⟩, _⟩ := S.le L o ho
    exact ⟨hX, { o with slots := sl }, by rw [hideL_out fun z => by rw [(mem_newOf.mp z).2] at ho; cases ho]; exact e1, hd⟩⟩⟩
theorem Le.unbase {h3 : Heap} (S : SOk K X₀ X m b env Γ O h) (k : Le X₀ (hideL (newOf X b) h) h3) : Le X₀ b h3 := fun a o e => by
  have q : a ∉ newOf X b := fun z => by rw [(mem_newOf.mp z).2] at e; cases e
  obtain ⟨⟨sl, e1⟩, k1⟩ := S.le a o e
  obtain ⟨⟨sl', e2⟩, _⟩ := k a _ (by rw [hideL_out q]; exact e1)
  exact ⟨⟨sl', e2⟩, fun hX => (k a o (by rw [hideL_out q]; exact k1 hX)).2 hX⟩
theorem SOk.unbase {h3 : Heap} {X' : List Addr} {m' : Str → Option Value} {Γ' : Lc} {O' : Option (String × OV)} (S : SOk K X₀ X m b env Γ O h) (S' : SOk K X₀ X' m' (hideL (newOf X b) h) env Γ' O' h3) : SOk K X₀ X' m' b env Γ' O' h3 := by
  have k : ∀ a, (hideL (newOf X b) h).get? a = none → b.get? a = none := fun a e => by
    cases q : b.get? a with
    | none => rfl
    | some o =>
      have z : a ∉ newOf X b := fun z => by rw [(mem_newOf.mp z).2] at q; cases q
      obtain ⟨⟨sl, e1⟩, _⟩ := S.le a o q
      rw [hideL_out z, e1] at e; cases e
  exact ⟨S.ok, S.cx, S'.sup, fun a ha => (S'.new a ha).imp id (k a), S'.liv, S'.lin, S.lnew, Le.unbase S S'.le, S'.ns, S'.vars, fun x o e => let ⟨q1, q2, v, q3, q4⟩ := S'.own x o e; ⟨q1, q2, v, q3, q4.base fun a _ => k a⟩, S'.cel.base fun a _ => k a⟩
/-- a step of an iterator -/
theorem SOk.iter {fp : List Addr} (S : SOk K X₀ X m b env Γ O h) (k : ∀ a o, a ∉ fp → h.get? a = some o → h'.get? a = some o) (hf : ∀ a ∈ fp, (∃ o vs, h.get? a = some o ∧ o.data = .fields vs) ∧ a ∉ X ∧ b.get? a = none) : SOk K X₀ X m b env Γ O h' := by
  have fl : Flds h h' := fun a o e ne => k a o (fun z => by
    obtain ⟨⟨o', vs, e', q⟩, _⟩ := hf a z
    rw [e] at e'; cases e'; exact ne _ q) e
  refine ⟨S.ok, S.cx, S.sup, S.new, fun a ha => ?_, S.lin, S.lnew, fun a o e => ?_, fl.ns S.ns, fun y d e => ?_, fun y o e => ?_, S.cel.of fun c v _ e => ⟨v, fl.cell e⟩⟩
  · obtain ⟨o, ho⟩ := Option.isSome_iff_exists.mp (S.liv a ha)
    rw [k a o (fun z => (hf a z).2.1 ha) ho]; rfl
  · have z : a ∉ fp := fun z => by rw [(hf a z).2.2] at e; cases e
    obtain ⟨⟨sl, e1⟩, k1⟩ := S.le a o e
    exact ⟨⟨sl, k a _ z e1⟩, fun hX => k a _ z (k1 hX)⟩
  · obtain ⟨q, v, r, sl⟩ := S.vars y d e
    exact ⟨q, v, Rp.flds fl _ _ r, sl.imp id fun ⟨q1, c, hc, hX, ho⟩ => ⟨q1, c, hc, hX, fl.cell ho⟩⟩
  · obtain ⟨q1, q2, v, q3, q4⟩ := S.own y o e
    refine ⟨q1, q2, v, q3, ?_⟩
    cases o with
    | lst ds => obtain ⟨l, vs, e, hX, hb, hI, rl⟩ := q4; exact ⟨l, vs, e, hX, hb, fl.ls hI, RpL.flds fl _ _ rl⟩
    | inst x dx C fs =>
      obtain ⟨es, e, hX, hdX, hL, hne, hb0, hb, ⟨⟨ox, hx, r1, r2, r3⟩, ⟨od, nn, hd, r4, r5⟩⟩, rf⟩ := q4
      exact ⟨es, e, hX, hdX, hL, hne, hb0, hb, ⟨⟨ox, fl x ox hx (by rw [r3]; simp), r1, r2, r3⟩, ⟨od, nn, fl dx od hd (by rw [r5]; simp), r4, r5⟩⟩, RpF.flds fl _ _ rf⟩
end
/-- the turns of a loop -/
inductive FL (prog : Program) (w : World) (K : Frag) (n : Nat) (env : Env) (x : String) (body : List Stmt) : Lc → Option (String × OV) → List V → Out → Prop
  | nil {Γ O} : FL prog w K n env x body Γ O [] (.next Γ O)
  | next {Γ Γ' Γ'' O O' d ds out} (h : Ex prog w K n env ((x, d) :: Γ) O body (.next Γ' O')) (hΓ : ∀ y d, Γ''.lookup y = some d → Γ'.lookup y = some d) (hO : ∀ y o, O = some (y, o) → y ≠ x) (r : FL prog w K n env x body Γ'' O' ds out) : FL prog w K n env x body Γ O (d :: ds) out
  | ret {Γ O d ds v} (h : Ex prog w K n env ((x, d) :: Γ) O body (.ret v)) (hO : ∀ y o, O = some (y, o) → y ≠ x) : FL prog w K n env x body Γ O (d :: ds) (.ret v)
section
variable {prog : Program} {w : World} {K : Frag} {n : Nat} {env : Env} {Γ : Lc} {O : Option (String × OV)} {X₀ X : List Addr} {m : Str → Option Value} {b h h' : Heap}
/-- one turn's ends -/
noncomputable def Turns (prog : Program) (w : World) (K : Frag) (n : Nat) (env : Env) (Γ : Lc) (O : Option (String × OV)) (body : List Stmt) (RL : Lc → Option (String × OV) → Prop) (out : Out) : Prop :=
  (∃ Γ' Γ'' O', Ex prog w K n env Γ O body (.next Γ' O') ∧ (∀ y d, Γ''.lookup y = some d → Γ'.lookup y = some d) ∧ RL Γ'' O') ∨ ∃ v, out = .ret v ∧ Ex prog w K n env Γ O body (.ret v)
theorem FL.inv {x : String} {body : List Stmt} {d : V} {ds : List V} {out : Out} (h : FL prog w K n env x body Γ O (d :: ds) out) : (∀ y o, O = some (y, o) → y ≠ x) ∧ Turns prog w K n env ((x, d) :: Γ) O body (fun Γ O => FL prog w K n env x body Γ O ds out) out := by
  cases h with
  | next hb hΓ hO r => exact ⟨hO, .inl ⟨_, _, _, hb, hΓ, r⟩⟩
  | ret hb hO => exact ⟨hO, .inr ⟨_, rfl, hb⟩⟩
theorem FL.inv0 {x : String} {body : List Stmt} {out : Out} (h : FL prog w K n env x body Γ O [] out) : out = .next Γ O := by cases h; rfl
theorem back_st {X6 : List Addr} {j : Nat} {m6 : Str → Option Value} {Γ6 : Lc} {O6 : Option (String × OV)} {h6 : Heap} {St : List Addr → Nat → Heap → Prop} (fr : ∀ X X' i h h', St X i h → Stays X X' h h' → St X' i h') (S : SOk K X₀ X m b env Γ O h) (st : St X j h) (S6 : SOk K X₀ X6 m6 (hideL (newOf X b) h) env Γ6 O6 h6) : St X6 j h6 :=
  fr _ _ _ _ _ st fun a o ha e => by
    have z : a ∉ newOf X b := fun z => ha (mem_newOf.mp z).1
    have e' : (hideL (newOf X b) h).get? a = some o := by rw [hideL_out z]; exact e
    have hX0 : a ∉ X₀ := fun z => ha (S.sup a z)
    exact ⟨fun q => (S6.new a q).elim hX0 fun q => (by rw [q] at e'; cases e'), (S6.le a o e').2 hX0⟩
theorem Turns.run {body : List Stmt} {RL : Lc → Option (String × OV) → Prop} {out : Out} {St : List Addr → Nat → Heap → Prop} {j : Nat} {A : Around} {s : Shared} {Q : Flow → Shared → Prop} {E : Value → Shared → Prop} (t : Turns prog w K n env Γ O body RL out)
    (fr : ∀ X X' i h h', St X i h → Stays X X' h h' → St X' i h') (B : AOb n X₀ b env A) (S : SOk K X₀ X m b env Γ O s.heap) (st : St X j s.heap)
    (qn : ∀ h6 tk6 X6 m6 Γ6 O6, SOk K X₀ X6 m6 b env Γ6 O6 h6 → St X6 j h6 → RL Γ6 O6 → Q .next ⟨h6, s.gens, s.drawn, tk6, s.os⟩)
    (qr : ∀ v h6 tk6, OutOk K X₀ b env out (.ret v) h6 → Q (.ret v) ⟨h6, s.gens, s.drawn, tk6, s.os⟩) : wpAny (model prog w) A (execs body env) Q E s := by
  rcases t with ⟨Γ', Γ'', O', hb, hΓ, r⟩ | ⟨v, rfl, hb⟩
  · refine hb X₀ X _ _ A s _ _ (B.rebase S) S.rebase fun fl' h6 tk6 ok => ?_
    obtain ⟨rfl, X6, m6, S6⟩ := ok
    have S7 := S.unbase S6
    exact qn h6 tk6 X6 m6 _ _ { S7 with vars := fun y d e => S7.vars y d (hΓ y d e) } (back_st fr S st S6) r
  · refine hb X₀ X _ _ A s _ _ (B.rebase S) S.rebase fun fl' h6 tk6 ok => ?_
    obtain ⟨v, rfl, k6, r6⟩ := ok
    exact qr v h6 tk6 ⟨v, rfl, Le.unbase S k6, r6⟩
theorem Ex1.for {x : String} {px pos : Pos} {iter : PySem.Expr} {body : List Stmt} {ds : List V} {out : Out} (hit : EvIt prog w K n env Γ iter ds) (hx : locOk env x) (hl : FL prog w K n env x body Γ O ds out)
    (hs : ∀ x, foldedSetIterable iter env x = pure x := by intro _; rfl) : Ex1 prog w K n env Γ O (.For (.Name (Str.ofString x) px) iter body [] pos) out := fun X₀ X m b A s Q E B S q => by
  refine wpAny_For (hit X A s _ E S.cxX (B.aok S) S.lok fun I fp St h1 tk1 W k1 hfp hst => ?_) hs
  refine codeAny_forLoop_any (fun k s' => ∃ i Γ O h tk X m, i ≤ ds.length ∧ k = ds.length - i ∧ s' = ⟨h, s.gens, s.drawn, tk, s.os⟩ ∧ SOk K X₀ X m b env Γ O h ∧ St X i h ∧ FL prog w K n env x body Γ O (ds.drop i) out) ?_ ds.length
    ⟨0, Γ, O, h1, tk1, X, m, Nat.zero_le _, rfl, rfl, S.step k1, hst, hl⟩
  rintro k s' ⟨i, Γ, O, h, tk, X', m', hi, rfl, rfl, S', st, fl⟩
  have hfb : ∀ a ∈ fp, b.get? a = none := fun a ha => S.le.gone (hfp a ha)
  have hff : ∀ a ∈ fp, (∃ o vs, h.get? a = some o ∧ o.data = .fields vs) ∧ a ∉ X' ∧ b.get? a = none := fun a ha => ⟨W.flds _ _ _ st a ha, W.out _ _ _ st a ha, hfb a ha⟩
  rcases Nat.lt_or_ge i ds.length with hlt | hge
  · have hd : ds[i]? = some ds[i] := List.getElem?_eq_getElem hlt
    have hdrop : ds.drop i = ds[i] :: ds.drop (i + 1) := List.drop_eq_getElem_cons hlt
    generalize ds[i] = d at hd hdrop
    rw [hdrop] at fl
    replace fl := fl.inv
    refine W.item X' A i d ⟨h, s.gens, s.drawn, tk, s.os⟩ _ _ B.hdl st hd fun v h3 tk3 st3 hv k3 => ?_
    have S3 : SOk K X₀ X' m' b env Γ O h3 := S'.iter k3 hff
    refine wpAny_pure ?_
    refine wpAny_assign_Name (wpAny_storeName_local hx.1 S3.ns (fun h4 hn4 hs4 => ?_) (by rw [S.ok.kind]; rfl))
    have S4 := S3.stored hs4 hn4 hx.2 hx.1 hv fl.1
    have stX : Stays X' X' h3 h4 := fun a o hX e => ⟨hX, (hs4.2 a fun z => hX (z ▸ S3.lin)).trans e⟩
    have st4 := W.frame _ _ _ _ _ st3 stX
    refine fl.2.run W.frame B S4 st4 (fun h6 tk6 X6 m6 Γ6 O6 S7 st7 r => ?_) fun v h6 tk6 ok => q _ _ _ ok
    exact ⟨ds.length - (i + 1), by omega, i + 1, _, _, h6, tk6, X6, m6, hlt, rfl, rfl, S7, st7, r⟩
  · have hie : i = ds.length := by omega
    subst hie
    rw [List.drop_length] at fl
    refine W.done X' A _ ⟨h, s.gens, s.drawn, tk, s.os⟩ _ _ B.hdl st (by simp) fun h3 tk3 k3 => ?_
    exact wpAny_execs_nil (q _ _ _ (fl.inv0 ▸ ⟨rfl, X', m', S'.iter k3 hff⟩))
end
end
section
section
variable {prog : Program} {w : World} {K : Frag} {n : Nat} {env : Env} {Γ : Lc} {O : Option (String × OV)}
theorem Ev.cmp2 {l r r' : PySem.Expr} {op op' : CmpOp} {pos : Pos} {d e e' : V} {f f' : Bool} (hl : Ev prog w K n env Γ l d) (hr : Ev prog w K n env Γ r e) (h : Op2 prog w K (compareOp op) d e (.bool f)) (hr' : Ev prog w K n env Γ r' e') (h' : Op2 prog w K (compareOp op') e e' (.bool f'))
    (hm : lastMarks [op, op'] [r, r'] = false := by with_unfolding_all rfl) : Ev prog w K n env Γ (.Compare l [op, op'] [r, r'] pos) (.bool (f && f')) := fun X A s Q E c a lo q => by
  refine Compare_chain (hl X A s _ E c a lo fun v h1 tk1 k1 r1 => ?_) hm
  refine chain_link (hr X A _ _ E (c.le k1) (a.le k1) (lo.le k1) fun v2 h2 tk2 k2 r2 => ?_)
  have k12 := k1.trans k2
  refine h n X A _ v v2 _ E (c.le k12) (a.le k12) (r1.le k2) r2 fun v3 h3 tk3 k3 r3 => ?_
  simp only [Rp] at r3
  subst r3
  refine wpAny_truthy_bool ?_
  cases f with
  | false => rw [if_neg (by decide)]; exact q _ _ _ (k12.trans k3) .bool
  | true =>
    rw [if_pos rfl]
    have k13 := k12.trans k3
    refine chain_last (hr' X A _ _ E (c.le k13) (a.le k13) (lo.le k13) fun v4 h4 tk4 k4 r4 => ?_)
    exact h' n X A _ v2 v4 Q E ((c.le k13).le k4) ((a.le k13).le k4) (r2.le (k3.trans k4)) r4 fun v5 h5 tk5 k5 r5 => q _ _ _ ((k13.trans k4).trans k5) (by simpa using r5)
theorem EvT.cmp2 {l r r' : PySem.Expr} {op op' : CmpOp} {pos : Pos} {d e e' : V} {f f' : Bool} (hl : Ev prog w K n env Γ l d) (hr : Ev prog w K n env Γ r e) (h : Op2 prog w K (compareOp op) d e (.bool f)) (hr' : Ev prog w K n env Γ r' e') (h' : Op2 prog w K (compareOp op') e e' (.bool f'))
    (hm : lastMarks [op, op'] [r, r'] = false := by with_unfolding_all rfl) : EvT prog w K n env Γ (.Compare l [op, op'] [r, r'] pos) (f && f') := fun X A s Q E c a lo q => by
  refine isTrue_chain (hl X A s _ E c a lo fun v h1 tk1 k1 r1 => ?_) hm
  refine test_link (hr X A _ _ E (c.le k1) (a.le k1) (lo.le k1) fun v2 h2 tk2 k2 r2 => ?_)
  have k12 := k1.trans k2
  refine h n X A _ v v2 _ E (c.le k12) (a.le k12) (r1.le k2) r2 fun v3 h3 tk3 k3 r3 => ?_
  simp only [Rp] at r3
  subst r3
  refine wpAny_truthy_bool ?_
  cases f with
  | false => rw [if_neg (by decide)]; exact q _ _ (k12.trans k3)
  | true =>
    rw [if_pos rfl]
    have k13 := k12.trans k3
    refine test_last (hr' X A _ _ E (c.le k13) (a.le k13) (lo.le k13) fun v4 h4 tk4 k4 r4 => ?_)
    refine h' n X A _ v2 v4 _ E ((c.le k13).le k4) ((a.le k13).le k4) (r2.le (k3.trans k4)) r4 fun v5 h5 tk5 k5 r5 => ?_
    simp only [Rp] at r5
    subst r5
    exact wpAny_truthy_bool (by simpa using q _ _ ((k13.trans k4).trans k5))
theorem execs_append (l r : List Stmt) : execs (l ++ r) env = (do match ← execs l env with | .next => execs r env | f => pure f) := by
  induction l with
  | nil => rw [List.nil_append]; show _ = (pure Flow.next >>= _); rw [pure_bind]
  | cons st l ih =>
    rw [List.cons_append, execs_cons, execs_cons, bind_assoc]
    congr 1
    funext f
    cases f with
    | next => exact ih
    | _ => rw [pure_bind]
theorem execs_nil_eq : execs [] env = pure Flow.next := rfl
theorem wpAny_append {M : Model} {A : Around} {E : Value → Shared → Prop} {s : Shared} {l r : List Stmt} {st : Stmt} {Q : Flow → Shared → Prop} {m : Sem Flow} (hm : exec st env = m >>= fun _ => execs l env) (h : wpAny M A (m >>= fun _ => execs (l ++ r) env) Q E s) : wpAny M A (execs (st :: r) env) Q E s := by
  rw [execs_cons, hm, bind_assoc]
  have : (fun _ : Flow => execs (l ++ r) env) = fun _ => (do match ← execs l env with | .next => execs r env | f => pure f) := by funext _; exact execs_append l r
  rw [this] at h
  exact h
theorem exec_If_eq (t : PySem.Expr) (bs os : List Stmt) (pos : Pos) : exec (.If t bs os pos) env = (do standAt pos; if ← PySem.isTrue t env (eval t env) then execs bs env else execs os env) := rfl
/-- a branch with what follows -/
theorem Ex.ifc {t : PySem.Expr} {bs os ss : List Stmt} {pos : Pos} {b : Bool} {out : Out} (ht : EvTO prog w K n env Γ O t b) (hb : b = true → Ex prog w K n env Γ O (bs ++ ss) out) (ho : b = false → Ex prog w K n env Γ O (os ++ ss) out) : Ex prog w K n env Γ O (.If t bs os pos :: ss) out := fun X₀ X m b' A s Q E B S q => by
  have e : execs (.If t bs os pos :: ss) env = (do standAt pos; if ← PySem.isTrue t env (eval t env) then execs (bs ++ ss) env else execs (os ++ ss) env) := by
    rw [execs_cons, exec_If_eq, bind_assoc]
    congr 1
    funext _
    rw [bind_assoc]
    congr 1
    funext c
    cases c with
    | true => simp only [if_true]; exact (execs_append bs ss).symm
    | false => simp only [if_false, Bool.false_eq_true]; exact (execs_append os ss).symm
  rw [e]
  refine wpAny_bind (wpAny_standAt (wpAny_bind (ht X₀ X m b' A s _ E B S fun h' tk k => ?_)))
  cases b with
  | true => rw [if_pos rfl]; exact hb rfl X₀ X m b' A _ Q E B (S.step k) q
  | false => rw [if_neg (by decide)]; exact ho rfl X₀ X m b' A _ Q E B (S.step k) q
theorem Ex.ifT {t : PySem.Expr} {bs os ss : List Stmt} {pos : Pos} {out : Out} (ht : EvTO prog w K n env Γ O t true) (hb : Ex prog w K n env Γ O (bs ++ ss) out) : Ex prog w K n env Γ O (.If t bs os pos :: ss) out := Ex.ifc ht (fun _ => hb) fun h => by cases h
theorem Ex.ifF {t : PySem.Expr} {bs os ss : List Stmt} {pos : Pos} {out : Out} (ht : EvTO prog w K n env Γ O t false) (ho : Ex prog w K n env Γ O (os ++ ss) out) : Ex prog w K n env Γ O (.If t bs os pos :: ss) out := Ex.ifc ht (fun h => by cases h) fun _ => ho
theorem Ex.to {ss : List Stmt} {a b : V} (h : Ex prog w K n env Γ O ss (.ret a)) (q : a = b) : Ex prog w K n env Γ O ss (.ret b) := q ▸ h
theorem Calls.to {f : Value} {ds : List V} {a b : V} (h : Calls prog w K n f ds a) (q : a = b) : Calls prog w K n f ds b := q ▸ h
theorem EvTO.to {e : PySem.Expr} {a b : Bool} (h : EvTO prog w K n env Γ O e a) (q : a = b) : EvTO prog w K n env Γ O e b := q ▸ h
end
end
section
/-- all code points are Unicode's -/
noncomputable abbrev sok (x : Str) : Prop := PyData.strOk x = true
theorem sok_of (s : String) : sok (Str.ofString s) := by
  rw [sok, PyData.strOk, Str.ofString_eq_toList, Array.all_eq_true]
  intro i hi
  simp only [decide_eq_true_eq]
  have : ∀ c ∈ s.toList.map Char.toNat, c < 0x110000 := by
    intro c hc
    obtain ⟨d, _, rfl⟩ := List.mem_map.mp hc
    have := d.valid
    simp only [Char.toNat, UInt32.isValidChar, Nat.isValidChar] at this ⊢
    omega
  exact this _ (by simpa using Array.getElem_mem (xs := (s.toList.map Char.toNat).toArray) hi)
theorem sok_append {x y : Str} (hx : sok x) (hy : sok y) : sok (x ++ y) := by
  have e : (x ++ y).cps = x.cps ++ y.cps := rfl
  rw [sok, PyData.strOk] at *
  rw [e, Array.all_append, hx, hy]; rfl
mutual
/-- data that Python can compare -/
noncomputable def V.okD : V → Bool
  | .none | .bool _ | .int _ => true
  | .str x => PyData.strOk x
  | .tup l | .lst l => V.okL l
  | _ => false
noncomputable def V.okL : List V → Bool
  | [] => true
  | d :: r => V.okD d && V.okL r
end
mutual
noncomputable def V.dep : V → Nat
  | .tup l | .lst l => V.depL l + 1
  | _ => 0
noncomputable def V.depL : List V → Nat
  | [] => 0
  | d :: r => max (V.dep d) (V.depL r)
end
mutual
theorem py_of : ∀ d : V, d.okD = true → ∃ p, d.py = some p ∧ p.canLay0 = true ∧ p.depth = d.dep
  | .none, _ => ⟨_, rfl, rfl, rfl⟩
  | .bool _, _ => ⟨_, rfl, rfl, rfl⟩
  | .int _, _ => ⟨_, rfl, rfl, rfl⟩
  | .str x, h => ⟨_, rfl, h, rfl⟩
  | .tup l, h => by
    obtain ⟨ps, e, c, k⟩ := pyL_of l (by simpa only [V.okD] using h)
    exact ⟨.tuple ps, by simp only [V.py, e, Option.map_some], c, by simp only [PyData.depth, V.dep, k]⟩
  | .lst l, h => by
    obtain ⟨ps, e, c, k⟩ := pyL_of l (by simpa only [V.okD] using h)
    exact ⟨.list ps, by simp only [V.py, e, Option.map_some], c, by simp only [PyData.depth, V.dep, k]⟩
  | .bts _, h => by simp [V.okD] at h
  | .glob _, h => by simp [V.okD] at h
  | .scr _, h => by simp [V.okD] at h
  | .inst _ _, h => by simp [V.okD] at h
theorem pyL_of : ∀ l : List V, V.okL l = true → ∃ ps, V.pyL l = some ps ∧ PyData.canLayAll0 ps = true ∧ PyData.depthAll ps = V.depL l
  | [], _ => ⟨[], rfl, rfl, rfl⟩
  | d :: r, h => by
    simp only [V.okL, Bool.and_eq_true] at h
    obtain ⟨p, e, c, k⟩ := py_of d h.1
    obtain ⟨ps, e', c', k'⟩ := pyL_of r h.2
    exact ⟨p :: ps, by simp only [V.pyL, e, e'], by simp only [PyData.canLayAll0, c, c', Bool.and_self], by simp only [PyData.depthAll, V.depL, k, k']⟩
end
/-- ready to be compared -/
noncomputable def V.cmpb (d : V) : Bool := d.okD && decide (d.dep ≤ 64)
theorem V.cmpb.py {d : V} (h : d.cmpb = true) : ∃ p, d.py = some p ∧ shp p := by
  simp only [V.cmpb, Bool.and_eq_true, decide_eq_true_eq] at h
  obtain ⟨p, e, c, k⟩ := py_of d h.1
  exact ⟨p, e, by simp only [shp, SeqAt.shaped, c, k, Bool.true_and, decide_eq_true_eq]; exact h.2⟩
theorem py_inj_str {x y : Str} : PyData.eqv (.str x) (.str y) = decide (x = y) := by
  simp only [PyData.eqv]; by_cases h : x = y <;> simp [h]
section
variable {prog : Program} {w : World} {K : Frag}
theorem Op2.eqR {d e : V} (h : d.cmpb = true) (he : e = d) : Op2 prog w K (compareOp .Eq) d e (.bool true) := by
  subst he
  obtain ⟨p, e, s⟩ := V.cmpb.py h
  have := Op2.eq (prog := prog) (w := w) (K := K) e e s s
  rwa [PySem.SeqAt.eqv_refl p (by simp only [shp, SeqAt.shaped, Bool.and_eq_true] at s; exact s.1)] at this
theorem Op2.neR {d e : V} (h : d.cmpb = true) (he : e = d) : Op2 prog w K (compareOp .NotEq) d e (.bool false) := by
  subst he
  obtain ⟨p, e, s⟩ := V.cmpb.py h
  have := Op2.ne (prog := prog) (w := w) (K := K) e e s s
  rwa [PySem.SeqAt.eqv_refl p (by simp only [shp, SeqAt.shaped, Bool.and_eq_true] at s; exact s.1)] at this
theorem shp_str {x : Str} (h : sok x) : shp (.str x) := by simp only [shp, SeqAt.shaped, PyData.canLay0, PyData.depth]; rw [h]; rfl
theorem Op2.eqS {x y : Str} (hx : sok x) (hy : sok y) : Op2 prog w K (compareOp .Eq) (.str x) (.str y) (.bool (decide (x = y))) := by
  have := Op2.eq (prog := prog) (w := w) (K := K) (d := .str x) (e := .str y) rfl rfl (shp_str hx) (shp_str hy)
  rwa [py_inj_str] at this
theorem Op2.neS {x y : Str} (hx : sok x) (hy : sok y) : Op2 prog w K (compareOp .NotEq) (.str x) (.str y) (.bool (!decide (x = y))) := by
  have := Op2.ne (prog := prog) (w := w) (K := K) (d := .str x) (e := .str y) rfl rfl (shp_str hx) (shp_str hy)
  rwa [py_inj_str] at this
theorem Op2.eqI {x y : Int} : Op2 prog w K (compareOp .Eq) (.int x) (.int y) (.bool (decide (x = y))) := by
  have := Op2.eq (prog := prog) (w := w) (K := K) (d := .int x) (e := .int y) rfl rfl rfl rfl
  rwa [show PyData.eqv (.int x) (.int y) = decide (x = y) by simp only [PyData.eqv]; by_cases h : x = y <;> simp [h]] at this
theorem Op2.neI {x y : Int} : Op2 prog w K (compareOp .NotEq) (.int x) (.int y) (.bool (!decide (x = y))) := by
  have := Op2.ne (prog := prog) (w := w) (K := K) (d := .int x) (e := .int y) rfl rfl rfl rfl
  rwa [show PyData.eqv (.int x) (.int y) = decide (x = y) by simp only [PyData.eqv]; by_cases h : x = y <;> simp [h]] at this
theorem Op2.eqB {x y : Bool} : Op2 prog w K (compareOp .Eq) (.bool x) (.bool y) (.bool (x == y)) := Op2.eq (d := .bool x) (e := .bool y) rfl rfl rfl rfl
theorem Op2.neB {x y : Bool} : Op2 prog w K (compareOp .NotEq) (.bool x) (.bool y) (.bool (!(x == y))) := Op2.ne (d := .bool x) (e := .bool y) rfl rfl rfl rfl
-- lists of strings
theorem py_strs : ∀ ys : List Str, V.pyL (ys.map .str) = some (ys.map PyData.str)
  | [] => rfl
  | y :: ys => by simp only [List.map_cons, V.pyL, V.py, py_strs ys]
theorem okL_strs : ∀ ys : List Str, (∀ y ∈ ys, sok y) → PyData.canLayAll0 (ys.map PyData.str) = true
  | [], _ => rfl
  | y :: ys, h => by
    simp only [List.map_cons, PyData.canLayAll0, PyData.canLay0, okL_strs ys fun z hz => h z (.tail _ hz), Bool.and_true]
    exact h y (.head _)
theorem dep_strs : ∀ ys : List Str, PyData.depthAll (ys.map PyData.str) = 0
  | [] => rfl
  | y :: ys => by simp only [List.map_cons, PyData.depthAll, PyData.depth, dep_strs ys, Nat.max_self]
theorem shp_strsL {ys : List Str} (h : ∀ y ∈ ys, sok y) : shp (.list (ys.map PyData.str)) := by
  simp only [shp, SeqAt.shaped, PyData.canLay0, PyData.depth, okL_strs ys h, dep_strs]; rfl
theorem shp_strsT {ys : List Str} (h : ∀ y ∈ ys, sok y) : shp (.tuple (ys.map PyData.str)) := by
  simp only [shp, SeqAt.shaped, PyData.canLay0, PyData.depth, okL_strs ys h, dep_strs]; rfl
theorem eqv_strs : ∀ ys zs : List Str, PyData.eqvAll (ys.map PyData.str) (zs.map PyData.str) = decide (ys = zs)
  | [], [] => by simp [PyData.eqvAll]
  | [], _ :: _ => by simp [PyData.eqvAll]
  | _ :: _, [] => by simp [PyData.eqvAll]
  | y :: ys, z :: zs => by simp only [List.map_cons, PyData.eqvAll, py_inj_str, eqv_strs ys zs, List.cons.injEq, Bool.decide_and]
theorem Op2.eqLS {ys zs : List Str} (hy : ∀ y ∈ ys, sok y) (hz : ∀ y ∈ zs, sok y) : Op2 prog w K (compareOp .Eq) (.lst (ys.map .str)) (.lst (zs.map .str)) (.bool (decide (ys = zs))) := by
  have := Op2.eq (prog := prog) (w := w) (K := K) (d := .lst (ys.map .str)) (e := .lst (zs.map .str)) (by simp only [V.py, py_strs, Option.map_some]) (by simp only [V.py, py_strs, Option.map_some]) (shp_strsL hy) (shp_strsL hz)
  rwa [show PyData.eqv (.list (ys.map PyData.str)) (.list (zs.map PyData.str)) = decide (ys = zs) by rw [PyData.eqv]; exact eqv_strs ys zs] at this
theorem Op2.neLS {ys zs : List Str} (hy : ∀ y ∈ ys, sok y) (hz : ∀ y ∈ zs, sok y) : Op2 prog w K (compareOp .NotEq) (.lst (ys.map .str)) (.lst (zs.map .str)) (.bool (!decide (ys = zs))) := by
  have := Op2.ne (prog := prog) (w := w) (K := K) (d := .lst (ys.map .str)) (e := .lst (zs.map .str)) (by simp only [V.py, py_strs, Option.map_some]) (by simp only [V.py, py_strs, Option.map_some]) (shp_strsL hy) (shp_strsL hz)
  rwa [show PyData.eqv (.list (ys.map PyData.str)) (.list (zs.map PyData.str)) = decide (ys = zs) by rw [PyData.eqv]; exact eqv_strs ys zs] at this
theorem count_strs (x : Str) : ∀ ys : List Str, decide (Spec.countIn (.str x) (ys.map PyData.str) ≠ 0) = decide (x ∈ ys) := by
  intro ys
  have nn : ∀ ys : List Str, 0 ≤ Spec.countIn (.str x) (ys.map PyData.str) := by
    intro ys
    induction ys with
    | nil => simp [Spec.countIn]
    | cons y ys ih => simp only [List.map_cons, Spec.countIn]; split <;> omega
  induction ys with
  | nil => simp [Spec.countIn]
  | cons y ys ih =>
    have h0 := nn ys
    have e : Spec.same (.str y) (.str x) = decide (y = x) := by simp only [Spec.same]; by_cases h : y = x <;> simp [h]
    simp only [List.map_cons, Spec.countIn, e, List.mem_cons]
    by_cases h : y = x
    · subst h; simp; omega
    · have h' : ¬ x = y := fun q => h q.symm
      simp only [h, decide_false, Bool.false_eq_true, if_false, h', false_or, Int.zero_add]
      exact ih
theorem nomix_strs (x : Str) (ys : List Str) : ∀ y ∈ ys.map PyData.str, SeqAt.noMix y (.str x) = true := by
  intro y hy
  obtain ⟨z, _, rfl⟩ := List.mem_map.mp hy
  rfl
theorem Op2.inLS {x : Str} {ys : List Str} (hx : sok x) (hy : ∀ y ∈ ys, sok y) : Op2 prog w K (compareOp .In) (.str x) (.lst (ys.map .str)) (.bool (decide (x ∈ ys))) := by
  have := Op2.inL (prog := prog) (w := w) (K := K) (d := .str x) rfl (py_strs ys) (shp_str hx) (shp_strsL hy) (nomix_strs x ys)
  rwa [count_strs] at this
theorem Op2.notInLS {x : Str} {ys : List Str} (hx : sok x) (hy : ∀ y ∈ ys, sok y) : Op2 prog w K (compareOp .NotIn) (.str x) (.lst (ys.map .str)) (.bool (!decide (x ∈ ys))) := by
  have := Op2.notInL (prog := prog) (w := w) (K := K) (d := .str x) rfl (py_strs ys) (shp_str hx) (shp_strsL hy) (nomix_strs x ys)
  rwa [count_strs] at this
noncomputable def V.strs : List V → Option (List Str)
  | [] => some []
  | .str x :: r => (V.strs r).map (x :: ·)
  | _ :: _ => Option.none
theorem strs_map : ∀ {l : List V} {ys : List Str}, V.strs l = some ys → l = ys.map .str
  | [], ys, h => by cases h; rfl
  | .str x :: r, ys, h => by
    simp only [V.strs, Option.map_eq_some_iff] at h
    obtain ⟨zs, h, rfl⟩ := h
    rw [strs_map h]; rfl
  | .none :: _, _, h | .bool _ :: _, _, h | .int _ :: _, _, h | .bts _ :: _, _, h | .glob _ :: _, _, h | .tup _ :: _, _, h | .lst _ :: _, _, h | .scr _ :: _, _, h | .inst _ _ :: _, _, h => by cases h
theorem Op2.inTS {x : Str} {l : List V} {ys : List Str} (hl : V.strs l = some ys) (hx : sok x) (hy : ys.all PyData.strOk = true) : Op2 prog w K (compareOp .In) (.str x) (.tup l) (.bool (decide (x ∈ ys))) := by
  rw [strs_map hl]
  have := Op2.inT (prog := prog) (w := w) (K := K) (d := .str x) rfl (py_strs ys) (shp_str hx) (shp_strsT fun y h => List.all_eq_true.mp hy y h) (nomix_strs x ys)
  rwa [count_strs] at this
theorem Op2.notInTS {x : Str} {l : List V} {ys : List Str} (hl : V.strs l = some ys) (hx : sok x) (hy : ys.all PyData.strOk = true) : Op2 prog w K (compareOp .NotIn) (.str x) (.tup l) (.bool (!decide (x ∈ ys))) := by
  rw [strs_map hl]
  have := Op2.notInT (prog := prog) (w := w) (K := K) (d := .str x) rfl (py_strs ys) (shp_str hx) (shp_strsT fun y h => List.all_eq_true.mp hy y h) (nomix_strs x ys)
  rwa [count_strs] at this
theorem eqvAll_nil : ∀ {ds : List V} {ps : List PyData}, V.pyL ds = some ps → PyData.eqvAll ps [] = ds.isEmpty
  | [], ps, h => by cases h; rfl
  | d :: ds, ps, h => by
    simp only [V.pyL] at h
    split at h
    · cases h; rfl
    · cases h
theorem Op2.eqL0 {ds : List V} (h : (V.lst ds).cmpb = true) : Op2 prog w K (compareOp .Eq) (.lst ds) (.lst []) (.bool ds.isEmpty) := by
  obtain ⟨p, e, s⟩ := V.cmpb.py h
  have := Op2.eq (prog := prog) (w := w) (K := K) (e := .lst []) e rfl s rfl
  simp only [V.py, Option.map_eq_some_iff] at e
  obtain ⟨ps, e, rfl⟩ := e
  rwa [show PyData.eqv (.list ps) (.list []) = ds.isEmpty by rw [PyData.eqv]; exact eqvAll_nil e] at this
theorem Op2.neL0 {ds : List V} (h : (V.lst ds).cmpb = true) : Op2 prog w K (compareOp .NotEq) (.lst ds) (.lst []) (.bool (!ds.isEmpty)) := by
  obtain ⟨p, e, s⟩ := V.cmpb.py h
  have := Op2.ne (prog := prog) (w := w) (K := K) (e := .lst []) e rfl s rfl
  simp only [V.py, Option.map_eq_some_iff] at e
  obtain ⟨ps, e, rfl⟩ := e
  rwa [show PyData.eqv (.list ps) (.list []) = ds.isEmpty by rw [PyData.eqv]; exact eqvAll_nil e] at this
theorem okL_strsV : ∀ {ys : List Str}, (∀ y ∈ ys, sok y) → V.okL (ys.map .str) = true
  | [], _ => rfl
  | y :: ys, h => by
    simp only [List.map_cons, V.okL, V.okD, okL_strsV fun z hz => h z (.tail _ hz), Bool.and_true]
    exact h y (.head _)
theorem depL_strs : ∀ ys : List Str, V.depL (ys.map .str) = 0
  | [] => rfl
  | y :: ys => by simp only [List.map_cons, V.depL, V.dep, depL_strs ys, Nat.max_self]
theorem cmpb_strs {ys : List Str} (h : ∀ y ∈ ys, sok y) : (V.lst (ys.map .str)).cmpb = true := by
  simp only [V.cmpb, V.okD, okL_strsV h, V.dep, depL_strs]; rfl
theorem all_sok {ys : List Str} (h : ys.all PyData.strOk = true) : ∀ y ∈ ys, sok y := fun y hy => List.all_eq_true.mp h y hy
end
end
section
section
variable {prog : Program} {w : World} {A : Around} {E : Value → Shared → Prop} {s : Shared}
theorem enum_new_tuple (l : Addr) (items : Array Value) (n : Nat) (dct : Option Addr) (sl : Array (Option Value)) :
    Meets (Builtin.«enumerate.__new__» ⟨[.type "enumerate", .ref l], []⟩) (fun _ R s => s.heap.get? l = some { cls := .type "tuple", dict := dct, data := .seq items n, slots := sl } ∧
      R (.ok (.ret (.ref (s.heap.push { cls := .type "tuple_iterator", data := .fields #[.ref l, .int 0 0] }).objs.size)))
        { s with heap := (s.heap.push { cls := .type "tuple_iterator", data := .fields #[.ref l, .int 0 0] }).push { cls := .type "enumerate", data := .fields #[.none, .bool false, .ref s.heap.objs.size, rawInt 0, .none, .none] } }) :=
  .of_wp fun prog w A R s h => by
    obtain ⟨hp, g, d, tk, os⟩ := s; obtain ⟨hl, h⟩ := h
    have hsub := sub_enumerate
    have hL : Heap.IsTuple (Shared.heap ⟨hp, g, d, tk, os⟩) l items := ⟨_, hl, rfl, n, rfl⟩
    wp_walk using wpAny_loadPart' hl
    refine wpAny_stack_any fun st => wpAny_pure ?_
    split
    · rename_i c _ _ _ _ _
      cases (c == Value.type "enumerate") <;> (wp_walk using wpAny_loadPart' hl, wpAny_pyIter_tuple hL; exact ⟨_, rfl, h⟩)
    · wp_walk using wpAny_loadPart' hl, wpAny_pyIter_tuple hL
      exact ⟨_, rfl, h⟩
theorem call_enum_tuple {l : Addr} {items : Array Value} {Q : Value → Shared → Prop} (hL : s.heap.IsTuple l items)
    (h : ∀ h', IsEnum h' (s.heap.objs.size + 1) s.heap.objs.size 0 .none → h'.IsTupleIter s.heap.objs.size l 0 → (∀ b o, s.heap.get? b = some o → h'.get? b = some o) → Q (.ref (s.heap.objs.size + 1)) { s with heap := h' }) :
    wpAny (model prog w) A (call (.type "enumerate") [.ref l]) Q E s := by
  obtain ⟨⟨c, dct, dt, sl⟩, hl, hc, n, hd⟩ := hL
  replace hc : c = .type "tuple" := hc
  replace hd : dt = .seq items n := hd
  subst hc hd
  refine callType_new F.called_enumerate (by decide) (F.typeCall_enumerate_1 _) (F.newCall_enumerate_1 _) (fun obj => F.args_object_init_2 obj _) F.entry_enumerate_new (enum_new_tuple l items n dct sl) ⟨hl, ?_⟩
  have hz : (s.heap.push { cls := .type "tuple_iterator", data := .fields #[.ref l, .int 0 0] }).objs.size = s.heap.objs.size + 1 := Heap.size_push ..
  show _ ∧ _
  rw [hz]
  have he := Heap.get?_push_size (s.heap.push { cls := .type "tuple_iterator", data := .fields #[.ref l, .int 0 0] }) (o := { cls := .type "enumerate", data := .fields #[.none, .bool false, .ref s.heap.objs.size, rawInt 0, .none, .none] }) rfl
  rw [hz] at he
  exact ⟨⟨_, he, rfl⟩, h _ he ⟨_, Heap.get?_push_of_some _ (Heap.get?_push_size _ rfl), rfl, rfl⟩ fun b o x => Heap.get?_push_of_some _ (Heap.get?_push_of_some _ x)⟩
theorem nextOf_tup {it t : Addr} {i : Nat} {items} {x : Value} {Q : Value → Shared → Prop} (hit : s.heap.IsTupleIter it t i) (ht : s.heap.IsTuple t items) (hx : items[i]? = some x)
    (hQ : ∀ h', h'.IsTupleIter it t (i + 1) → Heap.SameBut it s.heap h' → Q x { s with heap := h' }) : wpAny (model prog w) A (Builtin.SmallTypes.nextOf (.ref it)) Q E s := by
  obtain ⟨o, ho, hc, hd⟩ := id hit
  obtain ⟨ol, hol, _, nl, hdl⟩ := ht
  unfold Builtin.SmallTypes.nextOf
  refine wpAny_bind (wpAny_callSpecial?_slot (name := Str.ofString "__next__") hit.typeIs F.slot_tuple_iterator_next (wpAny_call_entry F.slot_tuple_iterator_next hit.typeIs F.entry_tuple_iterator_next ?_ (F.args_tuple_iterator_next_1 _)))
  show wpAny _ _ (field (.ref it) 0 >>= _) _ _ s
  refine wpAny_bind (wpAny_field ho hd (x := .ref t) rfl ?_)
  show wpAny _ _ (if (Value.ref t == Value.none) = true then _ else _) _ _ s
  rw [if_neg (show ¬ ((Value.ref t == Value.none) = true) from Bool.false_ne_true)]
  show wpAny _ _ (field (.ref it) 1 >>= _) _ _ s
  refine wpAny_bind (wpAny_field ho hd (x := .int i 0) rfl ?_)
  show wpAny _ _ (seqItems? (.ref t) >>= _) _ _ s
  refine wpAny_bind (wpAny_seqItems hol hdl ?_)
  simp only [Int.toNat_natCast, hx]
  refine wpAny_bind (wpAny_setField ho hd (by simp) (wpAny_pure ⟨x, rfl, wpAny_pure (hQ _ ?_ (Heap.SameBut.update ..))⟩))
  exact ⟨_, Heap.get?_update_self _ ho (Obj.isFreed_of_fields (Obj.data_mapFields hd _)), (Obj.cls_mapFields ..).trans hc, by rw [Obj.data_mapFields hd]; simp [rawInt]⟩
theorem nextOf_tup_end {it t : Addr} {i : Nat} {items} {Q : Value → Shared → Prop} (hh : A.handled = none) (hit : s.heap.IsTupleIter it t i) (ht : s.heap.IsTuple t items) (hx : items[i]? = none)
    (hE : ∀ h' e, Heap.ExtBut it s.heap h' → (∃ o, h'.get? e = some o ∧ o.cls = .type "StopIteration") → E (.ref e) { s with heap := h' }) : wpAny (model prog w) A (Builtin.SmallTypes.nextOf (.ref it)) Q E s := by
  obtain ⟨o, ho, hc, hd⟩ := id hit
  obtain ⟨ol, hol, _, nl, hdl⟩ := ht
  unfold Builtin.SmallTypes.nextOf
  refine wpAny_bind (wpAny_callSpecial?_slot (name := Str.ofString "__next__") hit.typeIs F.slot_tuple_iterator_next (wpAny_call_entry F.slot_tuple_iterator_next hit.typeIs F.entry_tuple_iterator_next ?_ (F.args_tuple_iterator_next_1 _)))
  show wpAny _ _ (field (.ref it) 0 >>= _) _ _ s
  refine wpAny_bind (wpAny_field ho hd (x := .ref t) rfl ?_)
  show wpAny _ _ (if (Value.ref t == Value.none) = true then _ else _) _ _ s
  rw [if_neg (show ¬ ((Value.ref t == Value.none) = true) from Bool.false_ne_true)]
  show wpAny _ _ (field (.ref it) 1 >>= _) _ _ s
  refine wpAny_bind (wpAny_field ho hd (x := .int i 0) rfl ?_)
  show wpAny _ _ (seqItems? (.ref t) >>= _) _ _ s
  refine wpAny_bind (wpAny_seqItems hol hdl ?_)
  simp only [Int.toNat_natCast, hx]
  refine wpAny_bind (wpAny_rule (wpAny_bind (wpAny_setField ho hd (by simp) ?_)))
  show wpAny _ _ (newExc (.type "StopIteration") [] >>= _) _ _ _
  refine wpAny_bind ?_
  simp only [newExc, newTuple]
  refine wpAny_bind (wpAny_newObj_type ?_ (by size_fits))
  refine wpAny_bind (m := firstArgMember _ _) (wpAny_of_eq (a := Value.none) (by first | rfl | (simp only [firstArgMember]; rfl)) ?_)
  refine wpAny_newObj_type ?_ (by size_fits)
  simp only [raiseNew]
  refine wpAny_bind (wpAny_handled ?_)
  first | rw [show A.in1.handled = none from hh] | rw [hh]
  refine wpAny_bind (wpAny_pure (wpAny_throw ?_))
  exact hE _ _ (((Heap.SameBut.update ..).extBut.push _).push _) ⟨_, Heap.get?_push_size _ rfl, rfl⟩
/-- one step of an enumerate, over any inner iterator -/
theorem enum_step {e it : Addr} {i : Nat} {x old : Value} {P : Heap → Prop} {Q : Value → Shared → Prop} (he : IsEnum s.heap e it i old) (hne : e ≠ it)
    (hN : ∀ (Q : Value → Shared → Prop) (E : Value → Shared → Prop), (∀ h', P h' → Heap.SameBut it s.heap h' → Q x { s with heap := h' }) → wpAny (model prog w) A (Builtin.SmallTypes.nextOf (.ref it)) Q E s)
    (hP : ∀ h h', P h → (∀ b o, b ≠ e → h.get? b = some o → h'.get? b = some o) → P h')
    (hQ : ∀ h', IsEnumOut h' e it ((i : Int) + 1) x s.heap.objs.size → P h' → h'.get? s.heap.objs.size = some { cls := .type "tuple", data := .seq #[.int i s.toks, x] } →
      (∀ b o, b ≠ e → b ≠ it → s.heap.get? b = some o → h'.get? b = some o) → Q (.ref s.heap.objs.size) { s with heap := h', toks := s.toks + 1 }) :
    wpAny (model prog w) A (Builtin.«enumerate.__next__» ⟨[.ref e], []⟩) (fun fin s' => ∃ v, fin = .done (.ret v) ∧ Q v s') E s := by
  obtain ⟨hp, g, d, tk, os⟩ := s
  show wpAny _ _ (field (.ref e) 2 >>= _) _ _ _
  refine wpAny_bind (wpAny_field he rfl (x := .ref it) rfl ?_)
  refine wpAny_bind (hN _ _ fun h₁ p₁ hs₁ => ?_)
  replace hs₁ : Heap.SameBut it hp h₁ := hs₁
  have he₁ : IsEnum h₁ e it i old := (hs₁.2 e hne).trans he
  show wpAny _ _ (field (.ref e) 3 >>= _) _ _ ⟨h₁, g, d, tk, os⟩
  refine wpAny_bind (wpAny_field he₁ rfl (x := rawInt i) rfl ?_)
  show wpAny _ _ (field (.ref e) 4 >>= _) _ _ ⟨h₁, g, d, tk, os⟩
  refine wpAny_bind (wpAny_field he₁ rfl (x := .none) rfl ?_)
  show wpAny _ _ (mkInt i >>= _) _ _ ⟨h₁, g, d, tk, os⟩
  refine wpAny_bind (wpAny_mkInt ?_)
  show wpAny _ _ (setField (.ref e) 3 (rawInt ((i : Int) + 1)) >>= _) _ _ ⟨h₁, g, d, tk + 1, os⟩
  refine wpAny_bind (wpAny_setField_rec he₁ (by simp) fun h₂ he₂ hs₂ => ?_)
  replace hs₂ : Heap.SameBut e h₁ h₂ := hs₂
  replace he₂ : IsEnum h₂ e it ((i : Int) + 1) old := he₂
  show wpAny _ _ (setField (.ref e) 4 .none >>= _) _ _ ⟨h₂, g, d, tk + 1, os⟩
  refine wpAny_bind (wpAny_setField_rec he₂ (by simp) fun h₃ he₃ hs₃ => ?_)
  replace hs₃ : Heap.SameBut e h₂ h₃ := hs₃
  replace he₃ : IsEnum h₃ e it ((i : Int) + 1) old := he₃
  show wpAny _ _ (newTuple [.int i tk, x] >>= _) _ _ ⟨h₃, g, d, tk + 1, os⟩
  refine wpAny_bind (wpAny_newTuple ?_)
  have he₄ : IsEnum (h₃.push { cls := .type "tuple", data := .seq #[.int i tk, x] }) e it ((i : Int) + 1) old := Heap.get?_push_of_some _ he₃
  generalize hh₄ : h₃.push { cls := .type "tuple", data := .seq #[.int i tk, x] } = h₄ at he₄
  have hsz : h₃.objs.size = hp.objs.size := by rw [hs₃.1, hs₂.1, hs₁.1]
  have hel : e < hp.objs.size := Heap.lt_size he
  have ht₄ : h₄.get? hp.objs.size = some { cls := .type "tuple", data := .seq #[.int i tk, x] } := by rw [← hh₄, ← hsz]; exact Heap.get?_push_size _ rfl
  have hk₄ : ∀ b o, b ≠ e → b ≠ it → hp.get? b = some o → h₄.get? b = some o := fun b o hbe hbi hb => by
    rw [← hh₄]; exact Heap.get?_push_of_some _ (hs₃.extBut b o hbe (hs₂.extBut b o hbe (hs₁.extBut b o hbi hb)))
  have p₄ : P h₄ := hP _ _ p₁ fun b o hbe hb => by rw [← hh₄]; exact Heap.get?_push_of_some _ (hs₃.extBut b o hbe (hs₂.extBut b o hbe hb))
  show wpAny _ _ (Builtin.SmallTypes.ownedTupleIsFree (.ref e) >>= _) _ _ ⟨h₄, g, d, tk + 1, os⟩
  rw [hsz]
  clear hh₄ he₃ hs₃ he₂ hs₂ he₁ hs₁ hsz p₁ h₃ h₂ h₁
  refine wpAny_bind ?_
  unfold Builtin.SmallTypes.ownedTupleIsFree
  refine wpAny_bind (wpAny_field he₄ rfl (x := .none) rfl (wpAny_pure ?_))
  simp only [if_true]
  refine wpAny_bind (wpAny_rule ?_)
  refine wpAny_bind (wpAny_field he₄ rfl (x := old) rfl ?_)
  refine wpAny_bind (wpAny_setField_rec he₄ (by simp) fun h₅ he₅ hs₅ => ?_)
  replace hs₅ : Heap.SameBut e h₄ h₅ := hs₅
  replace he₅ : IsEnum h₅ e it ((i : Int) + 1) x := he₅
  show wpAny _ _ (Builtin.SmallTypes.ownedTupleHandOut (.ref e) (.ref hp.objs.size) >>= _) _ _ ⟨h₅, g, d, tk + 1, os⟩
  refine wpAny_bind ?_
  unfold Builtin.SmallTypes.ownedTupleHandOut
  refine wpAny_bind (wpAny_setField_rec he₅ (by simp) fun h₆ he₆ hs₆ => ?_)
  replace hs₆ : Heap.SameBut e h₅ h₆ := hs₆
  replace he₆ : IsEnumOut h₆ e it ((i : Int) + 1) x hp.objs.size := he₆
  refine wpAny_setField_rec he₆ (by simp) fun h₇ he₇ hs₇ => ?_
  replace hs₇ : Heap.SameBut e h₆ h₇ := hs₇
  replace he₇ : IsEnumOut h₇ e it ((i : Int) + 1) x hp.objs.size := he₇
  have hk₇ : ∀ b o, b ≠ e → h₄.get? b = some o → h₇.get? b = some o := fun b o hbe hb => hs₇.extBut b o hbe (hs₆.extBut b o hbe (hs₅.extBut b o hbe hb))
  exact wpAny_bind (wpAny_letGo (wpAny_pure ⟨_, rfl, hQ h₇ he₇ (hP _ _ p₄ hk₇) (hk₇ _ _ (Nat.ne_of_gt hel) ht₄) fun b o hbe hbi hb => hk₇ b o hbe (hk₄ b o hbe hbi hb)⟩))
theorem enum_next {e it : Addr} {i : Nat} {x old : Value} {P : Heap → Prop} {Q : Option Value → Shared → Prop} (he : IsEnum s.heap e it i old) (hne : e ≠ it)
    (hN : ∀ (A : Around) (Q : Value → Shared → Prop) (E : Value → Shared → Prop), (∀ h', P h' → Heap.SameBut it s.heap h' → Q x { s with heap := h' }) → wpAny (model prog w) A (Builtin.SmallTypes.nextOf (.ref it)) Q E s)
    (hP : ∀ h h', P h → (∀ b o, b ≠ e → h.get? b = some o → h'.get? b = some o) → P h')
    (hQ : ∀ h', IsEnumOut h' e it ((i : Int) + 1) x s.heap.objs.size → P h' → h'.get? s.heap.objs.size = some { cls := .type "tuple", data := .seq #[.int i s.toks, x] } →
      (∀ b o, b ≠ e → b ≠ it → s.heap.get? b = some o → h'.get? b = some o) → Q (some (.ref s.heap.objs.size)) { s with heap := h', toks := s.toks + 1 }) : wpAny (model prog w) A (pyNext (.ref e)) Q E s := by
  have hT : s.TypeIs (.ref e) "enumerate" := ⟨_, he, rfl⟩
  unfold pyNext
  exact wpAny_bind (wpAny_attempt (wpAny_callSpecial?_slot (name := Str.ofString "__next__") hT F.slot_enumerate_next
    (wpAny_call_entry F.slot_enumerate_next hT F.entry_enumerate_next (enum_step he hne (hN _) hP fun h' a b c d => wpAny_pure (hQ h' a b c d)) (F.args_enumerate_next_1 _))))
theorem enum_end {e it : Addr} {i : Nat} {old : Value} {Q : Option Value → Shared → Prop} (he : IsEnum s.heap e it i old)
    (hN : ∀ (A' : Around) (Q : Value → Shared → Prop) (E : Value → Shared → Prop), A'.handled = A.handled → (∀ h' e, Heap.ExtBut it s.heap h' → (∃ o, h'.get? e = some o ∧ o.cls = .type "StopIteration") → E (.ref e) { s with heap := h' }) → wpAny (model prog w) A' (Builtin.SmallTypes.nextOf (.ref it)) Q E s)
    (hQ : ∀ h', Heap.ExtBut it s.heap h' → Q none { s with heap := h' }) : wpAny (model prog w) A (pyNext (.ref e)) Q E s := by
  have hT : s.TypeIs (.ref e) "enumerate" := ⟨_, he, rfl⟩
  unfold pyNext
  refine wpAny_bind (wpAny_attempt (wpAny_callSpecial?_slot (name := Str.ofString "__next__") hT F.slot_enumerate_next (wpAny_call_entry F.slot_enumerate_next hT F.entry_enumerate_next ?_ (F.args_enumerate_next_1 _))))
  show wpAny _ _ (field (.ref e) 2 >>= _) _ _ _
  refine wpAny_bind (wpAny_field he rfl (x := .ref it) rfl ?_)
  refine wpAny_bind (hN _ _ _ rfl fun h' x he' hx' => ?_)
  obtain ⟨o, ho, hc⟩ := hx'
  refine wpAny_bind (wpAny_isInstance (T := "StopIteration") (b := true) ⟨o, ho, hc⟩ isSubtype_stop ?_)
  exact wpAny_pure (hQ _ he')
end
end
section
/-- a walk that hands out pairs -/
structure WkE (prog : Program) (w : World) (I : Addr) (fp : List Addr) (ds : List V) (St : List Addr → Nat → Heap → Prop) : Prop where
  frame : ∀ X X' i h h', St X i h → Stays X X' h h' → St X' i h'
  flds : ∀ X i h, St X i h → ∀ a ∈ fp, ∃ o vs, h.get? a = some o ∧ o.data = .fields vs
  out : ∀ X i h, St X i h → ∀ a ∈ fp, a ∉ X
  item : ∀ (X : List Addr) (A : Around) (i : Nat) (d : V) (s : Shared) (Q : Value → Shared → Prop) (E : Value → Shared → Prop) (elts : List PySem.Expr) (k : Nat) (pos : Pos), A.handled = none → St X i s.heap → ds[i]? = some d →
    (∀ T v t h' tk, St X (i + 1) h' → Rp X h' d v → s.heap.get? T = none → IsTup h' T #[.int (i : Int) t, v] → (∀ a o, a ∉ fp → s.heap.get? a = some o → h'.get? a = some o) → Q (.ref T) ⟨h', s.gens, s.drawn, tk, s.os⟩) →
    ∀ R : Option Value → Shared → Prop, (∀ v s₁, (∀ E', wpAny (model prog w) A (letOwnedTupleGo (.Tuple elts k pos) (.ref I) v) (fun _ s₂ => Q v s₂) E' s₁) → R (some v) s₁) → wpAny (model prog w) A (pyNext (.ref I)) R E s
  done : ∀ (X : List Addr) (A : Around) (i : Nat) (s : Shared) (Q : Option Value → Shared → Prop) (E : Value → Shared → Prop), A.handled = none → St X i s.heap → ds[i]? = none →
    (∀ h' tk, (∀ a o, a ∉ fp → s.heap.get? a = some o → h'.get? a = some o) → Q none ⟨h', s.gens, s.drawn, tk, s.os⟩) → wpAny (model prog w) A (pyNext (.ref I)) Q E s
  self : ∀ (X : List Addr) (A : Around) (i : Nat) (s : Shared) (Q : Value → Shared → Prop) (E : Value → Shared → Prop), St X i s.heap → Q (.ref I) s → wpAny (model prog w) A (pyIter (.ref I)) Q E s
section
variable {prog : Program} {w : World}
noncomputable def EnSt (e it l : Addr) (Src Itr : Heap → Nat → Prop) (X : List Addr) (i : Nat) (h : Heap) : Prop := e ∉ X ∧ it ∉ X ∧ e ≠ it ∧ (∃ old, IsEnum h e it (i : Int) old) ∧ Src h i ∧ Itr h i
/-- both kinds of enumerate -/
theorem WkE.mk2 {e it l : Addr} {ds : List V} {vs : List Value} {src : Heap → Prop} {itr : Heap → Nat → Prop}
    (fl : ∀ h i, itr h i → ∃ o vs, h.get? it = some o ∧ o.data = .fields vs)
    (kp : ∀ h h' i, itr h i → (∀ o, h.get? it = some o → h'.get? it = some o) → itr h' i)
    (ks : ∀ h h', src h → (∀ o, h.get? l = some o → h'.get? l = some o) → src h') (sd : ∀ h, src h → ∃ o, h.get? l = some o ∧ ∀ vs, o.data ≠ .fields vs)
    (nx : ∀ (A : Around) (s : Shared) (i : Nat) (x : Value) (Q : Value → Shared → Prop) (E : Value → Shared → Prop), itr s.heap i → src s.heap → vs[i]? = some x → (∀ h', itr h' (i + 1) → Heap.SameBut it s.heap h' → Q x { s with heap := h' }) → wpAny (model prog w) A (Builtin.SmallTypes.nextOf (.ref it)) Q E s)
    (en : ∀ (A : Around) (s : Shared) (i : Nat) (Q : Value → Shared → Prop) (E : Value → Shared → Prop), A.handled = none → itr s.heap i → src s.heap → vs[i]? = none → (∀ h' e, Heap.ExtBut it s.heap h' → (∃ o, h'.get? e = some o ∧ o.cls = .type "StopIteration") → E (.ref e) { s with heap := h' }) → wpAny (model prog w) A (Builtin.SmallTypes.nextOf (.ref it)) Q E s) :
    WkE prog w e [e, it] ds (fun X i h => e ∉ X ∧ it ∉ X ∧ l ∉ X ∧ e ≠ it ∧ (∃ old, IsEnum h e it (i : Int) old) ∧ itr h i ∧ src h ∧ RpL X h ds vs) where
  frame := fun X X' i h h' ⟨h1, h2, h3, h4, ⟨old, he⟩, hi, hs, rl⟩ k => by
    obtain ⟨oi, vi, ei, _⟩ := fl h i hi
    obtain ⟨ol, el, _⟩ := sd h hs
    exact ⟨(k e _ h1 he).1, (k it _ h2 ei).1, (k l _ h3 el).1, h4, ⟨old, (k e _ h1 he).2⟩, kp _ _ _ hi fun o q => (k it o h2 q).2, ks _ _ hs fun o q => (k l o h3 q).2, rl.mono k⟩
  flds := fun X i h ⟨h1, h2, h3, h4, ⟨old, he⟩, hi, _⟩ a ha => by
    rcases List.mem_cons.mp ha with rfl | ha
    · exact ⟨_, _, he, rfl⟩
    · rw [List.mem_singleton.mp ha]; exact fl h i hi
  out := fun X i h ⟨h1, h2, _⟩ a ha => by
    rcases List.mem_cons.mp ha with rfl | ha
    · exact h1
    · rw [List.mem_singleton.mp ha]; exact h2
  item := fun X A i d s Q E elts k pos hA ⟨h1, h2, h3, h4, ⟨old, he⟩, hi, hs, rl⟩ hd q R hR => by
    obtain ⟨v, hv, r⟩ := rl.at hd
    obtain ⟨oi, vi, ei, di⟩ := fl _ i hi
    refine enum_next (P := fun h => itr h (i + 1)) he h4 (fun A' Q' E' hq => nx A' s i v Q' E' hi hs hv hq) (fun g g' p k => kp _ _ _ p fun o q => k it o (Ne.symm h4) q) fun h' ho p ht hk => ?_
    refine hR _ _ fun E' => wpAny_letOwnedTupleGo_enum ho fun h'' he2 hs2 => ?_
    have hk2 : ∀ b o, b ∉ [e, it] → s.heap.get? b = some o → h''.get? b = some o := fun b o hb e' => by
      simp only [List.mem_cons, List.not_mem_nil, or_false, not_or] at hb
      exact (hs2.2 b hb.1).trans (hk b o hb.1 hb.2 e')
    have kf : Flds s.heap h'' := fun a o e' ne => hk2 a o (fun z => by
      rcases List.mem_cons.mp z with q | z
      · rw [q, he] at e'; cases e'; exact ne _ rfl
      · rw [List.mem_singleton.mp z, ei] at e'; cases e'; exact ne _ di) e'
    have nT : s.heap.get? s.heap.objs.size = none := Heap.get?_none_of_le (Nat.le_refl _)
    have hTe : s.heap.objs.size ≠ e := fun z => by rw [z, he] at nT; cases nT
    refine q s.heap.objs.size v s.toks h'' _ ⟨h1, h2, h3, h4, ⟨_, he2⟩, kp _ _ _ p fun o e' => (hs2.2 it (Ne.symm h4)).trans e', ks _ _ hs fun o e' => ?_, RpL.flds kf _ _ rl⟩ (Rp.flds kf _ _ r) nT ⟨_, (hs2.2 _ hTe).trans ht, rfl, 0, rfl⟩ hk2
    obtain ⟨ol, el, nl⟩ := sd _ hs
    rw [e'] at el; cases el
    exact kf l _ e' nl
  done := fun X A i s Q E hA ⟨h1, h2, h3, h4, ⟨old, he⟩, hi, hs, rl⟩ hd q =>
    enum_end he (fun A' Q' E' e hq => en A' s i Q' E' (e.trans hA) hi hs (get_none rl.length hd) hq) fun h' hx => q h' _ fun a o ha e' => hx a o (fun z => ha (by simp [z])) e'
  self := fun X A i s Q E ⟨h1, h2, h3, h4, ⟨old, he⟩, hi, hs, rl⟩ q => wpAny_pyIter_enum he q
theorem WkE.lst {e it l : Addr} {ds : List V} {vs : List Value} : WkE prog w e [e, it] ds (fun X i h => e ∉ X ∧ it ∉ X ∧ l ∉ X ∧ e ≠ it ∧ (∃ old, IsEnum h e it (i : Int) old) ∧ h.IsListIter it l i ∧ IsLs h l vs.toArray ∧ RpL X h ds vs) :=
  WkE.mk2 (fun h i ⟨o, ho, _, hd⟩ => ⟨o, _, ho, hd⟩) (fun h h' i ⟨o, ho, r⟩ k => ⟨o, k o ho, r⟩) (fun h h' ⟨o, ho, r⟩ k => ⟨o, k o ho, r⟩) (fun h ⟨o, ho, _, _, n, hd⟩ => ⟨o, ho, fun vs => by rw [hd]; simp⟩)
    (fun A s i x Q E hi hs hx hq => wpAny_nextOf_list_item hi hs.isList (by rw [List.getElem?_toArray]; exact hx) hq) (fun A s i Q E hA hi hs hx hq => wpAny_nextOf_list_end hA hi hs.isList (by rw [List.getElem?_toArray]; exact hx) hq)
theorem WkE.tup {e it l : Addr} {ds : List V} {vs : List Value} : WkE prog w e [e, it] ds (fun X i h => e ∉ X ∧ it ∉ X ∧ l ∉ X ∧ e ≠ it ∧ (∃ old, IsEnum h e it (i : Int) old) ∧ h.IsTupleIter it l i ∧ IsTup h l vs.toArray ∧ RpL X h ds vs) :=
  WkE.mk2 (fun h i ⟨o, ho, _, hd⟩ => ⟨o, _, ho, hd⟩) (fun h h' i ⟨o, ho, r⟩ k => ⟨o, k o ho, r⟩) (fun h h' ⟨o, ho, r⟩ k => ⟨o, k o ho, r⟩) (fun h ⟨o, ho, _, n, hd⟩ => ⟨o, ho, fun vs => by rw [hd]; simp⟩)
    (fun A s i x Q E hi hs hx hq => nextOf_tup hi hs (by rw [List.getElem?_toArray]; exact hx) hq) (fun A s i Q E hA hi hs hx hq => nextOf_tup_end hA hi hs (by rw [List.getElem?_toArray]; exact hx) hq)
variable (prog w) (K : Frag) in
noncomputable def EvItE (n : Nat) (env : Env) (Γ : Lc) (e : PySem.Expr) (ds : List V) : Prop :=
  ∀ (X : List Addr) (A : Around) (s : Shared) (Q : Value → Shared → Prop) (E : Value → Shared → Prop), Cx K X s.heap → AOk n X A s.heap → LOk X env Γ s.heap →
    (∀ I fp St h' tk, WkE prog w I fp ds St → Le X s.heap h' → (∀ a ∈ fp, s.heap.get? a = none) → St X 0 h' → Q (.ref I) ⟨h', s.gens, s.drawn, tk, s.os⟩) →
    wpAny (model prog w) A (eval e env) (fun v s₁ => wpAny (model prog w) A (pyIter v) Q E s₁) E s
variable {K : Frag} {n : Nat} {env : Env} {Γ : Lc}
theorem EvItE.enum {x : Str} {p pos : Pos} {e : PySem.Expr} {ds : List V} {d : V} (hf : Ev prog w K n env Γ (.Name x p) (.glob (.type "enumerate"))) (he : Ev prog w K n env Γ e d) (hd : d = .lst ds ∨ d = .tup ds)
    (hs : starEach [e] env = [(false, eval e env)] := by rfl) : EvItE prog w K n env Γ (.Call (.Name x p) [e] [] pos) ds := fun X A s Q E c a l q => by
  refine wpAny_Call_NameR (hf X A s _ E c a l fun v h' tk k r => ?_)
  simp only [Rp] at r
  subst r
  refine callWith_B (first := []) rfl ?_ hs rfl
  rw [hs]
  show wpAny _ _ (spliced [(false, eval e env)]) _ _ _
  refine spliced_cons (he X A _ _ E (c.le k) (a.le k) (l.le k) fun v h2 tk2 k2 r2 => spliced_nil ?_)
  have k02 := k.trans k2
  have n0 : h2.get? h2.objs.size = none := Heap.get?_none_of_le (Nat.le_refl _)
  have n1 : h2.get? (h2.objs.size + 1) = none := Heap.get?_none_of_le (by omega)
  have fr : ∀ a ∈ [h2.objs.size + 1, h2.objs.size], s.heap.get? a = none := fun a ha => by
    rcases List.mem_cons.mp ha with rfl | ha
    · exact k02.gone n1
    · rw [List.mem_singleton.mp ha]; exact k02.gone n0
  have cx := c.le k02
  rcases hd with rfl | rfl
  · simp only [Rp] at r2
    obtain ⟨b, vs, rfl, hb, hl, rl⟩ := r2
    refine call_enumerate_list hl.isList fun h3 he hi hz hk => wpAny_pyIter_enum he ?_
    have k3 : Le X h2 h3 := .of_stays hk
    exact q _ _ _ _ _ (WkE.lst (prog := prog) (w := w) (l := b) (vs := vs) (ds := ds)) (k02.trans k3) fr ⟨cx.nx n1, cx.nx n0, hb, Nat.succ_ne_self _, ⟨_, he⟩, hi, hl.le k3, rl.le k3⟩
  · simp only [Rp] at r2
    obtain ⟨b, vs, rfl, hb, hl, rl⟩ := r2
    refine call_enum_tuple hl fun h3 he hi hk => wpAny_pyIter_enum he ?_
    have k3 : Le X h2 h3 := .of_stays hk
    obtain ⟨o, ho, r⟩ := hl
    exact q _ _ _ _ _ (WkE.tup (prog := prog) (w := w) (l := b) (vs := vs) (ds := ds)) (k02.trans k3) fr ⟨cx.nx n1, cx.nx n0, hb, Nat.succ_ne_self _, ⟨_, he⟩, hi, ⟨o, hk _ _ ho, r⟩, rl.le k3⟩
end
/-- the turns of a loop over pairs -/
inductive FLE (prog : Program) (w : World) (K : Frag) (n : Nat) (env : Env) (xi x : String) (body : List Stmt) : Nat → Lc → Option (String × OV) → List V → Out → Prop
  | nil {i : Nat} {Γ O} : FLE prog w K n env xi x body i Γ O [] (.next Γ O)
  | next {i : Nat} {Γ Γ' Γ'' O O' d ds out} (h : Ex prog w K n env ((x, d) :: (xi, .int (i : Int)) :: Γ) O body (.next Γ' O')) (hΓ : ∀ y d, Γ''.lookup y = some d → Γ'.lookup y = some d) (hO : ∀ y o, O = some (y, o) → y ≠ x ∧ y ≠ xi) (r : FLE prog w K n env xi x body (i + 1) Γ'' O' ds out) : FLE prog w K n env xi x body i Γ O (d :: ds) out
  | ret {i : Nat} {Γ O d ds v} (h : Ex prog w K n env ((x, d) :: (xi, .int (i : Int)) :: Γ) O body (.ret v)) (hO : ∀ y o, O = some (y, o) → y ≠ x ∧ y ≠ xi) : FLE prog w K n env xi x body i Γ O (d :: ds) (.ret v)
section
variable {prog : Program} {w : World} {K : Frag} {n : Nat} {env : Env} {Γ : Lc} {O : Option (String × OV)} {X₀ X : List Addr} {m : Str → Option Value} {b h h' : Heap}
theorem FLE.inv {xi x : String} {body : List Stmt} {i : Nat} {d : V} {ds : List V} {out : Out} (h : FLE prog w K n env xi x body i Γ O (d :: ds) out) : (∀ y o, O = some (y, o) → y ≠ x ∧ y ≠ xi) ∧ Turns prog w K n env ((x, d) :: (xi, .int (i : Int)) :: Γ) O body (fun Γ O => FLE prog w K n env xi x body (i + 1) Γ O ds out) out := by
  cases h with
  | next hb hΓ hO r => exact ⟨hO, .inl ⟨_, _, _, hb, hΓ, r⟩⟩
  | ret hb hO => exact ⟨hO, .inr ⟨_, rfl, hb⟩⟩
theorem FLE.inv0 {xi x : String} {body : List Stmt} {i : Nat} {out : Out} (h : FLE prog w K n env xi x body i Γ O [] out) : out = .next Γ O := by cases h; rfl
theorem Ex1.forE {xi x : String} {pi px tp pos : Pos} {k : Nat} {iter : PySem.Expr} {body : List Stmt} {ds : List V} {out : Out} (hit : EvItE prog w K n env Γ iter ds) (hi : locOk env xi) (hx : locOk env x) (hl : FLE prog w K n env xi x body 0 Γ O ds out)
    (hs : ∀ x, foldedSetIterable iter env x = pure x := by intro _; rfl) : Ex1 prog w K n env Γ O (.For (.Tuple [.Name (Str.ofString xi) pi, .Name (Str.ofString x) px] k tp) iter body [] pos) out := fun X₀ X m b A s Q E B S q => by
  refine wpAny_For (hit X A s _ E S.cxX (B.aok S) S.lok fun I fp St h1 tk1 W k1 hfp hst => ?_) hs
  refine codeAny_forLoop_any (fun k s' => ∃ i Γ O h tk X m, i ≤ ds.length ∧ k = ds.length - i ∧ s' = ⟨h, s.gens, s.drawn, tk, s.os⟩ ∧ SOk K X₀ X m b env Γ O h ∧ St X i h ∧ FLE prog w K n env xi x body i Γ O (ds.drop i) out) ?_ ds.length
    ⟨0, Γ, O, h1, tk1, X, m, Nat.zero_le _, rfl, rfl, S.step k1, hst, hl⟩
  rintro k s' ⟨i, Γ, O, h, tk, X', m', hi', rfl, rfl, S', st, fl⟩
  have hfb : ∀ a ∈ fp, b.get? a = none := fun a ha => S.le.gone (hfp a ha)
  have hff : ∀ a ∈ fp, (∃ o vs, h.get? a = some o ∧ o.data = .fields vs) ∧ a ∉ X' ∧ b.get? a = none := fun a ha => ⟨W.flds _ _ _ st a ha, W.out _ _ _ st a ha, hfb a ha⟩
  rcases Nat.lt_or_ge i ds.length with hlt | hge
  · have hd : ds[i]? = some ds[i] := List.getElem?_eq_getElem hlt
    have hdrop : ds.drop i = ds[i] :: ds.drop (i + 1) := List.drop_eq_getElem_cons hlt
    generalize ds[i] = d at hd hdrop
    rw [hdrop] at fl
    replace fl := fl.inv
    refine W.item X' A i d ⟨h, s.gens, s.drawn, tk, s.os⟩ _ _ _ k tp B.hdl st hd (fun T v t h3 tk3 st3 hv nT hT k3 => ?_) _ (fun v s₁ hq => hq _)
    have S3 : SOk K X₀ X' m' b env Γ O h3 := S'.iter k3 hff
    refine assign_Tuple_tuple B.hdl hT rfl rfl fun h3' ke => ?_
    have ke' := Le.but X' ke
    have S3' := S3.step ke'
    have st3' := W.frame _ _ _ _ _ st3 (fun a o ha e => ⟨ha, ke'.get e ha⟩ : Stays X' X' h3 h3')
    show wpAny _ A (assignInOrder [_, _] [_, _]) _ _ _
    refine assignInOrder_cons (wpAny_assign_Name (store1 S3' hi Rp.int (fun z o e => (fl.1 z o e).2) fun h4 m4 tk4 S4 stq => ?_))
    refine assignInOrder_cons (wpAny_assign_Name (store1 S4 hx ((hv.le ke').mono stq) (fun z o e => (fl.1 z o e).1) fun h5 m5 tk5 S5 stq' => ?_))
    refine assignInOrder_nil ?_
    have st5 := W.frame _ _ _ _ _ (W.frame _ _ _ _ _ st3' stq) stq'
    refine fl.2.run W.frame B S5 st5 (fun h6 tk6 X6 m6 Γ6 O6 S7 st7 r => ?_) fun v h6 tk6 ok => q _ _ _ ok
    exact ⟨ds.length - (i + 1), by omega, i + 1, _, _, h6, tk6, X6, m6, hlt, rfl, rfl, S7, st7, r⟩
  · have hie : i = ds.length := by omega
    subst hie
    rw [List.drop_length] at fl
    refine W.done X' A _ ⟨h, s.gens, s.drawn, tk, s.os⟩ _ _ B.hdl st (by simp) fun h3 tk3 k3 => ?_
    exact wpAny_execs_nil (q _ _ _ (fl.inv0 ▸ ⟨rfl, X', m', S'.iter k3 hff⟩))
end
end
section
section
variable {prog : Program} {w : World} {K : Frag} {n : Nat} {env : Env} {Γ : Lc}
theorem compLoop_pairs {A : Around} {R : Result → Shared → Prop} {s : Shared} {elt iter : PySem.Expr} {elts ifs : List PySem.Expr} {x1 : Nat} {tp : Pos} {scope : Scope} {pos : Pos} {it acc : Value} (I : Nat → Shared → Prop)
    (turn : ∀ n s, I n s → wpAny (model prog w) A (pyNext it) (fun r s₁ => match r with
      | none => R (.ok .next) s₁
      | some v => wpAny (model prog w) A (letOwnedTupleGo (.Tuple elts x1 tp) it v) (fun _ s₁' => wpAny (model prog w) A (assign (.Tuple elts x1 tp) env v) (fun _ s₂ =>
          wpAny (model prog w) A (forIn ifs true fun c r => if r = true then do let ok ← PySem.isTrue c env (eval c env); pure (ForInStep.yield ok) else pure (ForInStep.yield r)) (fun ok s₃ => if ok = true then
            wpAny (model prog w) A (eval elt env) (fun x s₄ => wpAny (model prog w) A (call (.builtin "list.append") [acc, x]) (fun _ s₅ => ∃ m, m < n ∧ I m s₅) (notedBy (model prog w) A env fun e s' => R (.error e) s') s₄) (notedBy (model prog w) A env fun e s' => R (.error e) s') s₃
            else ∃ m, m < n ∧ I m s₃) (notedBy (model prog w) A env fun e s' => R (.error e) s') s₂)
          (notedBy (model prog w) A env fun e s' => R (.error e) s') s₁') (notedBy (model prog w) A env fun e s' => R (.error e) s') s₁) (notedBy (model prog w) A env fun e s' => R (.error e) s') s)
    (n : Nat) (h : I n s) : codeAny (model prog w) A (.compLoop (.ListComp elt [⟨.Tuple elts x1 tp, iter, ifs, 0⟩] scope pos) 0 it acc env) R s := by
  refine codeAny_loop rfl I (fun n s hI => ?_) n h
  show wpAny _ A ((compTurn (.ListComp elt [⟨.Tuple elts x1 tp, iter, ifs, 0⟩] scope pos) 0 it acc env).onRaise (fun x => do noteFrame x env; theTreesLotGoes x)) _ _ s
  refine wpAny_noted ?_
  rw [compTurn_list]
  refine wpAny_bind (wpAny_standAt (wpAny_bind (wpAny_mono (turn n s hI) (fun r s₁ h₁ => ?_) fun _ _ h' => h')))
  cases r with
  | none => exact wpAny_pure h₁
  | some v =>
    refine wpAny_bind (wpAny_mono h₁ (fun _ s₁' h₁' => ?_) fun _ _ h' => h')
    refine wpAny_bind (wpAny_mono h₁' (fun _ s₂ h₂ => wpAny_bind (wpAny_mono h₂ (fun ok s₃ h₃ => ?_) fun _ _ h' => h')) fun _ _ h' => h')
    cases ok with
    | false => exact wpAny_pure ⟨rfl, h₃⟩
    | true => exact wpAny_bind (wpAny_bind (wpAny_mono h₃ (fun x s₄ h₄ => wpAny_bind (wpAny_mono h₄ (fun _ s₅ h₅ => wpAny_pure (wpAny_pure ⟨rfl, h₅⟩)) fun _ _ h' => h')) fun _ _ h' => h'))
theorem comp_coreE {elt iter : PySem.Expr} {xi x : String} {pi px tp : Pos} {kk : Nat} {ifs : List PySem.Expr} {scope : Scope} {cl : List (Str × Addr)} {pos : Pos} {Γf : Lc} {α : Type} {as : List α} {g : α → V} {p : Nat → α → Bool} {f : α → V} {res : Nat → List V} {RR : Value → Addr → Result → Shared → Prop}
    {X : List Addr} {A : Around} {s : Shared} {E : Value → Shared → Prop} (c : Cx K X s.heap) (a : AOk n X A s.heap) (l : LOk X env Γ s.heap)
    (hcell : ∀ y ∈ scope.names, y.2 ≠ .cell) (hkind : scope.kind = .function) (hx : scope.names.lookup (Str.ofString x) = some .local) (hdb : (Str.ofString x == ("__debug__" : Str)) = false) (hΓ : FreeOk scope cl env Γ Γf) (hΓx : Γf.lookup x = none) (hxi : scope.names.lookup (Str.ofString xi) = some .local) (hdi : (Str.ofString xi == ("__debug__" : Str)) = false) (hne : xi ≠ x)
    (h0 : res 0 = []) (hstep : ∀ (i : Nat) d, as[i]? = some d → res (i + 1) = if p i d then res i ++ [f d] else res i)
    (hit : EvItE prog w K n env Γ iter (as.map g)) (hz : as.length ≤ 1000)
    (ht : ∀ C, ∀ (i : Nat) d, as[i]? = some d → EvTs prog w K n (compEnvC scope cl C env) ((x, g d) :: (xi, .int (i : Int)) :: Γf) ifs (p i d)) (he : ∀ C, ∀ (i : Nat) d, as[i]? = some d → p i d = true → Ev prog w K n (compEnvC scope cl C env) ((x, g d) :: (xi, .int (i : Int)) :: Γf) elt (f d))
    (hRR : ∀ D C h' tk ys, s.heap.get? D = none → s.heap.get? C = none → D ≠ C → Le X s.heap h' → IsLs h' D ys.toArray → RpL (C :: D :: X) h' (res as.length) ys → (∃ m, h'.Ns C m) → RR (.ref D) C (.ok .next) ⟨h', s.gens, s.drawn, tk, s.os⟩) :
    wpAny (model prog w) A (eval iter env) (fun x' s₁ => wpAny (model prog w) A (pyIter x') (fun it s₂ => wpAny (model prog w) A (newList []) (fun acc s₃ => wpAny (model prog w) A (newFunctionEnv scope env.globals cl [] env.qual none .none (some env)) (fun cenv s₄ =>
      codeAny (model prog w) A (.compStart (.ListComp elt [⟨.Tuple [.Name (Str.ofString xi) pi, .Name (Str.ofString x) px] kk tp, iter, ifs, 0⟩] scope pos) 0 it acc { cenv with scope := relabel scope env }) (RR acc cenv.locals) s₄) E s₃) E s₂) E s₁) E s := by
  refine hit X A s _ E c a l fun I fp St h2 tk2 W k2 hfp hst => ?_
  refine wpAny_newObj_type (wpAny_newFunctionEnv hcell (by intro y hy; simp at hy) (fun h₁ hns₁ hsb₁ => ?_) hkind)
  dsimp only at hns₁ hsb₁ ⊢
  generalize hH2 : h2.push { cls := .type "list", dict := none, data := .seq ([] : List Value).toArray } = H2 at hns₁ hsb₁ ⊢
  have hC : H2.objs.size = h2.objs.size + 1 := by rw [← hH2, Heap.size_push]
  have hDC : h2.objs.size ≠ H2.objs.size := by rw [hC]; exact Nat.ne_of_lt (Nat.lt_succ_self _)
  have nD : h2.get? h2.objs.size = none := Heap.get?_none_of_le (Nat.le_refl _)
  have nC : h2.get? H2.objs.size = none := Heap.get?_none_of_le (by omega)
  have old : ∀ b o, h2.get? b = some o → h₁.get? b = some o := fun b o e => hsb₁.extBut b o (fun z => by rw [z, nC] at e; cases e) (Heap.get?_push_of_some _ (hH2 ▸ Heap.get?_push_of_some _ e))
  have hacc : IsLs h₁ h2.objs.size ([] : List Value).toArray := ⟨_, hsb₁.extBut _ _ hDC (Heap.get?_push_of_some _ (hH2 ▸ Heap.get?_push_size _ rfl)), rfl, rfl, 0, rfl⟩
  generalize H2.objs.size = C at *
  generalize h2.objs.size = D at *
  have fD : s.heap.get? D = none := k2.gone nD
  have fC : s.heap.get? C = none := k2.gone nC
  have st2 : Stays X (C :: D :: X) h2 h₁ := fun b o hb e => ⟨not_two nC nD e hb, old b o e⟩
  have inv₀ : CInv X C D s.heap St 0 [] h₁ := ⟨k2.trans (Le.of_stays old), W.frame _ _ _ _ _ hst st2, ⟨[], hacc, .nil⟩, _, hns₁⟩
  have loop : ∀ s₃ : Shared, s₃.heap = h₁ → s₃.gens = s.gens → s₃.drawn = s.drawn → s₃.os = s.os →
      codeAny (model prog w) A (.compLoop (.ListComp elt [⟨.Tuple [.Name (Str.ofString xi) pi, .Name (Str.ofString x) px] kk tp, iter, ifs, 0⟩] scope pos) 0 (.ref I) (.ref D) (compEnvC scope cl C env)) (RR (.ref D) C) s₃ := by
    intro s₃ e1 e2 e3 e4
    refine compLoop_pairs (fun k s' => ∃ h tk i, i ≤ as.length ∧ k = as.length - i ∧ s' = ⟨h, s.gens, s.drawn, tk, s.os⟩ ∧ CInv X C D s.heap St i (res i) h) ?_ as.length
      ⟨h₁, s₃.toks, 0, Nat.zero_le _, rfl, by cases s₃; cases e1; cases e2; cases e3; cases e4; rfl, h0 ▸ inv₀⟩
    rintro k s' ⟨h, tk, i, hi, rfl, rfl, V⟩
    rcases Nat.lt_or_ge i as.length with hlt | hge
    · have hd : as[i]? = some as[i] := List.getElem?_eq_getElem hlt
      generalize hdd : as[i] = d at hd
      have hmem : d ∈ as := by rw [← hdd]; exact List.getElem_mem hlt
      refine W.item _ A i (g d) ⟨h, s.gens, s.drawn, tk, s.os⟩ _ _ _ kk tp a.hdl V.st (by rw [List.getElem?_map, hd]; rfl) (fun T v tok h3 tk3 hst3 hv nT hT k3 => ?_) _ (fun v s₁ hq => hq _)
      have fl3 : Flds h h3 := fp_flds (W.flds _ _ _ V.st) k3
      have le3 : Le X s.heap h3 := fp_le V.le hfp k3
      obtain ⟨m₁, hn₁⟩ := V.ns
      obtain ⟨ys, hls, hrl⟩ := V.ls
      have hkd : ((compEnvC scope cl C env).scope.kind == .class || ((compEnvC scope cl C env).scope.kind == .module && (compEnvC scope cl C env).locals != (compEnvC scope cl C env).globals)) = false := by simp [compEnvC, relabel, hkind]
      refine assign_Tuple_tuple a.hdl hT rfl rfl fun h3' ke => ?_
      have ke' : ∀ b o, h3.get? b = some o → h3'.get? b = some o := fun b o e => ke b o (fun q => by rw [q, Heap.get?_none_of_le (Nat.le_refl _)] at e; cases e) e
      show wpAny _ A (assignInOrder [_, _] [_, _]) _ _ _
      refine assignInOrder_cons (wpAny_assign_Name (wpAny_storeName_local (lookup_relabel_local hxi) ((Le.of_stays (X := X) ke').ns (fl3.ns hn₁)) (fun h4a hn4a hs4a => ?_) hkd))
      refine assignInOrder_cons (wpAny_assign_Name (wpAny_storeName_local (lookup_relabel_local hx) hn4a (fun h4 hn4 hs4b => ?_) hkd))
      refine assignInOrder_nil ?_
      have hs4 : ∀ b o, b ≠ C → h3.get? b = some o → h4.get? b = some o := fun b o hb e => (hs4b.2 b hb).trans ((hs4a.2 b hb).trans (ke' b o e))
      have stX : Stays (C :: D :: X) (C :: D :: X) h3 h4 := fun b o hb e => ⟨hb, hs4 b o (fun z => hb (by rw [z]; exact .head _)) e⟩
      have le4 : Le X s.heap h4 := but_le le3 fC hs4
      have ls4 : IsLs h4 D ys.toArray := by
        obtain ⟨o, ho, r⟩ := fl3.ls hls
        exact ⟨o, hs4 D _ hDC ho, r⟩
      have V4 : CInv X C D s.heap St (i + 1) (res i) h4 := ⟨le4, W.frame _ _ _ _ _ hst3 stX, ⟨ys, ls4, (RpL.flds fl3 _ _ hrl).mono stX⟩, _, hn4⟩
      have ctx : ∀ h', Le (C :: D :: X) h4 h' → Cx K (C :: D :: X) h' ∧ AOk n (C :: D :: X) A h' ∧ LOk (C :: D :: X) (compEnvC scope cl C env) ((x, g d) :: (xi, .int (i : Int)) :: Γf) h' := fun h' k' => by
        have c4 : Cx K (C :: D :: X) h4 := c.grow le4 (V4.live fC fD)
        have l4 : LOk (C :: D :: X) (compEnvC scope cl C env) ((x, g d) :: (xi, .int (i : Int)) :: Γf) h4 := by
          refine ⟨⟨hkind, l.ok.glob, l.ok.blt⟩, .head _, _, hn4, fun y d' e => ?_⟩
          by_cases hy : y = x
          · subst hy
            rw [List.lookup_cons, beq_self_eq_true] at e
            cases e
            exact ⟨hdb, v, hv.mono stX, .inl ⟨lookup_relabel_local hx, by simp⟩⟩
          · rw [List.lookup_cons, beq_eq_false_iff_ne.mpr hy] at e
            by_cases hyi : y = xi
            · subst hyi
              rw [List.lookup_cons, beq_self_eq_true] at e
              cases e
              exact ⟨hdi, _, Rp.int, .inl ⟨lookup_relabel_local hxi, by dsimp only; rw [if_neg (fun q => hne (ofString_inj q)), if_pos rfl]⟩⟩
            rw [List.lookup_cons, beq_eq_false_iff_ne.mpr hyi] at e
            exact hΓ.slot l le4 fC fD e
        exact ⟨c4.le k', ((a.le le4).grow fun b hb => .tail _ (.tail _ hb)).le k', l4.le k'⟩
      obtain ⟨cx4, ax4, lx4⟩ := ctx h4 (Le.refl _ _)
      refine ht C i d hd _ A ⟨h4, s.gens, s.drawn, _, s.os⟩ _ _ cx4 ax4 lx4 fun h5 tk5 k5 => ?_
      have up : ∀ {h5}, Le (C :: D :: X) h4 h5 → CInv X C D s.heap St (i + 1) (res i) h5 := fun k5 => V4.up W.frame fC fD k5
      cases hp : p i d with
      | false =>
        rw [if_neg (by decide)]
        refine ⟨as.length - (i + 1), by omega, h5, tk5, i + 1, hlt, rfl, rfl, ?_⟩
        rw [hstep i d hd, hp, if_neg (by decide)]
        exact up k5
      | true =>
        rw [if_pos rfl]
        obtain ⟨cx5, ax5, lx5⟩ := ctx h5 k5
        refine he C i d hd hp _ A ⟨h5, s.gens, s.drawn, tk5, s.os⟩ _ _ cx5 ax5 lx5 fun y h6 tk6 k6 ry => ?_
        have V6 := up (k5.trans k6)
        obtain ⟨ys6, hls6, hrl6⟩ := V6.ls
        have hlen : ys6.length ≤ 1000 := by
          rw [hrl6.length]
          have hres : ∀ j, j ≤ as.length → (res j).length ≤ j := by
            intro j
            induction j with
            | zero => intro _; rw [h0]; exact Nat.le_refl _
            | succ j ih =>
              intro hj
              rw [hstep j as[j] (List.getElem?_eq_getElem (by omega))]
              have := ih (by omega)
              split
              · rw [List.length_append, List.length_singleton]; omega
              · omega
          have := hres i hi
          omega
        refine append_ls hls6 hlen fun h7 hs7 hls7 => ?_
        have st7 : Stays (C :: D :: X) (C :: D :: X) h6 h7 := fun b o hb e => ⟨hb, (hs7.2 b fun z => hb (by rw [z]; exact .tail _ (.head _))).trans e⟩
        refine ⟨as.length - (i + 1), by omega, h7, tk6, i + 1, hlt, rfl, rfl, ⟨but_le V6.le fD fun b o hb e => (hs7.2 b hb).trans e, W.frame _ _ _ _ _ V6.st st7, ⟨ys6 ++ [y], hls7, ?_⟩, ?_⟩⟩
        · rw [hstep i d hd, hp, if_pos rfl]
          exact (hrl6.mono st7).snoc (ry.mono st7)
        · obtain ⟨m6, hn6⟩ := V6.ns
          exact ⟨m6, hn6.sameBut hs7 (Ne.symm hDC)⟩
    · have hie : i = as.length := by omega
      subst hie
      refine W.done _ A _ ⟨h, s.gens, s.drawn, tk, s.os⟩ _ _ a.hdl V.st (by simp) fun h3 tk3 k3 => ?_
      have fl3 : Flds h h3 := fp_flds (W.flds _ _ _ V.st) k3
      obtain ⟨ys, hls, hrl⟩ := V.ls
      obtain ⟨m₁, hn₁⟩ := V.ns
      exact hRR D C h3 tk3 ys fD fC hDC (fp_le V.le hfp k3) (fl3.ls hls) (RpL.flds fl3 _ _ hrl) ⟨m₁, fl3.ns hn₁⟩
  exact codeAny_compStart_list (loop _ rfl rfl rfl rfl) (W.self _ A 0 _ _ _ inv₀.st (loop _ rfl rfl rfl rfl))
theorem CompRuns.enum {elt iter : PySem.Expr} {xi x : String} {pi px tp : Pos} {kk : Nat} {ifs : List PySem.Expr} {scope : Scope} {cl : List (Str × Addr)} {pos : Pos} {Γf : Lc} {α : Type} {as : List α} {g : α → V} {p : Nat → α → Bool} {f : α → V} (res : Nat → List V)
    (hcell : ∀ y ∈ scope.names, y.2 ≠ .cell) (hkind : scope.kind = .function) (hx : scope.names.lookup (Str.ofString x) = some .local) (hdb : (Str.ofString x == ("__debug__" : Str)) = false) (hΓ : FreeOk scope cl env Γ Γf) (hΓx : Γf.lookup x = none)
    (hxi : scope.names.lookup (Str.ofString xi) = some .local) (hdi : (Str.ofString xi == ("__debug__" : Str)) = false) (hne : xi ≠ x) (h0 : res 0 = []) (hstep : ∀ (i : Nat) d, as[i]? = some d → res (i + 1) = if p i d then res i ++ [f d] else res i)
    (hit : EvItE prog w K n env Γ iter (as.map g)) (hz : as.length ≤ 1000)
    (ht : ∀ C, ∀ (i : Nat) d, as[i]? = some d → EvTs prog w K n (compEnvC scope cl C env) ((x, g d) :: (xi, .int (i : Int)) :: Γf) ifs (p i d)) (he : ∀ C, ∀ (i : Nat) d, as[i]? = some d → p i d = true → Ev prog w K n (compEnvC scope cl C env) ((x, g d) :: (xi, .int (i : Int)) :: Γf) elt (f d)) :
    CompRuns prog w K n env Γ (.ListComp elt [⟨.Tuple [.Name (Str.ofString xi) pi, .Name (Str.ofString x) px] kk tp, iter, ifs, 0⟩] scope pos) iter scope cl (res as.length) := fun X A s E RR c a l hRR => comp_coreE c a l hcell hkind hx hdb hΓ hΓx hxi hdi hne h0 hstep hit hz ht he hRR
end
end
section
theorem range_pick {α : Type} (ds : List α) (a : Nat) : ∀ c : Nat, (List.range c).filterMap (fun (k : Nat) => ds[a + k]?) = (ds.drop a).take c
  | 0 => by simp
  | c + 1 => by
    rw [List.range_succ, List.filterMap_append, range_pick ds a c, List.take_add_one, List.getElem?_drop]
    cases h : ds[a + c]? <;> simp [h]
section
variable {prog : Program} {w : World} {K : Frag} {n : Nat} {env : Env} {Γ : Lc}
/-- a slice of a tuple, by the table -/
theorem Ev.cutK {o : PySem.Expr} {a b : Option PySem.Expr} {sp pos : Pos} {ds : List V} {lo hi : Option Int} {m i c : Nat} (ho : Ev prog w K n env Γ o (.tup ds)) (ha : EvP prog w K n env Γ a lo) (hb : EvP prog w K n env Γ b hi) (hm : ds.length = m) (hc : cutAt lo hi m = ((i : Int), c) ∧ c ≤ 1000 ∧ (((i : Int) == 0) && (c == m)) = false) :
    Ev prog w K n env Γ (.Subscript o (.Slice a b none sp) pos) (.tup ((ds.drop i).take c)) := by
  obtain ⟨hc, h1, h2⟩ := hc
  subst hm
  refine Ev.cut ho ha hb ?_ ?_ ?_
  · unfold cutT
    rw [hc]
    rw [← range_pick]
    congr 1
    funext k
    congr 1
    show ((i : Int) + (k : Int) * 1).toNat = i + k
    omega
  · rw [hc]; simpa using h2
  · rw [hc]; exact h1
end
theorem cut0 : cutAt none (some 4) 5 = (((0 : Nat) : Int), 4) ∧ 4 ≤ 1000 ∧ ((((0 : Nat) : Int) == 0) && ((4 : Nat) == 5)) = false := by decide +kernel
theorem cut1 : cutAt none (some 1) 5 = (((0 : Nat) : Int), 1) ∧ 1 ≤ 1000 ∧ ((((0 : Nat) : Int) == 0) && ((1 : Nat) == 5)) = false := by decide +kernel
theorem cut2 : cutAt (some 2) none 5 = (((2 : Nat) : Int), 3) ∧ 3 ≤ 1000 ∧ ((((2 : Nat) : Int) == 0) && ((3 : Nat) == 5)) = false := by decide +kernel
theorem cut3 : cutAt none (some 2) 5 = (((0 : Nat) : Int), 2) ∧ 2 ≤ 1000 ∧ ((((0 : Nat) : Int) == 0) && ((2 : Nat) == 5)) = false := by decide +kernel
theorem cut4 : cutAt (some 3) none 5 = (((3 : Nat) : Int), 2) ∧ 2 ≤ 1000 ∧ ((((3 : Nat) : Int) == 0) && ((2 : Nat) == 5)) = false := by decide +kernel
theorem cut5 : cutAt (some 1) (some 3) 8 = (((1 : Nat) : Int), 2) ∧ 2 ≤ 1000 ∧ ((((1 : Nat) : Int) == 0) && ((2 : Nat) == 8)) = false := by decide +kernel
theorem cut6 : cutAt none (some 5) 8 = (((0 : Nat) : Int), 5) ∧ 5 ≤ 1000 ∧ ((((0 : Nat) : Int) == 0) && ((5 : Nat) == 8)) = false := by decide +kernel
theorem cut7 : cutAt (some 6) none 8 = (((6 : Nat) : Int), 2) ∧ 2 ≤ 1000 ∧ ((((6 : Nat) : Int) == 0) && ((2 : Nat) == 8)) = false := by decide +kernel
theorem cut8 : cutAt none (some 4) 8 = (((0 : Nat) : Int), 4) ∧ 4 ≤ 1000 ∧ ((((0 : Nat) : Int) == 0) && ((4 : Nat) == 8)) = false := by decide +kernel
theorem cut9 : cutAt (some 5) none 8 = (((5 : Nat) : Int), 3) ∧ 3 ≤ 1000 ∧ ((((5 : Nat) : Int) == 0) && ((3 : Nat) == 8)) = false := by decide +kernel
theorem cut10 : cutAt (some 5) (some 7) 8 = (((5 : Nat) : Int), 2) ∧ 2 ≤ 1000 ∧ ((((5 : Nat) : Int) == 0) && ((2 : Nat) == 8)) = false := by decide +kernel
end
section
section
variable {prog : Program} {w : World} {K : Frag} {n : Nat} {env : Env} {Γ : Lc} {O : Option (String × OV)}
theorem drop_x {x : String} {d : V} (hx : Γ.lookup x = none) : ∀ y e, Γ.lookup y = some e → ((x, d) :: Γ : Lc).lookup y = some e := fun y e h => by
  rw [List.lookup_cons]
  cases q : y == x with
  | true => rw [eq_of_beq q, hx] at h; cases h
  | false => exact h
/-- what a search yields -/
noncomputable def found {α : Type} (f : α → Option V) (Γ : Lc) (O : Option (String × OV)) (as : List α) : Out := match as.findSome? f with
  | some v => .ret v
  | Option.none => .next Γ O
theorem FL.search {α : Type} {g : α → V} {f : α → Option V} {x : String} {body : List Stmt} (hx : Γ.lookup x = none) (hO : ∀ y o, O = some (y, o) → y ≠ x) :
    ∀ as : List α, (∀ a ∈ as, (∀ v, f a = some v → Ex prog w K n env ((x, g a) :: Γ) O body (.ret v)) ∧ (f a = none → Ex prog w K n env ((x, g a) :: Γ) O body (.next ((x, g a) :: Γ) O))) →
    FL prog w K n env x body Γ O (as.map g) (found f Γ O as)
  | [], _ => .nil
  | a :: as, h => by
    cases q : f a with
    | some v =>
      rw [found, List.findSome?_cons, q]
      exact .ret ((h a (.head _)).1 v q) hO
    | none =>
      rw [found, List.findSome?_cons, q]
      exact .next ((h a (.head _)).2 q) (drop_x hx) hO (FL.search hx hO as fun b hb => h b (.tail _ hb))
theorem FL.fold {α σ : Type} {g : α → V} {x : String} {body : List Stmt} {Γc : σ → Lc} {Oc : σ → Option (String × OV)} {step : σ → α → σ} (inv : σ → Prop) (hO : ∀ s y o, Oc s = some (y, o) → y ≠ x) :
    ∀ (as : List α) (s : σ), inv s → (∀ a ∈ as, ∀ s, inv s → inv (step s a) ∧ ∃ Γ', Ex prog w K n env ((x, g a) :: Γc s) (Oc s) body (.next Γ' (Oc (step s a))) ∧ ∀ y d, (Γc (step s a)).lookup y = some d → Γ'.lookup y = some d) →
    FL prog w K n env x body (Γc s) (Oc s) (as.map g) (.next (Γc (as.foldl step s)) (Oc (as.foldl step s)))
  | [], s, _, _ => .nil
  | a :: as, s, hs, h => by
    obtain ⟨hi, Γ', hb, hΓ⟩ := h a (.head _) s hs
    exact .next hb hΓ (hO s) (FL.fold inv hO as _ hi fun b hb => h b (.tail _ hb))
noncomputable def foundI {α : Type} (f : Nat → α → Option V) (Γ : Lc) (O : Option (String × OV)) : Nat → List α → Out
  | _, [] => .next Γ O
  | i, a :: as => match f i a with
    | some v => .ret v
    | Option.none => foundI f Γ O (i + 1) as
theorem FLE.search {α : Type} {g : α → V} {f : Nat → α → Option V} {xi x : String} {body : List Stmt} (hx : Γ.lookup x = none) (hxi : Γ.lookup xi = none) (hne : x ≠ xi) (hO : ∀ y o, O = some (y, o) → y ≠ x ∧ y ≠ xi) :
    ∀ (as : List α) (i : Nat), (∀ a ∈ as, ∀ i : Nat, (∀ v, f i a = some v → Ex prog w K n env ((x, g a) :: (xi, .int (i : Int)) :: Γ) O body (.ret v)) ∧ (f i a = none → Ex prog w K n env ((x, g a) :: (xi, .int (i : Int)) :: Γ) O body (.next ((x, g a) :: (xi, .int (i : Int)) :: Γ) O))) →
    FLE prog w K n env xi x body i Γ O (as.map g) (foundI f Γ O i as)
  | [], i, _ => .nil
  | a :: as, i, h => by
    unfold foundI
    cases q : f i a with
    | some v => exact .ret ((h a (.head _) i).1 v q) hO
    | none =>
      have hx' : ((xi, V.int (i : Int)) :: Γ : Lc).lookup x = none := by rw [List.lookup_cons, beq_eq_false_iff_ne.mpr hne]; exact hx
      exact .next ((h a (.head _) i).2 q) (fun y e z => drop_x hx' y e (drop_x hxi y e z)) hO (FLE.search hx hxi hne hO as (i + 1) fun b hb => h b (.tail _ hb))
theorem Ex.ofFound {α : Type} {f : α → Option V} {as : List α} {st : Stmt} {ss : List Stmt} {out : V} (h : Ex1 prog w K n env Γ O st (found f Γ O as)) (h1 : ∀ v, as.findSome? f = some v → v = out) (h2 : as.findSome? f = none → Ex prog w K n env Γ O ss (.ret out)) : Ex prog w K n env Γ O (st :: ss) (.ret out) := by
  unfold found at h
  cases q : as.findSome? f with
  | some v => rw [q] at h; rw [← h1 v q]; exact Ex.stop h
  | none => rw [q] at h; exact Ex.next h (h2 q)
end
end
section
set_option maxRecDepth 1000000
noncomputable def nthS : List Stmt → Nat → Stmt
  | [], _ => .Pass ⟨0, 0, 0, 0⟩
  | s :: _, 0 => s
  | _ :: l, i + 1 => nthS l i
noncomputable abbrev stm (i : Nat) : Stmt := nthS PySem.Challenge.pw_nn0053_01.main.body i
noncomputable abbrev met (i j : Nat) : Stmt := match stm i with
  | .ClassDef _ _ _ b _ _ _ _ _ _ _ => nthS b j
  | s => s
noncomputable abbrev dE (P : Params) (k : Str) (t : Nat) (v : Value) : DictEntry := ⟨PyData.keyHash P k, .str k t, v⟩
/-- a function, of its def -/
noncomputable abbrev fO (s : Stmt) (q : Str) (d : Value) (m : Str) (t : Nat) (c : Addr) : Obj := match s with
  | .FunctionDef n a b _ _ _ sc _ _ _ => ⟨.type "function", none, .func ⟨n, q, a, .stmts b, sc, 3, [], d, .none, .none, .str m t, none, .ref c, .none, 0⟩, ⟨[]⟩⟩
  | _ => ⟨.none, none, .plain, ⟨[]⟩⟩
/-- the code's own copy -/
noncomputable abbrev fT (s : Stmt) (q : Str) : Obj := match s with
  | .FunctionDef n a b _ _ _ sc _ _ _ => ⟨.none, none, .func ⟨n, q, a, .stmts b, sc, 0, [], .none, .none, .none, .none, none, .none, .none, 0⟩, ⟨[]⟩⟩
  | _ => ⟨.none, none, .plain, ⟨[]⟩⟩
noncomputable abbrev cO (n : Str) (a : Nat) (q : Str) (b c : Nat) (i j k l m : Int) (r : Addr) (o : Bool) (z : Int) (r2 : Addr) (x y u v : Value) (e f : Int) (g : Nat) : Obj :=
  ⟨.type "code", none, .fields ⟨[.str n a, .str q b, .str "/claim/cut.py" c, .int i 0, .int j 0, .int k 0, .int l 0, .int m 0, .ref r, .bool o, .int z 0, .ref r2, x, y, u, v, .int e 0, .int f 0, .str "/claim/cut.py" g]⟩, ⟨[]⟩⟩
noncomputable abbrev tO (l : List Value) : Obj := ⟨.type "tuple", none, .seq ⟨l⟩ 0, ⟨[]⟩⟩
noncomputable abbrev nO (l : List Value) : Obj := ⟨.none, none, .fields ⟨l⟩, ⟨[]⟩⟩
noncomputable abbrev pO : Obj := ⟨.type "builtin_function_or_method", none, .fields ⟨[.builtin "type.__prepare__", .type "type"]⟩, ⟨[]⟩⟩
noncomputable abbrev frO (a b : Addr) (m : Str) (t : Nat) : Obj := ⟨.type "frame", none, .plain, ⟨[some (.ref a), some (.ref 3), some (.ref b), none, some (.str m t), none, some (.ref 0)]⟩⟩
noncomputable abbrev gE (P : Params) : List DictEntry := [dE P "__name__" 165 (.str "law_nn0053_01" 1045), dE P "__doc__" 166 .none, dE P "__package__" 167 .none, dE P "__loader__" 168 (.builtin "__main__.__loader__#opaque"), dE P "__spec__" 169 .none, dE P "__annotations__" 170 (.ref 6), dE P "__builtins__" 171 (.ref 4), dE P "__file__" 173 (.str "/claim/cut.py" 172), dE P "__cached__" 174 .none, dE P "_wall" 193 (.ref 21), dE P "MintError" 233 (.ref 46), dE P "OperandError" 249 (.ref 59), dE P "EncodeError" 265 (.ref 71), dE P "mask" 272 (.ref 80), dE P "wrap" 280 (.ref 87), dE P "fits_signed" 289 (.ref 94), dE P "NAMES_8" 293 (.str "al cl dl bl spl bpl sil dil" 292), dE P "NAMES_16" 295 (.str "ax cx dx bx sp bp si di" 294), dE P "NAMES_32" 297 (.str "eax ecx edx ebx esp ebp esi edi" 296), dE P "NAMES_64" 299 (.str "rax rcx rdx rbx rsp rbp rsi rdi" 298), dE P "HIGH_NAMES" 301 (.str "ah ch dh bh" 300), dE P "SEGMENT_NAMES" 303 (.str "es cs ss ds fs gs" 302), dE P "Register" 373 (.ref 146), dE P "early_names" 380 (.ref 157), dE P "late_ending" 387 (.ref 164), dE P "gpr" 396 (.ref 171), dE P "high" 403 (.ref 178), dE P "xmm" 410 (.ref 185), dE P "rip" 416 (.ref 192), dE P "segment" 424 (.ref 199), dE P "same_register" 432 (.ref 206), dE P "PREFIX_WORDS" 436 (.str "lock rep repne" 435), dE P "MEMORY_SIZES" 438 (.str "0 8 16 32 64 128" 437), dE P "SCALES" 440 (.str "1 2 4 8" 439), dE P "Operand" 490 (.ref 244), dE P "Reg" 529 (.ref 279), dE P "Imm" 571 (.ref 313), dE P "Rel" 621 (.ref 354), dE P "Mem" 697 (.ref 407), dE P "Instruction" 770 (.ref 458), dE P "is_address_register" 777 (.ref 469), dE P "check_base" 784 (.ref 476), dE P "check_index" 791 (.ref 483), dE P "check_mem" 798 (.ref 490), dE P "sized" 806 (.ref 497), dE P "moved" 814 (.ref 504), dE P "placed" 822 (.ref 511), dE P "same_place" 830 (.ref 518), dE P "same_instruction" 838 (.ref 525), dE P "is_memory" 845 (.ref 532), dE P "is_register" 854 (.ref 539), dE P "operand_size" 861 (.ref 546), dE P "told_size" 869 (.ref 553), dE P "registers_named" 879 (.ref 560), dE P "needs_no_rex" 887 (.ref 567), dE P "check_instruction" 896 (.ref 574), dE P "FS" 900 (.int 100 899), dE P "GS" 902 (.int 101 901), dE P "DATA" 904 (.int 102 903), dE P "REPNE" 906 (.int 242 905), dE P "REP" 908 (.int 243 907), dE P "LOCK" 910 (.int 240 909), dE P "rex_bits" 917 (.ref 581), dE P "is_rex" 924 (.ref 588), dE P "segment_octet" 931 (.ref 595), dE P "Prefixes" 1008 (.ref 648), dE P "with_rex" 1016 (.ref 659), dE P "without_repeat" 1023 (.ref 666), dE P "without_data" 1030 (.ref 673), dE P "repeat_word" 1037 (.ref 680), dE P "repeat_octet" 1044 (.ref 687), dE P "_law_cell" 1054 (.ref 694), dE P "_law_name" 1064 (.ref 701), dE P "_law_register" 1073 (.ref 708), dE P "_law_plain" 1089 (.ref 715), dE P "_law_operand" 1099 (.ref 722), dE P "_law_told" 1110 (.ref 729), dE P "_law_names" 1116 (.ref 734), dE P "_law_operand_right" 1122 (.ref 739), dE P "_law_refused" 1129 (.ref 746), dE P "_law_line_right" 1135 (.ref 751), dE P "_law_prefixes_right" 1141 (.ref 756), dE P "law" 1147 (.ref 761)]
noncomputable abbrev hq2 (P : Params) : Obj := Obj.mk .none none (.dict ⟨[dE P "type.__subclasses__.Exception.0" 230 (.int 46 0), dE P "type.__subclasses__.Exception.n" 231 (.int 1 0)]⟩ 2) ⟨[]⟩
noncomputable abbrev hq3 (P : Params) : Obj := ⟨.type "dict", none, .dict ⟨gE P⟩ 83, ⟨[]⟩⟩
noncomputable abbrev hq20 (P : Params) : Obj := cO "_wall" 187 "_wall" 188 189 1 1 0 0 3 15 true 181 16 .none (.ref 17) (.ref 18) (.ref 19) 191 1 192
noncomputable abbrev hq21 (P : Params) : Obj := fO (stm 0) "_wall" .none "__main__" 164 20
noncomputable abbrev hq29 (P : Params) : Obj := tO [.none]
noncomputable abbrev hq35 (P : Params) : Obj := cO "__init__" 208 "MintError.__init__" 209 210 7 3 0 0 3 30 true 181 31 .none (.ref 32) (.ref 33) (.ref 34) 214 7 215
noncomputable abbrev hq36 (P : Params) : Obj := fO (met 2 0) "MintError.__init__" (.ref 29) "octetmint.basics" 194 35
noncomputable abbrev hq42 (P : Params) : Obj := cO "told" 217 "MintError.told" 218 219 12 1 0 0 3 37 true 181 38 .none (.ref 39) (.ref 40) (.ref 41) 221 12 222
noncomputable abbrev hq43 (P : Params) : Obj := fO (met 2 1) "MintError.told" .none "octetmint.basics" 194 42
noncomputable abbrev hq45 (P : Params) : Obj := Obj.mk (.type "dict") none (.dict ⟨[dE P "__module__" 203 (.str "octetmint.basics" 194), dE P "__firstlineno__" 207 (.int 5 206), dE P "__init__" 216 (.ref 36), dE P "told" 223 (.ref 43), dE P "__static_attributes__" 226 (.ref 44), dE P "__weakref__" 228 (.ref 47), dE P "__doc__" 229 .none]⟩ 3) ⟨[]⟩
noncomputable abbrev hq46 (P : Params) : Obj := Obj.mk (.type "type") none (.cls ⟨"MintError", [(.type "Exception")], [(.ref 46), (.type "Exception"), (.type "BaseException"), (.type "object")], 45, "MintError", true, [], [(.ref 59), (.ref 71)], false, none, false⟩) ⟨[(some (.ref 22)), none, (some (.str "MintError" 196)), (some (.str "MintError" 204)), (some (.builtin "Exception.__new__")), (some (.bool true))]⟩
noncomputable abbrev hq47 (P : Params) : Obj := Obj.mk (.type "getset_descriptor") none (.fields ⟨[(.str "__weakref__" 227), (.ref 46), (.builtin "ExceptionGroup.__weakref__"), .none]⟩) ⟨[]⟩
noncomputable abbrev hq58 (P : Params) : Obj := Obj.mk (.type "dict") none (.dict ⟨[dE P "__module__" 241 (.str "octetmint.basics" 194), dE P "__firstlineno__" 245 (.int 16 244), dE P "__static_attributes__" 246 (.ref 57), dE P "__doc__" 247 .none]⟩ 2) ⟨[]⟩
noncomputable abbrev hq59 (P : Params) : Obj := Obj.mk (.type "type") none (.cls ⟨"OperandError", [(.ref 46)], [(.ref 59), (.ref 46), (.type "Exception"), (.type "BaseException"), (.type "object")], 58, "OperandError", true, [], [], false, none, false⟩) ⟨[(some (.ref 50)), none, (some (.str "OperandError" 234)), (some (.str "OperandError" 242)), (some (.builtin "Exception.__new__")), (some (.bool true))]⟩
noncomputable abbrev hq70 (P : Params) : Obj := Obj.mk (.type "dict") none (.dict ⟨[dE P "__module__" 257 (.str "octetmint.basics" 194), dE P "__firstlineno__" 261 (.int 18 260), dE P "__static_attributes__" 262 (.ref 69), dE P "__doc__" 263 .none]⟩ 2) ⟨[]⟩
noncomputable abbrev hq71 (P : Params) : Obj := Obj.mk (.type "type") none (.cls ⟨"EncodeError", [(.ref 46)], [(.ref 71), (.ref 46), (.type "Exception"), (.type "BaseException"), (.type "object")], 70, "EncodeError", true, [], [], false, none, false⟩) ⟨[(some (.ref 62)), none, (some (.str "EncodeError" 250)), (some (.str "EncodeError" 258)), (some (.builtin "Exception.__new__")), (some (.bool true))]⟩
noncomputable abbrev hq79 (P : Params) : Obj := cO "mask" 266 "mask" 267 268 20 1 0 0 3 74 true 181 75 .none (.ref 76) (.ref 77) (.ref 78) 270 20 271
noncomputable abbrev hq80 (P : Params) : Obj := fO (stm 5) "mask" .none "octetmint.basics" 194 79
noncomputable abbrev hq86 (P : Params) : Obj := cO "wrap" 273 "wrap" 274 275 22 2 0 0 3 81 true 181 82 .none (.ref 83) (.ref 84) (.ref 85) 278 22 279
noncomputable abbrev hq87 (P : Params) : Obj := fO (stm 6) "wrap" .none "octetmint.basics" 194 86
noncomputable abbrev hq93 (P : Params) : Obj := cO "fits_signed" 281 "fits_signed" 282 283 24 2 0 0 3 88 true 181 89 .none (.ref 90) (.ref 91) (.ref 92) 287 24 288
noncomputable abbrev hq94 (P : Params) : Obj := fO (stm 7) "fits_signed" .none "octetmint.basics" 194 93
noncomputable abbrev hq107 (P : Params) : Obj := cO "__init__" 316 "Register.__init__" 317 318 36 5 0 0 3 102 true 181 103 .none (.ref 104) (.ref 105) (.ref 106) 324 36 325
noncomputable abbrev hq108 (P : Params) : Obj := fO (met 15 0) "Register.__init__" .none "octetmint.registers" 290 107
noncomputable abbrev hq114 (P : Params) : Obj := cO "code" 327 "Register.code" 328 329 42 1 0 0 3 109 true 181 110 .none (.ref 111) (.ref 112) (.ref 113) 331 42 332
noncomputable abbrev hq115 (P : Params) : Obj := fO (met 15 1) "Register.code" .none "octetmint.registers" 290 114
noncomputable abbrev hq121 (P : Params) : Obj := cO "is_extended" 334 "Register.is_extended" 335 336 45 1 0 0 3 116 true 181 117 .none (.ref 118) (.ref 119) (.ref 120) 338 45 339
noncomputable abbrev hq122 (P : Params) : Obj := fO (met 15 2) "Register.is_extended" .none "octetmint.registers" 290 121
noncomputable abbrev hq128 (P : Params) : Obj := cO "is_high" 341 "Register.is_high" 342 343 48 1 0 0 3 123 true 181 124 .none (.ref 125) (.ref 126) (.ref 127) 345 48 346
noncomputable abbrev hq129 (P : Params) : Obj := fO (met 15 3) "Register.is_high" .none "octetmint.registers" 290 128
noncomputable abbrev hq135 (P : Params) : Obj := cO "needs_rex" 348 "Register.needs_rex" 349 350 51 1 0 0 3 130 true 181 131 .none (.ref 132) (.ref 133) (.ref 134) 352 51 353
noncomputable abbrev hq136 (P : Params) : Obj := fO (met 15 4) "Register.needs_rex" .none "octetmint.registers" 290 135
noncomputable abbrev hq142 (P : Params) : Obj := cO "told" 355 "Register.told" 356 357 54 1 0 0 3 137 true 181 138 .none (.ref 139) (.ref 140) (.ref 141) 359 54 360
noncomputable abbrev hq143 (P : Params) : Obj := fO (met 15 5) "Register.told" .none "octetmint.registers" 290 142
noncomputable abbrev hq145 (P : Params) : Obj := Obj.mk (.type "dict") none (.dict ⟨[dE P "__module__" 311 (.str "octetmint.registers" 290), dE P "__firstlineno__" 315 (.int 34 314), dE P "__init__" 326 (.ref 108), dE P "code" 333 (.ref 115), dE P "is_extended" 340 (.ref 122), dE P "is_high" 347 (.ref 129), dE P "needs_rex" 354 (.ref 136), dE P "told" 361 (.ref 143), dE P "__static_attributes__" 366 (.ref 144), dE P "__dict__" 368 (.ref 147), dE P "__weakref__" 370 (.ref 148), dE P "__doc__" 371 .none]⟩ 4) ⟨[]⟩
noncomputable abbrev hq146 (P : Params) : Obj := Obj.mk (.type "type") none (.cls ⟨"Register", [(.type "object")], [(.ref 146), (.type "object")], 145, "Register", true, [], [], false, none, false⟩) ⟨[none, none, (some (.str "Register" 304)), (some (.str "Register" 312)), (some (.builtin "object.__new__")), (some (.bool true))]⟩
noncomputable abbrev hq147 (P : Params) : Obj := Obj.mk (.type "getset_descriptor") none (.fields ⟨[(.str "__dict__" 367), (.ref 146), (.builtin "function.__dict__"), (.builtin "function.__dict__#set")]⟩) ⟨[]⟩
noncomputable abbrev hq148 (P : Params) : Obj := Obj.mk (.type "getset_descriptor") none (.fields ⟨[(.str "__weakref__" 369), (.ref 146), (.builtin "ExceptionGroup.__weakref__"), .none]⟩) ⟨[]⟩
noncomputable abbrev hq156 (P : Params) : Obj := cO "early_names" 374 "early_names" 375 376 56 1 0 0 3 151 true 181 152 .none (.ref 153) (.ref 154) (.ref 155) 378 56 379
noncomputable abbrev hq157 (P : Params) : Obj := fO (stm 16) "early_names" .none "octetmint.registers" 290 156
noncomputable abbrev hq163 (P : Params) : Obj := cO "late_ending" 381 "late_ending" 382 383 66 1 0 0 3 158 true 181 159 .none (.ref 160) (.ref 161) (.ref 162) 385 66 386
noncomputable abbrev hq164 (P : Params) : Obj := fO (stm 17) "late_ending" .none "octetmint.registers" 290 163
noncomputable abbrev hq170 (P : Params) : Obj := cO "gpr" 388 "gpr" 389 390 74 2 0 0 3 165 true 181 166 .none (.ref 167) (.ref 168) (.ref 169) 394 74 395
noncomputable abbrev hq171 (P : Params) : Obj := fO (stm 18) "gpr" .none "octetmint.registers" 290 170
noncomputable abbrev hq177 (P : Params) : Obj := cO "high" 397 "high" 398 399 81 1 0 0 3 172 true 181 173 .none (.ref 174) (.ref 175) (.ref 176) 401 81 402
noncomputable abbrev hq178 (P : Params) : Obj := fO (stm 19) "high" .none "octetmint.registers" 290 177
noncomputable abbrev hq184 (P : Params) : Obj := cO "xmm" 404 "xmm" 405 406 85 1 0 0 3 179 true 181 180 .none (.ref 181) (.ref 182) (.ref 183) 408 85 409
noncomputable abbrev hq185 (P : Params) : Obj := fO (stm 20) "xmm" .none "octetmint.registers" 290 184
noncomputable abbrev hq191 (P : Params) : Obj := cO "rip" 411 "rip" 412 413 89 0 0 0 3 186 true 181 187 .none (.ref 188) (.ref 189) (.ref 190) 414 89 415
noncomputable abbrev hq192 (P : Params) : Obj := fO (stm 21) "rip" .none "octetmint.registers" 290 191
noncomputable abbrev hq198 (P : Params) : Obj := cO "segment" 417 "segment" 418 419 91 1 0 0 3 193 true 181 194 .none (.ref 195) (.ref 196) (.ref 197) 422 91 423
noncomputable abbrev hq199 (P : Params) : Obj := fO (stm 22) "segment" .none "octetmint.registers" 290 198
noncomputable abbrev hq205 (P : Params) : Obj := cO "same_register" 425 "same_register" 426 427 96 2 0 0 3 200 true 181 201 .none (.ref 202) (.ref 203) (.ref 204) 430 96 431
noncomputable abbrev hq206 (P : Params) : Obj := fO (stm 23) "same_register" .none "octetmint.registers" 290 205
noncomputable abbrev hq219 (P : Params) : Obj := cO "__init__" 453 "Operand.__init__" 454 455 106 2 0 0 3 214 true 181 215 .none (.ref 216) (.ref 217) (.ref 218) 458 106 459
noncomputable abbrev hq220 (P : Params) : Obj := fO (met 28 0) "Operand.__init__" .none "octetmint.operands" 433 219
noncomputable abbrev hq226 (P : Params) : Obj := cO "told" 461 "Operand.told" 462 463 109 1 0 0 3 221 true 181 222 .none (.ref 223) (.ref 224) (.ref 225) 465 109 466
noncomputable abbrev hq227 (P : Params) : Obj := fO (met 28 1) "Operand.told" .none "octetmint.operands" 433 226
noncomputable abbrev hq233 (P : Params) : Obj := cO "symbol" 468 "Operand.symbol" 469 470 112 1 0 0 3 228 true 181 229 .none (.ref 230) (.ref 231) (.ref 232) 472 112 473
noncomputable abbrev hq234 (P : Params) : Obj := fO (met 28 2) "Operand.symbol" .none "octetmint.operands" 433 233
noncomputable abbrev hq240 (P : Params) : Obj := cO "registers" 475 "Operand.registers" 476 477 115 1 0 0 3 235 true 181 236 .none (.ref 237) (.ref 238) (.ref 239) 479 115 480
noncomputable abbrev hq241 (P : Params) : Obj := fO (met 28 3) "Operand.registers" .none "octetmint.operands" 433 240
noncomputable abbrev hq243 (P : Params) : Obj := Obj.mk (.type "dict") none (.dict ⟨[dE P "__module__" 448 (.str "octetmint.operands" 433), dE P "__firstlineno__" 452 (.int 104 451), dE P "__init__" 460 (.ref 220), dE P "told" 467 (.ref 227), dE P "symbol" 474 (.ref 234), dE P "registers" 481 (.ref 241), dE P "__static_attributes__" 483 (.ref 242), dE P "__dict__" 485 (.ref 245), dE P "__weakref__" 487 (.ref 246), dE P "__doc__" 488 .none]⟩ 4) ⟨[]⟩
noncomputable abbrev hq244 (P : Params) : Obj := Obj.mk (.type "type") none (.cls ⟨"Operand", [(.type "object")], [(.ref 244), (.type "object")], 243, "Operand", true, [], [(.ref 279), (.ref 313), (.ref 354), (.ref 407)], false, none, false⟩) ⟨[none, none, (some (.str "Operand" 441)), (some (.str "Operand" 449)), (some (.builtin "object.__new__")), (some (.bool true))]⟩
noncomputable abbrev hq245 (P : Params) : Obj := Obj.mk (.type "getset_descriptor") none (.fields ⟨[(.str "__dict__" 484), (.ref 244), (.builtin "function.__dict__"), (.builtin "function.__dict__#set")]⟩) ⟨[]⟩
noncomputable abbrev hq246 (P : Params) : Obj := Obj.mk (.type "getset_descriptor") none (.fields ⟨[(.str "__weakref__" 486), (.ref 244), (.builtin "ExceptionGroup.__weakref__"), .none]⟩) ⟨[]⟩
noncomputable abbrev hq261 (P : Params) : Obj := cO "__init__" 503 "Reg.__init__" 504 505 119 2 0 0 3 256 true 181 257 .none (.ref 258) (.ref 259) (.ref 260) 508 119 509
noncomputable abbrev hq262 (P : Params) : Obj := fO (met 29 0) "Reg.__init__" .none "octetmint.operands" 433 261
noncomputable abbrev hq268 (P : Params) : Obj := cO "told" 511 "Reg.told" 512 513 123 1 0 0 3 263 true 181 264 .none (.ref 265) (.ref 266) (.ref 267) 515 123 516
noncomputable abbrev hq269 (P : Params) : Obj := fO (met 29 1) "Reg.told" .none "octetmint.operands" 433 268
noncomputable abbrev hq275 (P : Params) : Obj := cO "registers" 518 "Reg.registers" 519 520 126 1 0 0 3 270 true 181 271 .none (.ref 272) (.ref 273) (.ref 274) 522 126 523
noncomputable abbrev hq276 (P : Params) : Obj := fO (met 29 2) "Reg.registers" .none "octetmint.operands" 433 275
noncomputable abbrev hq278 (P : Params) : Obj := Obj.mk (.type "dict") none (.dict ⟨[dE P "__module__" 498 (.str "octetmint.operands" 433), dE P "__firstlineno__" 502 (.int 117 501), dE P "__init__" 510 (.ref 262), dE P "told" 517 (.ref 269), dE P "registers" 524 (.ref 276), dE P "__static_attributes__" 526 (.ref 277), dE P "__doc__" 527 .none]⟩ 2) ⟨[]⟩
noncomputable abbrev hq279 (P : Params) : Obj := Obj.mk (.type "type") none (.cls ⟨"Reg", [(.ref 244)], [(.ref 279), (.ref 244), (.type "object")], 278, "Reg", true, [], [], false, none, false⟩) ⟨[(some (.ref 249)), none, (some (.str "Reg" 491)), (some (.str "Reg" 499)), (some (.builtin "object.__new__")), (some (.bool true))]⟩
noncomputable abbrev hq289 (P : Params) : Obj := tO [(.str "" 542)]
noncomputable abbrev hq295 (P : Params) : Obj := cO "__init__" 543 "Imm.__init__" 544 545 130 3 0 0 3 290 true 181 291 .none (.ref 292) (.ref 293) (.ref 294) 549 130 550
noncomputable abbrev hq296 (P : Params) : Obj := fO (met 30 0) "Imm.__init__" (.ref 289) "octetmint.operands" 433 295
noncomputable abbrev hq302 (P : Params) : Obj := cO "told" 552 "Imm.told" 553 554 135 1 0 0 3 297 true 181 298 .none (.ref 299) (.ref 300) (.ref 301) 556 135 557
noncomputable abbrev hq303 (P : Params) : Obj := fO (met 30 1) "Imm.told" .none "octetmint.operands" 433 302
noncomputable abbrev hq309 (P : Params) : Obj := cO "symbol" 559 "Imm.symbol" 560 561 138 1 0 0 3 304 true 181 305 .none (.ref 306) (.ref 307) (.ref 308) 563 138 564
noncomputable abbrev hq310 (P : Params) : Obj := fO (met 30 2) "Imm.symbol" .none "octetmint.operands" 433 309
noncomputable abbrev hq312 (P : Params) : Obj := Obj.mk (.type "dict") none (.dict ⟨[dE P "__module__" 537 (.str "octetmint.operands" 433), dE P "__firstlineno__" 541 (.int 128 540), dE P "__init__" 551 (.ref 296), dE P "told" 558 (.ref 303), dE P "symbol" 565 (.ref 310), dE P "__static_attributes__" 568 (.ref 311), dE P "__doc__" 569 .none]⟩ 2) ⟨[]⟩
noncomputable abbrev hq313 (P : Params) : Obj := Obj.mk (.type "type") none (.cls ⟨"Imm", [(.ref 244)], [(.ref 313), (.ref 244), (.type "object")], 312, "Imm", true, [], [], false, none, false⟩) ⟨[(some (.ref 282)), none, (some (.str "Imm" 530)), (some (.str "Imm" 538)), (some (.builtin "object.__new__")), (some (.bool true))]⟩
noncomputable abbrev hq323 (P : Params) : Obj := tO [(.str "" 584)]
noncomputable abbrev hq329 (P : Params) : Obj := cO "__init__" 585 "Rel.__init__" 586 587 142 3 0 0 3 324 true 181 325 .none (.ref 326) (.ref 327) (.ref 328) 591 142 592
noncomputable abbrev hq330 (P : Params) : Obj := fO (met 31 0) "Rel.__init__" (.ref 323) "octetmint.operands" 433 329
noncomputable abbrev hq336 (P : Params) : Obj := cO "told" 594 "Rel.told" 595 596 147 1 0 0 3 331 true 181 332 .none (.ref 333) (.ref 334) (.ref 335) 598 147 599
noncomputable abbrev hq337 (P : Params) : Obj := fO (met 31 1) "Rel.told" .none "octetmint.operands" 433 336
noncomputable abbrev hq343 (P : Params) : Obj := cO "symbol" 601 "Rel.symbol" 602 603 150 1 0 0 3 338 true 181 339 .none (.ref 340) (.ref 341) (.ref 342) 605 150 606
noncomputable abbrev hq344 (P : Params) : Obj := fO (met 31 2) "Rel.symbol" .none "octetmint.operands" 433 343
noncomputable abbrev hq350 (P : Params) : Obj := cO "target" 608 "Rel.target" 609 610 153 2 0 0 3 345 true 181 346 .none (.ref 347) (.ref 348) (.ref 349) 613 153 614
noncomputable abbrev hq351 (P : Params) : Obj := fO (met 31 3) "Rel.target" .none "octetmint.operands" 433 350
noncomputable abbrev hq353 (P : Params) : Obj := Obj.mk (.type "dict") none (.dict ⟨[dE P "__module__" 579 (.str "octetmint.operands" 433), dE P "__firstlineno__" 583 (.int 140 582), dE P "__init__" 593 (.ref 330), dE P "told" 600 (.ref 337), dE P "symbol" 607 (.ref 344), dE P "target" 615 (.ref 351), dE P "__static_attributes__" 618 (.ref 352), dE P "__doc__" 619 .none]⟩ 2) ⟨[]⟩
noncomputable abbrev hq354 (P : Params) : Obj := Obj.mk (.type "type") none (.cls ⟨"Rel", [(.ref 244)], [(.ref 354), (.ref 244), (.type "object")], 353, "Rel", true, [], [], false, none, false⟩) ⟨[(some (.ref 316)), none, (some (.str "Rel" 572)), (some (.str "Rel" 580)), (some (.builtin "object.__new__")), (some (.bool true))]⟩
noncomputable abbrev hq364 (P : Params) : Obj := tO [(.int 0 634), (.str "" 635), (.str "" 636)]
noncomputable abbrev hq370 (P : Params) : Obj := cO "__init__" 637 "Mem.__init__" 638 639 157 8 0 0 3 365 true 181 366 .none (.ref 367) (.ref 368) (.ref 369) 648 157 649
noncomputable abbrev hq371 (P : Params) : Obj := fO (met 32 0) "Mem.__init__" (.ref 364) "octetmint.operands" 433 370
noncomputable abbrev hq377 (P : Params) : Obj := cO "told" 651 "Mem.told" 652 653 167 1 0 0 3 372 true 181 373 .none (.ref 374) (.ref 375) (.ref 376) 657 167 658
noncomputable abbrev hq378 (P : Params) : Obj := fO (met 32 1) "Mem.told" .none "octetmint.operands" 433 377
noncomputable abbrev hq384 (P : Params) : Obj := cO "symbol" 660 "Mem.symbol" 661 662 172 1 0 0 3 379 true 181 380 .none (.ref 381) (.ref 382) (.ref 383) 664 172 665
noncomputable abbrev hq385 (P : Params) : Obj := fO (met 32 2) "Mem.symbol" .none "octetmint.operands" 433 384
noncomputable abbrev hq389 (P : Params) : Obj := cO "registers" 667 "Mem.registers" 668 669 175 1 0 0 3 386 true 181 387 .none .none .none (.ref 388) 670 175 671
noncomputable abbrev hq390 (P : Params) : Obj := fO (met 32 3) "Mem.registers" .none "octetmint.operands" 433 389
noncomputable abbrev hq396 (P : Params) : Obj := cO "is_rip" 673 "Mem.is_rip" 674 675 178 1 0 0 3 391 true 181 392 .none (.ref 393) (.ref 394) (.ref 395) 677 178 678
noncomputable abbrev hq397 (P : Params) : Obj := fO (met 32 4) "Mem.is_rip" .none "octetmint.operands" 433 396
noncomputable abbrev hq403 (P : Params) : Obj := cO "is_absolute" 680 "Mem.is_absolute" 681 682 181 1 0 0 3 398 true 181 399 .none (.ref 400) (.ref 401) (.ref 402) 684 181 685
noncomputable abbrev hq404 (P : Params) : Obj := fO (met 32 5) "Mem.is_absolute" .none "octetmint.operands" 433 403
noncomputable abbrev hq406 (P : Params) : Obj := Obj.mk (.type "dict") none (.dict ⟨[dE P "__module__" 629 (.str "octetmint.operands" 433), dE P "__firstlineno__" 633 (.int 155 632), dE P "__init__" 650 (.ref 371), dE P "told" 659 (.ref 378), dE P "symbol" 666 (.ref 385), dE P "registers" 672 (.ref 390), dE P "is_rip" 679 (.ref 397), dE P "is_absolute" 686 (.ref 404), dE P "__static_attributes__" 694 (.ref 405), dE P "__doc__" 695 .none]⟩ 2) ⟨[]⟩
noncomputable abbrev hq407 (P : Params) : Obj := Obj.mk (.type "type") none (.cls ⟨"Mem", [(.ref 244)], [(.ref 407), (.ref 244), (.type "object")], 406, "Mem", true, [], [], false, none, false⟩) ⟨[(some (.ref 357)), none, (some (.str "Mem" 622)), (some (.str "Mem" 630)), (some (.builtin "object.__new__")), (some (.bool true))]⟩
noncomputable abbrev hq417 (P : Params) : Obj := tO [(.str "" 710)]
noncomputable abbrev hq423 (P : Params) : Obj := cO "__init__" 711 "Instruction.__init__" 712 713 185 4 0 0 3 418 true 181 419 .none (.ref 420) (.ref 421) (.ref 422) 718 185 719
noncomputable abbrev hq424 (P : Params) : Obj := fO (met 33 0) "Instruction.__init__" (.ref 417) "octetmint.operands" 433 423
noncomputable abbrev hq428 (P : Params) : Obj := cO "told" 721 "Instruction.told" 722 723 190 1 0 0 3 425 true 181 426 .none .none .none (.ref 427) 724 190 725
noncomputable abbrev hq429 (P : Params) : Obj := fO (met 33 1) "Instruction.told" .none "octetmint.operands" 433 428
noncomputable abbrev hq435 (P : Params) : Obj := cO "memory_at" 727 "Instruction.memory_at" 728 729 193 1 0 0 3 430 true 181 431 .none (.ref 432) (.ref 433) (.ref 434) 733 193 734
noncomputable abbrev hq436 (P : Params) : Obj := fO (met 33 2) "Instruction.memory_at" .none "octetmint.operands" 433 435
noncomputable abbrev hq442 (P : Params) : Obj := cO "memory" 736 "Instruction.memory" 737 738 199 1 0 0 3 437 true 181 438 .none (.ref 439) (.ref 440) (.ref 441) 741 199 742
noncomputable abbrev hq443 (P : Params) : Obj := fO (met 33 3) "Instruction.memory" .none "octetmint.operands" 433 442
noncomputable abbrev hq447 (P : Params) : Obj := cO "symbols" 744 "Instruction.symbols" 745 746 203 1 0 0 3 444 true 181 445 .none .none .none (.ref 446) 747 203 748
noncomputable abbrev hq448 (P : Params) : Obj := fO (met 33 4) "Instruction.symbols" .none "octetmint.operands" 433 447
noncomputable abbrev hq454 (P : Params) : Obj := cO "replaced" 750 "Instruction.replaced" 751 752 206 3 0 0 3 449 true 181 450 .none (.ref 451) (.ref 452) (.ref 453) 757 206 758
noncomputable abbrev hq455 (P : Params) : Obj := fO (met 33 5) "Instruction.replaced" .none "octetmint.operands" 433 454
noncomputable abbrev hq457 (P : Params) : Obj := Obj.mk (.type "dict") none (.dict ⟨[dE P "__module__" 705 (.str "octetmint.operands" 433), dE P "__firstlineno__" 709 (.int 183 708), dE P "__init__" 720 (.ref 424), dE P "told" 726 (.ref 429), dE P "memory_at" 735 (.ref 436), dE P "memory" 743 (.ref 443), dE P "symbols" 749 (.ref 448), dE P "replaced" 759 (.ref 455), dE P "__static_attributes__" 763 (.ref 456), dE P "__dict__" 765 (.ref 459), dE P "__weakref__" 767 (.ref 460), dE P "__doc__" 768 .none]⟩ 4) ⟨[]⟩
noncomputable abbrev hq458 (P : Params) : Obj := Obj.mk (.type "type") none (.cls ⟨"Instruction", [(.type "object")], [(.ref 458), (.type "object")], 457, "Instruction", true, [], [], false, none, false⟩) ⟨[none, none, (some (.str "Instruction" 698)), (some (.str "Instruction" 706)), (some (.builtin "object.__new__")), (some (.bool true))]⟩
noncomputable abbrev hq459 (P : Params) : Obj := Obj.mk (.type "getset_descriptor") none (.fields ⟨[(.str "__dict__" 764), (.ref 458), (.builtin "function.__dict__"), (.builtin "function.__dict__#set")]⟩) ⟨[]⟩
noncomputable abbrev hq460 (P : Params) : Obj := Obj.mk (.type "getset_descriptor") none (.fields ⟨[(.str "__weakref__" 766), (.ref 458), (.builtin "ExceptionGroup.__weakref__"), .none]⟩) ⟨[]⟩
noncomputable abbrev hq468 (P : Params) : Obj := cO "is_address_register" 771 "is_address_register" 772 773 210 1 0 0 3 463 true 181 464 .none (.ref 465) (.ref 466) (.ref 467) 775 210 776
noncomputable abbrev hq469 (P : Params) : Obj := fO (stm 34) "is_address_register" .none "octetmint.operands" 433 468
noncomputable abbrev hq475 (P : Params) : Obj := cO "check_base" 778 "check_base" 779 780 212 1 0 0 3 470 true 181 471 .none (.ref 472) (.ref 473) (.ref 474) 782 212 783
noncomputable abbrev hq476 (P : Params) : Obj := fO (stm 35) "check_base" .none "octetmint.operands" 433 475
noncomputable abbrev hq482 (P : Params) : Obj := cO "check_index" 785 "check_index" 786 787 220 1 0 0 3 477 true 181 478 .none (.ref 479) (.ref 480) (.ref 481) 789 220 790
noncomputable abbrev hq483 (P : Params) : Obj := fO (stm 36) "check_index" .none "octetmint.operands" 433 482
noncomputable abbrev hq489 (P : Params) : Obj := cO "check_mem" 792 "check_mem" 793 794 228 1 0 0 3 484 true 181 485 .none (.ref 486) (.ref 487) (.ref 488) 796 228 797
noncomputable abbrev hq490 (P : Params) : Obj := fO (stm 37) "check_mem" .none "octetmint.operands" 433 489
noncomputable abbrev hq496 (P : Params) : Obj := cO "sized" 799 "sized" 800 801 238 2 0 0 3 491 true 181 492 .none (.ref 493) (.ref 494) (.ref 495) 804 238 805
noncomputable abbrev hq497 (P : Params) : Obj := fO (stm 38) "sized" .none "octetmint.operands" 433 496
noncomputable abbrev hq503 (P : Params) : Obj := cO "moved" 807 "moved" 808 809 240 2 0 0 3 498 true 181 499 .none (.ref 500) (.ref 501) (.ref 502) 812 240 813
noncomputable abbrev hq504 (P : Params) : Obj := fO (stm 39) "moved" .none "octetmint.operands" 433 503
noncomputable abbrev hq510 (P : Params) : Obj := cO "placed" 815 "placed" 816 817 242 2 0 0 3 505 true 181 506 .none (.ref 507) (.ref 508) (.ref 509) 820 242 821
noncomputable abbrev hq511 (P : Params) : Obj := fO (stm 40) "placed" .none "octetmint.operands" 433 510
noncomputable abbrev hq517 (P : Params) : Obj := cO "same_place" 823 "same_place" 824 825 244 2 0 0 3 512 true 181 513 .none (.ref 514) (.ref 515) (.ref 516) 828 244 829
noncomputable abbrev hq518 (P : Params) : Obj := fO (stm 41) "same_place" .none "octetmint.operands" 433 517
noncomputable abbrev hq524 (P : Params) : Obj := cO "same_instruction" 831 "same_instruction" 832 833 250 2 0 0 3 519 true 181 520 .none (.ref 521) (.ref 522) (.ref 523) 836 250 837
noncomputable abbrev hq525 (P : Params) : Obj := fO (stm 42) "same_instruction" .none "octetmint.operands" 433 524
noncomputable abbrev hq531 (P : Params) : Obj := cO "is_memory" 839 "is_memory" 840 841 252 1 0 0 3 526 true 181 527 .none (.ref 528) (.ref 529) (.ref 530) 843 252 844
noncomputable abbrev hq532 (P : Params) : Obj := fO (stm 43) "is_memory" .none "octetmint.operands" 433 531
noncomputable abbrev hq538 (P : Params) : Obj := cO "is_register" 846 "is_register" 847 848 254 3 0 0 3 533 true 181 534 .none (.ref 535) (.ref 536) (.ref 537) 852 254 853
noncomputable abbrev hq539 (P : Params) : Obj := fO (stm 44) "is_register" .none "octetmint.operands" 433 538
noncomputable abbrev hq545 (P : Params) : Obj := cO "operand_size" 855 "operand_size" 856 857 258 1 0 0 3 540 true 181 541 .none (.ref 542) (.ref 543) (.ref 544) 859 258 860
noncomputable abbrev hq546 (P : Params) : Obj := fO (stm 45) "operand_size" .none "octetmint.operands" 433 545
noncomputable abbrev hq552 (P : Params) : Obj := cO "told_size" 862 "told_size" 863 864 262 1 0 0 3 547 true 181 548 .none (.ref 549) (.ref 550) (.ref 551) 867 262 868
noncomputable abbrev hq553 (P : Params) : Obj := fO (stm 46) "told_size" .none "octetmint.operands" 433 552
noncomputable abbrev hq559 (P : Params) : Obj := cO "registers_named" 870 "registers_named" 871 872 267 1 0 0 3 554 true 181 555 .none (.ref 556) (.ref 557) (.ref 558) 877 267 878
noncomputable abbrev hq560 (P : Params) : Obj := fO (stm 47) "registers_named" .none "octetmint.operands" 433 559
noncomputable abbrev hq566 (P : Params) : Obj := cO "needs_no_rex" 880 "needs_no_rex" 881 882 274 1 0 0 3 561 true 181 562 .none (.ref 563) (.ref 564) (.ref 565) 885 274 886
noncomputable abbrev hq567 (P : Params) : Obj := fO (stm 48) "needs_no_rex" .none "octetmint.operands" 433 566
noncomputable abbrev hq573 (P : Params) : Obj := cO "check_instruction" 888 "check_instruction" 889 890 279 1 0 0 3 568 true 181 569 .none (.ref 570) (.ref 571) (.ref 572) 894 279 895
noncomputable abbrev hq574 (P : Params) : Obj := fO (stm 49) "check_instruction" .none "octetmint.operands" 433 573
noncomputable abbrev hq580 (P : Params) : Obj := cO "rex_bits" 911 "rex_bits" 912 913 297 1 0 0 3 575 true 181 576 .none (.ref 577) (.ref 578) (.ref 579) 915 297 916
noncomputable abbrev hq581 (P : Params) : Obj := fO (stm 57) "rex_bits" .none "octetmint.prefixes" 897 580
noncomputable abbrev hq587 (P : Params) : Obj := cO "is_rex" 918 "is_rex" 919 920 301 1 0 0 3 582 true 181 583 .none (.ref 584) (.ref 585) (.ref 586) 922 301 923
noncomputable abbrev hq588 (P : Params) : Obj := fO (stm 58) "is_rex" .none "octetmint.prefixes" 897 587
noncomputable abbrev hq594 (P : Params) : Obj := cO "segment_octet" 925 "segment_octet" 926 927 303 1 0 0 3 589 true 181 590 .none (.ref 591) (.ref 592) (.ref 593) 929 303 930
noncomputable abbrev hq595 (P : Params) : Obj := fO (stm 59) "segment_octet" .none "octetmint.prefixes" 897 594
noncomputable abbrev hq603 (P : Params) : Obj := tO [(.str "" 944), (.bool false), (.int 0 945), (.bool false), (.int (-1) 947)]
noncomputable abbrev hq609 (P : Params) : Obj := cO "__init__" 948 "Prefixes.__init__" 949 950 311 6 0 0 3 604 true 181 605 .none (.ref 606) (.ref 607) (.ref 608) 957 311 958
noncomputable abbrev hq610 (P : Params) : Obj := fO (met 60 0) "Prefixes.__init__" (.ref 603) "octetmint.prefixes" 897 609
noncomputable abbrev hq616 (P : Params) : Obj := cO "told" 960 "Prefixes.told" 961 962 318 1 0 0 3 611 true 181 612 .none (.ref 613) (.ref 614) (.ref 615) 964 318 965
noncomputable abbrev hq617 (P : Params) : Obj := fO (met 60 1) "Prefixes.told" .none "octetmint.prefixes" 897 616
noncomputable abbrev hq623 (P : Params) : Obj := cO "has_rex" 967 "Prefixes.has_rex" 968 969 321 1 0 0 3 618 true 181 619 .none (.ref 620) (.ref 621) (.ref 622) 971 321 972
noncomputable abbrev hq624 (P : Params) : Obj := fO (met 60 2) "Prefixes.has_rex" .none "octetmint.prefixes" 897 623
noncomputable abbrev hq630 (P : Params) : Obj := cO "bits" 974 "Prefixes.bits" 975 976 324 1 0 0 3 625 true 181 626 .none (.ref 627) (.ref 628) (.ref 629) 978 324 979
noncomputable abbrev hq631 (P : Params) : Obj := fO (met 60 3) "Prefixes.bits" .none "octetmint.prefixes" 897 630
noncomputable abbrev hq637 (P : Params) : Obj := cO "count" 981 "Prefixes.count" 982 983 327 1 0 0 3 632 true 181 633 .none (.ref 634) (.ref 635) (.ref 636) 985 327 986
noncomputable abbrev hq638 (P : Params) : Obj := fO (met 60 4) "Prefixes.count" .none "octetmint.prefixes" 897 637
noncomputable abbrev hq644 (P : Params) : Obj := cO "octets" 988 "Prefixes.octets" 989 990 330 1 0 0 3 639 true 181 640 .none (.ref 641) (.ref 642) (.ref 643) 993 330 994
noncomputable abbrev hq645 (P : Params) : Obj := fO (met 60 5) "Prefixes.octets" .none "octetmint.prefixes" 897 644
noncomputable abbrev hq647 (P : Params) : Obj := Obj.mk (.type "dict") none (.dict ⟨[dE P "__module__" 939 (.str "octetmint.prefixes" 897), dE P "__firstlineno__" 943 (.int 309 942), dE P "__init__" 959 (.ref 610), dE P "told" 966 (.ref 617), dE P "has_rex" 973 (.ref 624), dE P "bits" 980 (.ref 631), dE P "count" 987 (.ref 638), dE P "octets" 995 (.ref 645), dE P "__static_attributes__" 1001 (.ref 646), dE P "__dict__" 1003 (.ref 649), dE P "__weakref__" 1005 (.ref 650), dE P "__doc__" 1006 .none]⟩ 4) ⟨[]⟩
noncomputable abbrev hq648 (P : Params) : Obj := Obj.mk (.type "type") none (.cls ⟨"Prefixes", [(.type "object")], [(.ref 648), (.type "object")], 647, "Prefixes", true, [], [], false, none, false⟩) ⟨[none, none, (some (.str "Prefixes" 932)), (some (.str "Prefixes" 940)), (some (.builtin "object.__new__")), (some (.bool true))]⟩
noncomputable abbrev hq649 (P : Params) : Obj := Obj.mk (.type "getset_descriptor") none (.fields ⟨[(.str "__dict__" 1002), (.ref 648), (.builtin "function.__dict__"), (.builtin "function.__dict__#set")]⟩) ⟨[]⟩
noncomputable abbrev hq650 (P : Params) : Obj := Obj.mk (.type "getset_descriptor") none (.fields ⟨[(.str "__weakref__" 1004), (.ref 648), (.builtin "ExceptionGroup.__weakref__"), .none]⟩) ⟨[]⟩
noncomputable abbrev hq658 (P : Params) : Obj := cO "with_rex" 1009 "with_rex" 1010 1011 349 2 0 0 3 653 true 181 654 .none (.ref 655) (.ref 656) (.ref 657) 1014 349 1015
noncomputable abbrev hq659 (P : Params) : Obj := fO (stm 61) "with_rex" .none "octetmint.prefixes" 897 658
noncomputable abbrev hq665 (P : Params) : Obj := cO "without_repeat" 1017 "without_repeat" 1018 1019 351 1 0 0 3 660 true 181 661 .none (.ref 662) (.ref 663) (.ref 664) 1021 351 1022
noncomputable abbrev hq666 (P : Params) : Obj := fO (stm 62) "without_repeat" .none "octetmint.prefixes" 897 665
noncomputable abbrev hq672 (P : Params) : Obj := cO "without_data" 1024 "without_data" 1025 1026 353 1 0 0 3 667 true 181 668 .none (.ref 669) (.ref 670) (.ref 671) 1028 353 1029
noncomputable abbrev hq673 (P : Params) : Obj := fO (stm 63) "without_data" .none "octetmint.prefixes" 897 672
noncomputable abbrev hq679 (P : Params) : Obj := cO "repeat_word" 1031 "repeat_word" 1032 1033 355 1 0 0 3 674 true 181 675 .none (.ref 676) (.ref 677) (.ref 678) 1035 355 1036
noncomputable abbrev hq680 (P : Params) : Obj := fO (stm 64) "repeat_word" .none "octetmint.prefixes" 897 679
noncomputable abbrev hq686 (P : Params) : Obj := cO "repeat_octet" 1038 "repeat_octet" 1039 1040 359 1 0 0 3 681 true 181 682 .none (.ref 683) (.ref 684) (.ref 685) 1042 359 1043
noncomputable abbrev hq687 (P : Params) : Obj := fO (stm 65) "repeat_octet" .none "octetmint.prefixes" 897 686
noncomputable abbrev hq693 (P : Params) : Obj := cO "_law_cell" 1047 "_law_cell" 1048 1049 364 2 0 0 3 688 true 181 689 .none (.ref 690) (.ref 691) (.ref 692) 1052 364 1053
noncomputable abbrev hq694 (P : Params) : Obj := fO (stm 67) "_law_cell" .none "law_nn0053_01" 1045 693
noncomputable abbrev hq700 (P : Params) : Obj := cO "_law_name" 1055 "_law_name" 1056 1057 368 3 0 0 3 695 true 181 696 .none (.ref 697) (.ref 698) (.ref 699) 1062 368 1063
noncomputable abbrev hq701 (P : Params) : Obj := fO (stm 68) "_law_name" .none "law_nn0053_01" 1045 700
noncomputable abbrev hq707 (P : Params) : Obj := cO "_law_register" 1065 "_law_register" 1066 1067 383 3 0 0 3 702 true 181 703 .none (.ref 704) (.ref 705) (.ref 706) 1071 383 1072
noncomputable abbrev hq708 (P : Params) : Obj := fO (stm 69) "_law_register" .none "law_nn0053_01" 1045 707
noncomputable abbrev hq714 (P : Params) : Obj := cO "_law_plain" 1074 "_law_plain" 1075 1076 391 2 0 0 3 709 true 181 710 .none (.ref 711) (.ref 712) (.ref 713) 1087 391 1088
noncomputable abbrev hq715 (P : Params) : Obj := fO (stm 70) "_law_plain" .none "law_nn0053_01" 1045 714
noncomputable abbrev hq721 (P : Params) : Obj := cO "_law_operand" 1090 "_law_operand" 1091 1092 405 1 0 0 3 716 true 181 717 .none (.ref 718) (.ref 719) (.ref 720) 1097 405 1098
noncomputable abbrev hq722 (P : Params) : Obj := fO (stm 71) "_law_operand" .none "law_nn0053_01" 1045 721
noncomputable abbrev hq728 (P : Params) : Obj := cO "_law_told" 1100 "_law_told" 1101 1102 416 1 0 0 3 723 true 181 724 .none (.ref 725) (.ref 726) (.ref 727) 1108 416 1109
noncomputable abbrev hq729 (P : Params) : Obj := fO (stm 72) "_law_told" .none "law_nn0053_01" 1045 728
noncomputable abbrev hq733 (P : Params) : Obj := cO "_law_names" 1111 "_law_names" 1112 1113 425 1 0 0 3 730 true 181 731 .none .none .none (.ref 732) 1114 425 1115
noncomputable abbrev hq734 (P : Params) : Obj := fO (stm 73) "_law_names" .none "law_nn0053_01" 1045 733
noncomputable abbrev hq738 (P : Params) : Obj := cO "_law_operand_right" 1117 "_law_operand_right" 1118 1119 429 2 0 0 3 735 true 181 736 .none .none .none (.ref 737) 1120 429 1121
noncomputable abbrev hq739 (P : Params) : Obj := fO (stm 74) "_law_operand_right" .none "law_nn0053_01" 1045 738
noncomputable abbrev hq745 (P : Params) : Obj := cO "_law_refused" 1123 "_law_refused" 1124 1125 453 1 0 0 3 740 true 181 741 .none (.ref 742) (.ref 743) (.ref 744) 1127 453 1128
noncomputable abbrev hq746 (P : Params) : Obj := fO (stm 75) "_law_refused" .none "law_nn0053_01" 1045 745
noncomputable abbrev hq750 (P : Params) : Obj := cO "_law_line_right" 1130 "_law_line_right" 1131 1132 459 2 0 0 3 747 true 181 748 .none .none .none (.ref 749) 1133 459 1134
noncomputable abbrev hq751 (P : Params) : Obj := fO (stm 76) "_law_line_right" .none "law_nn0053_01" 1045 750
noncomputable abbrev hq755 (P : Params) : Obj := cO "_law_prefixes_right" 1136 "_law_prefixes_right" 1137 1138 493 1 0 0 3 752 true 181 753 .none .none .none (.ref 754) 1139 493 1140
noncomputable abbrev hq756 (P : Params) : Obj := fO (stm 77) "_law_prefixes_right" .none "law_nn0053_01" 1045 755
noncomputable abbrev hq760 (P : Params) : Obj := cO "law" 1142 "law" 1143 1144 505 1 0 0 3 757 true 181 758 .none .none .none (.ref 759) 1145 505 1146
noncomputable abbrev hq761 (P : Params) : Obj := fO (stm 78) "law" .none "law_nn0053_01" 1045 760
noncomputable abbrev fl0 (P : Params) : List Obj := [boot_o_0 P, boot_o_1 P, hq2 P, hq3 P, boot_o_4 P, boot_o_5 P, boot_o_6 P, boot_o_7 P, boot_o_8 P, boot_o_9 P, boot_o_10 P, tO [], nO [(.int 1 0), (.int 0 0), (.ref 20), (.int 5 0), (.int 0 0), (.ref 27), (.int 16 0), (.int 0 0), (.ref 55), (.int 18 0), (.int 0 0), (.ref 67), (.int 20 0), (.int 0 0), (.ref 79), (.int 22 0), (.int 0 0), (.ref 86), (.int 24 0), (.int 0 0), (.ref 93), (.int 34 0), (.int 0 0), (.ref 100), (.int 56 0), (.int 0 0), (.ref 156), (.int 66 0), (.int 0 0), (.ref 163), (.int 74 0), (.int 0 0), (.ref 170), (.int 81 0), (.int 0 0), (.ref 177), (.int 85 0), (.int 0 0), (.ref 184), (.int 89 0), (.int 0 0), (.ref 191), (.int 91 0), (.int 0 0), (.ref 198), (.int 96 0), (.int 0 0), (.ref 205), (.int 104 0), (.int 0 0), (.ref 212), (.int 117 0), (.int 0 0), (.ref 254), (.int 128 0), (.int 0 0), (.ref 287), (.int 140 0), (.int 0 0), (.ref 321), (.int 155 0), (.int 0 0), (.ref 362), (.int 183 0), (.int 0 0), (.ref 415), (.int 210 0), (.int 0 0), (.ref 468), (.int 212 0), (.int 0 0), (.ref 475), (.int 220 0), (.int 0 0), (.ref 482), (.int 228 0), (.int 0 0), (.ref 489), (.int 238 0), (.int 0 0), (.ref 496), (.int 240 0), (.int 0 0), (.ref 503), (.int 242 0), (.int 0 0), (.ref 510), (.int 244 0), (.int 0 0), (.ref 517), (.int 250 0), (.int 0 0), (.ref 524), (.int 252 0), (.int 0 0), (.ref 531), (.int 254 0), (.int 0 0), (.ref 538), (.int 258 0), (.int 0 0), (.ref 545), (.int 262 0), (.int 0 0), (.ref 552), (.int 267 0), (.int 0 0), (.ref 559), (.int 274 0), (.int 0 0), (.ref 566), (.int 279 0), (.int 0 0), (.ref 573), (.int 297 0), (.int 0 0), (.ref 580), (.int 301 0), (.int 0 0), (.ref 587), (.int 303 0), (.int 0 0), (.ref 594), (.int 309 0), (.int 0 0), (.ref 601), (.int 349 0), (.int 0 0), (.ref 658), (.int 351 0), (.int 0 0), (.ref 665), (.int 353 0), (.int 0 0), (.ref 672), (.int 355 0), (.int 0 0), (.ref 679), (.int 359 0), (.int 0 0), (.ref 686), (.int 364 0), (.int 0 0), (.ref 693), (.int 368 0), (.int 0 0), (.ref 700), (.int 383 0), (.int 0 0), (.ref 707), (.int 391 0), (.int 0 0), (.ref 714), (.int 405 0), (.int 0 0), (.ref 721), (.int 416 0), (.int 0 0), (.ref 728), (.int 425 0), (.int 0 0), (.ref 733), (.int 429 0), (.int 0 0), (.ref 738), (.int 453 0), (.int 0 0), (.ref 745), (.int 459 0), (.int 0 0), (.ref 750), (.int 493 0), (.int 0 0), (.ref 755), (.int 505 0), (.int 0 0), (.ref 760)], cO "<module>" 182 "<module>" 183 184 1 0 0 0 0 11 false 181 12 .none .none .none .none 185 1 186, frO 13 3 "__main__" 164, tO [], nO [], tO [(.str "k" 190)], tO [], fT (stm 0) "_wall", hq20 P, hq21 P, tO [(.type "Exception")], pO, Obj.mk (.type "dict") none (.dict ⟨[dE P "__module__" 203 (.str "octetmint.basics" 194), dE P "__qualname__" 205 (.str "MintError" 204), dE P "__firstlineno__" 207 (.int 5 206), dE P "__init__" 216 (.ref 36), dE P "told" 223 (.ref 43), dE P "__static_attributes__" 226 (.ref 44)]⟩ 6) ⟨[]⟩, tO [], nO [(.int 7 0), (.int 4 0), (.ref 35), (.int 12 0), (.int 4 0), (.ref 42)], cO "MintError" 198 "MintError" 199 200 5 0 0 0 0 25 false 181 26 .none .none .none .none 201 5 202, frO 27 24 "octetmint.basics" 194, hq29 P, tO [], nO [], tO [(.str "self" 211), (.str "what" 212), (.str "at" 213)], tO [], fT (met 2 0) "MintError.__init__", hq35 P, hq36 P, tO [], nO [], tO [(.str "self" 220)], tO [], fT (met 2 1) "MintError.told", hq42 P, hq43 P, tO [(.str "at" 224), (.str "what" 225)], hq45 P, hq46 P, hq47 P, Obj.mk (.type "super") none (.fields ⟨[(.ref 46), (.ref 46), (.ref 46)]⟩) ⟨[]⟩, Obj.mk (.type "builtin_function_or_method") none (.fields ⟨[(.builtin "object.__init_subclass__"), (.ref 46)]⟩) ⟨[]⟩, tO [(.ref 46)], pO, Obj.mk (.type "dict") none (.dict ⟨[dE P "__module__" 241 (.str "octetmint.basics" 194), dE P "__qualname__" 243 (.str "OperandError" 242), dE P "__firstlineno__" 245 (.int 16 244), dE P "__static_attributes__" 246 (.ref 57)]⟩ 4) ⟨[]⟩, tO [], nO [], cO "OperandError" 236 "OperandError" 237 238 16 0 0 0 0 53 false 181 54 .none .none .none .none 239 16 240, frO 55 52 "octetmint.basics" 194, tO [], hq58 P, hq59 P, Obj.mk (.type "super") none (.fields ⟨[(.ref 59), (.ref 59), (.ref 59)]⟩) ⟨[]⟩, Obj.mk (.type "builtin_function_or_method") none (.fields ⟨[(.builtin "object.__init_subclass__"), (.ref 59)]⟩) ⟨[]⟩, tO [(.ref 46)], pO, Obj.mk (.type "dict") none (.dict ⟨[dE P "__module__" 257 (.str "octetmint.basics" 194), dE P "__qualname__" 259 (.str "EncodeError" 258), dE P "__firstlineno__" 261 (.int 18 260), dE P "__static_attributes__" 262 (.ref 69)]⟩ 4) ⟨[]⟩, tO [], nO [], cO "EncodeError" 252 "EncodeError" 253 254 18 0 0 0 0 65 false 181 66 .none .none .none .none 255 18 256, frO 67 64 "octetmint.basics" 194, tO [], hq70 P, hq71 P, Obj.mk (.type "super") none (.fields ⟨[(.ref 71), (.ref 71), (.ref 71)]⟩) ⟨[]⟩, Obj.mk (.type "builtin_function_or_method") none (.fields ⟨[(.builtin "object.__init_subclass__"), (.ref 71)]⟩) ⟨[]⟩, tO [], nO [], tO [(.str "size" 269)], tO [], fT (stm 5) "mask", hq79 P, hq80 P, tO [], nO [], tO [(.str "worth" 276), (.str "size" 277)], tO [], fT (stm 6) "wrap", hq86 P, hq87 P, tO [], nO [], tO [(.str "worth" 284), (.str "size" 285), (.str "half" 286)], tO [], fT (stm 7) "fits_signed", hq93 P, hq94 P, tO [], pO, Obj.mk (.type "dict") none (.dict ⟨[dE P "__module__" 311 (.str "octetmint.registers" 290), dE P "__qualname__" 313 (.str "Register" 312), dE P "__firstlineno__" 315 (.int 34 314), dE P "__init__" 326 (.ref 108), dE P "code" 333 (.ref 115), dE P "is_extended" 340 (.ref 122), dE P "is_high" 347 (.ref 129), dE P "needs_rex" 354 (.ref 136), dE P "told" 361 (.ref 143), dE P "__static_attributes__" 366 (.ref 144)]⟩ 10) ⟨[]⟩, tO [], nO [(.int 36 0), (.int 4 0), (.ref 107), (.int 42 0), (.int 4 0), (.ref 114), (.int 45 0), (.int 4 0), (.ref 121), (.int 48 0), (.int 4 0), (.ref 128), (.int 51 0), (.int 4 0), (.ref 135), (.int 54 0), (.int 4 0), (.ref 142)]]
noncomputable abbrev fl1 (P : Params) : List Obj := [cO "Register" 306 "Register" 307 308 34 0 0 0 0 98 false 181 99 .none .none .none .none 309 34 310, frO 100 97 "octetmint.registers" 290, tO [], nO [], tO [(.str "self" 319), (.str "name" 320), (.str "kind" 321), (.str "number" 322), (.str "size" 323)], tO [], fT (met 15 0) "Register.__init__", hq107 P, hq108 P, tO [], nO [], tO [(.str "self" 330)], tO [], fT (met 15 1) "Register.code", hq114 P, hq115 P, tO [], nO [], tO [(.str "self" 337)], tO [], fT (met 15 2) "Register.is_extended", hq121 P, hq122 P, tO [], nO [], tO [(.str "self" 344)], tO [], fT (met 15 3) "Register.is_high", hq128 P, hq129 P, tO [], nO [], tO [(.str "self" 351)], tO [], fT (met 15 4) "Register.needs_rex", hq135 P, hq136 P, tO [], nO [], tO [(.str "self" 358)], tO [], fT (met 15 5) "Register.told", hq142 P, hq143 P, tO [(.str "kind" 362), (.str "name" 363), (.str "number" 364), (.str "size" 365)], hq145 P, hq146 P, hq147 P, hq148 P, Obj.mk (.type "super") none (.fields ⟨[(.ref 146), (.ref 146), (.ref 146)]⟩) ⟨[]⟩, Obj.mk (.type "builtin_function_or_method") none (.fields ⟨[(.builtin "object.__init_subclass__"), (.ref 146)]⟩) ⟨[]⟩, tO [], nO [], tO [(.str "size" 377)], tO [], fT (stm 16) "early_names", hq156 P, hq157 P, tO [], nO [], tO [(.str "size" 384)], tO [], fT (stm 17) "late_ending", hq163 P, hq164 P, tO [], nO [], tO [(.str "number" 391), (.str "size" 392), (.str "names" 393)], tO [], fT (stm 18) "gpr", hq170 P, hq171 P, tO [], nO [], tO [(.str "number" 400)], tO [], fT (stm 19) "high", hq177 P, hq178 P, tO [], nO [], tO [(.str "number" 407)], tO [], fT (stm 20) "xmm", hq184 P, hq185 P, tO [], nO [], tO [], tO [], fT (stm 21) "rip", hq191 P, hq192 P, tO [], nO [], tO [(.str "name" 420), (.str "names" 421)], tO [], fT (stm 22) "segment", hq198 P, hq199 P]
noncomputable abbrev fl2 (P : Params) : List Obj := [tO [], nO [], tO [(.str "one" 428), (.str "other" 429)], tO [], fT (stm 23) "same_register", hq205 P, hq206 P, tO [], pO, Obj.mk (.type "dict") none (.dict ⟨[dE P "__module__" 448 (.str "octetmint.operands" 433), dE P "__qualname__" 450 (.str "Operand" 449), dE P "__firstlineno__" 452 (.int 104 451), dE P "__init__" 460 (.ref 220), dE P "told" 467 (.ref 227), dE P "symbol" 474 (.ref 234), dE P "registers" 481 (.ref 241), dE P "__static_attributes__" 483 (.ref 242)]⟩ 8) ⟨[]⟩, tO [], nO [(.int 106 0), (.int 4 0), (.ref 219), (.int 109 0), (.int 4 0), (.ref 226), (.int 112 0), (.int 4 0), (.ref 233), (.int 115 0), (.int 4 0), (.ref 240)], cO "Operand" 443 "Operand" 444 445 104 0 0 0 0 210 false 181 211 .none .none .none .none 446 104 447, frO 212 209 "octetmint.operands" 433, tO [], nO [], tO [(.str "self" 456), (.str "kind" 457)], tO [], fT (met 28 0) "Operand.__init__", hq219 P, hq220 P, tO [], nO [], tO [(.str "self" 464)], tO [], fT (met 28 1) "Operand.told", hq226 P, hq227 P, tO [], nO [], tO [(.str "self" 471)], tO [], fT (met 28 2) "Operand.symbol", hq233 P, hq234 P, tO [], nO [], tO [(.str "self" 478)], tO [], fT (met 28 3) "Operand.registers", hq240 P, hq241 P, tO [(.str "kind" 482)], hq243 P, hq244 P, hq245 P, hq246 P, Obj.mk (.type "super") none (.fields ⟨[(.ref 244), (.ref 244), (.ref 244)]⟩) ⟨[]⟩, Obj.mk (.type "builtin_function_or_method") none (.fields ⟨[(.builtin "object.__init_subclass__"), (.ref 244)]⟩) ⟨[]⟩, tO [(.ref 244)], pO, Obj.mk (.type "dict") none (.dict ⟨[dE P "__module__" 498 (.str "octetmint.operands" 433), dE P "__qualname__" 500 (.str "Reg" 499), dE P "__firstlineno__" 502 (.int 117 501), dE P "__init__" 510 (.ref 262), dE P "told" 517 (.ref 269), dE P "registers" 524 (.ref 276), dE P "__static_attributes__" 526 (.ref 277)]⟩ 7) ⟨[]⟩, tO [], nO [(.int 119 0), (.int 4 0), (.ref 261), (.int 123 0), (.int 4 0), (.ref 268), (.int 126 0), (.int 4 0), (.ref 275)], cO "Reg" 493 "Reg" 494 495 117 0 0 0 0 252 false 181 253 .none .none .none .none 496 117 497, frO 254 251 "octetmint.operands" 433, tO [], nO [], tO [(.str "self" 506), (.str "register" 507)], tO [], fT (met 29 0) "Reg.__init__", hq261 P, hq262 P, tO [], nO [], tO [(.str "self" 514)], tO [], fT (met 29 1) "Reg.told", hq268 P, hq269 P, tO [], nO [], tO [(.str "self" 521)], tO [], fT (met 29 2) "Reg.registers", hq275 P, hq276 P, tO [(.str "register" 525)], hq278 P, hq279 P, Obj.mk (.type "super") none (.fields ⟨[(.ref 279), (.ref 279), (.ref 279)]⟩) ⟨[]⟩, Obj.mk (.type "builtin_function_or_method") none (.fields ⟨[(.builtin "object.__init_subclass__"), (.ref 279)]⟩) ⟨[]⟩, tO [(.ref 244)], pO, Obj.mk (.type "dict") none (.dict ⟨[dE P "__module__" 537 (.str "octetmint.operands" 433), dE P "__qualname__" 539 (.str "Imm" 538), dE P "__firstlineno__" 541 (.int 128 540), dE P "__init__" 551 (.ref 296), dE P "told" 558 (.ref 303), dE P "symbol" 565 (.ref 310), dE P "__static_attributes__" 568 (.ref 311)]⟩ 7) ⟨[]⟩, tO [], nO [(.int 130 0), (.int 4 0), (.ref 295), (.int 135 0), (.int 4 0), (.ref 302), (.int 138 0), (.int 4 0), (.ref 309)], cO "Imm" 532 "Imm" 533 534 128 0 0 0 0 285 false 181 286 .none .none .none .none 535 128 536, frO 287 284 "octetmint.operands" 433, hq289 P, tO [], nO [], tO [(.str "self" 546), (.str "worth" 547), (.str "name" 548)], tO [], fT (met 30 0) "Imm.__init__", hq295 P, hq296 P, tO [], nO [], tO [(.str "self" 555)]]
noncomputable abbrev fl3 (P : Params) : List Obj := [tO [], fT (met 30 1) "Imm.told", hq302 P, hq303 P, tO [], nO [], tO [(.str "self" 562)], tO [], fT (met 30 2) "Imm.symbol", hq309 P, hq310 P, tO [(.str "name" 566), (.str "worth" 567)], hq312 P, hq313 P, Obj.mk (.type "super") none (.fields ⟨[(.ref 313), (.ref 313), (.ref 313)]⟩) ⟨[]⟩, Obj.mk (.type "builtin_function_or_method") none (.fields ⟨[(.builtin "object.__init_subclass__"), (.ref 313)]⟩) ⟨[]⟩, tO [(.ref 244)], pO, Obj.mk (.type "dict") none (.dict ⟨[dE P "__module__" 579 (.str "octetmint.operands" 433), dE P "__qualname__" 581 (.str "Rel" 580), dE P "__firstlineno__" 583 (.int 140 582), dE P "__init__" 593 (.ref 330), dE P "told" 600 (.ref 337), dE P "symbol" 607 (.ref 344), dE P "target" 615 (.ref 351), dE P "__static_attributes__" 618 (.ref 352)]⟩ 8) ⟨[]⟩, tO [], nO [(.int 142 0), (.int 4 0), (.ref 329), (.int 147 0), (.int 4 0), (.ref 336), (.int 150 0), (.int 4 0), (.ref 343), (.int 153 0), (.int 4 0), (.ref 350)], cO "Rel" 574 "Rel" 575 576 140 0 0 0 0 319 false 181 320 .none .none .none .none 577 140 578, frO 321 318 "octetmint.operands" 433, hq323 P, tO [], nO [], tO [(.str "self" 588), (.str "worth" 589), (.str "name" 590)], tO [], fT (met 31 0) "Rel.__init__", hq329 P, hq330 P, tO [], nO [], tO [(.str "self" 597)], tO [], fT (met 31 1) "Rel.told", hq336 P, hq337 P, tO [], nO [], tO [(.str "self" 604)], tO [], fT (met 31 2) "Rel.symbol", hq343 P, hq344 P, tO [], nO [], tO [(.str "self" 611), (.str "behind" 612)], tO [], fT (met 31 3) "Rel.target", hq350 P, hq351 P, tO [(.str "name" 616), (.str "worth" 617)], hq353 P, hq354 P, Obj.mk (.type "super") none (.fields ⟨[(.ref 354), (.ref 354), (.ref 354)]⟩) ⟨[]⟩, Obj.mk (.type "builtin_function_or_method") none (.fields ⟨[(.builtin "object.__init_subclass__"), (.ref 354)]⟩) ⟨[]⟩, tO [(.ref 244)], pO, Obj.mk (.type "dict") none (.dict ⟨[dE P "__module__" 629 (.str "octetmint.operands" 433), dE P "__qualname__" 631 (.str "Mem" 630), dE P "__firstlineno__" 633 (.int 155 632), dE P "__init__" 650 (.ref 371), dE P "told" 659 (.ref 378), dE P "symbol" 666 (.ref 385), dE P "registers" 672 (.ref 390), dE P "is_rip" 679 (.ref 397), dE P "is_absolute" 686 (.ref 404), dE P "__static_attributes__" 694 (.ref 405)]⟩ 10) ⟨[]⟩, tO [], nO [(.int 157 0), (.int 4 0), (.ref 370), (.int 167 0), (.int 4 0), (.ref 377), (.int 172 0), (.int 4 0), (.ref 384), (.int 175 0), (.int 4 0), (.ref 389), (.int 178 0), (.int 4 0), (.ref 396), (.int 181 0), (.int 4 0), (.ref 403)], cO "Mem" 624 "Mem" 625 626 155 0 0 0 0 360 false 181 361 .none .none .none .none 627 155 628, frO 362 359 "octetmint.operands" 433, hq364 P, tO [], nO [], tO [(.str "self" 640), (.str "base" 641), (.str "index" 642), (.str "scale" 643), (.str "worth" 644), (.str "size" 645), (.str "segment" 646), (.str "name" 647)], tO [], fT (met 32 0) "Mem.__init__", hq370 P, hq371 P, tO [], nO [], tO [(.str "self" 654), (.str "base" 655), (.str "index" 656)], tO [], fT (met 32 1) "Mem.told", hq377 P, hq378 P, tO [], nO [], tO [(.str "self" 663)], tO [], fT (met 32 2) "Mem.symbol", hq384 P, hq385 P, tO [], nO [], fT (met 32 3) "Mem.registers", hq389 P, hq390 P, tO [], nO [], tO [(.str "self" 676)], tO [], fT (met 32 4) "Mem.is_rip", hq396 P, hq397 P, tO [], nO []]
noncomputable abbrev fl4 (P : Params) : List Obj := [tO [(.str "self" 683)], tO [], fT (met 32 5) "Mem.is_absolute", hq403 P, hq404 P, tO [(.str "base" 687), (.str "index" 688), (.str "name" 689), (.str "scale" 690), (.str "segment" 691), (.str "size" 692), (.str "worth" 693)], hq406 P, hq407 P, Obj.mk (.type "super") none (.fields ⟨[(.ref 407), (.ref 407), (.ref 407)]⟩) ⟨[]⟩, Obj.mk (.type "builtin_function_or_method") none (.fields ⟨[(.builtin "object.__init_subclass__"), (.ref 407)]⟩) ⟨[]⟩, tO [], pO, Obj.mk (.type "dict") none (.dict ⟨[dE P "__module__" 705 (.str "octetmint.operands" 433), dE P "__qualname__" 707 (.str "Instruction" 706), dE P "__firstlineno__" 709 (.int 183 708), dE P "__init__" 720 (.ref 424), dE P "told" 726 (.ref 429), dE P "memory_at" 735 (.ref 436), dE P "memory" 743 (.ref 443), dE P "symbols" 749 (.ref 448), dE P "replaced" 759 (.ref 455), dE P "__static_attributes__" 763 (.ref 456)]⟩ 10) ⟨[]⟩, tO [], nO [(.int 185 0), (.int 4 0), (.ref 423), (.int 190 0), (.int 4 0), (.ref 428), (.int 193 0), (.int 4 0), (.ref 435), (.int 199 0), (.int 4 0), (.ref 442), (.int 203 0), (.int 4 0), (.ref 447), (.int 206 0), (.int 4 0), (.ref 454)], cO "Instruction" 700 "Instruction" 701 702 183 0 0 0 0 413 false 181 414 .none .none .none .none 703 183 704, frO 415 412 "octetmint.operands" 433, hq417 P, tO [], nO [], tO [(.str "self" 714), (.str "name" 715), (.str "operands" 716), (.str "prefix" 717)], tO [], fT (met 33 0) "Instruction.__init__", hq423 P, hq424 P, tO [], nO [], fT (met 33 1) "Instruction.told", hq428 P, hq429 P, tO [], nO [], tO [(.str "self" 730), (.str "at" 731), (.str "operand" 732)], tO [], fT (met 33 2) "Instruction.memory_at", hq435 P, hq436 P, tO [], nO [], tO [(.str "self" 739), (.str "at" 740)], tO [], fT (met 33 3) "Instruction.memory", hq442 P, hq443 P, tO [], nO [], fT (met 33 4) "Instruction.symbols", hq447 P, hq448 P, tO [], nO [], tO [(.str "self" 753), (.str "at" 754), (.str "operand" 755), (.str "found" 756)], tO [], fT (met 33 5) "Instruction.replaced", hq454 P, hq455 P, tO [(.str "name" 760), (.str "operands" 761), (.str "prefix" 762)], hq457 P, hq458 P, hq459 P, hq460 P, Obj.mk (.type "super") none (.fields ⟨[(.ref 458), (.ref 458), (.ref 458)]⟩) ⟨[]⟩, Obj.mk (.type "builtin_function_or_method") none (.fields ⟨[(.builtin "object.__init_subclass__"), (.ref 458)]⟩) ⟨[]⟩, tO [], nO [], tO [(.str "register" 774)], tO [], fT (stm 34) "is_address_register", hq468 P, hq469 P, tO [], nO [], tO [(.str "mem" 781)], tO [], fT (stm 35) "check_base", hq475 P, hq476 P, tO [], nO [], tO [(.str "mem" 788)], tO [], fT (stm 36) "check_index", hq482 P, hq483 P, tO [], nO [], tO [(.str "mem" 795)], tO [], fT (stm 37) "check_mem", hq489 P, hq490 P, tO [], nO [], tO [(.str "mem" 802), (.str "size" 803)], tO [], fT (stm 38) "sized", hq496 P, hq497 P, tO [], nO []]
noncomputable abbrev fl5 (P : Params) : List Obj := [tO [(.str "mem" 810), (.str "count" 811)], tO [], fT (stm 39) "moved", hq503 P, hq504 P, tO [], nO [], tO [(.str "mem" 818), (.str "worth" 819)], tO [], fT (stm 40) "placed", hq510 P, hq511 P, tO [], nO [], tO [(.str "one" 826), (.str "other" 827)], tO [], fT (stm 41) "same_place", hq517 P, hq518 P, tO [], nO [], tO [(.str "one" 834), (.str "other" 835)], tO [], fT (stm 42) "same_instruction", hq524 P, hq525 P, tO [], nO [], tO [(.str "operand" 842)], tO [], fT (stm 43) "is_memory", hq531 P, hq532 P, tO [], nO [], tO [(.str "operand" 849), (.str "kind" 850), (.str "size" 851)], tO [], fT (stm 44) "is_register", hq538 P, hq539 P, tO [], nO [], tO [(.str "operand" 858)], tO [], fT (stm 45) "operand_size", hq545 P, hq546 P, tO [], nO [], tO [(.str "operands" 865), (.str "operand" 866)], tO [], fT (stm 46) "told_size", hq552 P, hq553 P, tO [], nO [], tO [(.str "instruction" 873), (.str "found" 874), (.str "operand" 875), (.str "register" 876)], tO [], fT (stm 47) "registers_named", hq559 P, hq560 P, tO [], nO [], tO [(.str "instruction" 883), (.str "operand" 884)], tO [], fT (stm 48) "needs_no_rex", hq566 P, hq567 P, tO [], nO [], tO [(.str "instruction" 891), (.str "many" 892), (.str "operand" 893)], tO [], fT (stm 49) "check_instruction", hq573 P, hq574 P, tO [], nO [], tO [(.str "octet" 914)], tO [], fT (stm 57) "rex_bits", hq580 P, hq581 P, tO [], nO [], tO [(.str "octet" 921)], tO [], fT (stm 58) "is_rex", hq587 P, hq588 P, tO [], nO [], tO [(.str "segment" 928)], tO [], fT (stm 59) "segment_octet", hq594 P, hq595 P, tO [], pO, Obj.mk (.type "dict") none (.dict ⟨[dE P "__module__" 939 (.str "octetmint.prefixes" 897), dE P "__qualname__" 941 (.str "Prefixes" 940), dE P "__firstlineno__" 943 (.int 309 942), dE P "__init__" 959 (.ref 610), dE P "told" 966 (.ref 617), dE P "has_rex" 973 (.ref 624), dE P "bits" 980 (.ref 631), dE P "count" 987 (.ref 638), dE P "octets" 995 (.ref 645), dE P "__static_attributes__" 1001 (.ref 646)]⟩ 10) ⟨[]⟩, tO []]
noncomputable abbrev fl6 (P : Params) : List Obj := [nO [(.int 311 0), (.int 4 0), (.ref 609), (.int 318 0), (.int 4 0), (.ref 616), (.int 321 0), (.int 4 0), (.ref 623), (.int 324 0), (.int 4 0), (.ref 630), (.int 327 0), (.int 4 0), (.ref 637), (.int 330 0), (.int 4 0), (.ref 644)], cO "Prefixes" 934 "Prefixes" 935 936 309 0 0 0 0 599 false 181 600 .none .none .none .none 937 309 938, frO 601 598 "octetmint.prefixes" 897, hq603 P, tO [], nO [], tO [(.str "self" 951), (.str "segment" 952), (.str "is_data" 953), (.str "repeat" 954), (.str "is_lock" 955), (.str "rex" 956)], tO [], fT (met 60 0) "Prefixes.__init__", hq609 P, hq610 P, tO [], nO [], tO [(.str "self" 963)], tO [], fT (met 60 1) "Prefixes.told", hq616 P, hq617 P, tO [], nO [], tO [(.str "self" 970)], tO [], fT (met 60 2) "Prefixes.has_rex", hq623 P, hq624 P, tO [], nO [], tO [(.str "self" 977)], tO [], fT (met 60 3) "Prefixes.bits", hq630 P, hq631 P, tO [], nO [], tO [(.str "self" 984)], tO [], fT (met 60 4) "Prefixes.count", hq637 P, hq638 P, tO [], nO [], tO [(.str "self" 991), (.str "found" 992)], tO [], fT (met 60 5) "Prefixes.octets", hq644 P, hq645 P, tO [(.str "is_data" 996), (.str "is_lock" 997), (.str "repeat" 998), (.str "rex" 999), (.str "segment" 1000)], hq647 P, hq648 P, hq649 P, hq650 P, Obj.mk (.type "super") none (.fields ⟨[(.ref 648), (.ref 648), (.ref 648)]⟩) ⟨[]⟩, Obj.mk (.type "builtin_function_or_method") none (.fields ⟨[(.builtin "object.__init_subclass__"), (.ref 648)]⟩) ⟨[]⟩, tO [], nO [], tO [(.str "prefixes" 1012), (.str "rex" 1013)], tO [], fT (stm 61) "with_rex", hq658 P, hq659 P, tO [], nO [], tO [(.str "prefixes" 1020)], tO [], fT (stm 62) "without_repeat", hq665 P, hq666 P, tO [], nO [], tO [(.str "prefixes" 1027)], tO [], fT (stm 63) "without_data", hq672 P, hq673 P, tO [], nO [], tO [(.str "repeat" 1034)], tO [], fT (stm 64) "repeat_word", hq679 P, hq680 P, tO [], nO [], tO [(.str "word" 1041)], tO [], fT (stm 65) "repeat_octet", hq686 P, hq687 P, tO [], nO [], tO [(.str "script" 1050), (.str "at" 1051)], tO [], fT (stm 67) "_law_cell", hq693 P, hq694 P, tO [], nO [], tO [(.str "way" 1058), (.str "number" 1059), (.str "size" 1060), (.str "old" 1061)], tO [], fT (stm 68) "_law_name"]
noncomputable abbrev fl7 (P : Params) : List Obj := [hq700 P, hq701 P, tO [], nO [], tO [(.str "way" 1068), (.str "number" 1069), (.str "size" 1070)], tO [], fT (stm 69) "_law_register", hq707 P, hq708 P, tO [], nO [], tO [(.str "script" 1077), (.str "spot" 1078), (.str "begin" 1079), (.str "way" 1080), (.str "number" 1081), (.str "worth" 1082), (.str "word" 1083), (.str "kind" 1084), (.str "base" 1085), (.str "index" 1086)], tO [], fT (stm 70) "_law_plain", hq714 P, hq715 P, tO [], nO [], tO [(.str "part_so" 1093), (.str "base" 1094), (.str "index" 1095), (.str "scale" 1096)], tO [], fT (stm 71) "_law_operand", hq721 P, hq722 P, tO [], nO [], tO [(.str "part_so" 1103), (.str "base" 1104), (.str "index" 1105), (.str "size" 1106), (.str "seg" 1107)], tO [], fT (stm 72) "_law_told", hq728 P, hq729 P, tO [], nO [], fT (stm 73) "_law_names", hq733 P, hq734 P, tO [], nO [], fT (stm 74) "_law_operand_right", hq738 P, hq739 P, tO [], nO [], tO [(.str "instruction" 1126)], tO [], fT (stm 75) "_law_refused", hq745 P, hq746 P, tO [], nO [], fT (stm 76) "_law_line_right", hq750 P, hq751 P, tO [], nO [], fT (stm 77) "_law_prefixes_right", hq755 P, hq756 P, tO [], nO [], fT (stm 78) "law", hq760 P, hq761 P]
noncomputable def finL (P : Params) : List Obj := fl0 P ++ (fl1 P ++ (fl2 P ++ (fl3 P ++ (fl4 P ++ (fl5 P ++ (fl6 P ++ (fl7 P)))))))
/-- the fragment -/
noncomputable def hK (P : Params) : Frag := [(2, hq2 P), (3, hq3 P), (20, hq20 P), (21, hq21 P), (29, hq29 P), (35, hq35 P), (36, hq36 P), (42, hq42 P), (43, hq43 P), (45, hq45 P), (46, hq46 P), (47, hq47 P), (58, hq58 P), (59, hq59 P), (70, hq70 P), (71, hq71 P), (79, hq79 P), (80, hq80 P), (86, hq86 P), (87, hq87 P), (93, hq93 P), (94, hq94 P), (107, hq107 P), (108, hq108 P), (114, hq114 P), (115, hq115 P), (121, hq121 P), (122, hq122 P), (128, hq128 P), (129, hq129 P), (135, hq135 P), (136, hq136 P), (142, hq142 P), (143, hq143 P), (145, hq145 P), (146, hq146 P), (147, hq147 P), (148, hq148 P), (156, hq156 P), (157, hq157 P), (163, hq163 P), (164, hq164 P), (170, hq170 P), (171, hq171 P), (177, hq177 P), (178, hq178 P), (184, hq184 P), (185, hq185 P), (191, hq191 P), (192, hq192 P), (198, hq198 P), (199, hq199 P), (205, hq205 P), (206, hq206 P), (219, hq219 P), (220, hq220 P), (226, hq226 P), (227, hq227 P), (233, hq233 P), (234, hq234 P), (240, hq240 P), (241, hq241 P), (243, hq243 P), (244, hq244 P), (245, hq245 P), (246, hq246 P), (261, hq261 P), (262, hq262 P), (268, hq268 P), (269, hq269 P), (275, hq275 P), (276, hq276 P), (278, hq278 P), (279, hq279 P), (289, hq289 P), (295, hq295 P), (296, hq296 P), (302, hq302 P), (303, hq303 P), (309, hq309 P), (310, hq310 P), (312, hq312 P), (313, hq313 P), (323, hq323 P), (329, hq329 P), (330, hq330 P), (336, hq336 P), (337, hq337 P), (343, hq343 P), (344, hq344 P), (350, hq350 P), (351, hq351 P), (353, hq353 P), (354, hq354 P), (364, hq364 P), (370, hq370 P), (371, hq371 P), (377, hq377 P), (378, hq378 P), (384, hq384 P), (385, hq385 P), (389, hq389 P), (390, hq390 P), (396, hq396 P), (397, hq397 P), (403, hq403 P), (404, hq404 P), (406, hq406 P), (407, hq407 P), (417, hq417 P), (423, hq423 P), (424, hq424 P), (428, hq428 P), (429, hq429 P), (435, hq435 P), (436, hq436 P), (442, hq442 P), (443, hq443 P), (447, hq447 P), (448, hq448 P), (454, hq454 P), (455, hq455 P), (457, hq457 P), (458, hq458 P), (459, hq459 P), (460, hq460 P), (468, hq468 P), (469, hq469 P), (475, hq475 P), (476, hq476 P), (482, hq482 P), (483, hq483 P), (489, hq489 P), (490, hq490 P), (496, hq496 P), (497, hq497 P), (503, hq503 P), (504, hq504 P), (510, hq510 P), (511, hq511 P), (517, hq517 P), (518, hq518 P), (524, hq524 P), (525, hq525 P), (531, hq531 P), (532, hq532 P), (538, hq538 P), (539, hq539 P), (545, hq545 P), (546, hq546 P), (552, hq552 P), (553, hq553 P), (559, hq559 P), (560, hq560 P), (566, hq566 P), (567, hq567 P), (573, hq573 P), (574, hq574 P), (580, hq580 P), (581, hq581 P), (587, hq587 P), (588, hq588 P), (594, hq594 P), (595, hq595 P), (603, hq603 P), (609, hq609 P), (610, hq610 P), (616, hq616 P), (617, hq617 P), (623, hq623 P), (624, hq624 P), (630, hq630 P), (631, hq631 P), (637, hq637 P), (638, hq638 P), (644, hq644 P), (645, hq645 P), (647, hq647 P), (648, hq648 P), (649, hq649 P), (650, hq650 P), (658, hq658 P), (659, hq659 P), (665, hq665 P), (666, hq666 P), (672, hq672 P), (673, hq673 P), (679, hq679 P), (680, hq680 P), (686, hq686 P), (687, hq687 P), (693, hq693 P), (694, hq694 P), (700, hq700 P), (701, hq701 P), (707, hq707 P), (708, hq708 P), (714, hq714 P), (715, hq715 P), (721, hq721 P), (722, hq722 P), (728, hq728 P), (729, hq729 P), (733, hq733 P), (734, hq734 P), (738, hq738 P), (739, hq739 P), (745, hq745 P), (746, hq746 P), (750, hq750 P), (751, hq751 P), (755, hq755 P), (756, hq756 P), (760, hq760 P), (761, hq761 P)]
noncomputable def hA : List Addr := [2, 3, 20, 21, 29, 35, 36, 42, 43, 45, 46, 47, 58, 59, 70, 71, 79, 80, 86, 87, 93, 94, 107, 108, 114, 115, 121, 122, 128, 129, 135, 136, 142, 143, 145, 146, 147, 148, 156, 157, 163, 164, 170, 171, 177, 178, 184, 185, 191, 192, 198, 199, 205, 206, 219, 220, 226, 227, 233, 234, 240, 241, 243, 244, 245, 246, 261, 262, 268, 269, 275, 276, 278, 279, 289, 295, 296, 302, 303, 309, 310, 312, 313, 323, 329, 330, 336, 337, 343, 344, 350, 351, 353, 354, 364, 370, 371, 377, 378, 384, 385, 389, 390, 396, 397, 403, 404, 406, 407, 417, 423, 424, 428, 429, 435, 436, 442, 443, 447, 448, 454, 455, 457, 458, 459, 460, 468, 469, 475, 476, 482, 483, 489, 490, 496, 497, 503, 504, 510, 511, 517, 518, 524, 525, 531, 532, 538, 539, 545, 546, 552, 553, 559, 560, 566, 567, 573, 574, 580, 581, 587, 588, 594, 595, 603, 609, 610, 616, 617, 623, 624, 630, 631, 637, 638, 644, 645, 647, 648, 649, 650, 658, 659, 665, 666, 672, 673, 679, 680, 686, 687, 693, 694, 700, 701, 707, 708, 714, 715, 721, 722, 728, 729, 733, 734, 738, 739, 745, 746, 750, 751, 755, 756, 760, 761]
noncomputable abbrev PW : Program := PySem.Challenge.rw_nn0053_01.row.toRowW.1
noncomputable def keepL : List Nat := [0, 2, 3, 4, 5, 6, 7, 9, 10, 11, 12, 13, 14, 15, 16, 17, 18, 19, 20, 21, 22, 23, 25, 26, 27, 28, 29, 30, 31, 32, 33, 34, 35, 36, 37, 38, 39, 40, 41, 42, 43, 44, 45, 46, 47, 48, 49, 51, 52, 53, 54, 55, 56, 57, 58, 59, 60, 61, 62, 63, 64, 65, 67, 68, 69, 70, 71, 72, 73, 74, 75, 76, 77, 78]
noncomputable def VW : Program := PySem.W.view PW keepL
noncomputable abbrev lsW : List Str := ["MintError", "Imm", "Rel", "Mem"]
noncomputable def envW : Env := { scope := PW.main.scope, locals := mainNs, globals := mainNs, cells := [], code := .ref 13, frame := some 14 }
noncomputable abbrev cW : Code := .body (behindTheImports PW) envW
noncomputable abbrev qW : Pos := ⟨0, 0, 0, 0⟩
noncomputable def staL (P : Params) : List Obj := [boot_o_0 P, boot_o_1 P, boot_o_2 P, boot_o_3 P, boot_o_4 P, boot_o_5 P, boot_o_6 P, boot_o_7 P, boot_o_8 P, boot_o_9 P, boot_o_10 P, tO [], nO [], cO "<module>" 182 "<module>" 183 184 1 0 0 0 0 11 false 181 12 .none .none .none .none 185 1 186, frO 13 3 "__main__" 164]
noncomputable def mkBT (l : List Obj) : BT := (l.foldl (fun (x : BT × Nat) o => (x.1.ins x.2 o, x.2 + 1)) (BT.nil, 0)).1
theorem preK : ∀ w : World, (fun os : OsState => topGo treeTable PW w 11 (some (.ref 6)) 12 ⟨boot_heap w.params, ⟨[]⟩, boot_drawn, boot_toks, os⟩ (topStub PW)) = fun os => some (⟨⟨⟨staL w.params⟩, {}⟩, ⟨[]⟩, {}, 187, os⟩, ⟨denote treeTable cW, cW, qW, [topFrame qW]⟩) := fun w => by
  rw [PySem.W.Fast.te15667345088766844465, PySem.W.Fast.te11892475500146522536, PySem.W.Fast.te14364793385576792824]; kernel_rfl
theorem blockK : ∀ w : World, (fun os : OsState => segRun treeTable PW w 11 (some (.ref 6)) 1 1 ⟨⟨⟨staL w.params⟩, {}⟩, ⟨[]⟩, {}, 187, os⟩ (blockOf (behindTheImports PW) envW cW qW [topFrame qW])) = fun os => some (Flow.next, SharedT.abs ⟨mkBT (staL w.params), 15, {}, ⟨[]⟩, {}, 187, os⟩, cW, qW) := fun w => by
  rw [PySem.W.Fast.te14374325043358763698, PySem.W.Fast.te14364793385576792824]; kernel_rfl
noncomputable def setL : List Obj → Nat → Obj → List Obj
  | [], _, _ => []
  | _ :: l, 0, o => o :: l
  | a :: l, i + 1, o => a :: setL l i o
noncomputable abbrev stW (a b : Nat) : List Stmt := ((behindTheImports PW).drop a).take b
noncomputable abbrev dO3 (P : Params) (x : Str) (t m e : Nat) : Obj := ⟨.type "dict", none, .dict ⟨dE P "__name__" 165 (.str x t) :: ((gE P).drop 1).take m⟩ e, ⟨[]⟩⟩
noncomputable def f12 : List Value := [(.int 1 0), (.int 0 0), (.ref 20), (.int 5 0), (.int 0 0), (.ref 27), (.int 16 0), (.int 0 0), (.ref 55), (.int 18 0), (.int 0 0), (.ref 67), (.int 20 0), (.int 0 0), (.ref 79), (.int 22 0), (.int 0 0), (.ref 86), (.int 24 0), (.int 0 0), (.ref 93), (.int 34 0), (.int 0 0), (.ref 100), (.int 56 0), (.int 0 0), (.ref 156), (.int 66 0), (.int 0 0), (.ref 163), (.int 74 0), (.int 0 0), (.ref 170), (.int 81 0), (.int 0 0), (.ref 177), (.int 85 0), (.int 0 0), (.ref 184), (.int 89 0), (.int 0 0), (.ref 191), (.int 91 0), (.int 0 0), (.ref 198), (.int 96 0), (.int 0 0), (.ref 205), (.int 104 0), (.int 0 0), (.ref 212), (.int 117 0), (.int 0 0), (.ref 254), (.int 128 0), (.int 0 0), (.ref 287), (.int 140 0), (.int 0 0), (.ref 321), (.int 155 0), (.int 0 0), (.ref 362), (.int 183 0), (.int 0 0), (.ref 415), (.int 210 0), (.int 0 0), (.ref 468), (.int 212 0), (.int 0 0), (.ref 475), (.int 220 0), (.int 0 0), (.ref 482), (.int 228 0), (.int 0 0), (.ref 489), (.int 238 0), (.int 0 0), (.ref 496), (.int 240 0), (.int 0 0), (.ref 503), (.int 242 0), (.int 0 0), (.ref 510), (.int 244 0), (.int 0 0), (.ref 517), (.int 250 0), (.int 0 0), (.ref 524), (.int 252 0), (.int 0 0), (.ref 531), (.int 254 0), (.int 0 0), (.ref 538), (.int 258 0), (.int 0 0), (.ref 545), (.int 262 0), (.int 0 0), (.ref 552), (.int 267 0), (.int 0 0), (.ref 559), (.int 274 0), (.int 0 0), (.ref 566), (.int 279 0), (.int 0 0), (.ref 573), (.int 297 0), (.int 0 0), (.ref 580), (.int 301 0), (.int 0 0), (.ref 587), (.int 303 0), (.int 0 0), (.ref 594), (.int 309 0), (.int 0 0), (.ref 601), (.int 349 0), (.int 0 0), (.ref 658), (.int 351 0), (.int 0 0), (.ref 665), (.int 353 0), (.int 0 0), (.ref 672), (.int 355 0), (.int 0 0), (.ref 679), (.int 359 0), (.int 0 0), (.ref 686), (.int 364 0), (.int 0 0), (.ref 693), (.int 368 0), (.int 0 0), (.ref 700), (.int 383 0), (.int 0 0), (.ref 707), (.int 391 0), (.int 0 0), (.ref 714), (.int 405 0), (.int 0 0), (.ref 721), (.int 416 0), (.int 0 0), (.ref 728), (.int 425 0), (.int 0 0), (.ref 733), (.int 429 0), (.int 0 0), (.ref 738), (.int 453 0), (.int 0 0), (.ref 745), (.int 459 0), (.int 0 0), (.ref 750), (.int 493 0), (.int 0 0), (.ref 755), (.int 505 0), (.int 0 0), (.ref 760)]
noncomputable def mi16 (P : Params) : List Obj := setL (setL ((finL P).take 151) 3 (dO3 P "octetmint.registers" 290 22 23)) 12 (nO (f12.take 24))
noncomputable def mi30 (P : Params) : List Obj := setL (setL (setL ((finL P).take 282) 3 (dO3 P "octetmint.operands" 433 35 36)) 12 (nO (f12.take 54))) 244 ⟨.type "type", none, (.cls ⟨"Operand", [(.type "object")], [(.ref 244), (.type "object")], 243, "Operand", true, [], [(.ref 279)], false, none, false⟩), ⟨[none, none, (some (.str "Operand" 441)), (some (.str "Operand" 449)), (some (.builtin "object.__new__")), (some (.bool true))]⟩⟩
noncomputable def mi33 (P : Params) : List Obj := setL (setL ((finL P).take 410) 3 (dO3 P "octetmint.operands" 433 38 39)) 12 (nO (f12.take 63))
noncomputable def mi46 (P : Params) : List Obj := setL (setL ((finL P).take 547) 3 (dO3 P "octetmint.operands" 433 51 52)) 12 (nO (f12.take 102))
theorem run16 : ∀ w : World, (fun os : OsState => segRunT treeTable PW w 11 (some (.ref 6)) 1 1312 ⟨mkBT (staL w.params), 15, {}, ⟨[]⟩, {}, 187, os⟩ (piecesOf (stW 0 16) envW cW ⟨0, 0, 0, 0⟩ [topFrame qW])) = fun os => some (Flow.next, ⟨mkBT (mi16 w.params), 151, {}, ⟨[]⟩, {}, 374, os⟩, cW, ⟨34, 0, 55, 24⟩) := fun w => by
  rw [PySem.W.Fast.te10110043849684766642, PySem.W.Fast.te14364793385576792824]; kernel_rfl
theorem run30 : ∀ w : World, (fun os : OsState => segRunT treeTable PW w 11 (some (.ref 6)) 1 943 ⟨mkBT (mi16 w.params), 151, {}, ⟨[]⟩, {}, 374, os⟩ (piecesOf (stW 16 14) envW cW ⟨34, 0, 55, 24⟩ [topFrame qW])) = fun os => some (Flow.next, ⟨mkBT (mi30 w.params), 282, {}, ⟨[]⟩, {}, 530, os⟩, cW, ⟨117, 0, 127, 30⟩) := fun w => by
  rw [PySem.W.Fast.te10110043849684766642, PySem.W.Fast.te14364793385576792824]; kernel_rfl
theorem run33 : ∀ w : World, (fun os : OsState => segRunT treeTable PW w 11 (some (.ref 6)) 1 1119 ⟨mkBT (mi30 w.params), 282, {}, ⟨[]⟩, {}, 530, os⟩ (piecesOf (stW 30 3) envW cW ⟨117, 0, 127, 30⟩ [topFrame qW])) = fun os => some (Flow.next, ⟨mkBT (mi33 w.params), 410, {}, ⟨[]⟩, {}, 698, os⟩, cW, ⟨155, 0, 182, 55⟩) := fun w => by
  rw [PySem.W.Fast.te10110043849684766642, PySem.W.Fast.te14364793385576792824]; kernel_rfl
theorem run46 : ∀ w : World, (fun os : OsState => segRunT treeTable PW w 11 (some (.ref 6)) 1 788 ⟨mkBT (mi33 w.params), 410, {}, ⟨[]⟩, {}, 698, os⟩ (piecesOf (stW 33 13) envW cW ⟨155, 0, 182, 55⟩ [topFrame qW])) = fun os => some (Flow.next, ⟨mkBT (mi46 w.params), 547, {}, ⟨[]⟩, {}, 862, os⟩, cW, ⟨258, 0, 261, 55⟩) := fun w => by
  rw [PySem.W.Fast.te10110043849684766642, PySem.W.Fast.te14364793385576792824]; kernel_rfl
theorem run79 : ∀ w : World, (fun os : OsState => (segRunT treeTable PW w 11 (some (.ref 6)) 1 1228 ⟨mkBT (mi46 w.params), 547, {}, ⟨[]⟩, {}, 862, os⟩ (piecesOf (stW 46 33) envW cW ⟨258, 0, 261, 55⟩ [topFrame qW])).map fun x => (x.1, x.2.1.abs, x.2.2)) = fun os => some (Flow.next, ⟨⟨⟨finL w.params⟩, {}⟩, ⟨[]⟩, {}, 1148, os⟩, cW, ⟨505, 0, 510, 89⟩) := fun w => by
  rw [PySem.W.Fast.te10110043849684766642, PySem.W.Fast.te14364793385576792824]; kernel_rfl
theorem allS : behindTheImports PW = stW 0 16 ++ (stW 16 14 ++ (stW 30 3 ++ (stW 33 13 ++ (stW 46 33 ++ [])))) := by kernel_rfl
theorem lk_a : ∀ w : World, (fun os : OsState => (staticsOk (importedModules PW.main.body) (boot_heap w.params) ⟨⟨finL w.params⟩, {}⟩ && namesBound PW ⟨⟨finL w.params⟩, {}⟩ && gensDone ⟨⟨⟨finL w.params⟩, {}⟩, ⟨[]⟩, {}, 1148, os⟩ && laidKept (boot_heap w.params) ⟨⟨finL w.params⟩, {}⟩)) = fun _ => true := fun w => by
  kernel_rfl
theorem lk_b : ∀ w : World, (fun os : OsState => seen ((recsOf VW).map (·.name)) (ownsOf VW) [] { (⟨⟨⟨finL w.params⟩, {}⟩, ⟨[]⟩, {}, 1148, os⟩ : Shared) with gens := #[] }) = fun _ => expectedOf VW := fun w => by
  rw [PySem.W.Fast.te5160383126252970620, PySem.W.Fast.te3399658132070893891, PySem.W.Fast.te5991557255702980513]; kernel_rfl
theorem lk_c : ∀ w : World, (fun os : OsState => (⟨⟨finL w.params⟩, {}⟩ : Heap).bltView) = fun _ => bltViewBooted := fun w => by
  kernel_rfl
theorem lk_d : ∀ w : World, (fun os : OsState => ((⟨⟨finL w.params⟩, {}⟩ : Heap).keysOk (looseW VW lsW) ((recsOf VW).map (·.name)) ((litsOf VW).map (·.1)) ((clssOf VW (looseW VW lsW)).map (·.name)) && (⟨⟨finL w.params⟩, {}⟩ : Heap).accountedOkI (importedModules PW.main.body) && (⟨⟨finL w.params⟩, {}⟩ : Heap).isNs mainGlobals && (⟨⟨finL w.params⟩, {}⟩ : Heap).isNs builtinsNs && tablesOk VW ⟨⟨finL w.params⟩, {}⟩ && (fun s => xlAt VW [] s && recOk (RowW.records PySem.Challenge.rw_nn0053_01.row.toRowW) s) ⟨⟨⟨finL w.params⟩, {}⟩, ⟨[]⟩, {}, 1148, os⟩ && (if true = true then (⟨⟨⟨finL w.params⟩, {}⟩, ⟨[]⟩, {}, 1148, os⟩ : Shared).gens.size == 0 else !leftWithCleanup (⟨⟨⟨finL w.params⟩, {}⟩, ⟨[]⟩, {}, 1148, os⟩ : Shared).gens))) = fun _ => true := fun w => by
  rw [PySem.W.Fast.te10880121769531294198, PySem.W.Fast.te821141287760084731, PySem.W.Fast.te3399658132070893891, PySem.W.Fast.te7409074990110511671, PySem.W.Fast.te13664370479719496447, PySem.W.Fast.te14722251495701143533, PySem.W.Fast.te10994771534591457954]; kernel_rfl
theorem lk_e : ∀ w : World, (fun os : OsState => tabsOk VW ⟨⟨⟨finL w.params⟩, {}⟩, ⟨[]⟩, {}, 1148, os⟩) = fun _ => true := fun w => by
  rw [PySem.W.Fast.te479339242167458305]; kernel_rfl
theorem lk_f : ∀ w : World, (fun os : OsState => pinSeenD VW (drecsOf VW) ⟨⟨⟨finL w.params⟩, {}⟩, ⟨[]⟩, {}, 1148, os⟩) = fun _ => pinGoodD (drecsOf VW) := fun w => by
  rw [PySem.W.Fast.te16090120013241838585, PySem.W.Fast.te3247288618530077131]; kernel_rfl
theorem lk_g : ∀ w : World, (fun os : OsState => plainSeenE VW (looseW VW lsW) ⟨⟨⟨finL w.params⟩, {}⟩, ⟨[]⟩, {}, 1148, os⟩) = fun _ => plainGoodE VW (looseW VW lsW) := fun w => by
  rw [PySem.W.Fast.te2386780881361962483, PySem.W.Fast.te821141287760084731]; kernel_rfl
theorem lk_h : ∀ w : World, (fun os : OsState => plainSeenD VW lsW ⟨⟨⟨finL w.params⟩, {}⟩, ⟨[]⟩, {}, 1148, os⟩) = fun _ => plainGoodD VW lsW := fun w => by
  rw [PySem.W.Fast.te11698064438423848299]; kernel_rfl
theorem lk_i : ∀ w : World, (fun os : OsState => wideSeen VW ⟨⟨⟨finL w.params⟩, {}⟩, ⟨[]⟩, {}, 1148, os⟩) = fun _ => wideGood VW := fun w => by
  rw [PySem.W.Fast.te7317090234206586261]; kernel_rfl
theorem lk_j : ∀ w : World, (fun os : OsState => clsSeenW VW lsW ⟨⟨⟨finL w.params⟩, {}⟩, ⟨[]⟩, {}, 1148, os⟩) = fun _ => clsGoodW VW lsW := fun w => by
  rw [PySem.W.Fast.te7369524293546568484]; kernel_rfl
theorem lk_k : ∀ w : World, (fun os : OsState => hA.map (Heap.get? ⟨⟨finL w.params⟩, {}⟩)) = fun _ => (hK w.params).map fun p => some p.2 := fun w => by
  kernel_rfl
theorem looksK : ∀ w : World, (fun os : OsState => ((staticsOk (importedModules PW.main.body) (boot_heap w.params) ⟨⟨finL w.params⟩, {}⟩ && namesBound PW ⟨⟨finL w.params⟩, {}⟩ && gensDone ⟨⟨⟨finL w.params⟩, {}⟩, ⟨[]⟩, {}, 1148, os⟩ && laidKept (boot_heap w.params) ⟨⟨finL w.params⟩, {}⟩),
    openSeen VW lsW (importedModules PW.main.body) (fun s => xlAt VW [] s && recOk (RowW.records PySem.Challenge.rw_nn0053_01.row.toRowW) s) true ⟨⟨⟨finL w.params⟩, {}⟩, ⟨[]⟩, {}, 1148, os⟩, hA.map (Heap.get? ⟨⟨finL w.params⟩, {}⟩))) = fun _ => (true, openGood VW lsW, (hK w.params).map fun p => some p.2) := fun w => funext fun os =>
  looks_pair (congrFun (lk_a w) os) (looks_pair (by unfold openSeen openGood; exact looks_pair (congrFun (lk_b w) os) (looks_pair (congrFun (lk_c w) os) (looks_pair (congrFun (lk_d w) os) (looks_pair (congrFun (lk_e w) os) (looks_pair (congrFun (lk_f w) os) (looks_pair (congrFun (lk_g w) os) (looks_pair (congrFun (lk_h w) os) (looks_pair (congrFun (lk_i w) os) (congrFun (lk_j w) os))))))))) (congrFun (lk_k w) os))
set_option maxHeartbeats 0 in
theorem ro1 : readsOut PW PW.main.body "vars" = false := by rw [PySem.W.Fast.te13343964577679436407]; decide +kernel
set_option maxHeartbeats 0 in
theorem ro2 : readsOut PW PW.main.body "dir" = false := by rw [PySem.W.Fast.te13343964577679436407]; decide +kernel
set_option maxHeartbeats 0 in
theorem ro3 : readsOut PW PW.main.body "locals" = false := by rw [PySem.W.Fast.te13343964577679436407]; decide +kernel
set_option maxHeartbeats 0 in
theorem nr0 : noRoadLSs { strict := !(importedModules PW.main.body).all cThrough.contains, foot := none, bare := [] } PW.main.body = true := by rw [PySem.W.Fast.te8326940854005059898]; decide +kernel
theorem nr1 : noRoadLSs { strict := !(importedModules PW.main.body).all cThrough.contains, foot := none, bare := (["vars", "dir", "locals"] : List Str).filter (readsOut PW PW.main.body) } PW.main.body = true := by
  rw [List.filter_cons_of_neg (by rw [ro1]; decide), List.filter_cons_of_neg (by rw [ro2]; decide), List.filter_cons_of_neg (by rw [ro3]; decide), List.filter_nil]
  exact nr0
set_option maxHeartbeats 0 in
theorem wsK : OpenLaw.wellSaid PySem.Challenge.rw_nn0053_01 = true := by
  unfold OpenLaw.wellSaid OpenRow.wellSaid OpenRow.partSaid looksOpen
  simp only [Bool.and_eq_true]
  repeat' apply And.intro
  all_goals first
    | with_reducible exact nr1
    | ((with_reducible show namesResolve _ = true); rw [PySem.W.Fast.te8377067652309620493]; decide +kernel)
    | ((with_reducible show namesMeet _ _ (fun _ n => attrL n) = true); rw [PySem.W.Fast.te17119622794617984870, PySem.W.Fast.te17868728402115742887]; decide +kernel)
    | decide +kernel
theorem finK {tb : String → Option Builtin} {p : Program} {w : World} {n₀ : Nat} {ann : Option Value} {s : Shared} {c : Code} {pos q : Pos} : topRun tb p w n₀ ann 2 s ⟨doneF .next, c, pos, [topFrame q]⟩ = some s := by
  obtain ⟨h, g, d, t, os⟩ := s
  rfl
theorem runAll (w : World) (os : OsState) : topRun treeTable PW w 11 (some (.ref 6)) (12 + (1 + (1312 + (943 + (1119 + (788 + (1228 + 2))))))) ⟨boot_heap w.params, ⟨[]⟩, boot_drawn, boot_toks, os⟩ (topStub PW) = some ⟨⟨⟨finL w.params⟩, {}⟩, ⟨[]⟩, {}, 1148, os⟩ := by
  have h1 := congrFun (preK w) os
  have h2 := congrFun (blockK w) os
  obtain ⟨⟨f, s', c, p⟩, e1, e2⟩ := Option.map_eq_some_iff.mp (congrFun (run79 w) os)
  have e3 := congrArg (·.1) e2
  have e4 := congrArg (·.2.1) e2
  have e5 := congrArg (·.2.2.1) e2
  have e6 := congrArg (·.2.2.2) e2
  dsimp only at e3 e4 e5 e6
  have h4 := segRun_of e1
  rw [e3, e4, e5, e6] at h4
  have h5 := piece_app (segRun_of (congrFun (run16 w) os)) (piece_app (segRun_of (congrFun (run30 w) os)) (piece_app (segRun_of (congrFun (run33 w) os)) (piece_app (segRun_of (congrFun (run46 w) os)) (piece_app (rest := []) h4 (piece_nil finK)))))
  rw [← allS] at h5
  exact go_top h1 (piece_block h2 h5)
theorem sizeK : ∀ w : World, ((boot_heap w.params).isNs mainGlobals && (⟨[]⟩ : Array GenState).size == 0, (boot_heap w.params).objs.size, (boot_heap w.params).nsMap mainGlobals "__annotations__") = (true, 11, some (.ref 6)) := fun w => by
  rw [PySem.W.Fast.te8920871248978507458]; kernel_rfl
theorem openK : ∀ w : World, (fencedOpening treeTable PW w 10406).map (fun s => (s.heap, s.gens, s.drawn, s.toks)) = some (boot_heap w.params, ⟨[]⟩, boot_drawn, boot_toks) :=
  boot_open (by kernel_rfl) (by decide) (fun s => by kernel_rfl)
noncomputable abbrev HW : Hook := kHook hK hA (fun P => by kernel_rfl)
theorem leftK : LeftO PW VW lsW (fun s => xlAt VW [] s && recOk (RowW.records PySem.Challenge.rw_nn0053_01.row.toRowW) s) (Hook.obs HW) (Hook.val HW) 10406 :=
  LeftO.of_pieces (H₀ := boot_heap) (H₁ := fun P => ⟨⟨finL P⟩, {}⟩) openK sizeK runAll (by decide) looksK
end
section
noncomputable abbrev KK (w : World) : Frag := hK w.params
variable {prog : Program} {w : World}
noncomputable def gtab : List (String × Value) := [("mask", .ref 80), ("wrap", .ref 87), ("fits_signed", .ref 94), ("Register", .ref 146), ("early_names", .ref 157), ("late_ending", .ref 164), ("gpr", .ref 171), ("high", .ref 178), ("xmm", .ref 185), ("rip", .ref 192), ("segment", .ref 199), ("same_register", .ref 206),
  ("Operand", .ref 244), ("Reg", .ref 279), ("Imm", .ref 313), ("Rel", .ref 354), ("Mem", .ref 407), ("Instruction", .ref 458), ("is_address_register", .ref 469), ("check_base", .ref 476), ("check_index", .ref 483), ("check_mem", .ref 490), ("sized", .ref 497), ("moved", .ref 504), ("placed", .ref 511), ("same_place", .ref 518),
  ("same_instruction", .ref 525), ("is_memory", .ref 532), ("is_register", .ref 539), ("operand_size", .ref 546), ("told_size", .ref 553), ("registers_named", .ref 560), ("needs_no_rex", .ref 567), ("check_instruction", .ref 574), ("rex_bits", .ref 581), ("is_rex", .ref 588), ("segment_octet", .ref 595), ("Prefixes", .ref 648),
  ("with_rex", .ref 659), ("without_repeat", .ref 666), ("without_data", .ref 673), ("repeat_word", .ref 680), ("repeat_octet", .ref 687), ("_law_cell", .ref 694), ("_law_name", .ref 701), ("_law_register", .ref 708), ("_law_plain", .ref 715), ("_law_operand", .ref 722), ("_law_told", .ref 729), ("_law_names", .ref 734),
  ("_law_operand_right", .ref 739), ("_law_refused", .ref 746), ("_law_line_right", .ref 751), ("_law_prefixes_right", .ref 756), ("OperandError", .ref 59)]
noncomputable def btab : List (String × Value) := [("len", .builtin "len"), ("str", .type "str"), ("tuple", .type "tuple"), ("list", .type "list"), ("int", .type "int"), ("bytes", .type "bytes"), ("set", .type "set"), ("range", .type "range"), ("enumerate", .type "enumerate")]
theorem gt_map (w : World) : gtab.map (fun p => nsIn (KK w) mainGlobals (Str.ofString p.1)) = gtab.map fun p => some (some p.2) := by kernel_rfl
theorem bt_map (w : World) : btab.map (fun p => (nsIn (KK w) mainGlobals (Str.ofString p.1), bootBuiltins (Str.ofString p.1))) = btab.map fun p => (some none, some p.2) := by kernel_rfl
theorem bt_name : btab.all (fun p => decide (Str.ofString p.1 ≠ "__name__")) = true := by decide +kernel
theorem dbg_map : (gtab ++ btab).all (fun p => (Str.ofString p.1 == ("__debug__" : Str)) == false) = true := by decide +kernel
theorem glob_of {x : String} {v : Value} (h : gtab.lookup x = some v) : nsIn (KK w) mainGlobals (Str.ofString x) = some (some v) := (List.map_inj_left.mp (gt_map w)) _ (lookup_mem h)
theorem Ev.gl {n : Nat} {env : Env} {Γ : Lc} {x : String} {v : Value} {pos : Pos} (hk : env.kindOf (Str.ofString x) = some .globalImplicit) (h : gtab.lookup x = some v) : Ev prog w (KK w) n env Γ (.Name (Str.ofString x) pos) (.glob v) := by
  have := List.all_eq_true.mp dbg_map _ (List.mem_append_left _ (lookup_mem h))
  exact Ev.glob hk (glob_of h) (by simpa using this)
theorem Ev.bl {n : Nat} {env : Env} {Γ : Lc} {x : String} {v : Value} {pos : Pos} (hk : env.kindOf (Str.ofString x) = some .globalImplicit) (h : btab.lookup x = some v) : Ev prog w (KK w) n env Γ (.Name (Str.ofString x) pos) (.glob v) := by
  have e := (List.map_inj_left.mp (bt_map w)) _ (lookup_mem h)
  have h1 := List.all_eq_true.mp dbg_map _ (List.mem_append_right _ (lookup_mem h))
  have h2 := List.all_eq_true.mp bt_name _ (lookup_mem h)
  exact Ev.bltn hk (congrArg Prod.fst e) (congrArg Prod.snd e) (by simpa using h2) (by simpa using h1)
noncomputable def stab : List (String × Str) := [("NAMES_8", "al cl dl bl spl bpl sil dil"), ("NAMES_16", "ax cx dx bx sp bp si di"), ("NAMES_32", "eax ecx edx ebx esp ebp esi edi"), ("NAMES_64", "rax rcx rdx rbx rsp rbp rsi rdi"), ("HIGH_NAMES", "ah ch dh bh"), ("SEGMENT_NAMES", "es cs ss ds fs gs"), ("PREFIX_WORDS", "lock rep repne"), ("MEMORY_SIZES", "0 8 16 32 64 128"), ("SCALES", "1 2 4 8")]
noncomputable def strOf : Option (Option Value) → Option Str
  | some (some (.str x _)) => some x
  | _ => none
noncomputable def intOf : Option (Option Value) → Option Int
  | some (some (.int x _)) => some x
  | _ => none
theorem st_map (w : World) : stab.map (fun p => strOf (nsIn (KK w) mainGlobals (Str.ofString p.1))) = stab.map fun p => some p.2 := by rfl
noncomputable def itab : List (String × Int) := [("FS", 100), ("GS", 101), ("DATA", 102), ("REPNE", 242), ("REP", 243), ("LOCK", 240)]
theorem it_map (w : World) : itab.map (fun p => intOf (nsIn (KK w) mainGlobals (Str.ofString p.1))) = itab.map fun p => some p.2 := by rfl
theorem dbg_s : stab.all (fun p => (Str.ofString p.1 == ("__debug__" : Str)) == false) = true := by decide +kernel
theorem dbg_i : itab.all (fun p => (Str.ofString p.1 == ("__debug__" : Str)) == false) = true := by decide +kernel
theorem strOf_some {o : Option (Option Value)} {x : Str} (h : strOf o = some x) : ∃ t, o = some (some (.str x t)) := by
  unfold strOf at h; split at h
  · cases h; exact ⟨_, rfl⟩
  · cases h
theorem intOf_some {o : Option (Option Value)} {x : Int} (h : intOf o = some x) : ∃ t, o = some (some (.int x t)) := by
  unfold intOf at h; split at h
  · cases h; exact ⟨_, rfl⟩
  · cases h
theorem Ev.gs {n : Nat} {env : Env} {Γ : Lc} {x : String} {v : Str} {pos : Pos} (hk : env.kindOf (Str.ofString x) = some .globalImplicit) (h : stab.lookup x = some v) : Ev prog w (KK w) n env Γ (.Name (Str.ofString x) pos) (.str v) := by
  obtain ⟨t, e⟩ := strOf_some ((List.map_inj_left.mp (st_map w)) _ (lookup_mem h))
  have h1 := List.all_eq_true.mp dbg_s _ (lookup_mem h)
  exact Ev.globS hk e (by simpa using h1)
theorem Ev.gi {n : Nat} {env : Env} {Γ : Lc} {x : String} {v : Int} {pos : Pos} (hk : env.kindOf (Str.ofString x) = some .globalImplicit) (h : itab.lookup x = some v) : Ev prog w (KK w) n env Γ (.Name (Str.ofString x) pos) (.int v) := by
  obtain ⟨t, e⟩ := intOf_some ((List.map_inj_left.mp (it_map w)) _ (lookup_mem h))
  have h1 := List.all_eq_true.mp dbg_i _ (lookup_mem h)
  exact Ev.globI hk e (by simpa using h1)
noncomputable def atab : List (Addr × String) := [(146, "name"), (146, "kind"), (146, "number"), (146, "size"), (279, "kind"), (279, "register"), (313, "kind"), (313, "worth"), (313, "name"), (354, "kind"), (354, "worth"), (354, "name"),
  (407, "kind"), (407, "base"), (407, "index"), (407, "scale"), (407, "worth"), (407, "size"), (407, "segment"), (407, "name"), (458, "name"), (458, "operands"), (458, "prefix"), (648, "segment"), (648, "is_data"), (648, "repeat"), (648, "is_lock"), (648, "rex")]
theorem at_all (w : World) : atab.all (fun p => attrFree (KK w) p.1 (Str.ofString p.2)) = true := by kernel_rfl
theorem at_of {C : Addr} {x : String} (h : atab.contains (C, x) = true) : attrFree (KK w) C (Str.ofString x) = true := List.all_eq_true.mp (at_all w) _ (List.contains_iff_mem.mp h)
noncomputable def mtab : List ((Addr × String) × Addr) := [((146, "told"), 143), ((279, "told"), 269), ((279, "symbol"), 234), ((279, "registers"), 276), ((313, "told"), 303), ((313, "symbol"), 310), ((313, "registers"), 241), ((354, "told"), 337), ((354, "symbol"), 344), ((354, "registers"), 241), ((354, "target"), 351),
  ((407, "told"), 378), ((407, "symbol"), 385), ((407, "registers"), 390), ((407, "is_rip"), 397), ((407, "is_absolute"), 404), ((458, "told"), 429), ((458, "memory_at"), 436), ((458, "memory"), 443), ((458, "symbols"), 448), ((458, "replaced"), 455), ((648, "told"), 617), ((648, "has_rex"), 624), ((648, "bits"), 631), ((648, "count"), 638), ((648, "octets"), 645)]
theorem mt_all (w : World) : mtab.all (fun p => methOk (KK w) p.1.1 p.2 (Str.ofString p.1.2)) = true := by kernel_rfl
theorem mt_of {C f : Addr} {x : String} (h : mtab.lookup (C, x) = some f) : methOk (KK w) C f (Str.ofString x) = true := List.all_eq_true.mp (mt_all w) _ (lookup_mem h)
noncomputable def sttab : List (Addr × String) := [(146, "name"), (146, "kind"), (146, "number"), (146, "size"), (244, "kind"), (279, "register"), (313, "worth"), (313, "name"), (354, "worth"), (354, "name"), (279, "kind"), (313, "kind"), (354, "kind"), (407, "kind"),
  (407, "base"), (407, "index"), (407, "scale"), (407, "worth"), (407, "size"), (407, "segment"), (407, "name"), (458, "name"), (458, "operands"), (458, "prefix"), (648, "segment"), (648, "is_data"), (648, "repeat"), (648, "is_lock"), (648, "rex")]
theorem so_all (w : World) : sttab.all (fun p => storeOkC (KK w) p.1 (Str.ofString p.2)) = true := by kernel_rfl
theorem so_of {C : Addr} {x : String} (h : sttab.contains (C, x) = true) : storeOkC (KK w) C (Str.ofString x) = true := List.all_eq_true.mp (so_all w) _ (List.contains_iff_mem.mp h)
theorem kp_all (w : World) : gtab.all (fun p => keepIn (KK w) p.2) = true := by kernel_rfl
theorem kp_of {x : String} {v : Value} (h : gtab.lookup x = some v) : keepIn (KK w) v = true := List.all_eq_true.mp (kp_all w) _ (lookup_mem h)
noncomputable def noStar : PySem.Expr → Bool
  | .Starred .. => false
  | _ => true
theorem star_plain {e : PySem.Expr} {es : List PySem.Expr} {env : Env} (h : noStar e = true) : starEach (e :: es) env = (false, eval e env) :: starEach es env := by
  cases e <;> first | rfl | (simp [noStar] at h)
theorem star_one {e : PySem.Expr} {env : Env} (h : noStar e = true) : starEach [e] env = [(false, eval e env)] := by rw [star_plain h]; rfl
noncomputable def noSuper : PySem.Expr → Bool
  | .Call (.Name _ _) [] [] _ => false
  | _ => true
theorem base_plain {o : PySem.Expr} {x : Str} {env : Env} {m : Sem Value} (h : noSuper o = true) : attributeBase o x env m = m := by
  unfold attributeBase
  split
  · simp [noSuper] at h
  · rfl
theorem attr_plain {e : PySem.Expr} {x : Str} {pos : Pos} {env : Env} (h : noSuper e = true) : eval (.Attribute e x pos) env = (do let o ← eval e env; standAt pos.atName; let r ← holding [o] (getAttr o x true); letTemporaryGo e o r; pure r) := by
  rw [arm_eval_Attribute, base_plain h]
section
variable {n : Nat} {env : Env} {Γ : Lc}
theorem Ev.cg {x : String} {p pos : Pos} {f : Value} {e : PySem.Expr} {es : List PySem.Expr} {ds : List V} {d : V} {m : Nat} (hn : env.kindOf (Str.ofString x) = some .globalImplicit) (hx : gtab.lookup x = some f)
    (hs : EvL prog w (KK w) n env Γ (e :: es) ds) (hc : Calls prog w (KK w) m f ds d) (hm : m ≤ n)
    (he : starEach (e :: es) env = (false, eval e env) :: starEach es env := by rfl) (hp : (backTo pos (starEach es env)).any (·.1) = false := by rfl) : Ev prog w (KK w) n env Γ (.Call (.Name (Str.ofString x) p) (e :: es) [] pos) d :=
  Ev.call (Ev.gl hn hx) (kp_of hx) hs hc hm he hp
theorem Ev.cg0 {x : String} {p pos : Pos} {f : Value} {d : V} {m : Nat} (hn : env.kindOf (Str.ofString x) = some .globalImplicit) (hx : gtab.lookup x = some f) (hc : Calls prog w (KK w) m f [] d) (hm : m ≤ n) : Ev prog w (KK w) n env Γ (.Call (.Name (Str.ofString x) p) [] [] pos) d :=
  Ev.call0 (Ev.gl hn hx) (kp_of hx) hc hm
theorem Ev.cb {x : String} {p pos : Pos} {f : Value} {e : PySem.Expr} {es : List PySem.Expr} {ds : List V} {d : V} (hn : env.kindOf (Str.ofString x) = some .globalImplicit) (hx : btab.lookup x = some f) (hk : noRef f = true)
    (hs : EvL prog w (KK w) n env Γ (e :: es) ds) (hc : Calls prog w (KK w) 0 f ds d)
    (he : starEach (e :: es) env = (false, eval e env) :: starEach es env := by rfl) (hp : (backTo pos (starEach es env)).any (·.1) = false := by rfl) : Ev prog w (KK w) n env Γ (.Call (.Name (Str.ofString x) p) (e :: es) [] pos) d :=
  Ev.callB (Ev.bl hn hx) hk hs hc he hp
end
section
variable {K : Frag} {n : Nat} {env : Env} {Γ : Lc} {O : Option (String × OV)} {d : V} {b : Bool} {out : Out}
end
theorem Op2.itemLS {K : Frag} {ys : List Str} {i : Int} (h0 : 0 ≤ i) (hi : i < ys.length) (hz : ys.length ≤ 1000) : Op2 prog w K getItem (.lst (ys.map .str)) (.int i) (.str (ys.getD i.toNat "")) := by
  have hl : i.toNat < ys.length := by omega
  refine Op2.itemL h0 ?_ (by omega)
  rw [List.getElem?_map, List.getElem?_eq_getElem hl, List.getD_eq_getElem?_getD, List.getElem?_eq_getElem hl]; rfl
section
variable {K : Frag} {n : Nat} {env : Env} {Γ : Lc} {O : Option (String × OV)} {d : V} {b : Bool} {out : Out}
end
theorem w_64 : Txt.words (Str.ofString "rax rcx rdx rbx rsp rbp rsi rdi") = (["rax", "rcx", "rdx", "rbx", "rsp", "rbp", "rsi", "rdi"] : List Str) := by kernel_rfl
theorem w_32 : Txt.words (Str.ofString "eax ecx edx ebx esp ebp esi edi") = (["eax", "ecx", "edx", "ebx", "esp", "ebp", "esi", "edi"] : List Str) := by kernel_rfl
theorem w_16 : Txt.words (Str.ofString "ax cx dx bx sp bp si di") = (["ax", "cx", "dx", "bx", "sp", "bp", "si", "di"] : List Str) := by kernel_rfl
theorem w_8 : Txt.words (Str.ofString "al cl dl bl spl bpl sil dil") = (["al", "cl", "dl", "bl", "spl", "bpl", "sil", "dil"] : List Str) := by kernel_rfl
theorem w_hi : Txt.words (Str.ofString "ah ch dh bh") = (["ah", "ch", "dh", "bh"] : List Str) := by kernel_rfl
theorem w_sg : Txt.words (Str.ofString "es cs ss ds fs gs") = (["es", "cs", "ss", "ds", "fs", "gs"] : List Str) := by kernel_rfl
theorem x_old : Txt.split (Str.ofString "ax cx dx bx sp bp si di") (Str.ofString " ") = (["ax", "cx", "dx", "bx", "sp", "bp", "si", "di"] : List Str) := by kernel_rfl
theorem x_pre : Txt.split (Str.ofString "lock rep repne") (Str.ofString " ") = (["lock", "rep", "repne"] : List Str) := by kernel_rfl
theorem x_mem : Txt.split (Str.ofString "0 8 16 32 64 128") (Str.ofString " ") = (["0", "8", "16", "32", "64", "128"] : List Str) := by kernel_rfl
theorem x_sca : Txt.split (Str.ofString "1 2 4 8") (Str.ofString " ") = (["1", "2", "4", "8"] : List Str) := by kernel_rfl
section
variable {K : Frag} {n : Nat} {env : Env} {Γ : Lc} {O : Option (String × OV)} {out : Out}
theorem Ex.pairE {x y : String} {k : Nat} {px py tpos pos : Pos} {e : PySem.Expr} {d d' : V} {ss : List Stmt} (h : Ev prog w K n env Γ e (.tup [d, d'])) (hx : locOk env x) (hy : locOk env y) (hs : Ex prog w K n env ((x, d) :: (y, d') :: Γ) none ss out)
    (h1 : swapsWithSole [.Tuple [.Name (Str.ofString x) px, .Name (Str.ofString y) py] k tpos] e pos.line env = pure false := by rfl)
    (h2 : swappedStores [.Tuple [.Name (Str.ofString x) px, .Name (Str.ofString y) py] k tpos] e env = pure (some [Str.ofString x, Str.ofString y]) := by rfl) :
    Ex prog w K n env Γ none (.Assign [.Tuple [.Name (Str.ofString x) px, .Name (Str.ofString y) py] k tpos] e pos :: ss) out := Ex.next (Ex1.pair (EvO.ev h) hx hy (by intro y o h; cases h) h1 h2) hs
end
section
variable {K : Frag} {n : Nat} {env : Env} {Γ : Lc} {O : Option (String × OV)}
theorem Ex.retTo {e : PySem.Expr} {a d : V} {pos : Pos} {ss : List Stmt} (h : Ev prog w K n env Γ e a) (q : a = d) : Ex prog w K n env Γ O (.Return (some e) pos :: ss) (.ret d) := Ex.stop (Ex1.ret (EvO.ev (h.to q)))
theorem Ex.asgE {x : String} {p pos : Pos} {e : PySem.Expr} {d : V} {ss : List Stmt} {out : Out} (h : Ev prog w K n env Γ e d) (hk : env.kindOf (Str.ofString x) = some .local) (hs : Ex prog w K n env ((x, d) :: Γ) none ss out)
    (hd : (Str.ofString x == ("__debug__" : Str)) = false := by decide +kernel) (hw : swapsWith e (some (.Name (Str.ofString x) p)) pos.line env = pure false := by rfl) : Ex prog w K n env Γ none (.Assign [.Name (Str.ofString x) p] e pos :: ss) out :=
  Ex.next (Ex1.asg (EvO.ev h) hk (by intro y o h; cases h) hd hw) hs
theorem Ex.ifcE {t : PySem.Expr} {bs os ss : List Stmt} {pos : Pos} {b : Bool} {out : Out} (ht : EvT prog w K n env Γ t b) (hb : b = true → Ex prog w K n env Γ O (bs ++ ss) out) (ho : b = false → Ex prog w K n env Γ O (os ++ ss) out) : Ex prog w K n env Γ O (.If t bs os pos :: ss) out := Ex.ifc (EvTO.ev ht) hb ho
theorem Ex.ifTE {t : PySem.Expr} {bs os ss : List Stmt} {pos : Pos} {b : Bool} {out : Out} (ht : EvT prog w K n env Γ t b) (q : b = true) (hb : Ex prog w K n env Γ O (bs ++ ss) out) : Ex prog w K n env Γ O (.If t bs os pos :: ss) out := Ex.ifT (EvTO.ev (ht.to q)) hb
theorem Ex.ifFE {t : PySem.Expr} {bs os ss : List Stmt} {pos : Pos} {b : Bool} {out : Out} (ht : EvT prog w K n env Γ t b) (q : b = false) (ho : Ex prog w K n env Γ O (os ++ ss) out) : Ex prog w K n env Γ O (.If t bs os pos :: ss) out := Ex.ifF (EvTO.ev (ht.to q)) ho
end
end
section
variable {prog : Program} {w : World}
noncomputable abbrev bm59 : List Value := [.ref 46, .type "Exception", .type "BaseException", .type "object"]
noncomputable abbrev o59 : Obj := excClassObj (Str.ofString "OperandError") (Str.ofString "OperandError") 59 58 [.ref 46] bm59 true [] [] false none none (some (.ref 50)) none (some (.str (Str.ofString "OperandError") 234)) (some (.str (Str.ofString "OperandError") 242)) (some (.bool true)) "Exception.__new__"
theorem c59 (w : World) : (KK w).lookup 59 = some o59 := by kernel_rfl
section
variable {A : Around} {E : Value → Shared → Prop} {h : Heap} {g : Array GenState} {d : Drawn} {t : Nat} {os : OsState}
theorem x_check_new {M : Model} {rest : List Value} {Q : Unit → Shared → Prop} (hC : h.get? 59 = some o59) (hq : Q () ⟨h, g, d, t, os⟩) : wpAny M A (checkBuiltinCall "Exception.__new__" ⟨.ref 59 :: rest, []⟩) Q E ⟨h, g, d, t, os⟩ := by
  have F := PySem.F.excBase_Exception
  have hcont : (Value.ref 59 :: bm59).contains (.type "Exception") = true := by decide +kernel
  have hstar := F.noStar
  simp only [checkBuiltinCall, F.newKind, F.newSplit, F.newRow]
  repeat (first | refine wpAny_loadPart_at hC ?_ | (refine wpAny_isSubtype_exc hC ?_; rw [hcont]) | refine wpAny_staticBase_exc hC ?_ | refine wpAny_madeBy_exc hC ?_ | simp only [bne_self_eq_false, Bool.false_eq_true, if_false] | wp_step)
  exact hq
theorem x_new {R : Result → Shared → Prop} {rest : List Value} (hC : h.get? 59 = some o59)
    (hq : R (.ok (.ret (.ref (h.objs.size + 1)))) ⟨(h.push { cls := .type "tuple", data := .seq rest.toArray }).push
      { cls := .ref 59, data := .fields #[.ref h.objs.size, .none, .none, .none, .bool false, .none] }, g, d, t, os⟩) (hrest : rest.length ≤ sizeLine) :
    codeAny (model prog w) A (.builtin "Exception.__new__" ⟨.ref 59 :: rest, []⟩) R ⟨h, g, d, t, os⟩ := by
  have F := PySem.F.excBase_Exception
  have hends := F.ends
  have hcB : (Value.ref 59 :: bm59).contains (.type "Exception") = true := by decide +kernel
  have hcA : (Value.ref 59 :: bm59).contains (.type "AttributeError") = false := by decide +kernel
  have hcN : (Value.ref 59 :: bm59).contains (.type "NameError") = false := by decide +kernel
  refine codeAny_builtinAt F.entry ?_
  unfold Builtin.«BaseException.__new__»
  refine PySem.wpAt_bind ?_
  show PySem.wpAt _ _ _ (stack >>= _) _ _ _
  refine PySem.wpAt_bind (PySem.wpAt_stack fun p below => PySem.wpAt_of_wpAny ?_)
  wp_walk
  refine PySem.wpAt_of_wpAny ?_
  rw [F.owner]
  repeat (first | with_reducible refine wpAny_madeHere_exc F.canon hC ?_ | with_reducible refine wpAny_loadPart_at hC ?_ | (with_reducible refine wpAny_isSubtype_exc hC ?_; first | rw [hcB] | rw [hcA] | rw [hcN]) | wp_step)
  show R _ _
  rw [Heap.size_push]
  exact hq
theorem x_check_init {M : Model} {e : Addr} {oe : Obj} {rest : List Value} {Q : Unit → Shared → Prop} (hC : h.get? 59 = some o59) (he : h.get? e = some oe) (hcls : oe.cls = .ref 59) (hq : Q () ⟨h, g, d, t, os⟩) :
    wpAny M A (checkBuiltinCall "Exception.__init__" ⟨.ref e :: rest, []⟩) Q E ⟨h, g, d, t, os⟩ := by
  have F := PySem.F.excBase_Exception
  have hcB : (Value.ref 59 :: bm59).contains (.type "Exception") = true := by decide +kernel
  have hshort := F.noStar
  simp only [checkBuiltinCall, F.initKind, F.initSplit, F.initRow]
  repeat (first | (with_reducible refine wpAny_loadPart_at he ?_; rw [hcls]) | with_reducible refine wpAny_loadPart_at hC ?_ | (with_reducible refine wpAny_isSubtype_exc hC ?_; rw [hcB]) | wp_step)
  refine wpAny_onRaise ?_
  rw [show ∀ (a b : String) (n : Nat), Bind.check ⟨.positional, "*", "Exception", .self, [⟨"args", .varPos, false⟩]⟩ a b n (List.map (fun x => x.fst) ({ pos := Value.ref e :: rest } : Args).kw) = pure () from
    fun a b n => check_star_args _ _ _ _ _ _]
  exact wpAny_pure hq
noncomputable abbrev xTup (rest : List Value) : Obj := { cls := .type "tuple", data := .seq rest.toArray }
noncomputable abbrev xObj (a : Addr) : Obj := { cls := .ref 59, data := .fields #[.ref a, .none, .none, .none, .bool false, .none] }
/-- the making of the exception, up to its __init__ -/
theorem x_type_call {rest : List Value} {Q : Fin → Shared → Prop} (X : (KK w).In h) 
    (hq : wpAny (model prog w) A (call (.ref 36) (.ref (h.objs.size + 1) :: rest)) (fun r s' => r = .none ∧ Q (.done (.ret (.ref (h.objs.size + 1)))) s') E ⟨(h.push (xTup rest)).push (xObj h.objs.size), g, d, t, os⟩) (hrest : rest.length ≤ sizeLine) :
    wpAny (model prog w) A (Builtin.«type.__call__» ⟨.ref 59 :: rest, []⟩) Q E ⟨h, g, d, t, os⟩ := by
  have F := PySem.F.excBase_Exception
  have hC := X _ _ (c59 w)
  repeat (first | with_reducible refine wpAny_loadPart_at hC ?_ | with_reducible refine wpAny_madeBy_exc hC ?_ | wp_step)
  refine codeAny_call_builtin_code (Code.quiet_builtin _ F.quiet) (x_check_new hC ?_)
  refine x_new hC ?_ hrest
  show wpAny _ _ _ _ _ _
  have X₁ : (KK w).In ((h.push (xTup rest)).push (xObj h.objs.size)) := fun a o e => Heap.get?_push_of_some _ (Heap.get?_push_of_some _ (X a o e))
  have hC₁ := X₁ _ _ (c59 w)
  have hget : ((h.push (xTup rest)).push (xObj h.objs.size)).get? (h.objs.size + 1) = some (xObj h.objs.size) := by heap_get
  have hcC : (Value.ref 59 :: bm59).contains (.ref 59) = true := by decide +kernel
  unfold isInstance
  repeat (first | with_reducible refine wpAny_loadPart_at hget ?_ | (with_reducible refine wpAny_isSubtype_exc hC₁ ?_; rw [hcC]) | wp_step)
  have hi : findIn (KK w) (.ref 59) "__init__" = some (some (.ref 36)) := by kernel_rfl
  have hf : typeIn (KK w) (.ref 36) = some (.type "function") := by kernel_rfl
  refine (looks_findIn X₁ hi).here ?_
  refine wpAny_holding (wpAny_bind ((bind_fn X₁ _ hf).here (wpAny_bind (wpAny_mono hq (fun r s' z => ?_) fun _ _ z => z))))
  obtain ⟨rfl, z⟩ := z
  exact wpAny_pure (wpAny_pure z)
theorem x_call {rest : List Value} {Q : Value → Shared → Prop} (X : (KK w).In h)
    (hq : wpAny (model prog w) (A.under (.builtin "type.__call__" ⟨.ref 59 :: rest, []⟩)) (call (.ref 36) (.ref (h.objs.size + 1) :: rest)) (fun r s' => r = .none ∧ Q (.ref (h.objs.size + 1)) s') E ⟨(h.push (xTup rest)).push (xObj h.objs.size), g, d, t, os⟩) (hrest : rest.length ≤ sizeLine) :
    wpAny (model prog w) A (call (.ref 59) rest) Q E ⟨h, g, d, t, os⟩ := by
  have hC := X _ _ (c59 w)
  have f1 := tc_lookup
  have f2 := tc_bind (.ref 59)
  have hT : (⟨h, g, d, t, os⟩ : Shared).TypeIs (.ref 59) "type" := ⟨_, hC, rfl⟩
  refine wpAny_call (codeAny_of_tree ?_)
  show wpAny _ _ (callAny (.ref 59) _) _ _ _
  repeat (any_goals (first | assumption | with_reducible refine wpAny_loadPart_at hC ?_ | wp_step))
  refine ⟨rfl, ?_⟩
  refine codeAny_call_builtin_at (Code.quiet_builtin _ (by decide +kernel)) entry_typeCall (wpAny_check_type_call_sub hC (x_type_call X ?_ hrest))
  exact hq
end
end
section
variable {prog : Program} {w : World}
section
open Builtin Builtin.ObjectAttr
theorem x_refuse (self : Value) : refuseLoop self "__setattr__" (.ref 59 :: bm59) = pure () := by
  rw [refuseLoop_ref, refuseLoop_ref]; exact PySem.F.store_Exception.passes self
theorem x_osa {A : Around} {R : Result → Shared → Prop} {s : Shared} {x : Addr} {ox : Obj} {od : Option Obj} {name : Str} {tk : Tok} {v : Value} (X : (KK w).In s.heap) (I : InstAt s.heap x ox 59 od) (hf : findIn (KK w) (.ref 59) name = some none)
    (h : ∀ b, wpAny (model prog w) A.in1 (storeInOwnDict (.ref x) (.ref 59) (.str name tk) name v b)
      (fun fin s' => match fin with | .done f => R (.ok f) s' | .again c' => c'.quiet = true ∧ codeAny (model prog w) A c' R s') (fun e s' => R (.error e) s') s) :
    codeAny (model prog w) A (.call (.builtin "object.__setattr__") ⟨[.ref x, .str name tk, v], []⟩) R s := by
  have SF := PySem.F.store_object
  have sub : Looks (model prog w) s.heap (isInstance (.ref x) (.type "object")) true := I.type.andThen (looks_mroIn X (by kernel_rfl))
  refine codeAny_call_builtin SF.slot.plain SF.entry (@check_slot (model prog w) _ _ s "object.__setattr__" "object" "__setattr__" (.ref x) [.str name tk, v] [] _ SF.kind SF.split sub (SF.args (.ref x) (.str name tk) v) ?_)
  have hm : Looks (model prog w) s.heap (mroOf (.ref 59)) (.ref 59 :: bm59) := (looks_clsIn X (by unfold clsIn; rw [c59 w])).andThen .now
  rw [osa_eq, refuse_eq]
  refine wpAny_bind (wpAny_bind (I.type.here (wpAny_bind (hm.here ?_))))
  rw [x_refuse]
  exact wpAny_pure (wpAny_bind (I.type.here (wpAny_bind ((looks_findIn X hf).here (wpAny_bind (wpAny_pure (h _)))))))
theorem x_has (w : World) : (clsIn (KK w) 59).map (·.hasDict) = some true := by kernel_rfl
/-- the first store -/
theorem x_store0 {A : Around} {E : Value → Shared → Prop} {Q : Unit → Shared → Prop} {h : Heap} {g : Array GenState} {d : Drawn} {t : Nat} {os : OsState} {x : Addr} {o : Obj} {fs : Array Value} {name : Str} {v : Value}
    (X : (KK w).In h) (hx : h.get? x = some o) (hc : o.cls = .ref 59) (hd : o.data = .fields fs) (hn : o.dict = none) (hs : findIn (KK w) (.ref 59) name = some none)
    (hq : ∀ h' tk, (∀ a o', a ≠ x → h.get? a = some o' → h'.get? a = some o') → h'.get? x = some { o with dict := some h.objs.size } → h'.Ns1 h.objs.size (fun y => if y = name then some v else none) → Q () ⟨h', g, d, tk, os⟩) :
    wpAny (model prog w) A (setAttr (.ref x) name v) Q E ⟨h, g, d, t, os⟩ := by
  obtain ⟨oc, odi, oda, osl⟩ := o
  dsimp only at hc hd hn
  subst hc hd hn
  have I : InstAt h x ⟨.ref 59, none, .fields fs, osl⟩ 59 none := ⟨hx, rfl, rfl, trivial⟩
  refine set_plain X I (by kernel_rfl) (x_osa (s := ⟨h, g, d, t + 1, os⟩) X I hs fun b => ?_)
  have hx₁ : (h.push { cls := .type "dict", data := .dict #[] }).get? x = some ⟨.ref 59, none, .fields fs, osl⟩ := Heap.get?_push_of_some _ hx
  have hxs : x ≠ h.objs.size := Nat.ne_of_lt (Heap.lt_size hx)
  obtain ⟨cd, hcd, hdict⟩ := Option.map_eq_some_iff.mp (x_has w)
  show wpAny _ _ (ownStreamTells _ _ >>= _) _ _ _
  refine wpAny_bind (wpAny_pure (wpAny_bind (wpAny_bind (wpAny_loadPart hx (wpAny_bind (looks_clsIn X hcd _ _ _ _ (fun _ _ e => e) ?_))))))
  rw [hdict]
  refine wpAny_bind (wpAny_alloc' (wpAny_bind (wpAny_update' hx₁ (wpAny_pure ?_))))
  have hgd : ((h.push { cls := .type "dict", data := .dict #[] }).update x fun o => { cls := o.cls, dict := some h.objs.size, data := o.data, slots := o.slots }).get? h.objs.size = some { cls := .type "dict", data := .dict #[] } :=
    (Heap.get?_update_ne _ _ _ _ hxs.symm).trans (Heap.get?_push_at rfl rfl)
  have hnd : ((h.push { cls := .type "dict", data := .dict #[] }).update x fun o => { cls := o.cls, dict := some h.objs.size, data := o.data, slots := o.slots }).Ns h.objs.size (fun _ => none) :=
    ⟨_, #[], _, hgd, rfl, fun e he => absurd he (by simp), fun _ => rfl⟩
  show wpAny _ _ (storeInDict h.objs.size (.str name _) name v) _ _ _
  unfold storeInDict newKeyGuard
  refine wpAny_bind (wpAny_pure (wpAny_bind (wpAny_nsSet1 (Heap.Ns1.of_empty hnd) fun h' hn' hs => ?_)))
  obtain ⟨oD, esD, epD, hoD, hdD, hcD⟩ := hn'.count (Within.cons name v Within.nil)
  refine wpAny_bind (wpAny_lookBehind hoD (by rw [hdD]; exact pastItsLine_dict (Nat.le_trans hcD (by rw [List.length_cons, List.length_nil, sizeLine_eq]; omega))) ?_)
  refine wpAny_pure (hq h' _ (fun a o' ha e => ?_) ?_ hn')
  · exact (hs.2 a (Nat.ne_of_lt (Heap.lt_size e))).trans ((Heap.get?_update_ne _ _ _ _ ha).trans (Heap.get?_push_of_some _ e))
  · exact (hs.2 x hxs).trans (Heap.get?_update_self _ hx₁ rfl)
/-- the next store -/
theorem x_store1 {A : Around} {E : Value → Shared → Prop} {Q : Unit → Shared → Prop} {h : Heap} {g : Array GenState} {d : Drawn} {t : Nat} {os : OsState} {x dx : Addr} {o : Obj} {fs : Array Value} {name : Str} {v : Value} {mA : Str → Option Value} {ns : List Str}
    (X : (KK w).In h) (hx : h.get? x = some o) (hc : o.cls = .ref 59) (hd : o.data = .fields fs) (hn : o.dict = some dx) (hD : h.Ns1 dx mA) (hw : Within mA ns) (hz : ns.length ≤ 100) (hs : findIn (KK w) (.ref 59) name = some none)
    (hq : ∀ h' tk, (∀ a o', a ≠ dx → h.get? a = some o' → h'.get? a = some o') → Q () ⟨h', g, d, tk, os⟩) :
    wpAny (model prog w) A (setAttr (.ref x) name v) Q E ⟨h, g, d, t, os⟩ := by
  obtain ⟨oc, odi, oda, osl⟩ := o
  dsimp only at hc hd hn
  subst hc hd hn
  obtain ⟨oD, es, ep, e1, e2⟩ := id hD
  have I : InstAt h x ⟨.ref 59, some dx, .fields fs, osl⟩ 59 (some oD) := ⟨hx, rfl, rfl, e1⟩
  refine set_plain X I (by kernel_rfl) (x_osa (s := ⟨h, g, d, t + 1, os⟩) X I hs fun b => ?_)
  obtain ⟨cd, hcd, hdict⟩ := Option.map_eq_some_iff.mp (x_has w)
  show wpAny _ _ (ownStreamTells _ _ >>= _) _ _ _
  refine wpAny_bind (wpAny_pure (wpAny_bind (wpAny_bind (wpAny_loadPart hx (wpAny_bind (looks_clsIn X hcd _ _ _ _ (fun _ _ e => e) ?_))))))
  rw [hdict]
  refine wpAny_pure ?_
  show wpAny _ _ (storeInDict dx (.str name _) name v) _ _ _
  unfold storeInDict newKeyGuard
  refine wpAny_bind (wpAny_pure (wpAny_bind (wpAny_nsSet1 hD fun h' hn' hs => ?_)))
  obtain ⟨oD', esD, epD, hoD, hdD, hcD⟩ := hn'.count (Within.cons name v hw)
  refine wpAny_bind (wpAny_lookBehind hoD (by rw [hdD]; exact pastItsLine_dict (Nat.le_trans hcD (by rw [List.length_cons, sizeLine_eq]; omega))) ?_)
  exact wpAny_pure (hq h' _ (fun a o' ha e => (hs.2 a ha).trans e))
end
end
section
variable {prog : Program} {w : World}
noncomputable def V.simple : V → Bool
  | .none | .bool _ | .int _ | .str _ | .bts _ | .glob _ => true
  | _ => false
theorem Rp.simple {X Y : List Addr} {h h' : Heap} {d : V} {v : Value} (hs : d.simple = true) (r : Rp X h d v) : Rp Y h' d v := by
  cases d <;> first | (simp only [Rp] at r ⊢; exact r) | (simp [V.simple] at hs)
section
variable {K : Frag} {X₀ X : List Addr} {m : Str → Option Value} {b h h' : Heap} {env : Env} {Γ : Lc}
theorem SOk.but {fp : List Addr} (S : SOk K X₀ X m b env Γ none h) (hs : ∀ x d, Γ.lookup x = some d → d.simple = true) (k : ∀ a o, a ∉ fp → h.get? a = some o → h'.get? a = some o) (hf : ∀ a ∈ fp, a ∉ X ∧ b.get? a = none) : SOk K X₀ X m b env Γ none h' := by
  have kX : ∀ a o, a ∈ X → h.get? a = some o → h'.get? a = some o := fun a o ha e => k a o (fun z => (hf a z).1 ha) e
  refine ⟨S.ok, S.cx, S.sup, S.new, fun a ha => ?_, S.lin, S.lnew, fun a o e => ?_, ?_, fun y d e => ?_, fun y o e => (by cases e), S.cel.of fun c v hc ho => ?_⟩
  · obtain ⟨o, ho⟩ := Option.isSome_iff_exists.mp (S.liv a ha)
    rw [kX a o ha ho]; rfl
  · have z : a ∉ fp := fun z => by rw [(hf a z).2] at e; cases e
    obtain ⟨⟨sl, e1⟩, k1⟩ := S.le a o e
    exact ⟨⟨sl, k a _ z e1⟩, fun hX => k a _ z (k1 hX)⟩
  · obtain ⟨o, es, ep, ho, r⟩ := S.ns
    exact ⟨o, es, ep, kX _ _ S.lin ho, r⟩
  · obtain ⟨q, v, r, sl⟩ := S.vars y d e
    exact ⟨q, v, r.simple (hs y d e), sl.imp id fun ⟨q1, c, hc, hX, o, ho, hd⟩ => ⟨q1, c, hc, hX, o, kX _ _ hX ho, hd⟩⟩
  · obtain ⟨o, ho, hd⟩ := ho
    exact ⟨v, o, kX _ _ hc ho, hd⟩
end
theorem method_ty {A : Around} {E : Value → Shared → Prop} {s : Shared} {pl : Sem Bool} {Q : Value × List Value → Shared → Prop} (X : (KK w).In s.heap) (h : Q (.builtin "Exception.__init__", []) { s with toks := s.toks + 1 }) :
    wpAny (model prog w) A (getMethod (.type "Exception") "__init__" pl) Q E s := by
  have L0 : Looks (model prog w) s.heap (typeOf (.type "Exception")) (.type "type") := Looks.of_pure (kitMeta_of (by kernel_rfl))
  have hga : findIn (KK w) (.type "type") "__getattribute__" = some (some (.builtin "type.__getattribute__")) := by kernel_rfl
  have L1 : Looks (model prog w) s.heap (specialOf (.type "Exception") "__getattribute__") (some (.builtin "type.__getattribute__")) := L0.andThen (looks_findIn X hga)
  unfold getMethod
  refine wpAny_bind (L1.here ?_)
  dsimp only
  rw [if_pos canon_tga]
  have hstub : opaqueClassAbove (.type "Exception") = pure none := by unfold opaqueClassAbove; dsimp only; rw [show Manifest.isStub "Exception" = false by decide +kernel]; rfl
  refine wpAny_bind ?_
  refine cls_open (mc := .type "type") (hook := none) X (Looks.of_pure hstub) L0 hga (looks_hook X (by rfl)) (by kernel_rfl) (show findCls (KK w) (.type "Exception") (.type "type") "__init__" = some (.val (.builtin "Exception.__init__")) by kernel_rfl) ?_
  exact wpAny_pure (handed_on rfl (wpAny_pure h))
theorem x_enter {f e : Addr} {oc : Value} {od : Option Addr} {osl : Array (Option Value)} {fd : FuncData} {body : List Stmt} {ps : List String} {ds : List V} {vs vs0 : List Value} {n : Nat} {X : List Addr} {A : Around} {s : Shared} {Q : Value → Shared → Prop} {E : Value → Shared → Prop}
    (hK : (KK w).lookup f = some ⟨oc, od, .func fd, osl⟩) (hb : fd.body = .stmts body) (hc : codeIn (KK w) fd.code fd.qualname = true) (hg : fd.globals = mainGlobals) (hbu : fd.builtins = builtinsNs)
    (hlen : ps.length = vs.length) (hnd : ps.Nodup) (hbind : (KK w).In s.heap → BindsTo s fd ⟨vs0, []⟩ (zipS ps vs))
    (hcell : ∀ x ∈ fd.scope.names, x.2 ≠ .cell) (hloc : ∀ x ∈ ps, (Str.ofString x == ("__debug__" : Str)) = false ∧ fd.scope.names.lookup (Str.ofString x) = some .local)
    (c : Cx (KK w) X (s.heap.hide e)) (a : AOk (n + 1) X A (s.heap.hide e)) (r : RpL X s.heap ds vs) (hs : ∀ d ∈ ds, d.simple = true)
    (hx : ∀ m h₁ tk, (∀ a o, s.heap.get? a = some o → h₁.get? a = some o) → AOb n X (s.heap.hide e) (callEnv fd s.heap.objs.size f) (A.deeper (callEnv fd s.heap.objs.size f)) →
      SOk (KK w) X (s.heap.objs.size :: X) m (s.heap.hide e) (callEnv fd s.heap.objs.size f) (ps.zip ds) none h₁ →
      ∀ E', wpAny (model prog w) (A.deeper (callEnv fd s.heap.objs.size f)) (execs body (callEnv fd s.heap.objs.size f)) (fun fl s' => Q (match fl with | .ret v => v | _ => .none) s') E' ⟨h₁, s.gens, s.drawn, tk, s.os⟩)
    (h1 : fd.scope.isCoroutine = false := by rfl) (h2 : fd.scope.isGenerator = false := by rfl) (h3 : fd.scope.kind = .function := by rfl) : wpAny (model prog w) A (call (.ref f) vs0) Q E s := by
  have ki : (KK w).In s.heap := fun a o q => Heap.of_hide (c.ki a o q)
  have lim : s.heap.NoLimit := by
    obtain ⟨mc, ⟨o, es, ep, ho, rr⟩, q⟩ := c.lim
    exact ⟨mc, ⟨o, es, ep, Heap.of_hide ho, rr⟩, q⟩
  have hcl : (callEnv fd s.heap.objs.size f).locals = s.heap.objs.size := rfl
  have hzl : (ps.map Str.ofString).length = vs.length := by rw [List.length_map, hlen]
  refine wpAny_call (codeAny_call_def (binds := zipS ps vs) a.dp (ki f _ hK) rfl lim (codeRec_of ki hc) hb (hbind ki) hcell (fun y hy => ?_) (fun h₁ hns hkeep => ?_) h1 h2 h3)
  · have := (List.of_mem_zip hy).1
    obtain ⟨z, hz, q⟩ := List.mem_map.mp this
    rw [← q]
    exact (hloc z hz).2
  have hnone : s.heap.get? s.heap.objs.size = none := Heap.get?_none_of_le (Nat.le_refl _)
  have hnoneb : (s.heap.hide e).get? s.heap.objs.size = none := by
    cases q : (s.heap.hide e).get? s.heap.objs.size with
    | none => rfl
    | some o => have := Heap.of_hide q; rw [hnone] at this; cases this
  have hnd' : ((zipS ps vs).map (·.1)).Nodup := by rw [zip_fst hzl]; exact map_nodup hnd
  have S : SOk (KK w) X (s.heap.objs.size :: X) (fun y => (zipS ps vs).reverse.lookup y) (s.heap.hide e) (callEnv fd s.heap.objs.size f) (ps.zip ds) none h₁ := by
    refine ⟨⟨h3, hg, hbu⟩, c, fun a ha => by simp [ha], fun a ha => ?_, fun a ha => ?_, by rw [hcl]; simp, hnoneb, Le.of_stays fun a o q => hkeep a o (Heap.of_hide q), hns, fun y d q => ?_, fun y o q => (by cases q), fun y c hk _ => absurd rfl (hcell _ (lookup_mem hk)), fun y z c hk _ _ => absurd rfl (hcell _ (lookup_mem hk))⟩
    · rcases List.mem_cons.mp ha with rfl | ha
      · exact .inr hnoneb
      · exact .inl ha
    · rcases List.mem_cons.mp ha with rfl | ha
      · obtain ⟨o, _, _, ho, _⟩ := hns
        rw [ho]; rfl
      · obtain ⟨o, ho⟩ := Option.isSome_iff_exists.mp (c.liv a ha)
        rw [hkeep a o (Heap.of_hide ho)]; rfl
    · obtain ⟨v, hm, rv⟩ := zip_find r q
      obtain ⟨y', hy', ey⟩ := List.mem_map.mp (List.of_mem_zip hm).1
      have eyy : y' = y := ofString_inj ey
      subst eyy
      have hd : d ∈ ds := (List.of_mem_zip (lookup_mem q)).2
      exact ⟨(hloc y' hy').1, v, rv.simple (hs d hd), .inl ⟨(hloc y' hy').2, lookup_rev hnd' hm⟩⟩
  exact hx _ h₁ _ hkeep (AOk.body (env := callEnv fd s.heap.objs.size f) a h3 rfl) S _
end
section
variable {prog : Program} {w : World}
theorem bi_run {A : Around} {E : Value → Shared → Prop} {Q : Value → Shared → Prop} {h : Heap} {g : Array GenState} {d : Drawn} {t : Nat} {os : OsState} {e : Addr} {o : Obj} {a0 : Addr} {v : Value} (X : (KK w).In h) (he : h.get? e = some o) (hc : o.cls = .ref 59) (hd : o.data = .fields #[.ref a0, .none, .none, .none, .bool false, .none])
    (hq : ∀ h' tk, (∀ a o', a ≠ e → h.get? a = some o' → h'.get? a = some o') → h'.get? e = some { o with data := .fields #[.ref h.objs.size, .none, .none, .none, .bool false, .none] } → Q .none ⟨h', g, d, tk, os⟩) :
    wpAny (model prog w) A (call (.builtin "Exception.__init__") [.ref e, v]) Q E ⟨h, g, d, t, os⟩ := by
  have F := PySem.F.excBase_Exception
  obtain ⟨oc, odi, oda, osl⟩ := o
  dsimp only at hc hd
  subst hc hd
  refine wpAny_call (codeAny_call_builtin F.init.plain F.initEntry (x_check_init (X _ _ (c59 w)) he rfl ?_))
  wp_walk
  refine hq _ _ (fun a o' ha e' => (Heap.get?_update_other _ _ (Ne.symm ha)).trans (Heap.get?_push_of_some _ e')) ?_
  exact Heap.get?_update_self _ (Heap.get?_push_of_some _ he) rfl
section
variable {n : Nat} {env : Env} {Γ : Lc} {X₀ X : List Addr} {m : Str → Option Value} {b : Heap} {A : Around} {s : Shared} {Q : Flow → Shared → Prop} {E : Value → Shared → Prop} {e : Addr} {o : Obj}
/-- «Exception.__init__(self, what)» -/
theorem x_st1 {xs : Str} {a0 : Addr} {bp ap sp wp pos p2 : Pos} (B : AOb n X₀ b env A) (S : SOk (KK w) X₀ X m b env Γ none s.heap) (hsim : ∀ x d, Γ.lookup x = some d → d.simple = true) (h1 : Γ.lookup "self" = some (.glob (.ref e))) (h2 : Γ.lookup "what" = some (.str xs))
    (hk : env.kindOf (Str.ofString "Exception") = some .globalImplicit) (heX : e ∉ X) (heb : b.get? e = none) (he : s.heap.get? e = some o) (hc : o.cls = .ref 59) (hd : o.data = .fields #[.ref a0, .none, .none, .none, .bool false, .none]) (hl : (ap.endLine == pos.line) = true)
    (hi : interactive env = false) (hsw : swapsWith (.Call (.Attribute (.Name (Str.ofString "Exception") bp) "__init__" ap) [.Name (Str.ofString "self") sp, .Name (Str.ofString "what") wp] [] pos) none p2.line env = pure false)
    (q : ∀ h' tk a1, SOk (KK w) X₀ X m b env Γ none h' → h'.get? e = some { o with data := .fields #[.ref a1, .none, .none, .none, .bool false, .none] } → Q .next ⟨h', s.gens, s.drawn, tk, s.os⟩) :
    wpAny (model prog w) A (exec (.Expr (.Call (.Attribute (.Name (Str.ofString "Exception") bp) "__init__" ap) [.Name (Str.ofString "self") sp, .Name (Str.ofString "what") wp] [] pos) p2) env) Q E s := by
  have hse : starEach [.Name (Str.ofString "self") sp, .Name (Str.ofString "what") wp] env = [(false, eval (.Name (Str.ofString "self") sp) env), (false, eval (.Name (Str.ofString "what") wp) env)] := rfl
  refine wpAny_Expr ?_ hi hsw
  rw [arm_eval_Call]
  refine wpAny_bind ((Ev.bltn (x := "Exception") (v := .type "Exception") hk (by kernel_rfl) (by kernel_rfl) : Ev prog w (KK w) n env Γ (.Name (Str.ofString "Exception") bp) _) _ _ _ _ _ S.cxX (B.aok S) S.lok fun v h2 tk2 k2 r2 => wpAny_bind (wpAny_standAt ?_))
  simp only [Rp] at r2
  subst r2
  have S2 := S.step k2
  have he2 := k2.get he heX
  unfold methodCall
  have hf : methodCallForm ([Expr.Name (Str.ofString "self") sp, Expr.Name (Str.ofString "what") wp].length + ([] : List Keyword).length) (backTo pos (starEach [.Name (Str.ofString "self") sp, .Name (Str.ofString "what") wp] env)) (backToKw pos (keywordEach [] env)) = true := by rw [hse]; rfl
  rw [hf]
  refine wpAny_bind (wpAny_holding ?_)
  refine method_ty (s := ⟨h2, s.gens, s.drawn, tk2, s.os⟩) S2.cxX.ki ?_
  unfold methodCallPos
  rw [hl]
  refine wpAny_bind (wpAny_pure ?_)
  refine callWith_B (first := []) rfl ?_ rfl rfl
  refine (EvL.cons (Ev.name h1) (EvL.cons (Ev.name ‹Γ.lookup "what" = some (.str xs)›) EvL.nil rfl) rfl : EvL prog w (KK w) n env Γ [.Name (Str.ofString "self") sp, .Name (Str.ofString "what") wp] _) _ _ _ _ _ _ S2.cxX (B.aok S2) S2.lok fun vs h3 tk3 k3 r3 => ?_
  obtain ⟨v1, v2, rfl, q1, q2⟩ := r3.two
  simp only [Rp] at q1
  subst q1
  have S3 := S2.step k3
  have he3 := k3.get he2 heX
  refine bi_run S3.cxX.ki he3 hc hd fun h4 tk4 k4 he4 => ?_
  exact q _ _ _ (S3.but (fp := [e]) hsim (fun a o' ha q => k4 a o' (fun z => ha (by simp [z])) q) (fun a ha => by simp only [List.mem_singleton] at ha; subst ha; exact ⟨heX, heb⟩)) he4
/-- the first «self.x = v» -/
theorem x_st2 {y : String} {d : V} {ev : PySem.Expr} {fs : Array Value} {sp ap pos : Pos} (B : AOb n X₀ b env A) (S : SOk (KK w) X₀ X m b env Γ none s.heap) (hsim : ∀ x d, Γ.lookup x = some d → d.simple = true) (h1 : Γ.lookup "self" = some (.glob (.ref e)))
    (hv : Ev prog w (KK w) n env Γ ev d) (heX : e ∉ X) (heb : b.get? e = none) (he : s.heap.get? e = some o) (hc : o.cls = .ref 59) (hd : o.data = .fields fs) (hn : o.dict = none) (hy : findIn (KK w) (.ref 59) (Str.ofString y) = some none)
    (hs : swapsWith ev (some (.Attribute (.Name (Str.ofString "self") sp) (Str.ofString y) ap)) pos.line env = pure false)
    (q : ∀ h' tk dx v, SOk (KK w) X₀ X m b env Γ none h' → h'.get? e = some { o with dict := some dx } → h'.Ns1 dx (fun z => if z = Str.ofString y then some v else none) → dx ∉ X → b.get? dx = none → dx ≠ e → Q .next ⟨h', s.gens, s.drawn, tk, s.os⟩) :
    wpAny (model prog w) A (exec (.Assign [.Attribute (.Name (Str.ofString "self") sp) (Str.ofString y) ap] ev pos) env) Q E s := by
  refine plainObj_wpAny_Assign_Attribute (hv X A s _ E S.cxX (B.aok S) S.lok fun v h2 tk2 k2 r2 => ?_) hs
  have S2 := S.step k2
  have he2 := k2.get he heX
  refine (Ev.name h1 : Ev prog w (KK w) n env Γ (.Name (Str.ofString "self") sp) _) _ _ _ _ _ S2.cxX (B.aok S2) S2.lok fun v1 h3 tk3 k3 r3 => ?_
  simp only [Rp] at r3
  subst r3
  have S3 := S2.step k3
  have he3 := k3.get he2 heX
  have hD : h3.get? h3.objs.size = none := Heap.get?_none_of_le (Nat.le_refl _)
  refine x_store0 S3.cxX.ki he3 hc hd hn hy fun h4 tk4 k4 he4 hns => ?_
  exact q _ _ _ _ (S3.but (fp := [e]) hsim (fun a o' ha q => k4 a o' (fun z => ha (by simp [z])) q) (fun a ha => by simp only [List.mem_singleton] at ha; subst ha; exact ⟨heX, heb⟩)) he4 hns (S3.cxX.nx hD) (S3.le.gone hD) (fun z => by rw [z, he3] at hD; cases hD)
/-- the next -/
theorem x_st3 {y : String} {d : V} {ev : PySem.Expr} {fs : Array Value} {sp ap pos : Pos} {dx : Addr} {mA : Str → Option Value} {ns : List Str} (B : AOb n X₀ b env A) (S : SOk (KK w) X₀ X m b env Γ none s.heap) (hsim : ∀ x d, Γ.lookup x = some d → d.simple = true) (h1 : Γ.lookup "self" = some (.glob (.ref e)))
    (hv : Ev prog w (KK w) n env Γ ev d) (heX : e ∉ X) (he : s.heap.get? e = some o) (hc : o.cls = .ref 59) (hd : o.data = .fields fs) (hn : o.dict = some dx) (hD : s.heap.Ns1 dx mA) (hw : Within mA ns) (hz : ns.length ≤ 100) (hdX : dx ∉ X) (hdb : b.get? dx = none) (hde : dx ≠ e) (hy : findIn (KK w) (.ref 59) (Str.ofString y) = some none)
    (hs : swapsWith ev (some (.Attribute (.Name (Str.ofString "self") sp) (Str.ofString y) ap)) pos.line env = pure false)
    (q : ∀ h' tk, SOk (KK w) X₀ X m b env Γ none h' → h'.get? e = some o → Q .next ⟨h', s.gens, s.drawn, tk, s.os⟩) :
    wpAny (model prog w) A (exec (.Assign [.Attribute (.Name (Str.ofString "self") sp) (Str.ofString y) ap] ev pos) env) Q E s := by
  refine plainObj_wpAny_Assign_Attribute (hv X A s _ E S.cxX (B.aok S) S.lok fun v h2 tk2 k2 r2 => ?_) hs
  have S2 := S.step k2
  have he2 := k2.get he heX
  refine (Ev.name h1 : Ev prog w (KK w) n env Γ (.Name (Str.ofString "self") sp) _) _ _ _ _ _ S2.cxX (B.aok S2) S2.lok fun v1 h3 tk3 k3 r3 => ?_
  simp only [Rp] at r3
  subst r3
  have S3 := S2.step k3
  have he3 := k3.get he2 heX
  have hD3 := (hD.at fun o ho => k2.get ho hdX).at fun o ho => k3.get ho hdX
  refine x_store1 S3.cxX.ki he3 hc hd hn hD3 hw hz hy fun h4 tk4 k4 => ?_
  exact q _ _ (S3.but (fp := [dx]) hsim (fun a o' ha q => k4 a o' (fun z => ha (by simp [z])) q) (fun a ha => by simp only [List.mem_singleton] at ha; subst ha; exact ⟨hdX, hdb⟩)) (k4 _ _ (Ne.symm hde) he3)
end
theorem x_init {n : Nat} {X : List Addr} {A : Around} {s : Shared} {e a0 : Addr} {xs : Str} {t0 : Tok} {Q : Value → Shared → Prop} {E : Value → Shared → Prop}
    (c : Cx (KK w) X (s.heap.hide e)) (a : AOk (n + 1) X A (s.heap.hide e)) (he : s.heap.get? e = some (xObj a0)) (heX : e ∉ X)
    (q : ∀ h' tk, Le X (s.heap.hide e) h' → (∃ o a1, h'.get? e = some o ∧ o.cls = .ref 59 ∧ o.data = .fields #[.ref a1, .none, .none, .none, .bool false, .none]) → Q .none ⟨h', s.gens, s.drawn, tk, s.os⟩) :
    wpAny (model prog w) A (call (.ref 36) [.ref e, .str xs t0]) Q E s := by
  refine x_enter (e := e) (ps := ["self", "what", "at"]) (ds := [.glob (.ref e), .str xs, .none]) (vs := [.ref e, .str xs t0, .none]) (by rfl) (by rfl) (by rfl) (by rfl) (by rfl) (by rfl) (by decide) (fun ki => kp_binds ki fun S => by rfl) (by decide +kernel)
    (by intro x hx; simp only [List.mem_cons, List.not_mem_nil, or_false] at hx; rcases hx with rfl | rfl | rfl <;> exact ⟨by decide +kernel, by rfl⟩) c a
    (.cons (by simp only [Rp]) (.cons Rp.str (.cons Rp.none .nil))) (by intro d hd; simp only [List.mem_cons, List.not_mem_nil, or_false] at hd; rcases hd with rfl | rfl | rfl <;> rfl) (fun m h₁ tk hk B S E' => ?_)
  have hL : e ≠ s.heap.objs.size := Nat.ne_of_lt (Heap.lt_size he)
  have heX' : e ∉ s.heap.objs.size :: X := fun z => by
    rcases List.mem_cons.mp z with z | z
    · exact hL z
    · exact heX z
  have heb : (s.heap.hide e).get? e = none := Heap.hide_self _ _
  have hsim : ∀ x d, (([("self", .glob (.ref e)), ("what", .str xs), ("at", .none)] : Lc)).lookup x = some d → d.simple = true := fun x d hd => by
    have := lookup_mem hd
    simp only [List.mem_cons, List.not_mem_nil, or_false] at this
    rcases this with z | z | z <;> cases z <;> rfl
  have he1 := hk _ _ he
  refine wpAny_execs_cons (x_st1 (s := ⟨h₁, s.gens, s.drawn, tk, s.os⟩) B S hsim rfl rfl (by rfl) heX' heb he1 rfl rfl (by rfl) (by rfl) (by rfl) fun h2 tk2 a2 S2 he2 => ?_)
  refine wpAny_execs_cons (x_st2 (s := ⟨h2, s.gens, s.drawn, tk2, s.os⟩) (y := "what") B S2 hsim rfl (Ev.name rfl) heX' heb he2 rfl rfl rfl (by kernel_rfl) (by rfl) fun h3 tk3 dx v3 S3 he3 hns hdX hdb hde => ?_)
  refine wpAny_execs_cons (x_st3 (s := ⟨h3, s.gens, s.drawn, tk3, s.os⟩) (y := "at") B S3 hsim rfl (Ev.name rfl) heX' he3 rfl rfl rfl hns (Within.cons _ _ Within.nil) (by simp) hdX hdb hde (by kernel_rfl) (by rfl) fun h4 tk4 S4 he4 => ?_)
  exact wpAny_execs_nil (q _ _ S4.le ⟨_, a2, he4, rfl, rfl⟩)
end
section
variable {prog : Program} {w : World}
/-- an exception just made -/
noncomputable def MadeX (e : Addr) (h : Heap) : Prop := ∃ o a1, h.get? e = some o ∧ o.cls = .ref 59 ∧ o.data = .fields #[.ref a1, .none, .none, .none, .bool false, .none]
theorem x_mk {n : Nat} {X : List Addr} {A : Around} {s : Shared} {xs : Str} {t0 : Tok} {Q : Value → Shared → Prop} {E : Value → Shared → Prop} (c : Cx (KK w) X s.heap) (a : AOk (n + 2) X A s.heap)
    (q : ∀ e h' tk, s.heap.get? e = none → Le X s.heap h' → MadeX e h' → Q (.ref e) ⟨h', s.gens, s.drawn, tk, s.os⟩) :
    wpAny (model prog w) A (call (.ref 59) [.str xs t0]) Q E s := by
  obtain ⟨h, g, d, t, os⟩ := s
  dsimp only at c a q
  have hn : h.get? (h.objs.size + 1) = none := Heap.get?_none_of_le (Nat.le_succ _)
  have st : ∀ a o, h.get? a = some o → (((h.push (xTup [.str xs t0])).push (xObj h.objs.size)).hide (h.objs.size + 1)).get? a = some o := fun a o e => by
    rw [Heap.hide_ne _ (fun z => by rw [z, hn] at e; cases e)]
    exact Heap.get?_push_of_some _ (Heap.get?_push_of_some _ e)
  have le : Le X h (((h.push (xTup [.str xs t0])).push (xObj h.objs.size)).hide (h.objs.size + 1)) := .of_stays st
  have hget : ((h.push (xTup [.str xs t0])).push (xObj h.objs.size)).get? (h.objs.size + 1) = some (xObj h.objs.size) := by heap_get
  refine x_call c.ki ?_ (by rw [List.length_singleton, sizeLine_eq]; omega)
  exact x_init (s := ⟨(h.push (xTup [.str xs t0])).push (xObj h.objs.size), g, d, t, os⟩) (c.le le) (a.make fun a o _ e => st a o e) hget (c.nx hn) fun h' tk k mk => ⟨rfl, q _ _ _ hn (le.trans k) mk⟩
theorem x_raiseStmt {M : Model} {A : Around} {E : Value → Shared → Prop} {s : Shared} {env : Env} {x : Sem Value} {Q : Flow → Shared → Prop} (hh : A.handled = none)
    (h : wpAny M A x (fun v s₁ => ∃ e, v = .ref e ∧ s₁.heap.get? 59 = some o59 ∧ MadeX e s₁.heap ∧ E (.ref e) s₁) E s) : wpAny M A (raiseStmt env (some x) none) Q E s := by
  have hcB : (Value.ref 59 :: bm59).contains (.type "BaseException") = true := by decide +kernel
  unfold raiseStmt
  refine wpAny_bind (wpAny_mono h (fun v s₁ h₁ => ?_) fun _ _ x => x)
  obtain ⟨e, rfl, hC, ⟨⟨oc, od, oda, osl⟩, a1, he, hc, hd⟩, hE⟩ := h₁
  dsimp only at hc hd
  subst hc hd
  obtain ⟨hp, g, d, tk, os⟩ := s₁
  repeat (first | with_reducible refine wpAny_loadPart_at he ?_ | with_reducible refine wpAny_loadPart_at hC ?_ | (with_reducible refine wpAny_isSubtype_exc hC ?_; rw [hcB]) | wp_step)
  exact wpAny_raiseNew_none hh hE
theorem x_raise {n : Nat} {env : Env} {Γ : Lc} {X : List Addr} {A : Around} {s : Shared} {Q : Flow → Shared → Prop} {E : Value → Shared → Prop} {xs : Str} {k : Nat} {np cp cpos pos : Pos}
    (c : Cx (KK w) X s.heap) (a : AOk (n + 2) X A s.heap) (l : LOk X env Γ s.heap) (hk : env.kindOf (Str.ofString "OperandError") = some .globalImplicit)
    (q : ∀ e h' tk, s.heap.get? e = none → Le X s.heap h' → MadeX e h' → E (.ref e) ⟨h', s.gens, s.drawn, tk, s.os⟩) :
    wpAny (model prog w) A (exec (.Raise (some (.Call (.Name (Str.ofString "OperandError") np) [.Constant (.str xs) k cp] [] cpos)) none pos) env) Q E s := by
  rw [arm_exec_Raise]
  simp only [evalOpt, Option.map]
  refine wpAny_bind (wpAny_standAt (x_raiseStmt a.hdl (wpAny_bind ?_)))
  refine wpAny_Call_NameR ((Ev.gl hk (by rfl) : Ev prog w (KK w) (n + 2) env Γ (.Name (Str.ofString "OperandError") np) (.glob (.ref 59))) X A s _ E c a l fun v h' tk k r => ?_)
  simp only [Rp] at r
  subst r
  refine callWith_K (h₀ := h') (c.le k).ki (kp_of (x := "OperandError") (by rfl)) ((EvL.cons Ev.cStr EvL.nil rfl : EvL prog w (KK w) (n + 2) env Γ [.Constant (.str xs) _ cp] [.str xs]) X A _ cpos _ E (c.le k) (a.le k) (l.le k) fun vs h2 tk2 k2 r2 => ⟨((c.le k).le k2).ki, ?_⟩) rfl rfl
  obtain ⟨v, rfl, r⟩ := r2.one
  simp only [Rp] at r
  obtain ⟨t0, rfl⟩ := r
  refine x_mk (s := ⟨h2, s.gens, s.drawn, tk2, s.os⟩) ((c.le k).le k2) ((a.le k).le k2) fun e h3 tk3 hn k3 mk => wpAny_bind (wpAny_standAt (wpAny_pure ?_))
  have kk := (k.trans k2)
  exact ⟨e, rfl, (((c.le kk).le k3).ki _ _ (c59 w)), mk, q _ _ _ (kk.gone hn) (kk.trans k3) mk⟩
end
section
variable {prog : Program} {w : World}
/-- an exception in flight, newer than b -/
noncomputable def Fly (b : Heap) (e : Addr) (h' : Heap) : Prop := b.get? e = none ∧ ∃ a0, h'.TracedW b e (.ref 59) a0
/-- all X₀ stand for no records -/
noncomputable def NoR (X₀ : List Addr) (b : Heap) : Prop := ∀ a ∈ X₀, ∃ o, b.get? a = some o ∧ ∀ vs, o.data ≠ .fields vs
/-- the frame at the head of the stack -/
structure Fr0 (X₀ : List Addr) (b : Heap) (env : Env) (A : Around) : Prop where
  frm : ∃ l, A.frames = some (env :: l) ∧ Frs X₀ b l
  frame : env.frame = some env.locals
  kind : env.scope.kind ≠ .module
  nor : NoR X₀ b
  new : b.get? env.locals = none
section
variable (prog : Program) (w : World)
noncomputable def EvR (n : Nat) (env : Env) (Γ : Lc) (e : PySem.Expr) : Prop :=
  ∀ (X : List Addr) (A : Around) (s : Shared) (Q : Value → Shared → Prop) (E : Value → Shared → Prop), Cx (KK w) X s.heap → AOk n X A s.heap → LOk X env Γ s.heap →
    (∀ e h' tk, Le X s.heap h' → Fly s.heap e h' → E (.ref e) ⟨h', s.gens, s.drawn, tk, s.os⟩) → wpAny (model prog w) A (eval e env) Q E s
noncomputable def CallsR (n : Nat) (f : Value) (ds : List V) : Prop :=
  ∀ (X : List Addr) (A : Around) (s : Shared) (vs : List Value) (Q : Value → Shared → Prop) (E : Value → Shared → Prop), Cx (KK w) X s.heap → AOk n X A s.heap → RpL X s.heap ds vs →
    (∀ e h' tk, Le X s.heap h' → Fly s.heap e h' → E (.ref e) ⟨h', s.gens, s.drawn, tk, s.os⟩) → wpAny (model prog w) A (call f vs) Q E s
/-- raised within a frame -/
noncomputable def Rz (X₀ : List Addr) (b : Heap) (env : Env) (e : Addr) (h' : Heap) : Prop :=
  Le X₀ b h' ∧ b.get? e = none ∧ (∃ o, h'.get? env.locals = some o ∧ ∀ vs, o.data ≠ .fields vs) ∧ (MadeX e h' ∨ ∃ a0, h'.TracedW b e (.ref 59) a0 ∨ h'.TracedAtW b e (.ref 59) a0 (rawInt env.locals))
noncomputable def Ex1R (n : Nat) (env : Env) (Γ : Lc) (O : Option (String × OV)) (st : Stmt) : Prop :=
  ∀ (X₀ X : List Addr) (m : Str → Option Value) (b : Heap) (A : Around) (s : Shared) (Q : Flow → Shared → Prop) (E : Value → Shared → Prop), Fr0 X₀ b env A → AOb n X₀ b env A → SOk (KK w) X₀ X m b env Γ O s.heap →
    (∀ e h' tk, Rz X₀ b env e h' → E (.ref e) ⟨h', s.gens, s.drawn, tk, s.os⟩) → wpAny (model prog w) A (exec st env) Q E s
noncomputable def ExR (n : Nat) (env : Env) (Γ : Lc) (O : Option (String × OV)) (ss : List Stmt) : Prop :=
  ∀ (X₀ X : List Addr) (m : Str → Option Value) (b : Heap) (A : Around) (s : Shared) (Q : Flow → Shared → Prop) (E : Value → Shared → Prop), Fr0 X₀ b env A → AOb n X₀ b env A → SOk (KK w) X₀ X m b env Γ O s.heap →
    (∀ e h' tk, Rz X₀ b env e h' → E (.ref e) ⟨h', s.gens, s.drawn, tk, s.os⟩) → wpAny (model prog w) A (execs ss env) Q E s
end
section
variable {n : Nat} {env : Env} {Γ : Lc} {O : Option (String × OV)}
theorem ExR.next {st : Stmt} {ss : List Stmt} {Γ' : Lc} {O' : Option (String × OV)} (h : Ex1 prog w (KK w) n env Γ O st (.next Γ' O')) (hs : ExR prog w n env Γ' O' ss) : ExR prog w n env Γ O (st :: ss) := fun X₀ X m b A s Q E F B S q =>
  wpAny_execs_cons (h X₀ X m b A s _ E B S fun fl h' tk ok => by
    obtain ⟨rfl, X', m', S'⟩ := ok
    exact hs X₀ X' m' b A _ Q E F B S' q)
theorem ExR.stop {st : Stmt} {ss : List Stmt} (h : Ex1R prog w n env Γ O st) : ExR prog w n env Γ O (st :: ss) := fun X₀ X m b A s Q E F B S q => wpAny_execs_cons (h X₀ X m b A s _ E F B S q)
theorem SOk.locObj {K : Frag} {X₀ X : List Addr} {m : Str → Option Value} {b h : Heap} (S : SOk K X₀ X m b env Γ O h) : ∃ o, h.get? env.locals = some o ∧ ∀ vs, o.data ≠ .fields vs := by
  obtain ⟨o, es, ep, ho, hd, _⟩ := S.ns
  exact ⟨o, ho, fun vs q => by rw [hd] at q; cases q⟩
theorem Ex1R.raise {xs : Str} {k : Nat} {np cp cpos pos : Pos} (hk : env.kindOf (Str.ofString "OperandError") = some .globalImplicit) : Ex1R prog w (n + 2) env Γ O (.Raise (some (.Call (.Name (Str.ofString "OperandError") np) [.Constant (.str xs) k cp] [] cpos)) none pos) := fun X₀ X m b A s Q E F B S q =>
  x_raise S.cxX (B.aok S) S.lok hk fun e h' tk hn k mk => q _ _ _ ⟨(S.step k).le, S.le.gone hn, (S.step k).locObj, .inl mk⟩
theorem TracedW.older {b b' h : Heap} {e : Addr} {c a0 : Value} (k : ∀ a, b'.get? a = none → b.get? a = none) (x : h.TracedW b' e c a0) : h.TracedW b e c a0 := by
  obtain ⟨oe, vs, T, oT, ts, a1, a2, a3, a4, a5, a6⟩ := x
  exact ⟨oe, vs, T, oT, ts, a1, a2, a3, a4, k _ a5, a6⟩
theorem Ex1R.expr {e : PySem.Expr} {p2 : Pos} (h : EvR prog w n env Γ e) (hi : interactive env = false := by rfl) (hsw : swapsWith e none p2.line env = pure false := by rfl) : Ex1R prog w n env Γ O (.Expr e p2) := fun X₀ X m b A s Q E F B S q =>
  wpAny_Expr_any (h X A s _ E S.cxX (B.aok S) S.lok fun e h' tk k fl => q _ _ _ ⟨(S.step k).le, S.le.gone fl.1, (S.step k).locObj, .inr (let ⟨a0, t⟩ := fl.2; ⟨a0, .inl (TracedW.older (fun a => S.le.gone) t)⟩)⟩) hi hsw
theorem Ex1R.ifT {t : PySem.Expr} {bs os : List Stmt} {pos : Pos} (h : EvTO prog w (KK w) n env Γ O t true) (hb : ExR prog w n env Γ O bs) : Ex1R prog w n env Γ O (.If t bs os pos) := fun X₀ X m b A s Q E F B S q =>
  wpAny_If (h X₀ X m b A s _ E B S fun h' tk k => by
    rw [if_pos rfl]
    exact hb X₀ X m b A _ Q E F B (S.step k) q)
theorem EvR.call {x : Str} {p pos : Pos} {f : Value} {e : PySem.Expr} {es : List PySem.Expr} {ds : List V} {m : Nat} (hf : Ev prog w (KK w) n env Γ (.Name x p) (.glob f)) (hk : keepIn (KK w) f = true)
    (hs : EvL prog w (KK w) n env Γ (e :: es) ds) (hc : CallsR prog w m f ds) (hm : m ≤ n)
    (he : starEach (e :: es) env = (false, eval e env) :: starEach es env) (hp : (backTo pos (starEach es env)).any (·.1) = false) : EvR prog w n env Γ (.Call (.Name x p) (e :: es) [] pos) := fun X A s Q E c a l q => by
  refine wpAny_Call_NameR (hf X A s _ E c a l fun v h' tk k r => ?_)
  simp only [Rp] at r
  subst r
  refine callWith_K (h₀ := h') (c.le k).ki hk (hs X A _ pos _ E (c.le k) (a.le k) (l.le k) fun vs h'' tk' k' r' => ⟨((c.le k).le k').ki, ?_⟩) he hp
  exact hc X A _ vs Q E ((c.le k).le k') (((a.le k).le k').less hm) r' fun e h3 tk3 k3 fl => q _ _ _ ((k.trans k').trans k3) ⟨(k.trans k').gone fl.1, let ⟨a0, t⟩ := fl.2; ⟨a0, TracedW.older (fun a => (k.trans k').gone) t⟩⟩
end
-- the addresses without records
noncomputable def noRec (h : Heap) (a : Addr) : Bool := match h.get? a with
  | some o => (match o.data with | .fields _ => false | _ => true)
  | none => false
theorem noRec_iff {h : Heap} {a : Addr} : noRec h a = true ↔ ∃ o, h.get? a = some o ∧ ∀ vs, o.data ≠ .fields vs := by
  unfold noRec
  cases h.get? a with
  | none => simp
  | some o =>
    obtain ⟨oc, od, oda, osl⟩ := o
    cases oda <;> simp
noncomputable def nf (X : List Addr) (h : Heap) : List Addr := X.filter (noRec h)
theorem mem_nf {X : List Addr} {h : Heap} {a : Addr} : a ∈ nf X h ↔ a ∈ X ∧ ∃ o, h.get? a = some o ∧ ∀ vs, o.data ≠ .fields vs := by
  unfold nf; rw [List.mem_filter, noRec_iff]
theorem Cx.nf {K : Frag} {X : List Addr} {h : Heap} (c : Cx K X h) : Cx K (nf X h) h := ⟨c.ki, fun a ha => c.off a (mem_nf.mp ha).1, fun a ha => c.liv a (mem_nf.mp ha).1, c.lim, c.glb, c.blt, c.dig⟩
theorem AOk.nf {n : Nat} {X : List Addr} {A : Around} {h : Heap} (a : AOk n X A h) : AOk n (nf X h) A h := ⟨a.dep, a.uni, a.hdl, let ⟨l, hl, hf⟩ := a.frm; ⟨l, hl, fun e he => let ⟨hk, L, o, h1, h2, h3, h4⟩ := hf e he; ⟨hk, L, o, h1, mem_nf.mpr ⟨h2, o, h3, h4⟩, h3, h4⟩⟩⟩
theorem Le.ofNf {X : List Addr} {h h' : Heap} (k : Le (Mine.nf X h) h h') : Le X h h' := fun a o e => ⟨(k a o e).1, fun hX => (k a o e).2 fun z => hX (mem_nf.mp z).1⟩
theorem RpL.toNf {X : List Addr} {h : Heap} {ds : List V} {vs : List Value} (r : RpL X h ds vs) : RpL (nf X h) h ds vs := r.sub fun a ha _ => (mem_nf.mp ha).1
theorem funFrames_of {base h : Heap} : ∀ {l : List Env}, (∀ e ∈ l, e.scope.kind ≠ .module ∧ ∃ L o, e.frame = some L ∧ base.get? L = none ∧ h.get? L = some o ∧ ∀ vs, o.data ≠ .fields vs) → h.FunFrames base l
  | [], _ => trivial
  | e :: l, q => ⟨(q e (.head _)).1, (q e (.head _)).2, funFrames_of fun e he => q e (.tail _ he)⟩
theorem hideL_none {a : Addr} {h : Heap} {l : List Addr} (e : h.get? a = none) : (hideL l h).get? a = none := by
  by_cases z : a ∈ l
  · exact hideL_in z
  · rw [hideL_out z]; exact e
theorem hideL_sub {a : Addr} {o : Obj} {h : Heap} {l : List Addr} (e : (hideL l h).get? a = some o) : a ∉ l ∧ h.get? a = some o := by
  have z : a ∉ l := fun z => by rw [hideL_in z] at e; cases e
  rw [hideL_out z] at e
  exact ⟨z, e⟩
theorem NoR.nf {X : List Addr} {h : Heap} : NoR (nf X h) h := fun a ha => (mem_nf.mp ha).2
theorem stays_of {X₀ : List Addr} {b h : Heap} (k : Le X₀ b h) : (hideL X₀ b).StaysIn h := fun a o e => let ⟨z, q⟩ := hideL_sub e; (k a o q).2 z
theorem le_of_stays {X₀ : List Addr} {b h h' : Heap} (N : NoR X₀ b) (k : Le X₀ b h) (st : (hideL X₀ b).StaysIn h') (u : h.UpToSlots h') : Le X₀ b h' := fun a o e => by
  by_cases z : a ∈ X₀
  · obtain ⟨o', ho', hd⟩ := N a z
    rw [e] at ho'; cases ho'
    obtain ⟨⟨sl, q⟩, _⟩ := k a o e
    obtain ⟨sl', q'⟩ := u a _ q hd
    exact ⟨⟨sl', q'⟩, fun y => absurd z y⟩
  · have q := st a o (by rw [hideL_out z]; exact e)
    exact ⟨⟨o.slots, q⟩, fun _ => q⟩
theorem traced_up {X₀ : List Addr} {b h' : Heap} {e : Addr} {c a0 : Value} (N : NoR X₀ b) (k : Le X₀ b h') (x : h'.TracedW (hideL X₀ b) e c a0) : h'.TracedW b e c a0 := by
  obtain ⟨oe, vs, T, oT, ts, a1, a2, a3, a4, a5, a6, a7, a8, a9⟩ := x
  refine ⟨oe, vs, T, oT, ts, a1, a2, a3, a4, ?_, a6, a7, a8, a9⟩
  cases q : b.get? T with
  | none => rfl
  | some o =>
    by_cases z : T ∈ X₀
    · obtain ⟨o', ho', hd⟩ := N T z
      rw [q] at ho'; cases ho'
      obtain ⟨⟨sl, q'⟩, _⟩ := k T o q
      rw [a7] at q'; cases q'
      exact absurd a8 (hd ts)
    · rw [hideL_out z, q] at a5; cases a5
theorem tracedAt_up {X₀ : List Addr} {b h' : Heap} {e : Addr} {c a0 fl : Value} (N : NoR X₀ b) (k : Le X₀ b h') (x : h'.TracedAtW (hideL X₀ b) e c a0 fl) : h'.TracedAtW b e c a0 fl := by
  obtain ⟨oe, vs, T, oT, ts, a1, a2, a3, a4, a5, a6, a7, a8, a9⟩ := x
  refine ⟨oe, vs, T, oT, ts, a1, a2, a3, a4, ?_, a6, a7, a8, a9⟩
  cases q : b.get? T with
  | none => rfl
  | some o =>
    by_cases z : T ∈ X₀
    · obtain ⟨o', ho', hd⟩ := N T z
      rw [q] at ho'; cases ho'
      obtain ⟨⟨sl, q'⟩, _⟩ := k T o q
      rw [a7] at q'; cases q'
      exact absurd a8 (hd ts)
    · rw [hideL_out z, q] at a5; cases a5
theorem TracedAtW.older {b b' h : Heap} {e : Addr} {c a0 fl : Value} (k : ∀ a, b'.get? a = none → b.get? a = none) (x : h.TracedAtW b' e c a0 fl) : h.TracedAtW b e c a0 fl := by
  obtain ⟨oe, vs, T, oT, ts, a1, a2, a3, a4, a5, a6⟩ := x
  exact ⟨oe, vs, T, oT, ts, a1, a2, a3, a4, k _ a5, a6⟩
section
variable {M : Model} {A' : Around} {E : Value → Shared → Prop} {s : Shared} {Q : Unit → Shared → Prop} {X₀ : List Addr} {b : Heap} {env : Env} {e : Addr}
theorem rz_frames {l : List Env} (F : Fr0 X₀ b env A') (hl : Frs X₀ b l) (rz : Rz X₀ b env e s.heap) : s.heap.FunFrames (hideL X₀ b) (env :: l) := funFrames_of fun e' he => by
  obtain ⟨k, hen, ⟨oL, hoL, hdL⟩, tr⟩ := rz
  rcases List.mem_cons.mp he with rfl | he
  · exact ⟨F.kind, _, oL, F.frame, hideL_none F.new, hoL, hdL⟩
  · obtain ⟨hk', L, o, hL, hX, ho, hd⟩ := hl e' he
    obtain ⟨⟨sl, q⟩, _⟩ := k L o ho
    exact ⟨hk', L, _, hL, hideL_in hX, q, hd⟩
/-- the frame is noted -/
theorem note_rz (F : Fr0 X₀ b env A') (rz : Rz X₀ b env e s.heap) (q : ∀ h' a0 l, A'.frames = some (env :: l) → Le X₀ b h' → Heap.HeldW (hideL X₀ b) (env :: l) e (.ref 59) a0 env.locals h' → s.heap.UpToSlots h' → Q () { s with heap := h' }) : wpAny M A' (noteFrame (.ref e) env) Q E s := by
  obtain ⟨l, hfr, hl⟩ := F.frm
  have FF := rz_frames (A' := A') F hl rz
  obtain ⟨k, hen, ⟨oL, hoL, hdL⟩, tr⟩ := rz
  rcases tr with ⟨o, a1, he, hc, hd⟩ | ⟨a0, tr | tr⟩
  · unfold noteFrame
    simp only [F.frame]
    refine wpAny_bind (wpAny_field he hd (x := .none) rfl ?_)
    rw [if_neg (by decide)]
    refine wpAny_entryW (base := hideL X₀ b) (a0 := .ref a1) hfr FF F.frame he (stays_of k) (hideL_none hen) hd (by simp) rfl fun h' hN => ?_
    obtain ⟨k1, k2, k3, k4⟩ := hN
    rw [hc] at k3
    exact q h' _ l hfr (le_of_stays F.nor k k1 k4) ⟨k1, hideL_none hen, k2, k3⟩ k4
  · refine wpAny_noteFrame_onW (base := hideL X₀ b) hfr FF F.frame (TracedW.older (fun a => hideL_none) tr) (stays_of k) (hideL_none hen) fun h' hN => ?_
    obtain ⟨k1, k2, k3, k4⟩ := hN
    exact q h' _ l hfr (le_of_stays F.nor k k1 k4) ⟨k1, hideL_none hen, k2, k3⟩ k4
  · have tr' := TracedAtW.older (b := hideL X₀ b) (fun a => hideL_none) tr
    exact wpAny_noteFrame_againW F.frame tr' (q s.heap _ l hfr k ⟨stays_of k, hideL_none hen, FF, tr'⟩ (.refl _))
theorem leave_rz (F : Fr0 X₀ b env A') (rz : Rz X₀ b env e s.heap) (q : ∀ h', Le X₀ b h' → Fly b e h' → Q () { s with heap := h' }) : wpAny M A' (leaving env (.ref e)) Q E s := by
  have hen := rz.2.1
  unfold leaving
  refine wpAny_bind (note_rz F rz fun h' a0 l hfr k hh u => ?_)
  refine wpAny_landsW (s := { s with heap := h' }) hh fun h'' hfl u2 => ?_
  obtain ⟨k1, _, _, k3⟩ := hfl
  have k' := le_of_stays F.nor k k1 u2
  exact q h'' k' ⟨hen, _, traced_up F.nor k' k3⟩
/-- it comes back from an activation of the frame's own -/
theorem back_rz (F : Fr0 X₀ b env A') (rz : Rz X₀ b env e s.heap) {E' : Value → Shared → Prop} (q : ∀ h', Rz X₀ b env e h' → E' (.ref e) { s with heap := h' }) : notedBy M A' env (fun x s' => cameBackBy M A' env E' x s') (.ref e) s := by
  have hen := rz.2.1
  have hloc := rz.2.2.1
  unfold notedBy
  refine note_rz F rz fun h' a0 l hfr k hh u => ?_
  obtain ⟨k1, _, k2, oe, vs, T, oT, ts, he, hcls, hd, h1, hnT, hTe, hT, hdT, h3⟩ := hh
  have hsz3 : 3 < ts.size := (Array.getElem?_eq_some_iff.mp h3).1
  unfold cameBackBy
  refine wpAny_bind (wpAny_field (s := { s with heap := h' }) he hd h1 ?_)
  rw [if_neg (show ¬ ((Value.ref T == Value.none) = true) from by simp)]
  show wpAny M A' (setFlight (.ref e) env.frame) _ _ _
  unfold setFlight
  refine wpAny_bind (wpAny_field (s := { s with heap := h' }) he hd h1 ?_)
  rw [if_pos (show (Value.ref T != Value.none) = true from by simp)]
  have other : ∀ a, a ≠ T → (h'.update T (Obj.mapFields (·.setIfInBounds 3 (env.frame.elim Value.none fun f => rawInt f)))).get? a = h'.get? a := fun a ha => Heap.get?_update_other _ _ (Ne.symm ha)
  refine wpAny_setField (s := { s with heap := h' }) hT hdT hsz3 (q _ ?_)
  have st : (hideL X₀ b).StaysIn (h'.update T (Obj.mapFields (·.setIfInBounds 3 (env.frame.elim Value.none fun f => rawInt f)))) := fun a o q => (other a fun z => by rw [z, hnT] at q; cases q).trans (k1 a o q)
  have up : h'.UpToSlots (h'.update T (Obj.mapFields (·.setIfInBounds 3 (env.frame.elim Value.none fun f => rawInt f)))) := fun a o q hn => ⟨o.slots, (other a fun z => by rw [z, hT] at q; cases q; exact hn _ hdT).trans q⟩
  have k' := le_of_stays F.nor k st up
  refine ⟨k', hen, ?_, .inr ⟨a0, .inr (tracedAt_up F.nor k' ⟨oe, vs, T, _, _, (other e (Ne.symm hTe)).trans he, hcls, hd, h1, hnT, hTe, Heap.get?_update_self _ hT (Obj.isFreed_of_fields (Obj.data_mapFields hdT _)), Obj.data_mapFields hdT _, by rw [F.frame]; simp [hsz3]⟩)⟩⟩
  obtain ⟨oL, hoL, hdL⟩ := hloc
  obtain ⟨sl, q1⟩ := u _ _ hoL hdL
  obtain ⟨sl2, q2⟩ := up _ _ q1 hdL
  exact ⟨_, q2, hdL⟩
end
end
section
variable {prog : Program} {w : World}
theorem call_enter {fa : Addr} {oc : Value} {od : Option Addr} {osl : Array (Option Value)} {fd : FuncData} {body : List Stmt} {ps : List String} {ds : List V} {K : Frag} {n : Nat} {X : List Addr} {A : Around} {s : Shared} {vs : List Value} {Q : Value → Shared → Prop} {E : Value → Shared → Prop}
    (hK : K.lookup fa = some ⟨oc, od, .func fd, osl⟩) (hb : fd.body = .stmts body) (hc : codeIn K fd.code fd.qualname = true) (hcl : fd.closure = []) (hg : fd.globals = mainGlobals) (hbu : fd.builtins = builtinsNs)
    (hlen : ps.length = ds.length) (hnd : ps.Nodup) (hbind : ∀ vs : List Value, vs.length = ds.length → bindArgs fd ⟨vs, []⟩ = pure (zipS ps vs))
    (hloc : ∀ x ∈ ps, (Str.ofString x == ("__debug__" : Str)) = false ∧ (fd.scope.names.lookup (Str.ofString x) = some .local ∨ (fd.scope.names.lookup (Str.ofString x) = some .cell ∧ ∀ L, ((cellsFrom L fd.scope.names []).lookup (Str.ofString x)).isSome = true)))
    (c : Cx K X s.heap) (a : AOk (n + 1) X A s.heap) (r : RpL X s.heap ds vs)
    (hx : ∀ L X' m h₁ tk, L = s.heap.objs.size → AOb n X s.heap (callEnvC fd L fa) (A.deeper (callEnvC fd L fa)) → SOk K X X' m s.heap (callEnvC fd L fa) (ps.zip ds) none h₁ →
      wpAny (model prog w) (A.deeper (callEnvC fd L fa)) (execs body (callEnvC fd L fa)) (fun fl s' => Q (match fl with | .ret v => v | _ => .none) s') (fun e s' => wpAny (model prog w) (A.deeper (callEnvC fd L fa)) (leaving (callEnvC fd L fa) e) (fun _ s'' => E e s'') E s') ⟨h₁, s.gens, s.drawn, tk, s.os⟩)
    (h1 : fd.scope.isCoroutine = false := by rfl) (h2 : fd.scope.isGenerator = false := by rfl) (h3 : fd.scope.kind = .function := by rfl) : wpAny (model prog w) A (call (.ref fa) vs) Q E s := by
  have hv : vs.length = ds.length := r.length
  have hzl : (ps.map Str.ofString).length = vs.length := by rw [List.length_map, hlen, hv]
  have hkey : ∀ y ∈ zipS ps vs, ∃ x ∈ ps, y.1 = Str.ofString x := fun y hy => by
    have := (List.of_mem_zip hy).1
    obtain ⟨x, hx, e⟩ := List.mem_map.mp this
    exact ⟨x, hx, e.symm⟩
  refine wpAny_call (codeAny_call_cells a.dp (c.ki fa _ hK) rfl c.lim (codeRec_of c.ki hc) hb (hbind vs hv) hcl (fun y hy => ?_) (fun s₁ C => ?_) h1 h2 h3)
  · obtain ⟨x, hx, e⟩ := hkey y hy
    rw [e]
    exact (hloc x hx).2.imp id fun z => ⟨z.1, z.2 _⟩
  obtain ⟨⟨⟨h₁, tk₁, rfl⟩, hns, hkeep, hfresh⟩, hcell, hap, hab⟩ := C
  have hnone : ∀ a, s.heap.objs.size ≤ a → s.heap.get? a = none := fun a ha => Heap.get?_none_of_le ha
  dsimp only at hns hkeep hcell
  have S : SOk K X ((callEnvC fd s.heap.objs.size fa).locals :: (liveCells (callEnvC fd s.heap.objs.size fa).cells ++ X)) (bindL (callEnvC fd s.heap.objs.size fa).kindOf (zipS ps vs) fun _ => none) s.heap (callEnvC fd s.heap.objs.size fa) (ps.zip ds) none h₁ := by
    refine ⟨⟨h3, hg, hbu⟩, c, fun a ha => by simp [ha], fun a ha => ?_, fun a ha => ?_, by simp, hnone _ hfresh, Le.of_stays hkeep, hns, fun x d e => ?_, fun x o e => (by cases e), ⟨fun x c _ hc => ⟨?_, hnone _ (Nat.le_trans hfresh (Nat.le_of_lt (hab x c (lookup_mem hc)))), _, hcell x c hc⟩, fun x y c _ hx hy => name_of_addr hap (lookup_mem hx) (lookup_mem hy)⟩⟩
    · rcases List.mem_cons.mp ha with rfl | ha
      · exact .inr (hnone _ hfresh)
      · rcases List.mem_append.mp ha with ha | ha
        · obtain ⟨y, hy⟩ := liveCells_mem ha
          exact .inr (hnone _ (Nat.le_trans hfresh (Nat.le_of_lt (hab y a (lookup_mem hy)))))
        · exact .inl ha
    · rcases List.mem_cons.mp ha with rfl | ha
      · obtain ⟨o, _, _, ho, _⟩ := hns
        rw [ho]; rfl
      · rcases List.mem_append.mp ha with ha | ha
        · obtain ⟨y, hy⟩ := liveCells_mem ha
          obtain ⟨o, ho, _⟩ := hcell y a hy
          rw [ho]; rfl
        · obtain ⟨o, ho⟩ := Option.isSome_iff_exists.mp (c.liv a ha)
          rw [hkeep a o ho]; rfl
    · obtain ⟨v, hm, rv⟩ := zip_find r e
      obtain ⟨x', hx', ex⟩ := hkey _ hm
      have exx : x = x' := ofString_inj ex
      subst exx
      have hnd' : ((zipS ps vs).map (·.1)).Nodup := by rw [zip_fst hzl]; exact map_nodup hnd
      refine ⟨(hloc x hx').1, v, rv.mono fun a o ha e => ⟨fun z => ?_, hkeep a o e⟩, ?_⟩
      · rcases List.mem_cons.mp z with rfl | z
        · rw [hnone _ hfresh] at e; cases e
        · rcases List.mem_append.mp z with z | z
          · obtain ⟨y, hy⟩ := liveCells_mem z
            rw [hnone _ (Nat.le_trans hfresh (Nat.le_of_lt (hab y a (lookup_mem hy))))] at e; cases e
          · exact ha z
      · rcases (hloc x hx').2 with hl | ⟨hl, hs⟩
        · exact .inl ⟨hl, bindL_has hnd' hm hl⟩
        · obtain ⟨cc, hcc⟩ := Option.isSome_iff_exists.mp (hs (s.heap.objs.size + 1))
          refine .inr ⟨.inl hl, cc, hcc, by simp only [List.mem_cons, List.mem_append]; exact .inr (.inl (liveCells_of hcc)), ?_⟩
          have := hcell _ cc hcc
          rwa [bindC_has hnd' hm (by show fd.scope.names.lookup _ ≠ _; rw [hl]; decide)] at this
    · simp only [List.mem_cons, List.mem_append]; exact .inr (.inl (liveCells_of hc))
  exact hx _ _ _ h₁ _ rfl (a.body h3 rfl) S
theorem CallsR.def {fa : Addr} {oc : Value} {od : Option Addr} {osl : Array (Option Value)} {fd : FuncData} {body : List Stmt} {ps : List String} {ds : List V} {n : Nat}
    (hK : (KK w).lookup fa = some ⟨oc, od, .func fd, osl⟩) (hb : fd.body = .stmts body) (hc : codeIn (KK w) fd.code fd.qualname = true) (hcl : fd.closure = []) (hg : fd.globals = mainGlobals) (hbu : fd.builtins = builtinsNs)
    (hlen : ps.length = ds.length) (hnd : ps.Nodup) (hbind : ∀ vs : List Value, vs.length = ds.length → bindArgs fd ⟨vs, []⟩ = pure (zipS ps vs))
    (hloc : ∀ x ∈ ps, (Str.ofString x == ("__debug__" : Str)) = false ∧ (fd.scope.names.lookup (Str.ofString x) = some .local ∨ (fd.scope.names.lookup (Str.ofString x) = some .cell ∧ ∀ L, ((cellsFrom L fd.scope.names []).lookup (Str.ofString x)).isSome = true)))
    (hx : ∀ L, ExR prog w n (callEnvC fd L fa) (ps.zip ds) none body)
    (h1 : fd.scope.isCoroutine = false := by rfl) (h2 : fd.scope.isGenerator = false := by rfl) (h3 : fd.scope.kind = .function := by rfl) : CallsR prog w (n + 1) (.ref fa) ds := fun X A s vs Q E c a r q => by
  refine call_enter hK hb hc hcl hg hbu hlen hnd hbind hloc c.nf a.nf r.toNf (fun L X' m h₁ tk hL B S => ?_) h1 h2 h3
  obtain ⟨l, hl, hf⟩ := a.nf.frm
  have F : Fr0 (nf X s.heap) s.heap (callEnvC fd L fa) (A.deeper (callEnvC fd L fa)) := ⟨⟨l, by show A.frames.map _ = _; rw [hl]; rfl, hf⟩, rfl, by show fd.scope.kind ≠ _; rw [h3]; decide, NoR.nf, S.lnew⟩
  refine hx L _ X' m s.heap _ _ _ _ F B S fun e h' tk' rz => ?_
  exact leave_rz F rz fun h'' k fl => q _ _ _ k.ofNf fl
section
variable {n : Nat} {env : Env} {Γ : Lc} {O : Option (String × OV)}
theorem Ex1R.for1 {x : String} {px pos : Pos} {iter : PySem.Expr} {body : List Stmt} {d : V} {ds : List V} (hit : EvIt prog w (KK w) n env Γ iter (d :: ds)) (hx : locOk env x) (hO : ∀ y o, O = some (y, o) → y ≠ x) (hl : ExR prog w n env ((x, d) :: Γ) O body)
    (hs : ∀ x, foldedSetIterable iter env x = pure x := by intro _; rfl) : Ex1R prog w n env Γ O (.For (.Name (Str.ofString x) px) iter body [] pos) := fun X₀ X m b A s Q E F B S q => by
  refine wpAny_For (hit X A s _ E S.cxX (B.aok S) S.lok fun I fp St h1 tk1 W k1 hfp hst => ?_) hs
  refine codeAny_forLoop_any (fun k s' => k = 0 ∧ s' = ⟨h1, s.gens, s.drawn, tk1, s.os⟩) ?_ 0 ⟨rfl, rfl⟩
  rintro k s' ⟨rfl, rfl⟩
  have hfb : ∀ a ∈ fp, b.get? a = none := fun a ha => S.le.gone (hfp a ha)
  have S1 := S.step k1
  have hff : ∀ a ∈ fp, (∃ o vs, h1.get? a = some o ∧ o.data = .fields vs) ∧ a ∉ X ∧ b.get? a = none := fun a ha => ⟨W.flds _ _ _ hst a ha, W.out _ _ _ hst a ha, hfb a ha⟩
  refine W.item X A 0 d ⟨h1, s.gens, s.drawn, tk1, s.os⟩ _ _ B.hdl hst rfl fun v h3 tk3 st3 hv k3 => ?_
  have S3 : SOk (KK w) X₀ X m b env Γ O h3 := S1.iter k3 hff
  refine wpAny_pure ?_
  refine wpAny_assign_Name (wpAny_storeName_local hx.1 S3.ns (fun h4 hn4 hs4 => ?_) (by rw [S.ok.kind]; rfl))
  have S4 := S3.stored hs4 hn4 hx.2 hx.1 hv hO
  refine hl X₀ X _ b A ⟨h4, s.gens, s.drawn, _, s.os⟩ _ _ F B S4 fun e h5 tk5 rz => ?_
  exact back_rz (s := ⟨h5, s.gens, s.drawn, tk5, s.os⟩) F rz fun h6 rz6 => q _ _ _ rz6
end
end
section
variable {prog : Program} {w : World}
section
variable {n : Nat} {env : Env} {Γ : Lc} {O : Option (String × OV)} {X₀ X : List Addr} {m : Str → Option Value} {b : Heap} {A : Around} {s : Shared} {Q : Flow → Shared → Prop} {E : Value → Shared → Prop}
theorem ex_caught {tb ss : List Stmt} {np cp rp hp pos : Pos} {k : Nat} (F : Fr0 X₀ b env A) (B : AOb n X₀ b env A) (S : SOk (KK w) X₀ X m b env Γ O s.heap) (h : ExR prog w n env Γ O tb) (hk : env.kindOf (Str.ofString "OperandError") = some .globalImplicit)
    (q : ∀ h' tk, Le X₀ b h' → Q (.ret (.bool true)) ⟨h', s.gens, s.drawn, tk, s.os⟩) :
    wpAny (model prog w) A (execs (.Try tb [.ExceptHandler (some (.Name (Str.ofString "OperandError") np)) none [.Return (some (.Constant (.bool true) k cp)) rp] hp] [] [] pos :: ss) env) Q E s := by
  refine wpAny_execs_cons (wpAny_Try_except (h X₀ X m b A s _ _ F B S fun e h1 tk1 rz => ?_))
  refine note_rz (s := ⟨h1, s.gens, s.drawn, tk1, s.os⟩) F rz fun h2 a0 l hfr k2 hh u => ?_
  refine wpAny_landsW (s := ⟨h2, s.gens, s.drawn, tk1, s.os⟩) hh fun h3 hfl u3 => ?_
  have k3 := le_of_stays F.nor k2 hfl.1 u3
  have c3 := S.cx.le k3
  obtain ⟨mg, hg⟩ := c3.glb
  refine wpAny_handleBy_cons (codeAny_handlers_test ?_) (by intro q; cases q)
  refine Name_function_global S.ok.kind hk (loadGlobal_global (s := ⟨h3, s.gens, s.drawn, tk1, s.os⟩) (mg := mg) (by rw [S.ok.glob]; exact hg) (mg_of c3.ki hg (glob_of (x := "OperandError") (by rfl))) ?_) (by decide +kernel)
  obtain ⟨oe, hoe, hcls⟩ := hfl.there
  refine wpAny_excMatches_sub_self (c3.ki _ _ (c59 w)) hoe hcls (by decide +kernel) ?_
  rw [if_pos rfl]
  refine codeAny_handlers_suite ?_
  refine lands_againW (s := ⟨h3, s.gens, s.drawn, tk1, s.os⟩) hfl fun h4 hfl4 u4 => ?_
  have k4 := le_of_stays F.nor k3 hfl4.1 u4
  refine wpAny_execs_cons (wpAny_Return_some ?_)
  rw [arm_eval_Constant]
  exact wpAny_pure (q _ _ k4)
theorem Ex1.tryOk {tb orelse : List Stmt} {h₀ : ExceptHandler} {hs : List ExceptHandler} {pos : Pos} {Γ' : Lc} {O' : Option (String × OV)} {out : Out} (h : Ex prog w (KK w) n env Γ O tb (.next Γ' O')) (ho : Ex prog w (KK w) n env Γ' O' orelse out) : Ex1 prog w (KK w) n env Γ O (.Try tb (h₀ :: hs) orelse [] pos) out := fun X₀ X m b A s Q E B S q =>
  wpAny_Try_except (h X₀ X m b A s _ _ B S fun fl h' tk ok => by
    obtain ⟨rfl, X', m', S'⟩ := ok
    exact ho X₀ X' m' b A _ Q E B S' q)
end
/-- a check that raises is told as True -/
theorem refused_yes {n : Nat} {d : V} (h : CallsR prog w n (.ref 574) [d]) : Calls prog w (KK w) (n + 1) (.ref 746) [d] (.bool true) := fun X A s vs Q E c a r q => by
  refine call_enter (fa := 746) (ps := ["instruction"]) (ds := [d]) (by rfl) (by rfl) (by rfl) (by rfl) (by rfl) (by rfl) (by rfl) (by decide) (ball1 fun _ => rfl) (by intro x hx; simp only [List.mem_singleton] at hx; subst hx; exact ⟨by decide +kernel, .inl (by rfl)⟩) c.nf a.nf r.toNf (fun L X' m h₁ tk hL B S => ?_)
  obtain ⟨l, hl, hf⟩ := a.nf.frm
  refine ex_caught (s := ⟨h₁, s.gens, s.drawn, tk, s.os⟩) ⟨⟨l, by show A.frames.map _ = _; rw [hl]; rfl, hf⟩, rfl, (by intro z; cases z), NoR.nf, S.lnew⟩ B S (ExR.stop (Ex1R.expr (EvR.call (Ev.gl (by rfl) (by rfl)) (kp_of (x := "check_instruction") (by rfl)) (EvL.cons (Ev.name (by rfl)) EvL.nil (by rfl)) h (Nat.le_refl _) (by rfl) (by rfl)) (by rfl) (by rfl))) (by rfl) fun h' tk' k => ?_
  exact q _ _ _ k.ofNf (by simp only [Rp])
theorem refused_no {n : Nat} {d r : V} (h : Calls prog w (KK w) n (.ref 574) [d] r) : Calls prog w (KK w) (n + 1) (.ref 746) [d] (.bool false) :=
  Calls.def (fa := 746) (ps := ["instruction"]) (ds := [d]) (out := .ret (.bool false)) (by rfl) (by rfl) (by rfl) (by rfl) (by rfl) (by rfl) (by rfl) (by decide) (ball1 fun _ => rfl) (by intro x hx; simp only [List.mem_singleton] at hx; subst hx; exact ⟨by decide +kernel, .inl (by rfl)⟩)
    (fun L => Ex.next (Ex1.tryOk (Ex.next (Ex1.expr (EvO.ev (Ev.call (Ev.gl (by rfl) (by rfl)) (kp_of (x := "check_instruction") (by rfl)) (EvL.cons (Ev.name (by rfl)) EvL.nil (by rfl)) h (Nat.le_refl _) (by rfl) (by rfl)))) Ex.nil) Ex.nil) (Ex.stop (Ex1.ret (EvO.ev Ev.cBool))))
end
section
/-- names without repeats, in their order -/
theorem mem_stepS {s : List Str} {y x : Str} : x ∈ stepS s y ↔ x ∈ s ∨ x = y := by
  unfold stepS
  split
  · rename_i h; 
    have hy : y ∈ s := by simpa using h
    exact ⟨.inl, fun z => z.elim id fun e => e ▸ hy⟩
  · rw [List.mem_append, List.mem_singleton]
theorem stepS_in {s : List Str} {y : Str} (h : y ∈ s) : stepS s y = s := by unfold stepS; rw [if_pos (by simpa using h)]
theorem stepS_out {s : List Str} {y : Str} (h : y ∉ s) : stepS s y = s ++ [y] := by unfold stepS; rw [if_neg (by simpa using h)]
theorem mem_foldS : ∀ (l s : List Str) (x : Str), x ∈ l.foldl stepS s ↔ x ∈ s ∨ x ∈ l
  | [], s, x => by simp
  | y :: l, s, x => by rw [List.foldl_cons, mem_foldS l, mem_stepS, List.mem_cons, or_assoc]
/-- what the law adds for one part -/
noncomputable def stepQ (t ns : List Str) : List Str := t ++ ns.filter fun x => !decide (x ∈ t)
theorem fold_filter (t : List Str) : ∀ (l u : List Str), (∀ x ∈ t, x ∈ u) → (l.filter fun x => !decide (x ∈ t)).foldl stepS u = l.foldl stepS u
  | [], u, _ => rfl
  | y :: l, u, h => by
    by_cases hy : y ∈ t
    · rw [List.filter_cons_of_neg (by simp [hy]), List.foldl_cons, stepS_in (h y hy)]
      exact fold_filter t l u h
    · rw [List.filter_cons_of_pos (by simp [hy]), List.foldl_cons, List.foldl_cons]
      exact fold_filter t l _ fun x hx => mem_stepS.mpr (.inl (h x hx))
theorem firsts_stepQ (t ns : List Str) : firsts (stepQ t ns) = ns.foldl stepS (firsts t) := by
  unfold firsts stepQ
  rw [List.foldl_append]
  exact fold_filter t ns _ fun x hx => (mem_foldS t [] x).mpr (.inr hx)
theorem firsts_fold {α : Type} (g : α → List Str) : ∀ (ps : List α) (t : List Str), firsts (ps.foldl (fun s p => stepQ s (g p)) t) = ps.foldl (fun s p => (g p).foldl stepS s) (firsts t)
  | [], t => rfl
  | p :: ps, t => by rw [List.foldl_cons, firsts_fold g ps, firsts_stepQ, List.foldl_cons]
theorem foldS_len : ∀ (l s : List Str), (l.foldl stepS s).length ≤ s.length + l.length ∧ ((l.foldl stepS s).length = s.length + l.length → l.foldl stepS s = s ++ l)
  | [], s => by simp
  | y :: l, s => by
    rw [List.foldl_cons, List.length_cons]
    obtain ⟨h1, h2⟩ := foldS_len l (stepS s y)
    by_cases hy : y ∈ s
    · rw [stepS_in hy] at h1 h2 ⊢
      exact ⟨by omega, fun h => by omega⟩
    · rw [stepS_out hy] at h1 h2 ⊢
      rw [List.length_append, List.length_singleton] at h1 h2
      refine ⟨by omega, fun h => ?_⟩
      rw [h2 (by omega), List.append_assoc]; rfl
theorem firsts_same {l : List Str} (h : (firsts l).length = l.length) : firsts l = l := by
  have := (foldS_len l []).2 (by simpa [firsts] using h)
  simpa [firsts] using this
theorem firsts_take {l : List Str} {i : Nat} {d : Str} (h : l[i]? = some d) : firsts (l.take (i + 1)) = if d ∉ l.take i then firsts (l.take i) ++ [d] else firsts (l.take i) := by
  obtain ⟨hi, rfl⟩ := List.getElem?_eq_some_iff.mp h
  rw [List.take_succ_eq_append_getElem hi, firsts_snoc]
  by_cases hd : l[i] ∈ l.take i
  · rw [if_neg (by simpa using hd)]
    exact stepS_in ((mem_foldS _ [] _).mpr (.inr hd))
  · rw [if_pos hd]
    exact stepS_out fun z => hd (((mem_foldS _ [] _).mp z).elim (by simp) id)
theorem countIn_eq (x : Str) : ∀ ys : List Str, Spec.countIn (.str x) (ys.map PyData.str) = (ys.countP (fun y => decide (y = x)) : Int)
  | [] => rfl
  | y :: ys => by
    rw [List.map_cons, Spec.countIn, countIn_eq x ys, List.countP_cons]
    have : Spec.same (PyData.str y) (.str x) = decide (y = x) := by simp only [Spec.same]; by_cases h : y = x <;> simp [h]
    rw [this]
    by_cases h : y = x <;> simp [h] <;> omega
end
section
section
variable {prog : Program} {w : World} {K : Frag} {n : Nat} {env : Env} {Γ : Lc}
theorem SOk.freezeL {X₀ X : List Addr} {m : Str → Option Value} {b h : Heap} {x : String} {ds : List V} (S : SOk K X₀ X m b env Γ (some (x, .lst ds)) h) : ∃ X' l o, (∀ a ∈ X', a ∈ X) ∧ (∀ a ∈ X, a ∉ X' → a = l) ∧ l ∉ X' ∧ h.get? l = some o ∧ o.cls = .type "list" ∧ SOk K X₀ X' m b env ((x, .lst ds) :: Γ) none h := by
  obtain ⟨q1, q2, u, hm, l, vs, rfl, hX, hb, hI, rl⟩ := S.own x _ rfl
  have sub : ∀ a ∈ without X l, a ∈ X := fun a ha => (mem_without.mp ha).1
  have nl : ∀ a o, h.get? a = some o → (∀ xs n, o.data ≠ .seq xs n) → a ≠ l := fun a o e ne q => by
    obtain ⟨o', ho', _, _, n, hd⟩ := hI
    rw [q, ho'] at e; cases e; exact ne _ _ hd
  have nc : ∀ c v, h.IsCell c v → c ≠ l := fun c v ho => by
    obtain ⟨o, ho, hd⟩ := ho
    exact nl c o ho fun xs n q => by rw [hd] at q; cases q
  have nb : ∀ a ∈ X₀, a ≠ l := fun a ha q => by
    have := S.cx.liv a ha
    rw [q, hb] at this; cases this
  have lk : ∀ a ∈ X, a ∉ without X l → a = l := fun a ha hn => Classical.byContradiction fun q => hn (mem_without.mpr ⟨ha, q⟩)
  have hI' := hI
  obtain ⟨oL, hoL, hcL, _, _⟩ := hI'
  refine ⟨without X l, l, oL, sub, lk, fun q => (mem_without.mp q).2 rfl, hoL, hcL, ⟨S.ok, S.cx, fun a ha => mem_without.mpr ⟨S.sup a ha, nb a ha⟩, fun a ha => S.new a (sub a ha), fun a ha => S.liv a (sub a ha), mem_without.mpr ⟨S.lin, ?_⟩, S.lnew, S.le, S.ns, fun z d' e => ?_, fun z o e => (by cases e),
    ⟨fun y c hk hc => ?_, S.cel.2⟩⟩⟩
  · obtain ⟨o, es, ep, ho, hd, _⟩ := S.ns
    exact nl _ o ho fun xs n q => by rw [hd] at q; cases q
  · by_cases hz : z = x
    · subst hz
      rw [List.lookup_cons, beq_self_eq_true] at e
      cases e
      refine ⟨q1, _, ?_, .inl ⟨q2, hm⟩⟩
      simp only [Rp]
      exact ⟨l, vs, rfl, fun q => (mem_without.mp q).2 rfl, hI, rl.sub fun a ha _ => sub a ha⟩
    · rw [List.lookup_cons, beq_eq_false_iff_ne.mpr hz] at e
      obtain ⟨p1, u, p2, p3⟩ := S.vars z d' e
      exact ⟨p1, u, p2.sub fun a ha _ => sub a ha, p3.imp id fun ⟨p, c, hc, hX, ho⟩ => ⟨p, c, hc, mem_without.mpr ⟨hX, nc _ _ ho⟩, ho⟩⟩
  · obtain ⟨a1, a2, v, a3⟩ := S.cel.1 y c hk hc
    exact ⟨mem_without.mpr ⟨a1, nc _ _ a3⟩, a2, v, a3⟩
/-- an evaluation that reads the owned list and keeps nothing of it -/
theorem EvO.thaw {x : String} {ds : List V} {e : PySem.Expr} {d : V} (hv : Ev prog w K n env ((x, .lst ds) :: Γ) e d) (hn : noLst d = true) : EvO prog w K n env Γ (some (x, .lst ds)) e d := fun X₀ X m b A s Q E B S q => by
  obtain ⟨X', l, o, sub, lk, hl, ho, hc, S'⟩ := S.freezeL
  exact hv X' A s Q E S'.cxX (B.aok S') S'.lok fun v h' tk k r => q _ _ _ (k.sub fun a ha _ => sub a ha) (Rp.shift (fun a o' ha he hcl haX => by
    have := lk a haX ha
    subst this
    have := k.get ho hl
    rw [he] at this; cases this
    exact hcl hc) d v hn r)
theorem Ex1.weak {O : Option (String × OV)} {st : Stmt} {Γ1 Γ2 : Lc} {O' : Option (String × OV)} (h : Ex1 prog w K n env Γ O st (.next Γ1 O')) (hΓ : ∀ x d, Γ2.lookup x = some d → Γ1.lookup x = some d) : Ex1 prog w K n env Γ O st (.next Γ2 O') := fun X₀ X m b A s Q E B S q =>
  h X₀ X m b A s Q E B S fun fl h' tk ok => by
    obtain ⟨rfl, X', m', S'⟩ := ok
    exact q _ _ _ ⟨rfl, X', m', { S' with vars := fun x d e => S'.vars x d (hΓ x d e) }⟩
/-- equality of data -/
noncomputable def V.eqb (d e : V) : Bool := match d.py, e.py with
  | some p, some q => PyData.eqv p q
  | _, _ => false
theorem Op2.eqV {d e : V} (hd : d.cmpb = true) (he : e.cmpb = true) : Op2 prog w K (compareOp .Eq) d e (.bool (d.eqb e)) := by
  obtain ⟨p, e1, s1⟩ := V.cmpb.py hd
  obtain ⟨q, e2, s2⟩ := V.cmpb.py he
  have := Op2.eq (prog := prog) (w := w) (K := K) e1 e2 s1 s2
  rw [show d.eqb e = PyData.eqv p q by simp only [V.eqb, e1, e2]]
  exact this
end
noncomputable def V.eqbL : List V → List V → Bool
  | [], [] => true
  | a :: r, b :: s => a.eqb b && V.eqbL r s
  | _, _ => false
theorem eqv_all : ∀ {l m : List V}, V.okL l = true → V.okL m = true → ∃ ps qs, V.pyL l = some ps ∧ V.pyL m = some qs ∧ PyData.eqvAll ps qs = V.eqbL l m
  | [], [], _, _ => ⟨_, _, rfl, rfl, by simp [PyData.eqvAll, V.eqbL]⟩
  | [], b :: s, _, h => by obtain ⟨qs, e, _⟩ := pyL_of _ h; obtain ⟨q, qs', rfl⟩ : ∃ q qs', qs = q :: qs' := by
                             simp only [V.pyL] at e
                             split at e
                             · cases e; exact ⟨_, _, rfl⟩
                             · cases e
                           exact ⟨_, _, rfl, e, by simp [PyData.eqvAll, V.eqbL]⟩
  | a :: r, [], h, _ => by obtain ⟨qs, e, _⟩ := pyL_of _ h; obtain ⟨q, qs', rfl⟩ : ∃ q qs', qs = q :: qs' := by
                             simp only [V.pyL] at e
                             split at e
                             · cases e; exact ⟨_, _, rfl⟩
                             · cases e
                           exact ⟨_, _, e, rfl, by simp [PyData.eqvAll, V.eqbL]⟩
  | a :: r, b :: s, h1, h2 => by
    simp only [V.okL, Bool.and_eq_true] at h1 h2
    obtain ⟨p, e1, _⟩ := py_of a h1.1
    obtain ⟨q, e2, _⟩ := py_of b h2.1
    obtain ⟨ps, qs, e3, e4, e5⟩ := eqv_all h1.2 h2.2
    exact ⟨p :: ps, q :: qs, by simp only [V.pyL, e1, e3], by simp only [V.pyL, e2, e4], by simp only [PyData.eqvAll, V.eqbL, V.eqb, e1, e2, e5]⟩
theorem eqb_tup {l m : List V} (h1 : V.okL l = true) (h2 : V.okL m = true) : (V.tup l).eqb (.tup m) = V.eqbL l m := by
  obtain ⟨ps, qs, e1, e2, e3⟩ := eqv_all h1 h2
  simp only [V.eqb, V.py, e1, e2, Option.map_some, PyData.eqv, e3]
theorem eqb_lst {l m : List V} (h1 : V.okL l = true) (h2 : V.okL m = true) : (V.lst l).eqb (.lst m) = V.eqbL l m := by
  obtain ⟨ps, qs, e1, e2, e3⟩ := eqv_all h1 h2
  simp only [V.eqb, V.py, e1, e2, Option.map_some, PyData.eqv, e3]
theorem eqb_refl {d : V} (h : d.okD = true) : d.eqb d = true := by
  obtain ⟨p, e1, c, _⟩ := py_of d h
  simp only [V.eqb, e1]
  exact PySem.SeqAt.eqv_refl p c
theorem eqbL_refl : ∀ {l : List V}, V.okL l = true → V.eqbL l l = true
  | [], _ => rfl
  | a :: r, h => by
    simp only [V.okL, Bool.and_eq_true] at h
    simp only [V.eqbL, eqb_refl h.1, eqbL_refl h.2, Bool.and_self]
theorem eqb_str {x y : Str} : (V.str x).eqb (.str y) = decide (x = y) := by simp only [V.eqb, V.py]; exact py_inj_str
theorem eqb_int {x y : Int} : (V.int x).eqb (.int y) = decide (x = y) := by simp only [V.eqb, V.py, PyData.eqv]; by_cases h : x = y <;> simp [h]
/-- one item replaced -/
theorem eqbL_set : ∀ {l : List V} {k : Nat} {d e : V}, V.okL l = true → l[k]? = some d → V.eqbL l (l.set k e) = d.eqb e ∧ V.eqbL (l.set k e) l = e.eqb d
  | [], k, d, e, _, h => by simp at h
  | a :: r, 0, d, e, ho, h => by
    simp only [V.okL, Bool.and_eq_true] at ho
    simp only [List.getElem?_cons_zero, Option.some.injEq] at h
    subst h
    simp only [List.set_cons_zero, V.eqbL, eqbL_refl ho.2, Bool.and_true, and_self]
  | a :: r, k + 1, d, e, ho, h => by
    simp only [V.okL, Bool.and_eq_true] at ho
    simp only [List.getElem?_cons_succ] at h
    obtain ⟨h1, h2⟩ := eqbL_set (e := e) ho.2 h
    simp only [List.set_cons_succ, V.eqbL, eqb_refl ho.1, h1, h2, Bool.true_and, and_self]
end
section
theorem aok_caller {n : Nat} {h : Heap} (h1 : n ≤ 20) : AOk n [] callerA h where
  dep := by show 1 + 300 + 3 * n < 1000; omega
  uni := by show 4 + 100 + 20 * n < 9900; omega
  hdl := rfl
  frm := ⟨[], rfl, fun e he => by cases he⟩
theorem lawJoin {prog : Program} {w : World} {env : Env} {ss : List Stmt} {s₁ : Shared} {h₁ : Heap} {tk : Nat} {ob : Obj} {ns : List Int} {a : Addr} {vs : List Value} {m : Str → Option Value} {Q : Flow → Shared → Prop} {E : Value → Shared → Prop}
    (hx : Ex prog w (KK w) 8 env [("script", .scr ns)] none ss (.ret (.bool true))) (hl : env.locals = s₁.heap.objs.size) (hf : env.frame = some env.locals) (hE : EOk env)
    (hc : env.cells = [(Str.ofString "script", s₁.heap.objs.size + 1)]) (hk : env.kindOf (Str.ofString "script") = some .cell) (hcx : Cx (KK w) [] s₁.heap)
    (F : Fr s₁.heap s₁.heap.objs.size h₁ m) (N : News s₁.heap s₁.heap.objs.size h₁ [(s₁.heap.objs.size + 1, ob)]) (hob : ob.data = .cell (some (.ref a))) (hL : s₁.heap.IsList a vs.toArray) (hI : IntsAre vs ns)
    (q : ∀ h' tk', (∀ b o, s₁.heap.get? b = some o → h'.get? b = some o) → Q (.ret (.bool true)) ⟨h', s₁.gens, s₁.drawn, tk', s₁.os⟩) :
    wpAny (model prog w) (callerA.deeper env) (execs ss env) Q E ⟨h₁, s₁.gens, s₁.drawn, tk, s₁.os⟩ := by
  have nL : s₁.heap.get? s₁.heap.objs.size = none := Heap.get?_none_of_le (Nat.le_refl _)
  obtain ⟨n1, n2, n3⟩ := N _ (.head _)
  dsimp only at n1 n2 n3
  generalize hLL : s₁.heap.objs.size = L at *
  have look : ∀ {x c}, env.cells.lookup x = some c → x = Str.ofString "script" ∧ c = L + 1 := fun {x c} e => by
    rw [hc, List.lookup_cons] at e
    cases z : x == Str.ofString "script" with
    | true => rw [z] at e; cases e; exact ⟨eq_of_beq z, rfl⟩
    | false => rw [z] at e; cases e
  have hcl : env.cells.lookup (Str.ofString "script") = some (L + 1) := by rw [hc, List.lookup_cons, beq_self_eq_true]
  have hcell : h₁.IsCell (L + 1) (some (.ref a)) := ⟨ob, n1, hob⟩
  have S : SOk (KK w) [] [L, L + 1] m s₁.heap env [("script", .scr ns)] none h₁ := by
    refine ⟨hE, hcx, fun b hb => (by cases hb), fun b hb => .inr ?_, fun b hb => ?_, by rw [hl]; exact .head _, by rw [hl]; exact nL, Le.of_stays F.keep, by rw [hl]; exact F.ns, fun x d e => ?_, fun x o e => (by cases e), ⟨fun x c _ hcx => ?_, fun x y c _ hx hy => (look hx).1.trans (look hy).1.symm⟩⟩
    · rcases List.mem_cons.mp hb with rfl | hb
      · exact nL
      · rw [List.mem_singleton.mp hb]; exact n3
    · rcases List.mem_cons.mp hb with rfl | hb
      · obtain ⟨o, _, _, ho, _⟩ := F.ns; rw [ho]; rfl
      · rw [List.mem_singleton.mp hb, n1]; rfl
    · rw [List.lookup_cons] at e
      cases z : x == "script" with
      | false => rw [z] at e; cases e
      | true =>
        rw [z] at e; cases e
        rw [eq_of_beq z]
        refine ⟨by decide +kernel, .ref a, ?_, .inr ⟨.inl hk, L + 1, hcl, .tail _ (.head _), hcell⟩⟩
        obtain ⟨o, ho, r⟩ := hL
        simp only [Rp]
        refine ⟨a, vs, rfl, fun hb => ?_, ⟨o, F.keep _ _ ho, r⟩, hI⟩
        rcases List.mem_cons.mp hb with rfl | hb
        · rw [nL] at ho; cases ho
        · rw [List.mem_singleton.mp hb, n3] at ho; cases ho
    · obtain ⟨_, rfl⟩ := look hcx
      exact ⟨.tail _ (.head _), n3, _, hcell⟩
  refine hx [] _ m s₁.heap _ _ Q E ((aok_caller (n := 9) (by decide)).body hE.kind hf) S (fun fl h' tk' ok => ?_)
  obtain ⟨v, rfl, k, r⟩ := ok
  simp only [Rp] at r
  subst r
  exact q h' tk' (fun b o e => k.get e (by simp))
end
variable {prog : Program} {w : World}
local macro_rules | `(tactic| walk_at "glb") => `(tactic| rfl)
local macro_rules | `(tactic| walk_at "dec") => `(tactic| first | with_reducible assumption | omega | decide | (simp; done) | assumption | rfl | exact Nat.le_of_ble_eq_true rfl)
local macro_rules | `(tactic| walk_at "sok") => `(tactic| first | with_reducible exact sok_of _ | with_reducible assumption | (refine sok_append ?_ ?_ <;> walk_at "sok"))
local macro_rules | `(tactic| walk_at "soks") => `(tactic| first | with_reducible assumption | exact all_sok (by decide +kernel))
local macro_rules | `(tactic| walk_at "cmpb") => `(tactic| first | with_reducible assumption | (refine cmpb_strs ?_; walk_at "soks") | rfl | (simp [V.cmpb, V.okD, V.okL, V.dep, V.depL, *]; done))
local macro_rules | `(tactic| walk_at "op") => `(tactic| first
  | with_reducible exact Op2.add | with_reducible exact Op2.sub | with_reducible exact Op2.lt | with_reducible exact Op2.gt | with_reducible exact Op2.le | with_reducible exact Op2.ge | with_reducible exact Op2.and
  | ((with_reducible refine' Op2.isN ?hg); (case hg => rfl)) | ((with_reducible refine' Op2.isNotN ?hg); (case hg => rfl))
  | ((with_reducible refine' Op2.mod ?hb); (case hb => decide)) | ((with_reducible refine' Op2.div ?hb ?hp); (case hb => decide); (case hp => decide))
  | ((with_reducible refine' Op2.shl ?h0 ?h1 ?ha); (case h0 => walk_at "dec"); (case h1 => walk_at "dec"); (case ha => walk_at "dec"))
  | ((with_reducible refine' Op2.addS ?hz); (case hz => walk_at "dec")) | ((with_reducible refine' Op2.addL ?hz); (case hz => walk_at "dec")) | ((with_reducible refine' Op2.addT ?hz); (case hz => walk_at "dec"))
  | with_reducible exact Op2.eqI | with_reducible exact Op2.neI | with_reducible exact Op2.eqB | with_reducible exact Op2.neB
  | ((with_reducible refine' Op2.eqS ?hx ?hy); (case hx => walk_at "sok"); (case hy => walk_at "sok")) | ((with_reducible refine' Op2.neS ?hx ?hy); (case hx => walk_at "sok"); (case hy => walk_at "sok"))
  | ((with_reducible refine' Op2.eqL0 ?h); (case h => walk_at "cmpb")) | ((with_reducible refine' Op2.neL0 ?h); (case h => walk_at "cmpb"))
  | ((with_reducible refine' Op2.inTS ?hl ?hx ?hy); (case hl => rfl); (case hx => walk_at "sok"); (case hy => decide +kernel)) | ((with_reducible refine' Op2.notInTS ?hl ?hx ?hy); (case hl => rfl); (case hx => walk_at "sok"); (case hy => decide +kernel))
  | ((with_reducible refine' Op2.inLS ?hx ?hy); (case hx => walk_at "sok"); (case hy => walk_at "soks")) | ((with_reducible refine' Op2.notInLS ?hx ?hy); (case hx => walk_at "sok"); (case hy => walk_at "soks"))
  | ((with_reducible refine' Op2.itemT ?hj ?hd ?h0 ?h1); (case hj => rfl); (case hd => rfl); (case h0 => walk_at "dec"); (case h1 => walk_at "dec"))
  | ((with_reducible refine' Op2.itemLS ?h0 ?hi ?hz); (case h0 => walk_at "dec"); (case hi => walk_at "dec"); (case hz => walk_at "dec"))
  | ((with_reducible refine' Op2.itemL ?h0 ?hd ?h1); (case h0 => walk_at "dec"); (case hd => first | assumption | rfl); (case h1 => walk_at "dec"))
  | ((with_reducible refine' Op2.neR ?h ?he); (case he => rfl); (case h => walk_at "cmpb")) | ((with_reducible refine' Op2.eqR ?h ?he); (case he => rfl); (case h => walk_at "cmpb")))
local macro_rules | `(tactic| walk_at "spec") => `(tactic| first
  | assumption
  | ((with_reducible refine Calls.split0 w_64 ?_) <;> decide)
  | ((with_reducible refine Calls.split0 w_32 ?_) <;> decide)
  | ((with_reducible refine Calls.split0 w_16 ?_) <;> decide)
  | ((with_reducible refine Calls.split0 w_8 ?_) <;> decide)
  | ((with_reducible refine Calls.split0 w_hi ?_) <;> decide)
  | ((with_reducible refine Calls.split0 w_sg ?_) <;> decide)
  | ((with_reducible refine Calls.split1 ?_ x_old ?_) <;> decide)
  | ((with_reducible refine Calls.split1 ?_ x_pre ?_) <;> decide)
  | ((with_reducible refine Calls.split1 ?_ x_mem ?_) <;> decide)
  | ((with_reducible refine Calls.split1 ?_ x_sca ?_) <;> decide)
  | ((with_reducible refine' Calls.strI ?h); (case h => walk_at "dec")))
local macro_rules | `(tactic| walk_at "evl") => `(tactic| first | with_reducible exact EvL.nil | ((with_reducible refine' EvL.cons ?k1 ?k2 (star_plain ?k3)); (case k1 => walk_at "ev"); (case k2 => walk_at "evl"); (case k3 => rfl)))
local macro_rules | `(tactic| walk_at "ev") => `(tactic| first
  | ((with_reducible show Ev _ _ _ _ _ _ (.Name _ _) _); (first | exact Ev.name (by rfl) | exact Ev.gl (by rfl) (by rfl) | exact Ev.gs (by rfl) (by rfl) | exact Ev.gi (by rfl) (by rfl) | exact Ev.bl (by rfl) (by rfl)))
  | with_reducible exact Ev.cInt | with_reducible exact Ev.cStr | with_reducible exact Ev.cBool | with_reducible exact Ev.cNone
  | ((with_reducible show Ev _ _ _ _ _ _ (.Attribute _ _ _) _); (((with_reducible refine' Ev.attr ?k1 ?k2 ?k3 ?k4 (attr_plain ?k5)); (case k1 => walk_at "ev"); (case k2 => rfl); (case k3 => exact at_of (by rfl)); (case k4 => walk_at "glb"); (case k5 => rfl))))
  | ((with_reducible show Ev _ _ _ _ _ _ (.BinOp _ _ _ _) _); (((with_reducible refine' Ev.bin ?k1 ?k2 ?k3); (case k1 => walk_at "ev"); (case k2 => walk_at "ev"); (case k3 => walk_at "op"))))
  | ((with_reducible show Ev _ _ _ _ _ _ (.Compare _ [_] [_] _) _); (((with_reducible refine' Ev.cmp ?k1 ?k2 ?k3 ?k4); (case k1 => walk_at "ev"); (case k2 => walk_at "ev"); (case k3 => walk_at "op"); (case k4 => rfl))))
  | ((with_reducible show Ev _ _ _ _ _ _ (.Compare _ [_, _] [_, _] _) _); (exact Ev.cmp2 (by walk_at "ev") (by walk_at "ev") (by walk_at "op") (by walk_at "ev") (by walk_at "op")))
  | ((with_reducible show Ev _ _ _ _ _ _ (.Subscript _ (.Slice _ _ _ _) _) _); exact Ev.cutK (by walk_at "ev") (by walk_at "evp") (by walk_at "evp") (by first | exact (rfl : _ = 5) | exact (rfl : _ = 8)) (by walk_at "cut"))
  | ((with_reducible show Ev _ _ _ _ _ _ (.Subscript _ _ _) _); (exact Ev.sub (by walk_at "ev") (by walk_at "ev") (by walk_at "op")))
  | ((with_reducible show Ev _ _ _ _ _ _ (.UnaryOp .USub _ _) _); (((with_reducible refine' Ev.neg ?k1); (case k1 => walk_at "ev"))))
  | ((with_reducible show Ev _ _ _ _ _ _ (.UnaryOp .Not _ _) _); (exact Ev.not_ (by walk_at "ev")))
  | ((with_reducible show Ev _ _ _ _ _ _ (.Tuple _ _ _) _); (((with_reducible refine' Ev.tup ?k1 ?k2); (case k1 => walk_at "evl"); (case k2 => simp)))) | ((with_reducible show Ev _ _ _ _ _ _ (.List _ _) _); (((with_reducible refine' Ev.lst ?k1 ?k2); (case k1 => walk_at "evl"); (case k2 => simp))))
  | ((with_reducible show Ev _ _ _ _ _ _ (.Call (.Name _ _) [] [] _) _); (exact Ev.cg0 (by rfl) (by rfl) (by walk_at "spec") (by decide)))
  | ((with_reducible show Ev _ _ _ _ _ _ (.Call (.Name _ _) _ _ _) _); (first
      | exact Ev.cg (by rfl) (by rfl) (by walk_at "evl") (by walk_at "spec") (by decide) (he := star_plain rfl)
      | exact Ev.cb (by rfl) (by rfl) (by rfl) (by walk_at "evl") (by walk_at "spec") (he := star_plain rfl)))
  | ((with_reducible show Ev _ _ _ _ _ _ (.Call (.Attribute _ "split" _) [] [] _) _); exact Ev.methB0 (by walk_at "ev") MB.split (by walk_at "spec") (hb := base_plain rfl))
  | ((with_reducible show Ev _ _ _ _ _ _ (.Call (.Attribute _ _ _) [] [] _) _); exact Ev.meth0 (by walk_at "ev") (mt_of (by rfl)) (by rfl) (by walk_at "spec") (by decide) (hb := base_plain rfl))
  | ((with_reducible show Ev _ _ _ _ _ _ (.Call (.Attribute _ "split" _) _ [] _) _); exact Ev.methB (by walk_at "ev") (by walk_at "evl") MB.split (by walk_at "spec") (hb := base_plain rfl))
  | ((with_reducible show Ev _ _ _ _ _ _ (.Call (.Attribute _ "index" _) _ [] _) _); exact Ev.methB (by walk_at "ev") (by walk_at "evl") MB.index (by walk_at "spec") (hb := base_plain rfl))
  | ((with_reducible show Ev _ _ _ _ _ _ (.Call (.Attribute _ "count" _) (_ :: _) [] _) _); exact Ev.methB (by walk_at "ev") (by walk_at "evl") MB.count (by walk_at "spec") (hb := base_plain rfl))
  | ((with_reducible show Ev _ _ _ _ _ _ (.Call (.Attribute _ _ _) _ _ _) _); exact Ev.meth (by walk_at "ev") (by walk_at "evl") (mt_of (by rfl)) (by rfl) (by walk_at "spec") (by decide) (hb := base_plain rfl))
  | ((with_reducible show Ev _ _ _ _ _ _ (.IfExp _ _ _ _) _); (first
      | exact Ev.ifT (EvT.to (by walk_at "evt") (by walk_at "tt")) (by walk_at "ev")
      | exact Ev.ifF (EvT.to (by walk_at "evt") (by walk_at "tt")) (by walk_at "ev")
      | exact Ev.if_ (by walk_at "evt") (fun _ => by walk_at "ev") (fun _ => by walk_at "ev")))
  | ((with_reducible show Ev _ _ _ _ _ _ (.BoolOp _ [_] _) _); exact Ev.bool1 (by walk_at "ev"))
  | ((with_reducible show Ev _ _ _ _ _ _ (.BoolOp .And _ _) _); exact Ev.and_ (by walk_at "ev") (fun hq => by first | exact (absurd hq (by walk_at "tn") : Ev _ _ _ _ _ _ _ (.bool false)) | walk_at "ev"))
  | ((with_reducible show Ev _ _ _ _ _ _ (.BoolOp .Or _ _) _); exact Ev.or_ (by walk_at "ev") (fun hq => by first | exact (absurd hq (by walk_at "tn") : Ev _ _ _ _ _ _ _ (.bool false)) | walk_at "ev")))
local macro_rules | `(tactic| walk_at "evt") => `(tactic| first
  | ((with_reducible show EvT _ _ _ _ _ _ (.Compare _ [_] [_] _) _); (((with_reducible refine' EvT.cmp ?k1 ?k2 ?k3 ?k4); (case k1 => walk_at "ev"); (case k2 => walk_at "ev"); (case k3 => walk_at "op"); (case k4 => rfl))))
  | ((with_reducible show EvT _ _ _ _ _ _ (.Compare _ [_, _] [_, _] _) _); (exact EvT.cmp2 (by walk_at "ev") (by walk_at "ev") (by walk_at "op") (by walk_at "ev") (by walk_at "op")))
  | ((with_reducible show EvT _ _ _ _ _ _ (.UnaryOp .Not _ _) _); (exact EvT.not (by walk_at "evt")))
  | ((with_reducible show EvT _ _ _ _ _ _ (.BoolOp .Or _ _) _); (first | with_reducible exact EvT.or0 | exact EvT.or_ (by walk_at "evt") (fun hq => by first | exact (absurd hq (by walk_at "tn") : EvT _ _ _ _ _ _ _ false) | walk_at "evt")))
  | ((with_reducible show EvT _ _ _ _ _ _ (.BoolOp .And _ _) _); (first | with_reducible exact EvT.and0 | exact EvT.and_ (by walk_at "evt") (fun hq => by first | exact (absurd hq (by walk_at "tn") : EvT _ _ _ _ _ _ _ false) | walk_at "evt")))
  | ((with_reducible show EvT _ _ _ _ _ _ (.Name _ _) _); (exact EvT.plain (by walk_at "ev"))) | ((with_reducible show EvT _ _ _ _ _ _ (.Attribute _ _ _) _); (exact EvT.plain (by walk_at "ev"))) | ((with_reducible show EvT _ _ _ _ _ _ (.Call _ _ _ _) _); (exact EvT.plain (by walk_at "ev"))))
local macro_rules | `(tactic| walk_at "tt") => `(tactic| first | rfl | decide | (simp [V.isNone]; done) | (simp (maxSteps := 2000) [*]; done) | (simp; omega))
local macro_rules | `(tactic| walk_at "tn") => `(tactic| first | decide | (simp [V.isNone]; done) | (simp (maxSteps := 2000) [*]; done))
local macro_rules | `(tactic| walk_at "veq") => `(tactic| first | rfl | (simp; done) | (simp (maxSteps := 2000) [*]; done))
local macro_rules | `(tactic| walk_at "dead") => `(tactic| first | (simp at *; done) | (simp at *; omega))
local macro_rules | `(tactic| walk_at "ex") => `(tactic| first
  | with_reducible exact Ex.nil
  | ((with_reducible show Ex _ _ _ _ _ _ _ (.Return (some _) _ :: _) _); ((with_reducible refine' Ex.retTo ?k1 ?k2); (case k1 => walk_at "ev"); (case k2 => walk_at "veq")))
  | ((with_reducible show Ex _ _ _ _ _ _ _ (.Return none _ :: _) _); (with_reducible exact Ex.stop Ex1.ret0))
  | ((with_reducible show Ex _ _ _ _ _ _ _ (.If _ _ _ _ :: _) _); (((with_reducible refine' Ex.ifcE ?k1 ?k2 ?k3); (case k1 => walk_at "evt")) <;> (intro hc; first | (exfalso; revert hc; decide) | (exfalso; simp [V.isNone] at hc; done) | (exfalso; simp at hc; omega) | (exfalso; simp (maxSteps := 2000) [*] at hc; done) | ((try (simp only [decide_eq_true_eq, decide_eq_false_iff_not, Bool.not_eq_true', Bool.not_eq_false'] at hc)); (try (simp only [List.cons_append, List.nil_append])); (try (walk_at "ex"))))))
  | ((with_reducible show Ex _ _ _ _ _ _ _ (.Assign [.Name _ _] _ _ :: _) _); (with_reducible refine' Ex.asgE ?k1 ?k2 ?k3 ?k4 ?k5); (case k1 => walk_at "ev"); (case k2 => rfl); (case k4 => decide +kernel); (case k5 => rfl); try walk_at "ex")
  | ((with_reducible show Ex _ _ _ _ _ _ _ (.Assign [.Tuple [.Name _ _, .Name _ _] _ _] _ _ :: _) _); (with_reducible refine' Ex.pairE ?k1 ?k2 ?k3 ?k4 ?k5 ?k6); (case k1 => walk_at "ev"); (case k2 => exact ⟨by rfl, by decide +kernel⟩); (case k3 => exact ⟨by rfl, by decide +kernel⟩); (case k5 => rfl); (case k6 => rfl); try walk_at "ex"))
local macro_rules | `(tactic| walk_at "asg") => `(tactic| ((with_reducible refine' Ex.asgE ?k1 ?k2 ?k3 ?k4 ?k5); (case k1 => walk_at "ev"); (case k2 => rfl); (case k4 => decide +kernel); (case k5 => rfl)))
local macro_rules | `(tactic| walk_at "pair") => `(tactic| ((with_reducible refine' Ex.pairE ?k1 ?k2 ?k3 ?k4 ?k5 ?k6); (case k1 => walk_at "ev"); (case k2 => exact ⟨by rfl, by decide +kernel⟩); (case k3 => exact ⟨by rfl, by decide +kernel⟩); (case k5 => rfl); (case k6 => rfl)))
local macro_rules | `(tactic| walk_at "ifT") => `(tactic| ((with_reducible refine' Ex.ifTE ?k1 ?k2 ?k3); (case k1 => walk_at "evt"); (case k2 => walk_at "tt"); (try (simp only [List.cons_append, List.nil_append]))))
local macro_rules | `(tactic| walk_at "ifF") => `(tactic| ((with_reducible refine' Ex.ifFE ?k1 ?k2 ?k3); (case k1 => walk_at "evt"); (case k2 => walk_at "tt"); (try (simp only [List.cons_append, List.nil_append]))))
local macro_rules | `(tactic| walk_at "binds1") => `(tactic| (exact ball1 fun _ => rfl))
local macro_rules | `(tactic| walk_at "binds2") => `(tactic| (exact ball2 fun _ _ => rfl))
local macro_rules | `(tactic| walk_at "binds3") => `(tactic| (exact ball3 fun _ _ _ => rfl))
local macro_rules | `(tactic| walk_at "binds4") => `(tactic| (exact ball4 fun _ _ _ _ => rfl))
local macro_rules | `(tactic| walk_at "loc1") => `(tactic| first | exact ⟨by decide +kernel, .inl (by rfl)⟩ | exact ⟨by decide +kernel, by rfl⟩)
local macro_rules | `(tactic| walk_at "loc") => `(tactic| first
  | (refine List.forall_mem_cons.mpr ⟨?_, ?_⟩; (walk_at "loc1"); (walk_at "loc"))
  | (intro x hx; exact absurd hx List.not_mem_nil))
local macro_rules | `(tactic| walk_at "loc0") => `(tactic| (intro x hx; cases hx))
local macro_rules | `(tactic| walk_at "ib1") => `(tactic| (intro s v vs ki; revert vs; exact ball1 fun _ => kp_binds ki fun S => by rfl))
local macro_rules | `(tactic| walk_at "ib2") => `(tactic| (intro s v vs ki; revert vs; exact ball2 fun _ _ => kp_binds ki fun S => by rfl))
local macro_rules | `(tactic| walk_at "ib4") => `(tactic| (intro s v vs ki; revert vs; exact ball4 fun _ _ _ _ => kp_binds ki fun S => by rfl))
local macro_rules | `(tactic| walk_at "init") => `(tactic| first
  | ((with_reducible show Ex _ _ _ _ _ _ _ (.Assign [.Attribute _ _ _] _ _ :: _) _); refine Ex.next (Ex1.setA (EvO.ev (by walk_at "ev")) (by rfl) (so_of (by rfl)) (by simp)) ?_; walk_at "init")
  | exact Ex.nil)
local macro_rules | `(tactic| walk_at "scok") => `(tactic| exact ⟨by rfl, rfl, by decide +kernel⟩)
local macro_rules | `(tactic| walk_at "spec") => `(tactic| ((with_reducible refine' Calls.index ?h1 ?h2 ?h3); (case h1 => first | assumption | decide | (simp; done)); (case h2 => rfl); (case h3 => walk_at "dec")))
local macro_rules | `(tactic| walk_at "spec") => `(tactic| ((with_reducible refine' Calls.count ?h1); (case h1 => rfl)))
local macro_rules | `(tactic| walk_at "evp") => `(tactic| first | with_reducible exact EvP.no | exact EvP.yes (by walk_at "ev"))
local macro_rules | `(tactic| walk_at "cut") => `(tactic| first
  | with_reducible exact cut0
  | with_reducible exact cut1
  | with_reducible exact cut2
  | with_reducible exact cut3
  | with_reducible exact cut4
  | with_reducible exact cut5
  | with_reducible exact cut6
  | with_reducible exact cut7
  | with_reducible exact cut8
  | with_reducible exact cut9
  | with_reducible exact cut10)
local macro_rules | `(tactic| walk_at "evto") => `(tactic| ((with_reducible refine' Ev.to ?k1 ?k2); (case k1 => walk_at "ev")))
noncomputable def names (size : Int) : List Str := if size = 64 then ["rax", "rcx", "rdx", "rbx", "rsp", "rbp", "rsi", "rdi"] else if size = 32 then ["eax", "ecx", "edx", "ebx", "esp", "ebp", "esi", "edi"] else if size = 16 then ["ax", "cx", "dx", "bx", "sp", "bp", "si", "di"] else ["al", "cl", "dl", "bl", "spl", "bpl", "sil", "dil"]
noncomputable def lateE (size : Int) : Str := if size = 32 then "d" else if size = 16 then "w" else if size = 8 then "b" else ""
noncomputable def sizeOk (size : Int) : Prop := size = 64 ∨ size = 32 ∨ size = 16 ∨ size = 8
set_option hygiene false in
local macro_rules | `(tactic| walk_at "spec") => `(tactic| first
  | (with_reducible exact s_refusedO)
  | ((with_reducible refine' s_refused ?_ ?_) <;> walk_at "dec")
  | ((with_reducible refine' s_chkmem ?_) <;> walk_at "dec")
  | ((with_reducible refine' s_chkindex ?_ ?_ ?_) <;> walk_at "dec")
  | ((with_reducible refine' s_chkbase ?_ ?_) <;> walk_at "dec")
  | ((with_reducible refine' s_addrregO ?_) <;> walk_at "dec")
  | ((with_reducible refine' s_lopright ?_) <;> walk_at "dec")
  | ((with_reducible refine' s_lnames ?_) <;> walk_at "dec")
  | ((with_reducible refine' s_loperand ?_) <;> walk_at "dec")
  | ((with_reducible refine' s_ltold ?_) <;> walk_at "dec")
  | ((with_reducible refine' s_lname ?_ ?_ ?_ ?_) <;> walk_at "dec")
  | ((with_reducible refine' s_lreg ?_ ?_ ?_ ?_) <;> walk_at "dec")
  | ((with_reducible refine' s_cell ?_ ?_ ?_) <;> walk_at "dec")
  | ((with_reducible refine' Calls.lenS ?_) <;> walk_at "dec")
  | ((with_reducible refine' s_named ?_) <;> walk_at "dec")
  | ((with_reducible refine' s_replaced ?_ ?_) <;> walk_at "dec")
  | ((with_reducible refine' s_memory ?_) <;> walk_at "dec")
  | (with_reducible first | exact s_memat | exact s_noRex | exact s_toldsize)
  | ((with_reducible refine' s_Isyms ?_ ?_) <;> walk_at "dec")
  | ((with_reducible refine' s_Itold ?_) <;> walk_at "dec")
  | ((with_reducible refine' s_isRegP ?_) <;> walk_at "dec")
  | (with_reducible first | exact s_opszP | exact s_isMemP | exact s_lprefixes)
  | ((with_reducible refine' s_bits ?_) <;> walk_at "dec")
  | ((with_reducible refine' s_count ?_ ?_ ?_) <;> walk_at "dec")
  | ((with_reducible refine' s_octets ?_ ?_ ?_) <;> walk_at "dec")
  | (with_reducible first | exact s_fits | exact s_seg1 | exact s_seg0 | exact s_roct3 | exact s_roct2 | exact s_roct1 | exact s_roct0 | exact s_rword2 | exact s_rword1 | exact s_rword0 | exact s_seg_gs | exact s_seg_fs | exact s_is_rex | exact s_bits1 | exact s_bits0 | exact s_rex_bits1 | exact s_rex_bits0)
  | ((with_reducible refine' s_same_place ?_ ?_ ?_ ?_) <;> walk_at "dec")
  | ((with_reducible refine' s_is_reg1 ?_ ?_) <;> walk_at "dec")
  | ((with_reducible refine' s_addrreg ?_) <;> walk_at "dec")
  | ((with_reducible refine' s_same_oo ?_) <;> walk_at "dec")
  | ((with_reducible refine' s_same_rr ?_ ?_) <;> walk_at "dec")
  | (with_reducible first | exact s_same_nn | exact s_Memregs | exact s_is_abs)
  | ((with_reducible refine' s_is_rip ?_) <;> walk_at "dec")
  | (with_reducible first | exact s_placed | exact s_moved | exact s_sized | exact s_opsize4 | exact s_opsize3 | exact s_opsize2 | exact s_opsize | exact s_is_memory4 | exact s_is_memory3 | exact s_is_memory2 | exact s_is_memory | exact s_without_repeat | exact s_without_data | exact s_with_rex | exact s_Phasrex | exact s_Ptold | exact s_Memtold | exact s_Memsym | exact s_Reltgt | exact s_wrap | exact s_mask | exact s_Relsym | exact s_Reltold | exact s_noregs | exact s_Immsym | exact s_Immtold | exact s_Regregs | exact s_Regsym | exact s_Regtold | exact s_Rtold)
  | ((with_reducible refine' s_Instr2 ?_) <;> walk_at "dec")
  | ((with_reducible refine' s_Instr3 ?_) <;> walk_at "dec")
  | (with_reducible exact Calls.intB)
  | ((with_reducible refine' Calls.tupL ?_) <;> walk_at "dec")
  | (with_reducible first | exact s_Prefixes | exact s_Mem4 | exact s_Mem7 | exact s_Rel2 | exact s_Imm1 | exact s_Imm2 | exact s_Reg)
  | ((with_reducible refine' s_xmm ?_ ?_) <;> walk_at "dec")
  | ((with_reducible refine' s_high ?_ ?_) <;> walk_at "dec")
  | ((with_reducible refine' s_gpr ?_ ?_ ?_) <;> walk_at "dec")
  | ((with_reducible refine' s_late ?_) <;> walk_at "dec")
  | ((with_reducible refine' s_early ?_) <;> walk_at "dec")
  | (with_reducible first | exact s_rip | exact s_Register))
theorem s_early {size : Int} (h : sizeOk size) : Calls prog w (KK w) 1 (.ref 157) [.int size] (.lst ((names size).map .str)) := by
  refine Calls.def (fa := 157) (ps := ["size"]) (ds := [.int size]) (out := .ret (.lst ((names size).map .str))) (by rfl) (by rfl) (by rfl) (by rfl) (by rfl) (by rfl) (by rfl) (by decide) (by walk_at "binds1") (by walk_at "loc") (fun L => ?_)
  rcases h with rfl | rfl | rfl | rfl <;> walk_at "ex"
theorem s_late {size : Int} (h : sizeOk size) : Calls prog w (KK w) 1 (.ref 164) [.int size] (.str (lateE size)) := by
  refine Calls.def (fa := 164) (ps := ["size"]) (ds := [.int size]) (out := .ret (.str (lateE size))) (by rfl) (by rfl) (by rfl) (by rfl) (by rfl) (by rfl) (by rfl) (by decide) (by walk_at "binds1") (by walk_at "loc") (fun L => ?_)
  rcases h with rfl | rfl | rfl | rfl <;> walk_at "ex"
noncomputable def inst4 (a b c d : V) : V := .inst 146 [("name", a), ("kind", b), ("number", c), ("size", d)]
theorem s_Register {a b c d : V} : Calls prog w (KK w) 2 (.ref 146) [a, b, c, d] (.inst 146 [("name", a), ("kind", b), ("number", c), ("size", d)]) :=
  Calls.cls (f := 108) (by kernel_rfl) (by kernel_rfl) (by kernel_rfl) (Inits.def (self := "self") (ps := ["name", "kind", "number", "size"]) (es := []) (dvs := []) (by rfl) (by rfl) (by rfl) (by rfl) (by rfl) (by rfl) (by decide) (fun X h => .nil)
    (by walk_at "ib4") (by decide +kernel) (by walk_at "loc") (fun L x dx => by walk_at "init"))
theorem Str.len_append (x y : Str) : (x ++ y).length = x.length + y.length := by show (x.cps ++ y.cps).size = _; rw [Array.size_append]; rfl
noncomputable def gname (n size : Int) : Str := if n < 8 then (names size).getD n.toNat "" else "r" ++ Str.ofString (toString n) ++ lateE size
noncomputable abbrev regV (nm kd : Str) (n size : Int) : V := .inst 146 [("name", .str nm), ("kind", .str kd), ("number", .int n), ("size", .int size)]
theorem names_ok (size : Int) : ∀ y ∈ names size, sok y := by
  unfold names; repeat' split
  all_goals exact all_sok (by decide +kernel)
theorem names_len (size : Int) : (names size).length = 8 := by
  unfold names; repeat' split
  all_goals rfl
theorem names_lenI (size : Int) : ((names size).length : Int) = 8 := by rw [names_len]; rfl
theorem lateE_ok (size : Int) : sok (lateE size) := by
  unfold lateE; repeat' split
  all_goals exact sok_of _
theorem lateE_len (size : Int) : (lateE size).length ≤ 1 := by
  unfold lateE; repeat' split
  all_goals decide
theorem intB (m : Nat) {P : Int → Prop} (h : ∀ k : Nat, k < m → P k) {n : Int} (h0 : 0 ≤ n) (h1 : n < m) : P n := by
  have := h n.toNat (by omega)
  rwa [Int.toNat_of_nonneg h0] at this
theorem num_len {n : Int} (h0 : 0 ≤ n) (h1 : n ≤ 15) : (Str.ofString (toString n)).length ≤ 2 ∧ n.natAbs.log2 < 1920 :=
  intB 16 (P := fun n => (Str.ofString (toString n)).length ≤ 2 ∧ n.natAbs.log2 < 1920) (by decide +kernel) h0 (by omega)
local macro_rules | `(tactic| walk_at "spec") => `(tactic| ((with_reducible refine' s_early ?h); (case h => assumption)))
local macro_rules | `(tactic| walk_at "spec") => `(tactic| ((with_reducible refine' s_late ?h); (case h => assumption)))
local macro_rules | `(tactic| walk_at "veq") => `(tactic| first | rfl | (simp [gname, *]; done))
theorem s_gpr {n size : Int} (h : sizeOk size) (h0 : 0 ≤ n) (h1 : n ≤ 15) : Calls prog w (KK w) 3 (.ref 171) [.int n, .int size] (regV (gname n size) "gpr" n size) := by
  refine Calls.def (fa := 171) (ps := ["number", "size"]) (ds := [.int n, .int size]) (out := .ret (regV (gname n size) "gpr" n size)) (by rfl) (by rfl) (by rfl) (by rfl) (by rfl) (by rfl) (by rfl) (by decide) (by walk_at "binds2") (by walk_at "loc") (fun L => ?_)
  have e3 := names_ok size
  have e4 := names_lenI size
  have hne : names size ≠ [] := by intro h; rw [h] at e4; cases e4
  obtain ⟨e5, e6⟩ := num_len h0 h1
  have e7 := lateE_len size
  have er : (Str.ofString "r").length = 1 := by decide
  have e8 : (Str.ofString "r").length + (Str.ofString (toString n)).length ≤ 1000 := by omega
  have e9 : (Str.ofString "r" ++ Str.ofString (toString n)).length + (lateE size).length ≤ 1000 := by
    rw [Str.len_append]; omega
  walk_at "ex"
noncomputable def hname (n : Int) : Str := (["ah", "ch", "dh", "bh"] : List Str).getD (n - 4).toNat ""
local macro_rules | `(tactic| walk_at "veq") => `(tactic| first | rfl | (simp [hname, *]; done))
theorem s_high {n : Int} (h0 : 4 ≤ n) (h1 : n ≤ 7) : Calls prog w (KK w) 3 (.ref 178) [.int n] (regV (hname n) "high" n 8) := by
  refine Calls.def (fa := 178) (ps := ["number"]) (ds := [.int n]) (out := .ret (regV (hname n) "high" n 8)) (by rfl) (by rfl) (by rfl) (by rfl) (by rfl) (by rfl) (by rfl) (by decide) (by walk_at "binds1") (by walk_at "loc") (fun L => ?_)
  have e1 : ((["ah", "ch", "dh", "bh"] : List Str).length : Int) = 4 := rfl
  walk_at "ex"
theorem s_xmm {n : Int} (h0 : 0 ≤ n) (h1 : n ≤ 15) : Calls prog w (KK w) 3 (.ref 185) [.int n] (regV ("xmm" ++ Str.ofString (toString n)) "xmm" n 128) := by
  refine Calls.def (fa := 185) (ps := ["number"]) (ds := [.int n]) (out := .ret (regV ("xmm" ++ Str.ofString (toString n)) "xmm" n 128)) (by rfl) (by rfl) (by rfl) (by rfl) (by rfl) (by rfl) (by rfl) (by decide) (by walk_at "binds1") (by walk_at "loc") (fun L => ?_)
  obtain ⟨e5, e6⟩ := num_len h0 h1
  have er : (Str.ofString "xmm").length = 3 := by decide
  walk_at "ex"
theorem s_rip : Calls prog w (KK w) 3 (.ref 192) [] (regV "rip" "rip" 0 64) := by
  refine Calls.def (fa := 192) (ps := []) (ds := []) (out := .ret (regV "rip" "rip" 0 64)) (by rfl) (by rfl) (by rfl) (by rfl) (by rfl) (by rfl) (by rfl) (by decide) (ball0 rfl) (by walk_at "loc") (fun L => ?_)
  walk_at "ex"
theorem sup_g : specialIn (KK w) (.ref 244) "__getattribute__" = some (some (.builtin "type.__getattribute__")) := by kernel_rfl
theorem sup_r : readsIn (KK w) 244 (.type "type") = true := by kernel_rfl
theorem sup_f : findCls (KK w) (.ref 244) (.type "type") "__init__" = some (.val (.ref 220)) := by kernel_rfl
theorem sup_k : keepIn (KK w) (.ref 220) = true := by kernel_rfl
theorem s_OpInit {C : Addr} {d : V} (hC : storeOkC (KK w) C (Str.ofString "kind") = true) : Inits prog w (KK w) 1 220 C [d] [] [("kind", d)] := by
  refine Inits.def (self := "self") (ps := ["kind"]) (es := []) (dvs := []) (Γ' := fun _ _ => [("kind", d)]) (by rfl) (by rfl) (by rfl) (by rfl) (by rfl) (by rfl) (by decide) (fun X h => .nil)
    (by walk_at "ib1") (by decide +kernel) (by walk_at "loc") (fun L x dx => ?_)
  refine Ex.next (Ex1.setA (EvO.ev (by walk_at "ev")) (by rfl) hC (by simp)) ?_
  exact Ex.nil
theorem s_Reg {d : V} : Calls prog w (KK w) 3 (.ref 279) [d] (.inst 279 [("kind", .str "reg"), ("register", d)]) :=
  Calls.cls (f := 262) (by kernel_rfl) (by kernel_rfl) (by kernel_rfl) (Inits.def (self := "self") (ps := ["register"]) (es := []) (dvs := []) (by rfl) (by rfl) (by rfl) (by rfl) (by rfl) (by rfl) (by decide) (fun X h => .nil)
    (by walk_at "ib1") (by decide +kernel) (by walk_at "loc") (fun L x dx => by
      refine Ex.next (Ex1.super (Ev.gl (by rfl) (by rfl)) sup_g sup_r sup_f sup_k (by walk_at "ev") (s_OpInit (so_of (by rfl)))) ?_
      walk_at "init"))
theorem s_Imm2 {a b : V} : Calls prog w (KK w) 3 (.ref 313) [a, b] (.inst 313 [("kind", .str "imm"), ("worth", a), ("name", b)]) :=
  Calls.cls (f := 296) (by kernel_rfl) (by kernel_rfl) (by kernel_rfl) (Inits.def (self := "self") (ps := ["worth", "name"]) (ds := [a, b]) (es := []) (dvs := []) (by rfl) (by rfl) (by rfl) (by rfl) (by rfl) (by rfl) (by decide) (fun X h => .nil)
    (by intro s v vs ki; revert vs; exact ball2 fun _ _ => kp_binds ki fun S => by rfl) (by decide +kernel) (by walk_at "loc") (fun L x dx => by refine Ex.next (Ex1.super (Ev.gl (by rfl) (by rfl)) sup_g sup_r sup_f sup_k (by walk_at "ev") (s_OpInit (so_of (by rfl)))) ?_; walk_at "init"))
theorem s_Imm1 {a : V} : Calls prog w (KK w) 3 (.ref 313) [a] (.inst 313 [("kind", .str "imm"), ("worth", a), ("name", .str "")]) :=
  Calls.cls (f := 296) (by kernel_rfl) (by kernel_rfl) (by kernel_rfl) (Inits.def (self := "self") (ps := ["worth", "name"]) (ds := [a]) (es := [.str ""]) (dvs := [.str "" 542]) (by rfl) (by rfl) (by rfl) (by rfl) (by rfl) (by rfl) (by decide) (fun X h => .cons (Rp.str) (.nil))
    (by intro s v vs ki; revert vs; exact ball1 fun _ => kp_binds ki fun S => by rfl) (by decide +kernel) (by walk_at "loc") (fun L x dx => by refine Ex.next (Ex1.super (Ev.gl (by rfl) (by rfl)) sup_g sup_r sup_f sup_k (by walk_at "ev") (s_OpInit (so_of (by rfl)))) ?_; walk_at "init"))
theorem s_Rel2 {a b : V} : Calls prog w (KK w) 3 (.ref 354) [a, b] (.inst 354 [("kind", .str "rel"), ("worth", a), ("name", b)]) :=
  Calls.cls (f := 330) (by kernel_rfl) (by kernel_rfl) (by kernel_rfl) (Inits.def (self := "self") (ps := ["worth", "name"]) (ds := [a, b]) (es := []) (dvs := []) (by rfl) (by rfl) (by rfl) (by rfl) (by rfl) (by rfl) (by decide) (fun X h => .nil)
    (by intro s v vs ki; revert vs; exact ball2 fun _ _ => kp_binds ki fun S => by rfl) (by decide +kernel) (by walk_at "loc") (fun L x dx => by refine Ex.next (Ex1.super (Ev.gl (by rfl) (by rfl)) sup_g sup_r sup_f sup_k (by walk_at "ev") (s_OpInit (so_of (by rfl)))) ?_; walk_at "init"))
theorem s_Mem7 {a b c d e f1 g : V} : Calls prog w (KK w) 3 (.ref 407) [a, b, c, d, e, f1, g] (.inst 407 [("kind", .str "mem"), ("base", a), ("index", b), ("scale", c), ("worth", d), ("size", e), ("segment", f1), ("name", g)]) :=
  Calls.cls (f := 371) (by kernel_rfl) (by kernel_rfl) (by kernel_rfl) (Inits.def (self := "self") (ps := ["base", "index", "scale", "worth", "size", "segment", "name"]) (ds := [a, b, c, d, e, f1, g]) (es := []) (dvs := []) (by rfl) (by rfl) (by rfl) (by rfl) (by rfl) (by rfl) (by decide) (fun X h => .nil)
    (by intro s v vs ki; revert vs; exact ball7 fun _ _ _ _ _ _ _ => kp_binds ki fun S => by rfl) (by decide +kernel) (by walk_at "loc") (fun L x dx => by refine Ex.next (Ex1.super (Ev.gl (by rfl) (by rfl)) sup_g sup_r sup_f sup_k (by walk_at "ev") (s_OpInit (so_of (by rfl)))) ?_; walk_at "init"))
theorem s_Mem4 {a b c d : V} : Calls prog w (KK w) 3 (.ref 407) [a, b, c, d] (.inst 407 [("kind", .str "mem"), ("base", a), ("index", b), ("scale", c), ("worth", d), ("size", .int 0), ("segment", .str ""), ("name", .str "")]) :=
  Calls.cls (f := 371) (by kernel_rfl) (by kernel_rfl) (by kernel_rfl) (Inits.def (self := "self") (ps := ["base", "index", "scale", "worth", "size", "segment", "name"]) (ds := [a, b, c, d]) (es := [.int 0, .str "", .str ""]) (dvs := [.int 0 634, .str "" 635, .str "" 636]) (by rfl) (by rfl) (by rfl) (by rfl) (by rfl) (by rfl) (by decide) (fun X h => .cons (Rp.int) (.cons (Rp.str) (.cons (Rp.str) (.nil))))
    (by intro s v vs ki; revert vs; exact ball4 fun _ _ _ _ => kp_binds ki fun S => by rfl) (by decide +kernel) (by walk_at "loc") (fun L x dx => by refine Ex.next (Ex1.super (Ev.gl (by rfl) (by rfl)) sup_g sup_r sup_f sup_k (by walk_at "ev") (s_OpInit (so_of (by rfl)))) ?_; walk_at "init"))
theorem s_Prefixes {a b c d e : V} : Calls prog w (KK w) 2 (.ref 648) [a, b, c, d, e] (.inst 648 [("segment", a), ("is_data", b), ("repeat", c), ("is_lock", d), ("rex", e)]) :=
  Calls.cls (f := 610) (by kernel_rfl) (by kernel_rfl) (by kernel_rfl) (Inits.def (self := "self") (ps := ["segment", "is_data", "repeat", "is_lock", "rex"]) (ds := [a, b, c, d, e]) (es := []) (dvs := []) (by rfl) (by rfl) (by rfl) (by rfl) (by rfl) (by rfl) (by decide) (fun X h => .nil)
    (by intro s v vs ki; revert vs; exact ball5 fun _ _ _ _ _ => kp_binds ki fun S => by rfl) (by decide +kernel) (by walk_at "loc") (fun L x dx => by walk_at "init"))
theorem s_Instr3 {a c : V} {ds : List V} (hz : ds.length ≤ 1000) : Calls prog w (KK w) 2 (.ref 458) [a, .lst ds, c] (.inst 458 [("name", a), ("operands", .tup ds), ("prefix", c)]) :=
  Calls.cls (f := 424) (by kernel_rfl) (by kernel_rfl) (by kernel_rfl) (Inits.def (self := "self") (ps := ["name", "operands", "prefix"]) (ds := [a, .lst ds, c]) (es := []) (dvs := []) (by rfl) (by rfl) (by rfl) (by rfl) (by rfl) (by rfl) (by decide) (fun X h => .nil)
    (by intro s v vs ki; revert vs; exact ball3 fun _ _ _ => kp_binds ki fun S => by rfl) (by decide +kernel) (by walk_at "loc") (fun L x dx => by walk_at "init"))
theorem s_Instr2 {a : V} {ds : List V} (hz : ds.length ≤ 1000) : Calls prog w (KK w) 2 (.ref 458) [a, .lst ds] (.inst 458 [("name", a), ("operands", .tup ds), ("prefix", .str "")]) :=
  Calls.cls (f := 424) (by kernel_rfl) (by kernel_rfl) (by kernel_rfl) (Inits.def (self := "self") (ps := ["name", "operands", "prefix"]) (ds := [a, .lst ds]) (es := [.str ""]) (dvs := [.str "" 710]) (by rfl) (by rfl) (by rfl) (by rfl) (by rfl) (by rfl) (by decide) (fun X h => .cons Rp.str .nil)
    (by intro s v vs ki; revert vs; exact ball2 fun _ _ => kp_binds ki fun S => by rfl) (by decide +kernel) (by walk_at "loc") (fun L x dx => by walk_at "init"))
structure RV where
  nm : Str
  kd : Str
  no : Int
  sz : Int
noncomputable abbrev RV.v (r : RV) : V := regV r.nm r.kd r.no r.sz
noncomputable abbrev regOp (r : RV) : V := .inst 279 [("kind", .str "reg"), ("register", r.v)]
noncomputable abbrev immOp (wo : Int) (nm : Str) : V := .inst 313 [("kind", .str "imm"), ("worth", .int wo), ("name", .str nm)]
noncomputable abbrev relOp (wo : Int) (nm : Str) : V := .inst 354 [("kind", .str "rel"), ("worth", .int wo), ("name", .str nm)]
noncomputable def optV : Option RV → V
  | none => .none
  | some r => r.v
noncomputable def optN : Option RV → Str
  | none => ""
  | some r => r.nm
noncomputable abbrev memOp (b i : Option RV) (sc wo sz : Int) (sg nm : Str) : V := .inst 407 [("kind", .str "mem"), ("base", optV b), ("index", optV i), ("scale", .int sc), ("worth", .int wo), ("size", .int sz), ("segment", .str sg), ("name", .str nm)]
theorem s_Rtold {r : RV}  : Calls prog w (KK w) 1 (.ref 143) [r.v] (.str r.nm) := by
  refine Calls.def (fa := 143) (ps := ["self"]) (ds := [r.v]) (out := .ret (.str r.nm)) (by rfl) (by rfl) (by rfl) (by rfl) (by rfl) (by rfl) (by rfl) (by decide) (ball1 fun _ => rfl) (by walk_at "loc") (fun L => ?_)
  walk_at "ex"
theorem s_Regtold {r : RV}  : Calls prog w (KK w) 1 (.ref 269) [regOp r] (.tup [.str "reg", .str r.nm]) := by
  refine Calls.def (fa := 269) (ps := ["self"]) (ds := [regOp r]) (out := .ret (.tup [.str "reg", .str r.nm])) (by rfl) (by rfl) (by rfl) (by rfl) (by rfl) (by rfl) (by rfl) (by decide) (ball1 fun _ => rfl) (by walk_at "loc") (fun L => ?_)
  walk_at "ex"
theorem s_Regsym {d : V}  : Calls prog w (KK w) 1 (.ref 234) [d] (.str "") := by
  refine Calls.def (fa := 234) (ps := ["self"]) (ds := [d]) (out := .ret (.str "")) (by rfl) (by rfl) (by rfl) (by rfl) (by rfl) (by rfl) (by rfl) (by decide) (ball1 fun _ => rfl) (by walk_at "loc") (fun L => ?_)
  walk_at "ex"
theorem s_Regregs {r : RV}  : Calls prog w (KK w) 1 (.ref 276) [regOp r] (.lst [r.v]) := by
  refine Calls.def (fa := 276) (ps := ["self"]) (ds := [regOp r]) (out := .ret (.lst [r.v])) (by rfl) (by rfl) (by rfl) (by rfl) (by rfl) (by rfl) (by rfl) (by decide) (ball1 fun _ => rfl) (by walk_at "loc") (fun L => ?_)
  walk_at "ex"
theorem s_Immtold {a : Int} {x : Str}  : Calls prog w (KK w) 1 (.ref 303) [immOp a x] (.tup [.str "imm", .int a, .str x]) := by
  refine Calls.def (fa := 303) (ps := ["self"]) (ds := [immOp a x]) (out := .ret (.tup [.str "imm", .int a, .str x])) (by rfl) (by rfl) (by rfl) (by rfl) (by rfl) (by rfl) (by rfl) (by decide) (ball1 fun _ => rfl) (by walk_at "loc") (fun L => ?_)
  walk_at "ex"
theorem s_Immsym {a : Int} {x : Str}  : Calls prog w (KK w) 1 (.ref 310) [immOp a x] (.str x) := by
  refine Calls.def (fa := 310) (ps := ["self"]) (ds := [immOp a x]) (out := .ret (.str x)) (by rfl) (by rfl) (by rfl) (by rfl) (by rfl) (by rfl) (by rfl) (by decide) (ball1 fun _ => rfl) (by walk_at "loc") (fun L => ?_)
  walk_at "ex"
theorem s_noregs {d : V}  : Calls prog w (KK w) 1 (.ref 241) [d] (.lst []) := by
  refine Calls.def (fa := 241) (ps := ["self"]) (ds := [d]) (out := .ret (.lst [])) (by rfl) (by rfl) (by rfl) (by rfl) (by rfl) (by rfl) (by rfl) (by decide) (ball1 fun _ => rfl) (by walk_at "loc") (fun L => ?_)
  walk_at "ex"
theorem s_Reltold {a : Int} {x : Str}  : Calls prog w (KK w) 1 (.ref 337) [relOp a x] (.tup [.str "rel", .int a, .str x]) := by
  refine Calls.def (fa := 337) (ps := ["self"]) (ds := [relOp a x]) (out := .ret (.tup [.str "rel", .int a, .str x])) (by rfl) (by rfl) (by rfl) (by rfl) (by rfl) (by rfl) (by rfl) (by decide) (ball1 fun _ => rfl) (by walk_at "loc") (fun L => ?_)
  walk_at "ex"
theorem s_Relsym {a : Int} {x : Str}  : Calls prog w (KK w) 1 (.ref 344) [relOp a x] (.str x) := by
  refine Calls.def (fa := 344) (ps := ["self"]) (ds := [relOp a x]) (out := .ret (.str x)) (by rfl) (by rfl) (by rfl) (by rfl) (by rfl) (by rfl) (by rfl) (by decide) (ball1 fun _ => rfl) (by walk_at "loc") (fun L => ?_)
  walk_at "ex"
theorem s_mask   : Calls prog w (KK w) 1 (.ref 80) [.int 64] (.int 18446744073709551615) := by
  refine Calls.def (fa := 80) (ps := ["size"]) (ds := [.int 64]) (out := .ret (.int 18446744073709551615)) (by rfl) (by rfl) (by rfl) (by rfl) (by rfl) (by rfl) (by rfl) (by decide) (ball1 fun _ => rfl) (by walk_at "loc") (fun L => ?_)
  walk_at "ex"
theorem s_wrap {a : Int}  : Calls prog w (KK w) 2 (.ref 87) [.int a, .int 64] (.int (Builtin.bitAnd a 18446744073709551615)) := by
  refine Calls.def (fa := 87) (ps := ["worth", "size"]) (ds := [.int a, .int 64]) (out := .ret (.int (Builtin.bitAnd a 18446744073709551615))) (by rfl) (by rfl) (by rfl) (by rfl) (by rfl) (by rfl) (by rfl) (by decide) (ball2 fun _ _ => rfl) (by walk_at "loc") (fun L => ?_)
  walk_at "ex"
theorem s_Reltgt {a b : Int} {x : Str}  : Calls prog w (KK w) 3 (.ref 351) [relOp a x, .int b] (.int (Builtin.bitAnd (b + a) 18446744073709551615)) := by
  refine Calls.def (fa := 351) (ps := ["self", "behind"]) (ds := [relOp a x, .int b]) (out := .ret (.int (Builtin.bitAnd (b + a) 18446744073709551615))) (by rfl) (by rfl) (by rfl) (by rfl) (by rfl) (by rfl) (by rfl) (by decide) (ball2 fun _ _ => rfl) (by walk_at "loc") (fun L => ?_)
  walk_at "ex"
theorem s_Memsym {b i : Option RV} {sc wo sz : Int} {sg nm : Str}  : Calls prog w (KK w) 1 (.ref 385) [memOp b i sc wo sz sg nm] (.str nm) := by
  refine Calls.def (fa := 385) (ps := ["self"]) (ds := [memOp b i sc wo sz sg nm]) (out := .ret (.str nm)) (by rfl) (by rfl) (by rfl) (by rfl) (by rfl) (by rfl) (by rfl) (by decide) (ball1 fun _ => rfl) (by walk_at "loc") (fun L => ?_)
  walk_at "ex"
theorem s_Memtold {b i : Option RV} {sc wo sz : Int} {sg nm : Str}  : Calls prog w (KK w) 1 (.ref 378) [memOp b i sc wo sz sg nm] (.tup [.str "mem", .str (optN b), .str (optN i), .int sc, .int wo, .int sz, .str sg, .str nm]) := by
  refine Calls.def (fa := 378) (ps := ["self"]) (ds := [memOp b i sc wo sz sg nm]) (out := .ret (.tup [.str "mem", .str (optN b), .str (optN i), .int sc, .int wo, .int sz, .str sg, .str nm])) (by rfl) (by rfl) (by rfl) (by rfl) (by rfl) (by rfl) (by rfl) (by decide) (ball1 fun _ => rfl) (by walk_at "loc") (fun L => ?_)
  rcases b with _ | b <;> rcases i with _ | i <;> walk_at "ex"
noncomputable abbrev preV (sg : Str) (dt : Bool) (rp : Int) (lk : Bool) (rx : Int) : V := .inst 648 [("segment", .str sg), ("is_data", .bool dt), ("repeat", .int rp), ("is_lock", .bool lk), ("rex", .int rx)]
theorem s_Ptold {sg : Str} {dt lk : Bool} {rp rx : Int}  : Calls prog w (KK w) 1 (.ref 617) [preV sg dt rp lk rx] (.tup [.str sg, .bool dt, .int rp, .bool lk, .int rx]) := by
  refine Calls.def (fa := 617) (ps := ["self"]) (ds := [preV sg dt rp lk rx]) (out := .ret (.tup [.str sg, .bool dt, .int rp, .bool lk, .int rx])) (by rfl) (by rfl) (by rfl) (by rfl) (by rfl) (by rfl) (by rfl) (by decide) (ball1 fun _ => rfl) (by walk_at "loc") (fun L => ?_)
  walk_at "ex"
theorem s_Phasrex {sg : Str} {dt lk : Bool} {rp rx : Int}  : Calls prog w (KK w) 1 (.ref 624) [preV sg dt rp lk rx] (.bool (decide (0 ≤ rx))) := by
  refine Calls.def (fa := 624) (ps := ["self"]) (ds := [preV sg dt rp lk rx]) (out := .ret (.bool (decide (0 ≤ rx)))) (by rfl) (by rfl) (by rfl) (by rfl) (by rfl) (by rfl) (by rfl) (by decide) (ball1 fun _ => rfl) (by walk_at "loc") (fun L => ?_)
  walk_at "ex"
theorem s_with_rex {sg : Str} {dt lk : Bool} {rp rx r : Int}  : Calls prog w (KK w) 3 (.ref 659) [preV sg dt rp lk rx, .int r] (preV sg dt rp lk r) := by
  refine Calls.def (fa := 659) (ps := ["prefixes", "rex"]) (ds := [preV sg dt rp lk rx, .int r]) (out := .ret (preV sg dt rp lk r)) (by rfl) (by rfl) (by rfl) (by rfl) (by rfl) (by rfl) (by rfl) (by decide) (ball2 fun _ _ => rfl) (by walk_at "loc") (fun L => ?_)
  walk_at "ex"
theorem s_without_data {sg : Str} {dt lk : Bool} {rp rx : Int}  : Calls prog w (KK w) 3 (.ref 673) [preV sg dt rp lk rx] (preV sg false rp lk rx) := by
  refine Calls.def (fa := 673) (ps := ["prefixes"]) (ds := [preV sg dt rp lk rx]) (out := .ret (preV sg false rp lk rx)) (by rfl) (by rfl) (by rfl) (by rfl) (by rfl) (by rfl) (by rfl) (by decide) (ball1 fun _ => rfl) (by walk_at "loc") (fun L => ?_)
  walk_at "ex"
theorem s_without_repeat {sg : Str} {dt lk : Bool} {rp rx : Int}  : Calls prog w (KK w) 3 (.ref 666) [preV sg dt rp lk rx] (preV sg dt 0 lk rx) := by
  refine Calls.def (fa := 666) (ps := ["prefixes"]) (ds := [preV sg dt rp lk rx]) (out := .ret (preV sg dt 0 lk rx)) (by rfl) (by rfl) (by rfl) (by rfl) (by rfl) (by rfl) (by rfl) (by decide) (ball1 fun _ => rfl) (by walk_at "loc") (fun L => ?_)
  walk_at "ex"
theorem s_is_memory {d : V}  : Calls prog w (KK w) 1 (.ref 532) [.inst 279 [("kind", .str "reg"), ("register", d)]] (.bool false) := by
  refine Calls.def (fa := 532) (ps := ["operand"]) (ds := [.inst 279 [("kind", .str "reg"), ("register", d)]]) (out := .ret (.bool false)) (by rfl) (by rfl) (by rfl) (by rfl) (by rfl) (by rfl) (by rfl) (by decide) (ball1 fun _ => rfl) (by walk_at "loc") (fun L => ?_)
  walk_at "ex"
theorem s_is_memory2 {a : Int} {x : Str}  : Calls prog w (KK w) 1 (.ref 532) [immOp a x] (.bool false) := by
  refine Calls.def (fa := 532) (ps := ["operand"]) (ds := [immOp a x]) (out := .ret (.bool false)) (by rfl) (by rfl) (by rfl) (by rfl) (by rfl) (by rfl) (by rfl) (by decide) (ball1 fun _ => rfl) (by walk_at "loc") (fun L => ?_)
  walk_at "ex"
theorem s_is_memory3 {a : Int} {x : Str}  : Calls prog w (KK w) 1 (.ref 532) [relOp a x] (.bool false) := by
  refine Calls.def (fa := 532) (ps := ["operand"]) (ds := [relOp a x]) (out := .ret (.bool false)) (by rfl) (by rfl) (by rfl) (by rfl) (by rfl) (by rfl) (by rfl) (by decide) (ball1 fun _ => rfl) (by walk_at "loc") (fun L => ?_)
  walk_at "ex"
theorem s_is_memory4 {b i : Option RV} {sc wo sz : Int} {sg nm : Str}  : Calls prog w (KK w) 1 (.ref 532) [memOp b i sc wo sz sg nm] (.bool true) := by
  refine Calls.def (fa := 532) (ps := ["operand"]) (ds := [memOp b i sc wo sz sg nm]) (out := .ret (.bool true)) (by rfl) (by rfl) (by rfl) (by rfl) (by rfl) (by rfl) (by rfl) (by decide) (ball1 fun _ => rfl) (by walk_at "loc") (fun L => ?_)
  walk_at "ex"
theorem s_opsize {r : RV}  : Calls prog w (KK w) 1 (.ref 546) [regOp r] (.int r.sz) := by
  refine Calls.def (fa := 546) (ps := ["operand"]) (ds := [regOp r]) (out := .ret (.int r.sz)) (by rfl) (by rfl) (by rfl) (by rfl) (by rfl) (by rfl) (by rfl) (by decide) (ball1 fun _ => rfl) (by walk_at "loc") (fun L => ?_)
  walk_at "ex"
theorem s_opsize2 {a : Int} {x : Str}  : Calls prog w (KK w) 1 (.ref 546) [immOp a x] (.int 0) := by
  refine Calls.def (fa := 546) (ps := ["operand"]) (ds := [immOp a x]) (out := .ret (.int 0)) (by rfl) (by rfl) (by rfl) (by rfl) (by rfl) (by rfl) (by rfl) (by decide) (ball1 fun _ => rfl) (by walk_at "loc") (fun L => ?_)
  walk_at "ex"
theorem s_opsize3 {a : Int} {x : Str}  : Calls prog w (KK w) 1 (.ref 546) [relOp a x] (.int 0) := by
  refine Calls.def (fa := 546) (ps := ["operand"]) (ds := [relOp a x]) (out := .ret (.int 0)) (by rfl) (by rfl) (by rfl) (by rfl) (by rfl) (by rfl) (by rfl) (by decide) (ball1 fun _ => rfl) (by walk_at "loc") (fun L => ?_)
  walk_at "ex"
theorem s_opsize4 {b i : Option RV} {sc wo sz : Int} {sg nm : Str}  : Calls prog w (KK w) 1 (.ref 546) [memOp b i sc wo sz sg nm] (.int sz) := by
  refine Calls.def (fa := 546) (ps := ["operand"]) (ds := [memOp b i sc wo sz sg nm]) (out := .ret (.int sz)) (by rfl) (by rfl) (by rfl) (by rfl) (by rfl) (by rfl) (by rfl) (by decide) (ball1 fun _ => rfl) (by walk_at "loc") (fun L => ?_)
  walk_at "ex"
theorem s_sized {b i : Option RV} {sc wo sz z : Int} {sg nm : Str}  : Calls prog w (KK w) 4 (.ref 497) [memOp b i sc wo sz sg nm, .int z] (memOp b i sc wo z sg nm) := by
  refine Calls.def (fa := 497) (ps := ["mem", "size"]) (ds := [memOp b i sc wo sz sg nm, .int z]) (out := .ret (memOp b i sc wo z sg nm)) (by rfl) (by rfl) (by rfl) (by rfl) (by rfl) (by rfl) (by rfl) (by decide) (ball2 fun _ _ => rfl) (by walk_at "loc") (fun L => ?_)
  rcases b with _ | b <;> rcases i with _ | i <;> walk_at "ex"
theorem s_moved {b i : Option RV} {sc wo sz z : Int} {sg nm : Str}  : Calls prog w (KK w) 4 (.ref 504) [memOp b i sc wo sz sg nm, .int z] (memOp b i sc (wo + z) sz sg nm) := by
  refine Calls.def (fa := 504) (ps := ["mem", "count"]) (ds := [memOp b i sc wo sz sg nm, .int z]) (out := .ret (memOp b i sc (wo + z) sz sg nm)) (by rfl) (by rfl) (by rfl) (by rfl) (by rfl) (by rfl) (by rfl) (by decide) (ball2 fun _ _ => rfl) (by walk_at "loc") (fun L => ?_)
  rcases b with _ | b <;> rcases i with _ | i <;> walk_at "ex"
theorem s_placed {b i : Option RV} {sc wo sz z : Int} {sg nm : Str}  : Calls prog w (KK w) 4 (.ref 511) [memOp b i sc wo sz sg nm, .int z] (memOp b i sc z sz sg "") := by
  refine Calls.def (fa := 511) (ps := ["mem", "worth"]) (ds := [memOp b i sc wo sz sg nm, .int z]) (out := .ret (memOp b i sc z sz sg "")) (by rfl) (by rfl) (by rfl) (by rfl) (by rfl) (by rfl) (by rfl) (by decide) (ball2 fun _ _ => rfl) (by walk_at "loc") (fun L => ?_)
  rcases b with _ | b <;> rcases i with _ | i <;> walk_at "ex"
noncomputable def optK : Option RV → Bool
  | none => false
  | some r => decide (r.kd = "rip")
theorem s_is_rip {b i : Option RV} {sc wo sz : Int} {sg nm : Str} (hb : ∀ r, b = some r → sok r.kd) : Calls prog w (KK w) 1 (.ref 397) [memOp b i sc wo sz sg nm] (.bool (optK b)) := by
  refine Calls.def (fa := 397) (ps := ["self"]) (ds := [memOp b i sc wo sz sg nm]) (out := .ret (.bool (optK b))) (by rfl) (by rfl) (by rfl) (by rfl) (by rfl) (by rfl) (by rfl) (by decide) (ball1 fun _ => rfl) (by walk_at "loc") (fun L => ?_)
  rcases b with _ | b
  · walk_at "ex"
  · have hk := hb b rfl
    walk_at "ex"
theorem s_is_abs {b i : Option RV} {sc wo sz : Int} {sg nm : Str}  : Calls prog w (KK w) 1 (.ref 404) [memOp b i sc wo sz sg nm] (.bool (b.isNone && i.isNone)) := by
  refine Calls.def (fa := 404) (ps := ["self"]) (ds := [memOp b i sc wo sz sg nm]) (out := .ret (.bool (b.isNone && i.isNone))) (by rfl) (by rfl) (by rfl) (by rfl) (by rfl) (by rfl) (by rfl) (by decide) (ball1 fun _ => rfl) (by walk_at "loc") (fun L => ?_)
  rcases b with _ | b <;> rcases i with _ | i <;> walk_at "ex"
theorem s_Memregs {b i : Option RV} {sc wo sz : Int} {sg nm : Str} : Calls prog w (KK w) 1 (.ref 390) [memOp b i sc wo sz sg nm] (.lst (([b, i].filter Option.isSome).map optV)) := by
  refine Calls.def (fa := 390) (ps := ["self"]) (ds := [memOp b i sc wo sz sg nm]) (out := .ret (.lst (([b, i].filter Option.isSome).map optV))) (by rfl) (by rfl) (by rfl) (by rfl) (by rfl) (by rfl) (by rfl) (by decide) (ball1 fun _ => rfl) (by walk_at "loc") (fun L => ?_)
  have hg : ∀ o : Option RV, (optV o).glb = false := by intro o; cases o <;> rfl
  refine Ex.stop (Ex1.ret (EvO.ev (EvNew.comp (CompRuns.name (cl := []) (Γf := []) (as := [b, i]) (g := optV) (p := Option.isSome) (f := optV) (by decide) rfl rfl (by decide +kernel) FreeOk.nil rfl (EvIt.lst ?_) (by simp) (fun C d hd => EvTs.one ?_) (fun C d hd hp => ?_)) rfl (by walk_at "scok")).ev))
  · refine Ev.lst (EvL.cons (Ev.attr (by walk_at "ev") (by rfl) (at_of (by rfl)) (hg b)) (EvL.cons (Ev.attr (by walk_at "ev") (by rfl) (at_of (by rfl)) (hg i)) EvL.nil)) (by simp)
  · refine EvT.to (EvT.cmp (by walk_at "ev") (by walk_at "ev") (Op2.isNotN (hg d))) ?_
    cases d <;> rfl
  · walk_at "ev"
theorem s_same_nn   : Calls prog w (KK w) 1 (.ref 206) [.none, .none] (.bool true) := by
  refine Calls.def (fa := 206) (ps := ["one", "other"]) (ds := [.none, .none]) (out := .ret (.bool true)) (by rfl) (by rfl) (by rfl) (by rfl) (by rfl) (by rfl) (by rfl) (by decide) (ball2 fun _ _ => rfl) (by walk_at "loc") (fun L => ?_)
  walk_at "ex"
theorem s_same_rr {r q : RV} (h1 : sok r.nm) (h2 : sok q.nm) : Calls prog w (KK w) 1 (.ref 206) [r.v, q.v] (.bool (decide (r.nm = q.nm))) := by
  refine Calls.def (fa := 206) (ps := ["one", "other"]) (ds := [r.v, q.v]) (out := .ret (.bool (decide (r.nm = q.nm)))) (by rfl) (by rfl) (by rfl) (by rfl) (by rfl) (by rfl) (by rfl) (by decide) (ball2 fun _ _ => rfl) (by walk_at "loc") (fun L => ?_)
  walk_at "ex"
theorem s_same_oo {o : Option RV} (h : ∀ r, o = some r → sok r.nm) : Calls prog w (KK w) 1 (.ref 206) [optV o, optV o] (.bool true) := by
  rcases o with _ | r
  · exact s_same_nn
  · exact (s_same_rr (h r rfl) (h r rfl)).to (by simp)
theorem s_addrreg {r : RV} (h1 : sok r.kd) : Calls prog w (KK w) 1 (.ref 469) [r.v] (.bool (decide (r.kd = "gpr") && decide (r.sz = 64))) := by
  refine Calls.def (fa := 469) (ps := ["register"]) (ds := [r.v]) (out := .ret (.bool (decide (r.kd = "gpr") && decide (r.sz = 64)))) (by rfl) (by rfl) (by rfl) (by rfl) (by rfl) (by rfl) (by rfl) (by decide) (ball1 fun _ => rfl) (by walk_at "loc") (fun L => ?_)
  walk_at "ex"
theorem s_is_reg1 {r : RV} {k : Str} {z : Int} (h1 : sok r.kd) (h2 : sok k) : Calls prog w (KK w) 1 (.ref 539) [regOp r, .str k, .int z] (.bool (decide (r.kd = k) && (decide (z = 0) || decide (r.sz = z)))) := by
  refine Calls.def (fa := 539) (ps := ["operand", "kind", "size"]) (ds := [regOp r, .str k, .int z]) (out := .ret (.bool (decide (r.kd = k) && (decide (z = 0) || decide (r.sz = z))))) (by rfl) (by rfl) (by rfl) (by rfl) (by rfl) (by rfl) (by rfl) (by decide) (ball3 fun _ _ _ => rfl) (by walk_at "loc") (fun L => ?_)
  by_cases e : r.kd = k
  · walk_at "ex"
  · walk_at "ex"
theorem optV_glb (o : Option RV) : (optV o).glb = false := by cases o <;> rfl
local macro_rules | `(tactic| walk_at "glb") => `(tactic| first | rfl | exact optV_glb _)
theorem s_same_place {b i : Option RV} {sc wo sz wo2 sz2 : Int} {sg nm : Str} (hb : ∀ r, b = some r → sok r.nm) (hi : ∀ r, i = some r → sok r.nm) (h1 : sok sg) (h2 : sok nm) : Calls prog w (KK w) 2 (.ref 518) [memOp b i sc wo sz sg nm, memOp b i sc wo2 sz2 sg nm] (.bool (decide (wo = wo2))) := by
  refine Calls.def (fa := 518) (ps := ["one", "other"]) (ds := [memOp b i sc wo sz sg nm, memOp b i sc wo2 sz2 sg nm]) (out := .ret (.bool (decide (wo = wo2)))) (by rfl) (by rfl) (by rfl) (by rfl) (by rfl) (by rfl) (by rfl) (by decide) (ball2 fun _ _ => rfl) (by walk_at "loc") (fun L => ?_)
  by_cases e : wo = wo2
  · walk_at "ex"
  · walk_at "ex"
theorem s_rex_bits0   : Calls prog w (KK w) 1 (.ref 581) [.int (-1)] (.tup [.int 0, .int 0, .int 0, .int 0]) := by
  refine Calls.def (fa := 581) (ps := ["octet"]) (ds := [.int (-1)]) (out := .ret (.tup [.int 0, .int 0, .int 0, .int 0])) (by rfl) (by rfl) (by rfl) (by rfl) (by rfl) (by rfl) (by rfl) (by decide) (ball1 fun _ => rfl) (by walk_at "loc") (fun L => ?_)
  walk_at "ex"
theorem s_rex_bits1   : Calls prog w (KK w) 1 (.ref 581) [.int 72] (.tup [.int 1, .int 0, .int 0, .int 0]) := by
  refine Calls.def (fa := 581) (ps := ["octet"]) (ds := [.int 72]) (out := .ret (.tup [.int 1, .int 0, .int 0, .int 0])) (by rfl) (by rfl) (by rfl) (by rfl) (by rfl) (by rfl) (by rfl) (by decide) (ball1 fun _ => rfl) (by walk_at "loc") (fun L => ?_)
  walk_at "ex"
theorem s_bits0 {sg : Str} {dt lk : Bool} {rp : Int}  : Calls prog w (KK w) 2 (.ref 631) [preV sg dt rp lk (-1)] (.tup [.int 0, .int 0, .int 0, .int 0]) := by
  refine Calls.def (fa := 631) (ps := ["self"]) (ds := [preV sg dt rp lk (-1)]) (out := .ret (.tup [.int 0, .int 0, .int 0, .int 0])) (by rfl) (by rfl) (by rfl) (by rfl) (by rfl) (by rfl) (by rfl) (by decide) (ball1 fun _ => rfl) (by walk_at "loc") (fun L => ?_)
  walk_at "ex"
theorem s_bits1 {sg : Str} {dt lk : Bool} {rp : Int}  : Calls prog w (KK w) 2 (.ref 631) [preV sg dt rp lk 72] (.tup [.int 1, .int 0, .int 0, .int 0]) := by
  refine Calls.def (fa := 631) (ps := ["self"]) (ds := [preV sg dt rp lk 72]) (out := .ret (.tup [.int 1, .int 0, .int 0, .int 0])) (by rfl) (by rfl) (by rfl) (by rfl) (by rfl) (by rfl) (by rfl) (by decide) (ball1 fun _ => rfl) (by walk_at "loc") (fun L => ?_)
  walk_at "ex"
theorem s_is_rex   : Calls prog w (KK w) 1 (.ref 588) [.int 72] (.bool true) := by
  refine Calls.def (fa := 588) (ps := ["octet"]) (ds := [.int 72]) (out := .ret (.bool true)) (by rfl) (by rfl) (by rfl) (by rfl) (by rfl) (by rfl) (by rfl) (by decide) (ball1 fun _ => rfl) (by walk_at "loc") (fun L => ?_)
  walk_at "ex"
theorem s_seg_fs   : Calls prog w (KK w) 1 (.ref 595) [.str "fs"] (.int 100) := by
  refine Calls.def (fa := 595) (ps := ["segment"]) (ds := [.str "fs"]) (out := .ret (.int 100)) (by rfl) (by rfl) (by rfl) (by rfl) (by rfl) (by rfl) (by rfl) (by decide) (ball1 fun _ => rfl) (by walk_at "loc") (fun L => ?_)
  walk_at "ex"
theorem s_seg_gs   : Calls prog w (KK w) 1 (.ref 595) [.str "gs"] (.int 101) := by
  refine Calls.def (fa := 595) (ps := ["segment"]) (ds := [.str "gs"]) (out := .ret (.int 101)) (by rfl) (by rfl) (by rfl) (by rfl) (by rfl) (by rfl) (by rfl) (by decide) (ball1 fun _ => rfl) (by walk_at "loc") (fun L => ?_)
  walk_at "ex"
theorem s_rword0   : Calls prog w (KK w) 1 (.ref 680) [.int 0] (.str "") := by
  refine Calls.def (fa := 680) (ps := ["repeat"]) (ds := [.int 0]) (out := .ret (.str "")) (by rfl) (by rfl) (by rfl) (by rfl) (by rfl) (by rfl) (by rfl) (by decide) (ball1 fun _ => rfl) (by walk_at "loc") (fun L => ?_)
  walk_at "ex"
theorem s_rword1   : Calls prog w (KK w) 1 (.ref 680) [.int 242] (.str "repne") := by
  refine Calls.def (fa := 680) (ps := ["repeat"]) (ds := [.int 242]) (out := .ret (.str "repne")) (by rfl) (by rfl) (by rfl) (by rfl) (by rfl) (by rfl) (by rfl) (by decide) (ball1 fun _ => rfl) (by walk_at "loc") (fun L => ?_)
  walk_at "ex"
theorem s_rword2   : Calls prog w (KK w) 1 (.ref 680) [.int 243] (.str "rep") := by
  refine Calls.def (fa := 680) (ps := ["repeat"]) (ds := [.int 243]) (out := .ret (.str "rep")) (by rfl) (by rfl) (by rfl) (by rfl) (by rfl) (by rfl) (by rfl) (by decide) (ball1 fun _ => rfl) (by walk_at "loc") (fun L => ?_)
  walk_at "ex"
theorem s_roct0   : Calls prog w (KK w) 1 (.ref 687) [.str ""] (.int 0) := by
  refine Calls.def (fa := 687) (ps := ["word"]) (ds := [.str ""]) (out := .ret (.int 0)) (by rfl) (by rfl) (by rfl) (by rfl) (by rfl) (by rfl) (by rfl) (by decide) (ball1 fun _ => rfl) (by walk_at "loc") (fun L => ?_)
  walk_at "ex"
theorem s_roct1   : Calls prog w (KK w) 1 (.ref 687) [.str "repne"] (.int 242) := by
  refine Calls.def (fa := 687) (ps := ["word"]) (ds := [.str "repne"]) (out := .ret (.int 242)) (by rfl) (by rfl) (by rfl) (by rfl) (by rfl) (by rfl) (by rfl) (by decide) (ball1 fun _ => rfl) (by walk_at "loc") (fun L => ?_)
  walk_at "ex"
theorem s_roct2   : Calls prog w (KK w) 1 (.ref 687) [.str "rep"] (.int 243) := by
  refine Calls.def (fa := 687) (ps := ["word"]) (ds := [.str "rep"]) (out := .ret (.int 243)) (by rfl) (by rfl) (by rfl) (by rfl) (by rfl) (by rfl) (by rfl) (by decide) (ball1 fun _ => rfl) (by walk_at "loc") (fun L => ?_)
  walk_at "ex"
theorem s_roct3   : Calls prog w (KK w) 1 (.ref 687) [.str "lock"] (.int 0) := by
  refine Calls.def (fa := 687) (ps := ["word"]) (ds := [.str "lock"]) (out := .ret (.int 0)) (by rfl) (by rfl) (by rfl) (by rfl) (by rfl) (by rfl) (by rfl) (by decide) (ball1 fun _ => rfl) (by walk_at "loc") (fun L => ?_)
  walk_at "ex"
theorem s_seg0   : Calls prog w (KK w) 3 (.ref 199) [.str "fs"] (regV "fs" "segment" 4 16) := by
  refine Calls.def (fa := 199) (ps := ["name"]) (ds := [.str "fs"]) (out := .ret (regV "fs" "segment" 4 16)) (by rfl) (by rfl) (by rfl) (by rfl) (by rfl) (by rfl) (by rfl) (by decide) (ball1 fun _ => rfl) (by walk_at "loc") (fun L => ?_)
  walk_at "ex"
theorem s_seg1   : Calls prog w (KK w) 3 (.ref 199) [.str "gs"] (regV "gs" "segment" 5 16) := by
  refine Calls.def (fa := 199) (ps := ["name"]) (ds := [.str "gs"]) (out := .ret (regV "gs" "segment" 5 16)) (by rfl) (by rfl) (by rfl) (by rfl) (by rfl) (by rfl) (by rfl) (by decide) (ball1 fun _ => rfl) (by walk_at "loc") (fun L => ?_)
  walk_at "ex"
theorem s_fits {a : Int}  : Calls prog w (KK w) 1 (.ref 94) [.int a, .int 32] (.bool (decide (-2147483648 ≤ a) && decide (a < 2147483648))) := by
  refine Calls.def (fa := 94) (ps := ["worth", "size"]) (ds := [.int a, .int 32]) (out := .ret (.bool (decide (-2147483648 ≤ a) && decide (a < 2147483648)))) (by rfl) (by rfl) (by rfl) (by rfl) (by rfl) (by rfl) (by rfl) (by decide) (ball2 fun _ _ => rfl) (by walk_at "loc") (fun L => ?_)
  walk_at "ex"
theorem Ex1.ifApp {K : Frag} {n : Nat} {env : Env} {Γ : Lc} {x : String} {ns ms : List Int} {t : PySem.Expr} {b : Bool} {bs : List Stmt} {pos : Pos} (ht : EvTO prog w K n env Γ (some (x, .lst (ns.map .int))) t b)
    (hb : b = true → ∃ k, ms = [k] ∧ Ex prog w K n env Γ (some (x, .lst (ns.map .int))) bs (.next Γ (some (x, .lst (ns.map .int ++ [.int k]))))) (ho : b = false → ms = []) :
    Ex1 prog w K n env Γ (some (x, .lst (ns.map .int))) (.If t bs [] pos) (.next Γ (some (x, .lst ((ns ++ ms).map .int)))) := by
  cases b with
  | true =>
    obtain ⟨k, rfl, h⟩ := hb rfl
    rw [List.map_append]
    exact Ex1.ifT ht h
  | false =>
    rw [ho rfl, List.append_nil]
    exact Ex1.ifF ht Ex.nil
noncomputable def segL (sg : Str) : List Int := if sg = "" then [] else if sg = "fs" then [100] else [101]
noncomputable def dtL (dt : Bool) : List Int := if dt then [102] else []
noncomputable def rpL (rp : Int) : List Int := if rp = 0 then [] else [rp]
noncomputable def rxL (rx : Int) : List Int := if rx = 72 then [72] else []
noncomputable def octL (sg : Str) (dt : Bool) (rp rx : Int) : List Int := [] ++ segL sg ++ dtL dt ++ rpL rp ++ [] ++ rxL rx
theorem octL_len (sg : Str) (dt : Bool) (rp rx : Int) : (octL sg dt rp rx).length ≤ 4 := by
  unfold octL segL dtL rpL rxL
  (repeat' split) <;> simp
theorem s_octets {sg : Str} {dt : Bool} {rp rx : Int} (h1 : sg = "" ∨ sg = "fs" ∨ sg = "gs") (h2 : rp = 0 ∨ rp = 242 ∨ rp = 243) (h3 : rx = -1 ∨ rx = 72) : Calls prog w (KK w) 2 (.ref 645) [preV sg dt rp false rx] (.bts (byteArr (octL sg dt rp rx))) := by
  refine Calls.def (fa := 645) (ps := ["self"]) (ds := [preV sg dt rp false rx]) (out := .ret (.bts (byteArr (octL sg dt rp rx)))) (by rfl) (by rfl) (by rfl) (by rfl) (by rfl) (by rfl) (by rfl) (by decide) (ball1 fun _ => rfl) (by walk_at "loc") (fun L => ?_)
  have hs : sok sg := by rcases h1 with rfl | rfl | rfl <;> exact sok_of _
  refine Ex.next (Ex1.own EvNew.nil ⟨by rfl, by decide +kernel⟩) ?_
  refine Ex.next (Ex1.ifApp (ns := []) (ms := segL sg) (EvTO.ev (by walk_at "evt")) (fun hc => ?_) (fun hc => ?_)) ?_
  · rcases h1 with rfl | rfl | rfl
    · exact absurd hc (by decide)
    · exact ⟨100, by decide, Ex.next (Ex1.append (EvO.ev (by walk_at "ev")) (by simp)) Ex.nil⟩
    · exact ⟨101, by decide, Ex.next (Ex1.append (EvO.ev (by walk_at "ev")) (by simp)) Ex.nil⟩
  · rcases h1 with rfl | rfl | rfl
    · decide
    · exact absurd hc (by decide)
    · exact absurd hc (by decide)
  refine Ex.next (Ex1.ifApp (ms := dtL dt) (EvTO.ev (by walk_at "evt")) (fun hc => ?_) (fun hc => ?_)) ?_
  · subst hc
    have e : (([] ++ segL sg).map V.int).length ≤ 1000 := by unfold segL; (repeat' split) <;> simp
    exact ⟨102, rfl, Ex.next (Ex1.append (EvO.ev (by walk_at "ev")) e) Ex.nil⟩
  · subst hc; rfl
  refine Ex.next (Ex1.ifApp (ms := rpL rp) (EvTO.ev (by walk_at "evt")) (fun hc => ?_) (fun hc => ?_)) ?_
  · have e : (([] ++ segL sg ++ dtL dt).map V.int).length ≤ 1000 := by unfold segL dtL; (repeat' split) <;> simp
    rcases h2 with rfl | rfl | rfl
    · exact absurd hc (by decide)
    · refine ⟨242, by decide, ?_⟩
      refine Ex.ifF (EvTO.ev (EvT.to (by walk_at "evt") (by walk_at "tt"))) ?_
      exact Ex.next (Ex1.append (EvO.ev (by walk_at "ev")) e) Ex.nil
    · refine ⟨243, by decide, ?_⟩
      refine Ex.ifF (EvTO.ev (EvT.to (by walk_at "evt") (by walk_at "tt"))) ?_
      exact Ex.next (Ex1.append (EvO.ev (by walk_at "ev")) e) Ex.nil
  · rcases h2 with rfl | rfl | rfl
    · decide
    · exact absurd hc (by decide)
    · exact absurd hc (by decide)
  refine Ex.next (Ex1.ifApp (ms := []) (EvTO.ev (by walk_at "evt")) (fun hc => ?_) (fun hc => rfl)) ?_
  · exact absurd hc (by decide)
  refine Ex.next (Ex1.ifApp (ms := rxL rx) (EvTO.ev (by walk_at "evt")) (fun hc => ?_) (fun hc => ?_)) ?_
  · have e : (([] ++ segL sg ++ dtL dt ++ rpL rp ++ []).map V.int).length ≤ 1000 := by unfold segL dtL rpL; (repeat' split) <;> simp
    rcases h3 with rfl | rfl
    · exact absurd hc (by decide)
    · refine ⟨72, by decide, ?_⟩
      refine Ex.ifF (EvTO.ev (EvT.to (by walk_at "evt") (by walk_at "tt"))) ?_
      exact Ex.next (Ex1.append (EvO.ev (by walk_at "ev")) e) Ex.nil
  · rcases h3 with rfl | rfl
    · decide
    · exact absurd hc (by decide)
  refine Ex.freeze ?_
  have hz : (octL sg dt rp rx).length ≤ 1000 := Nat.le_trans (octL_len _ _ _ _) (by decide)
  have hr : ∀ n ∈ octL sg dt rp rx, 0 ≤ n ∧ n < 256 := by
    intro n hn
    unfold octL segL dtL rpL rxL at hn
    rcases h1 with rfl | rfl | rfl <;> rcases h2 with rfl | rfl | rfl <;> rcases h3 with rfl | rfl <;> cases dt <;> revert n <;> decide
  exact Ex.stop (Ex1.ret (EvO.ev (Ev.cb (by rfl) (by rfl) (by rfl) (by walk_at "evl") (Calls.bts hz hr))))
local macro_rules | `(tactic| walk_at "spec") => `(tactic| ((with_reducible refine' Calls.lenB ?h1 ?h2); (case h1 => rfl); (case h2 => walk_at "dec")))
theorem s_count {sg : Str} {dt : Bool} {rp rx : Int} (h1 : sg = "" ∨ sg = "fs" ∨ sg = "gs") (h2 : rp = 0 ∨ rp = 242 ∨ rp = 243) (h3 : rx = -1 ∨ rx = 72) : Calls prog w (KK w) 3 (.ref 638) [preV sg dt rp false rx] (.int (octL sg dt rp rx).length) := by
  refine Calls.def (fa := 638) (ps := ["self"]) (ds := [preV sg dt rp false rx]) (out := .ret (.int (octL sg dt rp rx).length)) (by rfl) (by rfl) (by rfl) (by rfl) (by rfl) (by rfl) (by rfl) (by decide) (ball1 fun _ => rfl) (by walk_at "loc") (fun L => ?_)
  have hb : (byteArr (octL sg dt rp rx)).size = (octL sg dt rp rx).length := by simp [byteArr]
  have hz : (byteArr (octL sg dt rp rx)).size ≤ 1000 := by rw [hb]; exact Nat.le_trans (octL_len _ _ _ _) (by decide)
  exact Ex.stop (Ex1.ret (EvO.ev (Ev.to (by walk_at "ev") (by rw [hb]))))
theorem s_bits {sg : Str} {dt lk : Bool} {rp rx : Int} (h : rx = -1 ∨ rx = 72) : Calls prog w (KK w) 2 (.ref 631) [preV sg dt rp lk rx] (.tup [.int (if rx = 72 then 1 else 0), .int 0, .int 0, .int 0]) := by
  rcases h with rfl | rfl
  · exact s_bits0
  · exact s_bits1
theorem mod3 {a : Int} : a.fmod 3 = 0 ∨ a.fmod 3 = 1 ∨ a.fmod 3 = 2 := by
  have h1 := Int.fmod_nonneg_of_pos a (show (0:Int) < 3 by decide)
  have h2 := Int.fmod_lt_of_pos a (show (0:Int) < 3 by decide)
  omega
theorem mod2 {a : Int} : a.fmod 2 = 0 ∨ a.fmod 2 = 1 := by
  have h1 := Int.fmod_nonneg_of_pos a (show (0:Int) < 2 by decide)
  have h2 := Int.fmod_lt_of_pos a (show (0:Int) < 2 by decide)
  omega
theorem s_lprefixes {pick : Int} : Calls prog w (KK w) 5 (.ref 756) [.int pick] (.bool true) := by
  refine Calls.def (fa := 756) (ps := ["pick"]) (ds := [.int pick]) (out := .ret (.bool true)) (by rfl) (by rfl) (by rfl) (by rfl) (by rfl) (by rfl) (by rfl) (by decide) (ball1 fun _ => rfl) (by walk_at "loc") (fun L => ?_)
  obtain ⟨sg, e1, h1⟩ : ∃ sg, ([V.str "", .str "fs", .str "gs"] : List V)[(pick.fmod 3).toNat]? = some (.str sg) ∧ (sg = "" ∨ sg = "fs" ∨ sg = "gs") := by
    rcases mod3 (a := pick) with h | h | h <;> rw [h]
    · exact ⟨"", rfl, .inl rfl⟩
    · exact ⟨"fs", rfl, .inr (.inl rfl)⟩
    · exact ⟨"gs", rfl, .inr (.inr rfl)⟩
  obtain ⟨rp, e2, h2⟩ : ∃ rp, ([V.int 0, .int 242, .int 243] : List V)[((pick.fdiv 6).fmod 3).toNat]? = some (.int rp) ∧ (rp = 0 ∨ rp = 242 ∨ rp = 243) := by
    rcases mod3 (a := pick.fdiv 6) with h | h | h <;> rw [h]
    · exact ⟨0, rfl, .inl rfl⟩
    · exact ⟨242, rfl, .inr (.inl rfl)⟩
    · exact ⟨243, rfl, .inr (.inr rfl)⟩
  obtain ⟨rx, e3, h3⟩ : ∃ rx, ([V.int (-1), .int 72] : List V)[((pick.fdiv 18).fmod 2).toNat]? = some (.int rx) ∧ (rx = -1 ∨ rx = 72) := by
    rcases mod2 (a := pick.fdiv 18) with h | h <;> rw [h]
    · exact ⟨-1, rfl, .inl rfl⟩
    · exact ⟨72, rfl, .inr rfl⟩
  have i1 : 0 ≤ pick.fmod 3 := by rcases mod3 (a := pick) with h | h | h <;> omega
  have i2 : 0 ≤ (pick.fdiv 6).fmod 3 := by rcases mod3 (a := pick.fdiv 6) with h | h | h <;> omega
  have i3 : 0 ≤ (pick.fdiv 18).fmod 2 := by rcases mod2 (a := pick.fdiv 18) with h | h <;> omega
  have j1 : pick.fmod 3 < 2 ^ 63 := by rcases mod3 (a := pick) with h | h | h <;> omega
  have j2 : (pick.fdiv 6).fmod 3 < 2 ^ 63 := by rcases mod3 (a := pick.fdiv 6) with h | h | h <;> omega
  have j3 : (pick.fdiv 18).fmod 2 < 2 ^ 63 := by rcases mod2 (a := pick.fdiv 18) with h | h <;> omega
  have hs : sok sg := by rcases h1 with rfl | rfl | rfl <;> exact sok_of _
  refine Ex.next (Ex1.asg (EvO.ev (d := preV sg (decide ((pick.fdiv 3).fmod 2 = 1)) rp false rx) (by walk_at "ev")) (by rfl)) ?_
  generalize decide ((pick.fdiv 3).fmod 2 = 1) = dt
  refine Ex.thin (Γ' := [("made", preV sg dt rp false rx)]) ?_ (fun x d h => by
    simp only [List.lookup_cons] at h ⊢
    split at h
    · exact h
    · cases h)
  clear e1 e2 e3 i1 i2 i3 j1 j2 j3
  have hd : (V.tup [.str sg, .bool dt, .int rp, .bool false, .int rx]).cmpb = true := by simp [V.cmpb, V.okD, V.okL, V.dep, V.depL, hs]
  refine Ex.next (Ex1.asg (EvO.ev (by walk_at "ev")) (by rfl)) ?_
  refine Ex.ifF (EvTO.ev (EvT.to (by walk_at "evt") ?_)) ?_
  · simp
  simp only [List.nil_append]
  refine Ex.ifF (EvTO.ev (EvT.to (by walk_at "evt") ?_)) ?_
  · simp
  simp only [List.nil_append]
  refine Ex.next (Ex1.asg (EvO.ev (by walk_at "ev")) (by rfl)) ?_
  rcases h3 with rfl | rfl
  · refine Ex.ifF (EvTO.ev (EvT.to (by walk_at "evt") ?_)) ?_
    · rcases h1 with rfl | rfl | rfl <;> rcases h2 with rfl | rfl | rfl <;> cases dt <;> decide
    simp only [List.nil_append]
    refine Ex.next (Ex1.asgComp (CompRuns.name (cl := []) (Γf := []) (as := [0, 242, 243]) (g := fun i : Int => V.int i) (p := fun _ => true) (f := fun i : Int => .str (if i = 242 then "repne" else if i = 243 then "rep" else "")) (by decide) rfl rfl (by decide +kernel) FreeOk.nil rfl (EvIt.tup (Ev.to (by walk_at "ev") (by rfl))) (by simp) (fun C d hd => EvTs.nil) (fun C d hd hp => ?_)) rfl (by walk_at "scok") ⟨by rfl, by decide +kernel⟩) ?_
    · simp only [List.mem_cons, List.not_mem_nil, or_false] at hd
      rcases hd with rfl | rfl | rfl <;> exact Ev.to (by walk_at "ev") (by rfl)
    refine Ex.stop (Ex1.ret (EvO.ev (Ev.to (Ev.and_ (Ev.cmp (by walk_at "ev") (by walk_at "ev") (Op2.eqR (by decide +kernel) (by rfl))) (fun _ => Ev.bool1 (Ev.cmp (EvNew.comp (CompRuns.name (cl := []) (Γf := []) (as := (["", "repne", "rep", "lock"] : List Str)) (g := fun i : Str => V.str i) (p := fun _ => true) (f := fun i : Str => .int (if i = "rep" then 243 else if i = "repne" then 242 else 0)) (by decide) rfl rfl (by decide +kernel) FreeOk.nil rfl (EvIt.lst (Ev.to (by walk_at "ev") (by rfl))) (by simp) (fun C d hd => EvTs.nil) (fun C d hd hp => ?_)) rfl (by walk_at "scok")).ev (by walk_at "ev") (Op2.eqR (by decide +kernel) (by rfl))))) (by rfl))))
    simp only [List.mem_cons, List.not_mem_nil, or_false] at hd
    rcases hd with rfl | rfl | rfl | rfl <;> exact Ev.to (by walk_at "ev") (by rfl)
  · refine Ex.ifF (EvTO.ev (EvT.to (by walk_at "evt") ?_)) ?_
    · rcases h1 with rfl | rfl | rfl <;> rcases h2 with rfl | rfl | rfl <;> cases dt <;> decide
    simp only [List.nil_append]
    refine Ex.next (Ex1.asgComp (CompRuns.name (cl := []) (Γf := []) (as := [0, 242, 243]) (g := fun i : Int => V.int i) (p := fun _ => true) (f := fun i : Int => .str (if i = 242 then "repne" else if i = 243 then "rep" else "")) (by decide) rfl rfl (by decide +kernel) FreeOk.nil rfl (EvIt.tup (Ev.to (by walk_at "ev") (by rfl))) (by simp) (fun C d hd => EvTs.nil) (fun C d hd hp => ?_)) rfl (by walk_at "scok") ⟨by rfl, by decide +kernel⟩) ?_
    · simp only [List.mem_cons, List.not_mem_nil, or_false] at hd
      rcases hd with rfl | rfl | rfl <;> exact Ev.to (by walk_at "ev") (by rfl)
    refine Ex.stop (Ex1.ret (EvO.ev (Ev.to (Ev.and_ (Ev.cmp (by walk_at "ev") (by walk_at "ev") (Op2.eqR (by decide +kernel) (by rfl))) (fun _ => Ev.bool1 (Ev.cmp (EvNew.comp (CompRuns.name (cl := []) (Γf := []) (as := (["", "repne", "rep", "lock"] : List Str)) (g := fun i : Str => V.str i) (p := fun _ => true) (f := fun i : Str => .int (if i = "rep" then 243 else if i = "repne" then 242 else 0)) (by decide) rfl rfl (by decide +kernel) FreeOk.nil rfl (EvIt.lst (Ev.to (by walk_at "ev") (by rfl))) (by simp) (fun C d hd => EvTs.nil) (fun C d hd hp => ?_)) rfl (by walk_at "scok")).ev (by walk_at "ev") (Op2.eqR (by decide +kernel) (by rfl))))) (by rfl))))
    simp only [List.mem_cons, List.not_mem_nil, or_false] at hd
    rcases hd with rfl | rfl | rfl | rfl <;> exact Ev.to (by walk_at "ev") (by rfl)
inductive Part where
  | reg (way : Str) (n z : Int)
  | imm (wo : Int) (nm : Str)
  | rel (wo : Int) (nm : Str)
  | mem (ba : Str) (n ix sc wo sz sg : Int) (nm : Str)
noncomputable def segName (n : Int) : Str := (["fs", "gs"] : List Str).getD (n.fmod 2).toNat ""
noncomputable def wayRV (way : Str) (n z : Int) : RV :=
  if way = "xmm" then ⟨"xmm" ++ Str.ofString (toString n), "xmm", n, 128⟩ else if way = "high" then ⟨hname (4 + n.fmod 4), "high", 4 + n.fmod 4, 8⟩
  else if way = "rip" then ⟨"rip", "rip", 0, 64⟩ else if way = "segment" then ⟨segName n, "segment", 4 + n.fmod 2, 16⟩ else ⟨gname n z, "gpr", n, z⟩
noncomputable def baseR (ba : Str) (n : Int) : Option RV := if ba = "" then none else some (wayRV ba n 64)
noncomputable def idxR (ix : Int) : Option RV := if ix < 0 then none else some (wayRV "gpr" ix 64)
noncomputable def memSz (k : Int) : Int := ([0, 8, 16, 32, 64, 128] : List Int).getD k.toNat 0
noncomputable def segNm (k : Int) : Str := (["", "fs", "gs"] : List Str).getD k.toNat ""
noncomputable def scl (ix sc : Int) : Int := if ix < 0 then 1 else 1 * 2 ^ sc.toNat
noncomputable def Part.op : Part → V
  | .reg way n z => regOp (wayRV way n z)
  | .imm wo nm => immOp wo nm
  | .rel wo nm => relOp wo nm
  | .mem ba n ix sc wo sz sg nm => memOp (baseR ba n) (idxR ix) (scl ix sc) wo (memSz sz) (segNm sg) nm
noncomputable def Part.v : Part → V
  | .reg way n z => .tup [.str "reg", .str way, .int n, .int z]
  | .imm wo nm => .tup [.str "imm", .int wo, .str nm]
  | .rel wo nm => .tup [.str "rel", .int wo, .str nm]
  | .mem ba n ix sc wo sz sg nm => .tup [.str "mem", .str ba, .int n, .int ix, .int sc, .int wo, .int sz, .int sg, .str nm]
noncomputable def wordOk (nm : Str) : Prop := nm = "" ∨ nm = "here" ∨ nm = "there"
noncomputable def Part.ok : Part → Prop
  | .reg way n z => (way = "gpr" ∨ way = "xmm" ∨ way = "high" ∨ way = "segment") ∧ 0 ≤ n ∧ n ≤ 15 ∧ sizeOk z
  | .imm wo nm => -2048 ≤ wo ∧ wo ≤ 2047 ∧ wordOk nm
  | .rel wo nm => -2048 ≤ wo ∧ wo ≤ 2047 ∧ wordOk nm
  | .mem ba n ix sc wo sz sg nm => (ba = "gpr" ∨ ba = "rip" ∨ ba = "") ∧ 0 ≤ n ∧ n ≤ 15 ∧ (-1 ≤ ix ∧ ix ≤ 15 ∧ ix ≠ 4) ∧ (ba = "rip" → ix = -1) ∧ (0 ≤ sc ∧ sc ≤ 3) ∧ (-2048 ≤ wo ∧ wo ≤ 2047) ∧ (0 ≤ sz ∧ sz ≤ 5) ∧ (0 ≤ sg ∧ sg ≤ 2) ∧ wordOk nm
noncomputable def Part.kind : Part → Str
  | .reg .. => "reg" | .imm .. => "imm" | .rel .. => "rel" | .mem .. => "mem"
noncomputable def Part.told : Part → List V
  | .reg way n z => [.str "reg", .str (wayRV way n z).nm]
  | .imm wo nm => [.str "imm", .int wo, .str nm]
  | .rel wo nm => [.str "rel", .int wo, .str nm]
  | .mem ba n ix sc wo sz sg nm => [.str "mem", .str (optN (baseR ba n)), .str (optN (idxR ix)), .int (scl ix sc), .int wo, .int (memSz sz), .str (segNm sg), .str nm]
noncomputable def Part.sym : Part → Str
  | .reg .. => "" | .imm _ nm | .rel _ nm | .mem _ _ _ _ _ _ _ nm => nm
noncomputable def Part.regs : Part → List RV
  | .reg way n z => [wayRV way n z]
  | .imm .. | .rel .. => []
  | .mem ba n ix .. => (baseR ba n).toList ++ (idxR ix).toList
noncomputable def Part.isMem : Part → Bool
  | .mem .. => true | _ => false
noncomputable def Part.size : Part → Int
  | .reg way n z => (wayRV way n z).sz | .mem _ _ _ _ _ sz _ _ => memSz sz | _ => 0
noncomputable def Part.isRegOf (k : Str) (z : Int) : Part → Bool
  | .reg way n z' => decide ((wayRV way n z').kd = k) && (decide (z = 0) || decide ((wayRV way n z').sz = z))
  | _ => false
theorem kd_ok (way : Str) (n z : Int) : sok (wayRV way n z).kd := by
  unfold wayRV; repeat' split
  all_goals exact sok_of _
theorem getD_ok {ys : List Str} (h : ∀ y ∈ ys, sok y) (i : Nat) : sok (ys.getD i "") := by
  rw [List.getD_eq_getElem?_getD]
  cases e : ys[i]? with
  | none => exact sok_of _
  | some y => exact h y (List.mem_of_getElem? e)
theorem nm_ok (way : Str) (n z : Int) : sok (wayRV way n z).nm := by
  unfold wayRV; repeat' split
  · exact sok_append (sok_of _) (sok_of _)
  · exact getD_ok (all_sok (by decide +kernel)) _
  · exact sok_of _
  · exact getD_ok (all_sok (by decide +kernel)) _
  · show sok (gname n z)
    unfold gname; split
    · exact getD_ok (names_ok _) _
    · exact sok_append (sok_append (sok_of _) (sok_of _)) (lateE_ok _)
theorem base_ok {ba : Str} {n : Int} : ∀ r, baseR ba n = some r → sok r.nm ∧ sok r.kd := by
  intro r h; unfold baseR at h; split at h
  · cases h
  · cases h; exact ⟨nm_ok _ _ _, kd_ok _ _ _⟩
theorem idx_ok {ix : Int} : ∀ r, idxR ix = some r → sok r.nm ∧ sok r.kd := by
  intro r h; unfold idxR at h; split at h
  · cases h
  · cases h; exact ⟨nm_ok _ _ _, kd_ok _ _ _⟩
theorem word_ok {nm : Str} (h : wordOk nm) : sok nm := by rcases h with rfl | rfl | rfl <;> exact sok_of _
theorem seg_ok (k : Int) : sok (segNm k) := getD_ok (all_sok (by decide +kernel)) _
theorem kind_ok (p : Part) : sok p.kind := by cases p <;> exact sok_of _
theorem sym_ok {p : Part} (h : p.ok) : sok p.sym := by
  cases p with
  | reg => exact sok_of _
  | imm => exact word_ok h.2.2
  | rel => exact word_ok h.2.2
  | mem => exact word_ok h.2.2.2.2.2.2.2.2.2
theorem told_cmp {p : Part} (h : p.ok) : (V.tup p.told).cmpb = true := by
  cases p with
  | reg way n z => have := nm_ok way n z; simp [Part.told, V.cmpb, V.okD, V.okL, V.dep, V.depL]; exact ⟨sok_of _, this⟩
  | imm wo nm => have := word_ok h.2.2; simp [Part.told, V.cmpb, V.okD, V.okL, V.dep, V.depL]; exact ⟨sok_of _, this⟩
  | rel wo nm => have := word_ok h.2.2; simp [Part.told, V.cmpb, V.okD, V.okL, V.dep, V.depL]; exact ⟨sok_of _, this⟩
  | mem ba n ix sc wo sz sg nm =>
    have h1 := word_ok h.2.2.2.2.2.2.2.2.2
    have h2 : sok (optN (baseR ba n)) := by
      cases e : baseR ba n with
      | none => exact sok_of _
      | some r => exact (base_ok r e).1
    have h3 : sok (optN (idxR ix)) := by
      cases e : idxR ix with
      | none => exact sok_of _
      | some r => exact (idx_ok r e).1
    have h4 := seg_ok sg
    simp [Part.told, V.cmpb, V.okD, V.okL, V.dep, V.depL]
    exact ⟨sok_of _, h2, h3, h4, h1⟩
theorem memregs_eq (b i : Option RV) : ([b, i].filter Option.isSome).map optV = (b.toList ++ i.toList).map RV.v := by
  cases b <;> cases i <;> rfl
section
variable {n : Nat} {env : Env} {Γ : Lc}
theorem Ev.ptold {o : PySem.Expr} {p : Part} {apos pos : Pos} (ho : Ev prog w (KK w) n env Γ o p.op) (hn : 1 ≤ n) (hl : (apos.endLine == pos.line) = true := by rfl)
    (hb : attributeBase o (Str.ofString "told") env (eval o env) = eval o env := by with_unfolding_all rfl) : Ev prog w (KK w) n env Γ (.Call (.Attribute o (Str.ofString "told") apos) [] [] pos) (.tup p.told) := by
  cases p with
  | reg => exact Ev.meth0 ho (mt_of (by rfl)) (by rfl) s_Regtold hn hl hb
  | imm => exact Ev.meth0 ho (mt_of (by rfl)) (by rfl) s_Immtold hn hl hb
  | rel => exact Ev.meth0 ho (mt_of (by rfl)) (by rfl) s_Reltold hn hl hb
  | mem => exact Ev.meth0 ho (mt_of (by rfl)) (by rfl) s_Memtold hn hl hb
theorem Ev.psym {o : PySem.Expr} {p : Part} {apos pos : Pos} (ho : Ev prog w (KK w) n env Γ o p.op) (hn : 1 ≤ n) (hl : (apos.endLine == pos.line) = true := by rfl)
    (hb : attributeBase o (Str.ofString "symbol") env (eval o env) = eval o env := by with_unfolding_all rfl) : Ev prog w (KK w) n env Γ (.Call (.Attribute o (Str.ofString "symbol") apos) [] [] pos) (.str p.sym) := by
  cases p with
  | reg => exact Ev.meth0 ho (mt_of (by rfl)) (by rfl) s_Regsym hn hl hb
  | imm => exact Ev.meth0 ho (mt_of (by rfl)) (by rfl) s_Immsym hn hl hb
  | rel => exact Ev.meth0 ho (mt_of (by rfl)) (by rfl) s_Relsym hn hl hb
  | mem => exact Ev.meth0 ho (mt_of (by rfl)) (by rfl) s_Memsym hn hl hb
theorem Ev.pregs {o : PySem.Expr} {p : Part} {apos pos : Pos} (ho : Ev prog w (KK w) n env Γ o p.op) (hn : 1 ≤ n) (hl : (apos.endLine == pos.line) = true := by rfl)
    (hb : attributeBase o (Str.ofString "registers") env (eval o env) = eval o env := by with_unfolding_all rfl) : Ev prog w (KK w) n env Γ (.Call (.Attribute o (Str.ofString "registers") apos) [] [] pos) (.lst (p.regs.map RV.v)) := by
  cases p with
  | reg => exact Ev.meth0 ho (mt_of (by rfl)) (by rfl) s_Regregs hn hl hb
  | imm => exact Ev.meth0 ho (mt_of (by rfl)) (by rfl) s_noregs hn hl hb
  | rel => exact Ev.meth0 ho (mt_of (by rfl)) (by rfl) s_noregs hn hl hb
  | mem => exact (Ev.meth0 ho (mt_of (by rfl)) (by rfl) s_Memregs hn hl hb).to (by rw [memregs_eq]; rfl)
theorem Ev.pkind {o : PySem.Expr} {p : Part} {pos : Pos} (ho : Ev prog w (KK w) n env Γ o p.op)
    (he : eval (o.Attribute (Str.ofString "kind") pos) env = (do let o' ← eval o env; standAt pos.atName; let r ← holding [o'] (getAttr o' (Str.ofString "kind") true); letTemporaryGo o o' r; pure r) := by with_unfolding_all rfl) : Ev prog w (KK w) n env Γ (.Attribute o (Str.ofString "kind") pos) (.str p.kind) := by
  cases p with
  | reg => exact Ev.attr ho (by rfl) (at_of (by rfl)) (by rfl) he
  | imm => exact Ev.attr ho (by rfl) (at_of (by rfl)) (by rfl) he
  | rel => exact Ev.attr ho (by rfl) (at_of (by rfl)) (by rfl) he
  | mem => exact Ev.attr ho (by rfl) (at_of (by rfl)) (by rfl) he
end
theorem s_isMemP {p : Part} : Calls prog w (KK w) 1 (.ref 532) [p.op] (.bool p.isMem) := by
  cases p with
  | reg => exact s_is_memory
  | imm => exact s_is_memory2
  | rel => exact s_is_memory3
  | mem => exact s_is_memory4
theorem s_opszP {p : Part} : Calls prog w (KK w) 1 (.ref 546) [p.op] (.int p.size) := by
  cases p with
  | reg => exact s_opsize
  | imm => exact s_opsize2
  | rel => exact s_opsize3
  | mem => exact s_opsize4
theorem s_isReg2 {a : Int} {x k : Str} {z : Int}  : Calls prog w (KK w) 1 (.ref 539) [immOp a x, .str k, .int z] (.bool false) := by
  refine Calls.def (fa := 539) (ps := ["operand", "kind", "size"]) (ds := [immOp a x, .str k, .int z]) (out := .ret (.bool false)) (by rfl) (by rfl) (by rfl) (by rfl) (by rfl) (by rfl) (by rfl) (by decide) (ball3 fun _ _ _ => rfl) (by walk_at "loc") (fun L => ?_)
  walk_at "ex"
theorem s_isReg3 {a : Int} {x k : Str} {z : Int}  : Calls prog w (KK w) 1 (.ref 539) [relOp a x, .str k, .int z] (.bool false) := by
  refine Calls.def (fa := 539) (ps := ["operand", "kind", "size"]) (ds := [relOp a x, .str k, .int z]) (out := .ret (.bool false)) (by rfl) (by rfl) (by rfl) (by rfl) (by rfl) (by rfl) (by rfl) (by decide) (ball3 fun _ _ _ => rfl) (by walk_at "loc") (fun L => ?_)
  walk_at "ex"
theorem s_isReg4 {b i : Option RV} {sc wo sz z : Int} {sg nm k : Str}  : Calls prog w (KK w) 1 (.ref 539) [memOp b i sc wo sz sg nm, .str k, .int z] (.bool false) := by
  refine Calls.def (fa := 539) (ps := ["operand", "kind", "size"]) (ds := [memOp b i sc wo sz sg nm, .str k, .int z]) (out := .ret (.bool false)) (by rfl) (by rfl) (by rfl) (by rfl) (by rfl) (by rfl) (by rfl) (by decide) (ball3 fun _ _ _ => rfl) (by walk_at "loc") (fun L => ?_)
  walk_at "ex"
theorem s_isRegP {p : Part} {k : Str} {z : Int} (h : sok k) : Calls prog w (KK w) 1 (.ref 539) [p.op, .str k, .int z] (.bool (p.isRegOf k z)) := by
  cases p with
  | reg way n z' => exact s_is_reg1 (kd_ok way n z') h
  | imm => exact s_isReg2
  | rel => exact s_isReg3
  | mem => exact s_isReg4
local macro_rules | `(tactic| walk_at "sok") => `(tactic| with_reducible exact kind_ok _)
section
variable {n : Nat} {env : Env} {Γ : Lc} {d : V}
end
local macro_rules | `(tactic| walk_at "ev") => `(tactic| first
  | ((with_reducible show Ev _ _ _ _ _ _ (.Call (.Attribute _ (Str.ofString "told") _) [] [] _) _); exact Ev.ptold (by walk_at "ev") (by decide) (hb := base_plain rfl))
  | ((with_reducible show Ev _ _ _ _ _ _ (.Call (.Attribute _ (Str.ofString "symbol") _) [] [] _) _); exact Ev.psym (by walk_at "ev") (by decide) (hb := base_plain rfl))
  | ((with_reducible show Ev _ _ _ _ _ _ (.Call (.Attribute _ (Str.ofString "registers") _) [] [] _) _); exact Ev.pregs (by walk_at "ev") (by decide) (hb := base_plain rfl))
  | ((with_reducible show Ev _ _ _ _ _ _ (.Attribute _ (Str.ofString "kind") _) _); exact Ev.pkind (by walk_at "ev") (attr_plain rfl)))
section
variable {K : Frag} {n : Nat} {env : Env} {Γ : Lc} {O : Option (String × OV)}
theorem CompRuns.all {elt iter : PySem.Expr} {x : String} {px : Pos} {scope : Scope} {cl : List (Str × Addr)} {pos : Pos} {Γf : Lc} {α : Type} {as : List α} {g : α → V} {f : α → V}
    (hcell : ∀ y ∈ scope.names, y.2 ≠ .cell) (hkind : scope.kind = .function) (hx : scope.names.lookup (Str.ofString x) = some .local) (hdb : (Str.ofString x == ("__debug__" : Str)) = false) (hΓ : FreeOk scope cl env Γ Γf) (hΓx : Γf.lookup x = none)
    (hit : EvIt prog w K n env Γ iter (as.map g)) (hz : as.length ≤ 1000) (he : ∀ C, ∀ d ∈ as, Ev prog w K n (compEnvC scope cl C env) ((x, g d) :: Γf) elt (f d)) :
    CompRuns prog w K n env Γ (.ListComp elt [⟨.Name (Str.ofString x) px, iter, [], 0⟩] scope pos) iter scope cl (as.map f) := by
  have := CompRuns.name (elt := elt) (px := px) (pos := pos) (ifs := []) (p := fun _ => true) (f := f) hcell hkind hx hdb hΓ hΓx hit hz (fun C d hd => EvTs.nil) (fun C d hd _ => he C d hd)
  rwa [List.filter_eq_self.mpr (fun _ _ => rfl)] at this
theorem FL.foldI {α σ : Type} {g : α → V} {x : String} {body : List Stmt} {Γc : σ → Lc} {Oc : σ → Option (String × OV)} {step : σ → α → σ} (inv : Nat → σ → Prop) {N : Nat} (hO : ∀ s y o, Oc s = some (y, o) → y ≠ x) :
    ∀ (as : List α) (i : Nat) (s : σ), i + as.length ≤ N → inv i s → (∀ a ∈ as, ∀ j s, j < N → inv j s → inv (j + 1) (step s a) ∧ ∃ Γ', Ex prog w K n env ((x, g a) :: Γc s) (Oc s) body (.next Γ' (Oc (step s a))) ∧ ∀ y d, (Γc (step s a)).lookup y = some d → Γ'.lookup y = some d) →
    FL prog w K n env x body (Γc s) (Oc s) (as.map g) (.next (Γc (as.foldl step s)) (Oc (as.foldl step s)))
  | [], i, s, _, _, _ => .nil
  | a :: as, i, s, hN, hs, h => by
    simp only [List.length_cons] at hN
    obtain ⟨hi, Γ', hb, hΓ⟩ := h a (.head _) i s (by omega) hs
    exact .next hb hΓ (hO s) (FL.foldI inv hO as (i + 1) _ (by omega) hi fun b hb => h b (.tail _ hb))
end
noncomputable abbrev insV (nm : Str) (ps : List Part) (pf : Str) : V := .inst 458 [("name", .str nm), ("operands", .tup (ps.map Part.op)), ("prefix", .str pf)]
noncomputable def symsV (ps : List Part) : List V := (ps.filter fun p : Part => !decide (p.sym = Str.ofString "")).map fun p => V.str p.sym
noncomputable def toldI (nm : Str) (ps : List Part) (pf : Str) : V := .tup [.str nm, .str pf, .tup (ps.map fun p => .tup p.told)]
theorem s_Itold {nm pf : Str} {ps : List Part} (hz : ps.length ≤ 500) : Calls prog w (KK w) 2 (.ref 429) [insV nm ps pf] (toldI nm ps pf) := by
  refine Calls.def (fa := 429) (ps := ["self"]) (ds := [insV nm ps pf]) (out := .ret (toldI nm ps pf)) (by rfl) (by rfl) (by rfl) (by rfl) (by rfl) (by rfl) (by rfl) (by decide) (ball1 fun _ => rfl) (by walk_at "loc") (fun L => ?_)
  have hz' : (ps.map fun p => V.tup p.told).length ≤ 1000 := by rw [List.length_map]; omega
  refine Ex.stop (Ex1.ret (EvO.ev (Ev.tup (EvL.cons (by walk_at "ev") (EvL.cons (by walk_at "ev") (EvL.cons (Ev.cb (by rfl) (by rfl) (by rfl) (EvL.cons (EvNew.comp (CompRuns.all (cl := []) (Γf := []) (as := ps) (g := Part.op) (f := fun p => .tup p.told) (by decide) rfl rfl (by decide +kernel) FreeOk.nil rfl (EvIt.tup (by walk_at "ev")) (by omega) (fun C d hd => ?_)) rfl (by walk_at "scok")).ev EvL.nil) (Calls.tupL hz')) EvL.nil))) (by simp))))
  walk_at "ev"
theorem s_Isyms {nm pf : Str} {ps : List Part} (hz : ps.length ≤ 500) (hok : ∀ p ∈ ps, p.ok) : Calls prog w (KK w) 2 (.ref 448) [insV nm ps pf] (.lst (symsV ps)) := by
  refine Calls.def (fa := 448) (ps := ["self"]) (ds := [insV nm ps pf]) (out := .ret (.lst (symsV ps))) (by rfl) (by rfl) (by rfl) (by rfl) (by rfl) (by rfl) (by rfl) (by decide) (ball1 fun _ => rfl) (by walk_at "loc") (fun L => ?_)
  refine Ex.stop (Ex1.ret (EvO.ev (EvNew.comp (CompRuns.name (cl := []) (Γf := []) (as := ps) (g := Part.op) (p := fun p : Part => !decide (p.sym = Str.ofString "")) (f := fun p => .str p.sym) (by decide) rfl rfl (by decide +kernel) FreeOk.nil rfl (EvIt.tup (by walk_at "ev")) (by omega) (fun C d hd => EvTs.one ?_) (fun C d hd hp => ?_)) rfl (by walk_at "scok")).ev))
  · have := sym_ok (hok d hd)
    walk_at "evt"
  · walk_at "ev"
noncomputable def fstSz : Part → Option V
  | .reg way n z => some (.int (wayRV way n z).sz)
  | _ => Option.none
noncomputable def toldSz (ps : List Part) : Int := match ps.findSome? fstSz with
  | some (.int i) => i
  | _ => 0
theorem fstSz_int {p : Part} {v : V} (h : fstSz p = some v) : ∃ i, v = .int i := by cases p <;> cases h; exact ⟨_, rfl⟩
theorem s_toldsize {ps : List Part} : Calls prog w (KK w) 1 (.ref 553) [.tup (ps.map Part.op)] (.int (toldSz ps)) := by
  refine Calls.def (fa := 553) (ps := ["operands"]) (ds := [.tup (ps.map Part.op)]) (out := .ret (.int (toldSz ps))) (by rfl) (by rfl) (by rfl) (by rfl) (by rfl) (by rfl) (by rfl) (by decide) (ball1 fun _ => rfl) (by walk_at "loc") (fun L => ?_)
  refine Ex.ofFound (Ex1.for (EvIt.tup (by walk_at "ev")) ⟨by rfl, by decide +kernel⟩ (FL.search (f := fstSz) (by rfl) (by intro y o h; cases h) ps (fun p hp => ⟨fun v hv => ?_, fun hv => ?_⟩))) (fun v hv => ?_) (fun hv => ?_)
  · cases p with
    | reg way n z => cases hv; exact Ex.ifT (EvTO.ev (EvT.to (by walk_at "evt") (by rfl))) (Ex.stop (Ex1.ret (EvO.ev (by walk_at "ev"))))
    | _ => cases hv
  · cases p with
    | reg way n z => cases hv
    | imm => exact Ex.ifF (EvTO.ev (EvT.to (by walk_at "evt") (by rfl))) Ex.nil
    | rel => exact Ex.ifF (EvTO.ev (EvT.to (by walk_at "evt") (by rfl))) Ex.nil
    | mem => exact Ex.ifF (EvTO.ev (EvT.to (by walk_at "evt") (by rfl))) Ex.nil
  · obtain ⟨p, _, hp⟩ := List.exists_of_findSome?_eq_some hv
    obtain ⟨i, rfl⟩ := fstSz_int hp
    simp only [toldSz, hv]
  · exact Ex.stop (Ex1.ret (EvO.ev (Ev.to (by walk_at "ev") (by simp only [toldSz, hv]))))
theorem s_noRex {nm pf : Str} {ps : List Part} : Calls prog w (KK w) 2 (.ref 567) [insV nm ps pf] (.bool (ps.any (Part.isRegOf "high" 0))) := by
  refine Calls.def (fa := 567) (ps := ["instruction"]) (ds := [insV nm ps pf]) (out := .ret (.bool (ps.any (Part.isRegOf "high" 0)))) (by rfl) (by rfl) (by rfl) (by rfl) (by rfl) (by rfl) (by rfl) (by decide) (ball1 fun _ => rfl) (by walk_at "loc") (fun L => ?_)
  have hk : sok (Str.ofString "high") := sok_of _
  refine Ex.ofFound (Ex1.for (EvIt.tup (by walk_at "ev")) ⟨by rfl, by decide +kernel⟩ (FL.search (f := fun p => if p.isRegOf "high" 0 then some (.bool true) else Option.none) (by rfl) (by intro y o h; cases h) ps (fun p hp => ⟨fun v hv => ?_, fun hv => ?_⟩))) (fun v hv => ?_) (fun hv => ?_)
  · split at hv
    · rename_i hh; cases hv; exact Ex.ifT (EvTO.ev (EvT.to (by walk_at "evt") hh)) (Ex.stop (Ex1.ret (EvO.ev (by walk_at "ev"))))
    · cases hv
  · split at hv
    · cases hv
    · rename_i hh; exact Ex.ifF (EvTO.ev (EvT.to (by walk_at "evt") (by simpa using hh))) Ex.nil
  · obtain ⟨p, h1, hp⟩ := List.exists_of_findSome?_eq_some hv
    split at hp
    · rename_i hh; cases hp; rw [List.any_eq_true.mpr ⟨p, h1, hh⟩]
    · cases hp
  · refine Ex.stop (Ex1.ret (EvO.ev (Ev.to (by walk_at "ev") ?_)))
    rw [List.any_eq_false.mpr]
    intro p hp hh
    have := List.findSome?_eq_none_iff.mp hv p hp
    rw [if_pos hh] at this; cases this
noncomputable def searchI {α : Type} (f : Nat → α → Option V) : Nat → List α → Option V
  | _, [] => Option.none
  | i, a :: as => match f i a with
    | some v => some v
    | Option.none => searchI f (i + 1) as
theorem foundI_eq {α : Type} (f : Nat → α → Option V) (Γ : Lc) (O : Option (String × OV)) : ∀ (as : List α) (i : Nat), foundI f Γ O i as = match searchI f i as with
    | some v => .ret v
    | Option.none => .next Γ O
  | [], _ => rfl
  | a :: as, i => by
    unfold foundI searchI
    cases f i a with
    | some v => rfl
    | none => exact foundI_eq f Γ O as (i + 1)
theorem Ex.ofFoundI {K : Frag} {n : Nat} {env : Env} {Γ : Lc} {O : Option (String × OV)} {α : Type} {f : Nat → α → Option V} {as : List α} {st : Stmt} {ss : List Stmt} {out : V} (h : Ex1 prog w K n env Γ O st (foundI f Γ O 0 as)) (h1 : ∀ v, searchI f 0 as = some v → v = out) (h2 : searchI f 0 as = none → Ex prog w K n env Γ O ss (.ret out)) : Ex prog w K n env Γ O (st :: ss) (.ret out) := by
  rw [foundI_eq] at h
  cases q : searchI f 0 as with
  | some v => rw [q] at h; rw [← h1 v q]; exact Ex.stop h
  | none => rw [q] at h; exact Ex.next h (h2 q)
noncomputable def memF (i : Nat) (p : Part) : Option V := if p.isMem then some (.int (i : Int)) else Option.none
/-- where the first place in memory stands -/
noncomputable def memIx : Nat → List Part → Option Nat
  | _, [] => Option.none
  | i, p :: ps => if p.isMem then some i else memIx (i + 1) ps
theorem search_mem : ∀ (ps : List Part) (i : Nat), searchI memF i ps = (memIx i ps).map fun j => V.int (j : Int)
  | [], _ => rfl
  | p :: ps, i => by
    unfold searchI memIx memF
    cases h : p.isMem with
    | true => rfl
    | false => simp only [Bool.false_eq_true, if_false]; exact search_mem ps (i + 1)
theorem memIx_get : ∀ (ps : List Part) (i j : Nat), memIx i ps = some j → i ≤ j ∧ ∃ p, ps[j - i]? = some p ∧ p.isMem = true
  | [], _, _, h => by cases h
  | p :: ps, i, j, h => by
    unfold memIx at h
    split at h
    · rename_i hm; cases h; exact ⟨Nat.le_refl _, p, by simp, hm⟩
    · obtain ⟨h1, q, h2, h3⟩ := memIx_get ps (i + 1) j h
      refine ⟨by omega, q, ?_, h3⟩
      rw [show j - i = (j - (i + 1)) + 1 by omega, List.getElem?_cons_succ]; exact h2
noncomputable def memAt (ps : List Part) : Int := match memIx 0 ps with
  | some j => j
  | Option.none => -1
noncomputable def memV (ps : List Part) : V := match memIx 0 ps with
  | some j => match ps[j]? with
    | some p => p.op
    | Option.none => .none
  | Option.none => .none
theorem s_memat {nm pf : Str} {ps : List Part} : Calls prog w (KK w) 1 (.ref 436) [insV nm ps pf] (.int (memAt ps)) := by
  refine Calls.def (fa := 436) (ps := ["self"]) (ds := [insV nm ps pf]) (out := .ret (.int (memAt ps))) (by rfl) (by rfl) (by rfl) (by rfl) (by rfl) (by rfl) (by rfl) (by decide) (ball1 fun _ => rfl) (by walk_at "loc") (fun L => ?_)
  refine Ex.ofFoundI (Ex1.forE (EvItE.enum (Ev.bl (by rfl) (by rfl)) (d := .tup (ps.map Part.op)) (by walk_at "ev") (.inr rfl)) ⟨by rfl, by decide +kernel⟩ ⟨by rfl, by decide +kernel⟩ (FLE.search (f := memF) (by rfl) (by rfl) (by decide) (by intro y o h; cases h) ps 0 (fun p hp i => ⟨fun v hv => ?_, fun hv => ?_⟩))) (fun v hv => ?_) (fun hv => ?_)
  · unfold memF at hv
    cases p with
    | mem => cases hv; exact Ex.ifT (EvTO.ev (EvT.to (by walk_at "evt") (by rfl))) (Ex.stop (Ex1.ret (EvO.ev (by walk_at "ev"))))
    | reg => cases hv
    | imm => cases hv
    | rel => cases hv
  · unfold memF at hv
    cases p with
    | mem => cases hv
    | reg => exact Ex.ifF (EvTO.ev (EvT.to (by walk_at "evt") (by rfl))) Ex.nil
    | imm => exact Ex.ifF (EvTO.ev (EvT.to (by walk_at "evt") (by rfl))) Ex.nil
    | rel => exact Ex.ifF (EvTO.ev (EvT.to (by walk_at "evt") (by rfl))) Ex.nil
  · rw [search_mem] at hv
    unfold memAt
    cases h : memIx 0 ps with
    | some j => rw [h] at hv; simp at hv; rw [← hv]
    | none => rw [h] at hv; cases hv
  · rw [search_mem] at hv
    refine Ex.stop (Ex1.ret (EvO.ev (Ev.to (by walk_at "ev") ?_)))
    unfold memAt
    cases h : memIx 0 ps with
    | some j => rw [h] at hv; cases hv
    | none => rfl
theorem op_glb (p : Part) : p.op.glb = false := by cases p <;> rfl
theorem s_memory {nm pf : Str} {ps : List Part} (hz : ps.length ≤ 500) : Calls prog w (KK w) 2 (.ref 443) [insV nm ps pf] (memV ps) := by
  refine Calls.def (fa := 443) (ps := ["self"]) (ds := [insV nm ps pf]) (out := .ret (memV ps)) (by rfl) (by rfl) (by rfl) (by rfl) (by rfl) (by rfl) (by rfl) (by decide) (ball1 fun _ => rfl) (by walk_at "loc") (fun L => ?_)
  refine Ex.next (Ex1.asg (EvO.ev (by walk_at "ev")) (by rfl)) ?_
  cases h : memIx 0 ps with
  | none =>
    have e1 : memAt ps = -1 := by unfold memAt; rw [h]
    have e2 : memV ps = .none := by unfold memV; rw [h]
    rw [e1, e2]
    exact Ex.stop (Ex1.ret (EvO.ev (Ev.ifT (EvT.to (by walk_at "evt") (by decide)) (by walk_at "ev"))))
  | some j =>
    obtain ⟨_, p, hp, _⟩ := memIx_get ps 0 j h
    rw [Nat.sub_zero] at hp
    have e1 : memAt ps = (j : Int) := by unfold memAt; rw [h]
    have e2 : memV ps = p.op := by unfold memV; rw [h]; simp only [hp]
    rw [e1, e2]
    have hj : j < ps.length := (List.getElem?_eq_some_iff.mp hp).1
    have hs : seqIndex? (j : Int) (ps.map Part.op).length = some j := by
      unfold seqIndex?
      rw [List.length_map]
      simp only [Int.toNat_natCast]
      split <;> rename_i q <;> first | rfl | omega | (simp at q; omega) | skip
      all_goals first | (simp; omega) | skip
    have hd' : (ps.map Part.op)[j]? = some p.op := by rw [List.getElem?_map, hp]; rfl
    have h63 : (j : Int) < 2 ^ 63 := by omega
    exact Ex.stop (Ex1.ret (EvO.ev (Ev.ifF (EvT.to (by walk_at "evt") (by simp)) (Ev.sub (by walk_at "ev") (by walk_at "ev") (Op2.itemT hs hd' (by omega) h63)))))
theorem s_replaced {nm pf : Str} {ps : List Part} {k : Nat} {q : Part} (hz : ps.length ≤ 500) (hk : k < ps.length) : Calls prog w (KK w) 3 (.ref 455) [insV nm ps pf, .int (k : Int), q.op] (insV nm (ps.set k q) pf) := by
  refine Calls.def (fa := 455) (ps := ["self", "at", "operand"]) (ds := [insV nm ps pf, .int (k : Int), q.op]) (out := .ret (insV nm (ps.set k q) pf)) (by rfl) (by rfl) (by rfl) (by rfl) (by rfl) (by rfl) (by rfl) (by decide) (ball3 fun _ _ _ => rfl) (by walk_at "loc") (fun L => ?_)
  have hz' : (ps.map Part.op).length ≤ 1000 := by rw [List.length_map]; omega
  have hz2 : ((ps.map Part.op).set k q.op).length ≤ 1000 := by rw [List.length_set]; exact hz'
  refine Ex.next (Ex1.own (ds := ps.map Part.op) (EvNew.list (Ev.bl (by rfl) (by rfl)) (d := .tup (ps.map Part.op)) (by walk_at "ev") (.inl rfl) hz') ⟨by rfl, by decide +kernel⟩) ?_
  refine Ex.next (Ex1.setItem (EvO.ev (by walk_at "ev")) (EvO.ev (by walk_at "ev")) (by rw [List.length_map]; exact hk) hz') ?_
  refine Ex.freeze ?_
  refine Ex.stop (Ex1.ret (EvO.ev (Ev.to (Ev.cg (by rfl) (by rfl) (by walk_at "evl") (s_Instr3 hz2) (by decide)) ?_)))
  show _ = V.inst 458 _
  rw [List.map_set]
noncomputable def stepR (s : List Str) (r : RV) : List Str := if r.nm ∈ s then s else s ++ [r.nm]
noncomputable def stepP (s : List Str) (p : Part) : List Str := p.regs.foldl stepR s
noncomputable def namesOf (ps : List Part) : List Str := ps.foldl stepP []
theorem stepR_len (s : List Str) (r : RV) : (stepR s r).length ≤ s.length + 1 := by unfold stepR; split <;> simp
theorem regs_len (p : Part) : p.regs.length ≤ 2 := by
  cases p with
  | mem ba n ix => simp only [Part.regs]; cases baseR ba n <;> cases idxR ix <;> simp
  | _ => simp [Part.regs]
theorem regs_ok {p : Part} {r : RV} (h : r ∈ p.regs) : sok r.nm := by
  cases p with
  | reg way n z => simp only [Part.regs, List.mem_singleton] at h; rw [h]; exact nm_ok _ _ _
  | mem ba n ix =>
    simp only [Part.regs, List.mem_append, Option.mem_toList] at h
    rcases h with h | h
    · exact (base_ok r h).1
    · exact (idx_ok r h).1
  | _ => simp [Part.regs] at h
theorem foldR : ∀ (rs : List RV) (s : List Str), (∀ r ∈ rs, sok r.nm) → (∀ x ∈ s, sok x) → (rs.foldl stepR s).length ≤ s.length + rs.length ∧ ∀ x ∈ rs.foldl stepR s, sok x
  | [], s, _, hs => ⟨Nat.le_refl _, hs⟩
  | r :: rs, s, hr, hs => by
    have h1 : ∀ x ∈ stepR s r, sok x := by
      intro x hx; unfold stepR at hx; split at hx
      · exact hs x hx
      · rcases List.mem_append.mp hx with hx | hx
        · exact hs x hx
        · rw [List.mem_singleton.mp hx]; exact hr r (.head _)
    obtain ⟨a, b⟩ := foldR rs (stepR s r) (fun q hq => hr q (.tail _ hq)) h1
    have := stepR_len s r
    exact ⟨by simp only [List.foldl_cons, List.length_cons]; omega, b⟩
theorem s_named {nm pf : Str} {ps : List Part} (hz : ps.length ≤ 400) : Calls prog w (KK w) 2 (.ref 560) [insV nm ps pf] (.lst ((namesOf ps).map .str)) := by
  refine Calls.def (fa := 560) (ps := ["instruction"]) (ds := [insV nm ps pf]) (out := .ret (.lst ((namesOf ps).map .str))) (by rfl) (by rfl) (by rfl) (by rfl) (by rfl) (by rfl) (by rfl) (by decide) (ball1 fun _ => rfl) (by walk_at "loc") (fun L => ?_)
  refine Ex.next (Ex1.own EvNew.nil ⟨by rfl, by decide +kernel⟩) ?_
  refine Ex.next (Ex1.for (EvIt.tup (by walk_at "ev")) ⟨by rfl, by decide +kernel⟩ (FL.foldI (σ := List Str) (N := 400) (Γc := fun _ => [("instruction", insV nm ps pf)]) (Oc := fun s => some ("found", .lst (s.map V.str))) (step := stepP) (fun i s => s.length ≤ 2 * i ∧ ∀ x ∈ s, sok x) (by intro s y o h; cases h; decide) ps 0 [] (by omega) ⟨by simp, by simp⟩ (fun p hp j s hj hs => ?_))) ?_
  · have hf := foldR p.regs s (fun r hr => regs_ok hr) hs.2
    refine ⟨⟨by have := regs_len p; have := hf.1; have := hs.1; show (p.regs.foldl stepR s).length ≤ _; omega, hf.2⟩, ?_⟩
    refine ⟨_, Ex.next (Ex1.for (EvIt.lst (by walk_at "ev")) ⟨by rfl, by decide +kernel⟩ (FL.foldI (σ := List Str) (N := 2) (Γc := fun _ => [("operand", p.op), ("instruction", insV nm ps pf)]) (Oc := fun s => some ("found", .lst (s.map V.str))) (step := stepR) (fun i s => s.length ≤ 2 * j + i ∧ ∀ x ∈ s, sok x) (by intro s y o h; cases h; decide) p.regs 0 s (by have := regs_len p; omega) ⟨by have := hs.1; omega, hs.2⟩ (fun r hr k s hk hs => ?_))) Ex.nil, ?_⟩
    · have hrn := regs_ok hr
      have hall := hs.2
      have hl := foldR [r] s (by intro q hq; rw [List.mem_singleton.mp hq]; exact hrn) hs.2
      refine ⟨⟨by have := stepR_len s r; have := hs.1; omega, hl.2⟩, ?_⟩
      by_cases hm : r.nm ∈ s
      · refine ⟨_, Ex.ifF (EvTO.thaw (EvT.to (by walk_at "evt") (by simp [hm]))) (by rw [show stepR s r = s by unfold stepR; rw [if_pos hm]]; exact Ex.nil), ?_⟩
        exact drop_x (by rfl)
      · refine ⟨_, Ex.ifT (EvTO.thaw (EvT.to (by walk_at "evt") (by simp [hm]))) (Ex.next (Ex1.append (EvO.ev (by walk_at "ev")) (by rw [List.length_map]; have := hs.1; omega)) (by rw [show stepR s r = s ++ [r.nm] by unfold stepR; rw [if_neg hm], List.map_append]; exact Ex.nil)), ?_⟩
        exact drop_x (by rfl)
    · intro y d h
      simp only [List.lookup_cons, List.lookup_nil] at h ⊢
      split at h
      · cases h; rename_i q; rw [eq_of_beq q]; rfl
      · cases h
  refine Ex.freeze ?_
  exact Ex.stop (Ex1.ret (EvO.ev (by walk_at "ev")))
local macro_rules | `(tactic| walk_at "op") => `(tactic| first
  | ((with_reducible refine' Op2.mul ?hm); (case hm => exact IntMulOk.of_left (intBits_le_iff.mpr (by omega))))
  | ((with_reducible refine' Op2.itemS ?h0 ?hd ?h1); (case h0 => walk_at "dec"); (case hd => assumption); (case h1 => omega)))
noncomputable def cell (ns : List Int) (a : Int) : Int := if a < ns.length then (ns.getD a.toNat 0).fmod (1 * 2 ^ (64 : Int).toNat) else (4817 * a * a + 91099 * a + 71 * (ns.length : Int) + 3).fmod 65287
theorem s_cell {ns : List Int} {a : Int} (hz : ns.length ≤ 1000) (h0 : 0 ≤ a) (h1 : a ≤ 100) : Calls prog w (KK w) 1 (.ref 694) [.scr ns, .int a] (.int (cell ns a)) := by
  refine Calls.def (fa := 694) (ps := ["script", "at"]) (ds := [.scr ns, .int a]) (out := .ret (.int (cell ns a))) (by rfl) (by rfl) (by rfl) (by rfl) (by rfl) (by rfl) (by rfl) (by decide) (ball2 fun _ _ => rfl) (by walk_at "loc") (fun L => ?_)
  have hq : (1 * 2 ^ (64 : Int).toNat : Int) ≠ 0 := by decide
  by_cases h : a < ns.length
  · have hd : ns[a.toNat]? = some (ns.getD a.toNat 0) := by
      have : a.toNat < ns.length := by omega
      rw [List.getD_eq_getElem?_getD, List.getElem?_eq_getElem this]; rfl
    refine Ex.ifT (EvTO.ev (EvT.to (by walk_at "evt") (by simp [h]))) ?_
    refine Ex.stop (Ex1.ret (EvO.ev (Ev.to (Ev.bin (by walk_at "ev") (by walk_at "ev") (Op2.mod hq)) ?_)))
    unfold cell; rw [if_pos h]
  · refine Ex.ifF (EvTO.ev (EvT.to (by walk_at "evt") (by simp [h]))) ?_
    refine Ex.stop (Ex1.ret (EvO.ev (Ev.to (by walk_at "ev") ?_)))
    unfold cell; rw [if_neg h]
theorem cell_pos (ns : List Int) (a : Int) : 0 ≤ cell ns a := by
  unfold cell; split
  · exact Int.fmod_nonneg_of_pos _ (by decide)
  · exact Int.fmod_nonneg_of_pos _ (by decide)
theorem cell_lt (ns : List Int) (a : Int) : cell ns a < 18446744073709551616 := by
  unfold cell; split
  · exact Int.fmod_lt_of_pos _ (by decide)
  · exact Int.lt_trans (Int.fmod_lt_of_pos _ (by decide)) (by decide)
noncomputable def wayOk (way : Str) : Prop := way = "gpr" ∨ way = "xmm" ∨ way = "high" ∨ way = "segment"
theorem s_lreg {way : Str} {n z : Int} (hw : wayOk way ∨ way = "rip") (h0 : 0 ≤ n) (h1 : n ≤ 15) (hz : sizeOk z) : Calls prog w (KK w) 4 (.ref 708) [.str way, .int n, .int z] ((wayRV way n z).v) := by
  refine Calls.def (fa := 708) (ps := ["way", "number", "size"]) (ds := [.str way, .int n, .int z]) (out := .ret ((wayRV way n z).v)) (by rfl) (by rfl) (by rfl) (by rfl) (by rfl) (by rfl) (by rfl) (by decide) (ball3 fun _ _ _ => rfl) (by walk_at "loc") (fun L => ?_)
  have m4 : 0 ≤ n.fmod 4 ∧ n.fmod 4 < 4 := ⟨Int.fmod_nonneg_of_pos _ (by decide), Int.fmod_lt_of_pos _ (by decide)⟩
  have a1 : 4 ≤ 4 + n.fmod 4 := by omega
  have a2 : 4 + n.fmod 4 ≤ 7 := by omega
  rcases hw with (rfl | rfl | rfl | rfl) | rfl
  · walk_at "ex"
  · walk_at "ex"
  · walk_at "ex"
  · rcases mod2 (a := n) with h | h
    · have e1 : ([V.str "fs", .str "gs"] : List V)[(n.fmod 2).toNat]? = some (.str "fs") := by rw [h]; rfl
      have e2 : 0 ≤ n.fmod 2 := by omega
      have e3 : n.fmod 2 < 2 ^ 63 := by omega
      have e4 : (wayRV "segment" n z) = ⟨"fs", "segment", 4, 16⟩ := by simp only [wayRV, segName, h]; rfl
      rw [e4]
      walk_at "ex"
    · have e1 : ([V.str "fs", .str "gs"] : List V)[(n.fmod 2).toNat]? = some (.str "gs") := by rw [h]; rfl
      have e2 : 0 ≤ n.fmod 2 := by omega
      have e3 : n.fmod 2 < 2 ^ 63 := by omega
      have e4 : (wayRV "segment" n z) = ⟨"gs", "segment", 5, 16⟩ := by simp only [wayRV, segName, h]; rfl
      rw [e4]
      walk_at "ex"
  · walk_at "ex"
local macro_rules | `(tactic| walk_at "ev") => `(tactic| ((with_reducible show Ev _ _ _ _ _ _ (.Subscript (.Dict _ _ _) _ _) _); ((with_reducible refine' Ev.pick ?q1 ?q2 ?q3 ?q4 ?q5 ?q6 ?q7 ?q8 ?q9 ?q10); (case q1 => walk_at "ev"); (case q3 => rfl); (case q2 => rfl); (case q4 => rfl); (case q5 => decide); (case q6 => rfl); (case q7 => rfl); (case q8 => simp); (case q9 => decide); (case q10 => (intro _ _; rfl)))))
local macro_rules | `(tactic| walk_at "op") => `(tactic| ((with_reducible refine' Op2.itemC ?hd ?h0 ?h1); (case hd => first | assumption | rfl); (case h0 => walk_at "dec"); (case h1 => walk_at "dec")))
noncomputable def old8 : List Str := ["ax", "cx", "dx", "bx", "sp", "bp", "si", "di"]
theorem n16 {n : Int} (h0 : 0 ≤ n) (h1 : n ≤ 15) : n = 0 ∨ n = 1 ∨ n = 2 ∨ n = 3 ∨ n = 4 ∨ n = 5 ∨ n = 6 ∨ n = 7 ∨ n = 8 ∨ n = 9 ∨ n = 10 ∨ n = 11 ∨ n = 12 ∨ n = 13 ∨ n = 14 ∨ n = 15 := intB 16 (P := fun n => n = 0 ∨ n = 1 ∨ n = 2 ∨ n = 3 ∨ n = 4 ∨ n = 5 ∨ n = 6 ∨ n = 7 ∨ n = 8 ∨ n = 9 ∨ n = 10 ∨ n = 11 ∨ n = 12 ∨ n = 13 ∨ n = 14 ∨ n = 15) (by decide +kernel) h0 (by omega)
theorem n8 {n : Int} (h0 : 0 ≤ n) (h1 : n < 8) : n = 0 ∨ n = 1 ∨ n = 2 ∨ n = 3 ∨ n = 4 ∨ n = 5 ∨ n = 6 ∨ n = 7 := intB 8 (P := fun n => n = 0 ∨ n = 1 ∨ n = 2 ∨ n = 3 ∨ n = 4 ∨ n = 5 ∨ n = 6 ∨ n = 7) (by decide +kernel) h0 (by omega)
theorem old_g {n : Int} (h0 : 0 ≤ n) (h1 : n < 8) : "r" ++ (old8.getD n.toNat "") = gname n 64 ∧ "e" ++ (old8.getD n.toNat "") = gname n 32 ∧ "" ++ (old8.getD n.toNat "") = gname n 16 := by
  rcases n8 h0 h1 with rfl | rfl | rfl | rfl | rfl | rfl | rfl | rfl <;> decide +kernel
theorem old_g8 {n : Int} (h0 : 4 ≤ n) (h1 : n < 8) : (old8.getD n.toNat "") ++ "l" = gname n 8 := by
  have : n = 4 ∨ n = 5 ∨ n = 6 ∨ n = 7 := by omega
  rcases this with rfl | rfl | rfl | rfl <;> decide +kernel
theorem big_g {n z : Int} (h : 7 < n) : gname n z = "r" ++ Str.ofString (toString n) ++ lateE z := by unfold gname; rw [if_neg (by omega)]
theorem old_len {n : Int} : (old8.getD n.toNat "").length ≤ 2 := by
  rw [List.getD_eq_getElem?_getD]
  cases e : old8[n.toNat]? with
  | none => decide
  | some y =>
    have := List.mem_of_getElem? e
    simp only [old8, List.mem_cons, List.not_mem_nil, or_false] at this
    rcases this with rfl | rfl | rfl | rfl | rfl | rfl | rfl | rfl <;> decide
noncomputable abbrev lname (way : Str) (n z : Int) : V := .tup [.str (wayRV way n z).kd, .str (wayRV way n z).nm, .int (wayRV way n z).sz]
theorem s_lname {way : Str} {n z : Int} (hw : wayOk way ∨ way = "rip") (h0 : 0 ≤ n) (h1 : n ≤ 15) (hz : sizeOk z) : Calls prog w (KK w) 1 (.ref 701) [.str way, .int n, .int z] (lname way n z) := by
  refine Calls.def (fa := 701) (ps := ["way", "number", "size"]) (ds := [.str way, .int n, .int z]) (out := .ret (lname way n z)) (by rfl) (by rfl) (by rfl) (by rfl) (by rfl) (by rfl) (by rfl) (by decide) (ball3 fun _ _ _ => rfl) (by walk_at "loc") (fun L => ?_)
  obtain ⟨l1, l2⟩ := num_len h0 h1
  have ol := old_len (n := n)
  have ll := lateE_len z
  have lr : (Str.ofString "r").length = 1 := by decide
  have lx : (Str.ofString "xmm").length = 3 := by decide
  have le : (Str.ofString "e").length = 1 := by decide
  have l0 : (Str.ofString "").length = 0 := by decide
  have ll1 : (Str.ofString "l").length = 1 := by decide
  have olI : ((old8.length : Nat) : Int) = 8 := rfl
  refine Ex.asgE (Ev.to (b := .lst (old8.map .str)) (by walk_at "ev") (by rfl)) (by rfl) ?_
  rcases hw with (rfl | rfl | rfl | rfl) | rfl
  · by_cases hb : 7 < n
    · have eg := big_g (z := z) hb
      have er : (Str.ofString "r" ++ Str.ofString (toString n)).length ≤ 3 := by rw [Str.len_append]; omega
      have hk : lname (Str.ofString "gpr") n z = .tup [.str "gpr", .str ("r" ++ Str.ofString (toString n) ++ lateE z), .int z] := by rw [← eg]; rfl
      rw [hk]
      have e1 : ∀ k : Nat, k ≤ 1 → (Str.ofString "r" ++ Str.ofString (toString n)).length + k ≤ 1000 := by intro k hk; omega
      rcases hz with rfl | rfl | rfl | rfl
      · have e2 := e1 (Str.ofString "").length (by decide)
        walk_at "ex"
      · have e2 := e1 (Str.ofString "d").length (by decide)
        walk_at "ex"
      · have e2 := e1 (Str.ofString "w").length (by decide)
        walk_at "ex"
      · have e2 := e1 (Str.ofString "b").length (by decide)
        walk_at "ex"
    · have hb' : n < 8 := by omega
      obtain ⟨g1, g2, g3⟩ := old_g h0 hb'
      rcases hz with rfl | rfl | rfl | rfl
      · have hk : lname (Str.ofString "gpr") n 64 = .tup [.str "gpr", .str ("r" ++ old8.getD n.toNat ""), .int 64] := by rw [g1]; rfl
        rw [hk]
        walk_at "ex"
      · have hk : lname (Str.ofString "gpr") n 32 = .tup [.str "gpr", .str ("e" ++ old8.getD n.toNat ""), .int 32] := by rw [g2]; rfl
        rw [hk]
        walk_at "ex"
      · have hk : lname (Str.ofString "gpr") n 16 = .tup [.str "gpr", .str ("" ++ old8.getD n.toNat ""), .int 16] := by rw [g3]; rfl
        rw [hk]
        walk_at "ex"
      · by_cases h4 : n < 4
        · have : n = 0 ∨ n = 1 ∨ n = 2 ∨ n = 3 := by omega
          clear g1 g2 g3 ol l1 l2
          rcases this with rfl | rfl | rfl | rfl <;> walk_at "ex"
        · have hk : lname (Str.ofString "gpr") n 8 = .tup [.str "gpr", .str (old8.getD n.toNat "" ++ "l"), .int 8] := by rw [old_g8 (by omega) hb']; rfl
          rw [hk]
          walk_at "ex"
  · walk_at "ex"
  · obtain ⟨d, hd, hn⟩ : ∃ d, (seqIndex? (n.fmod 4) (Str.length "acdb")).bind ((Str.ofString "acdb").cps[·]?) = some d ∧ (⟨#[d]⟩ ++ "h" : Str) = hname (4 + n.fmod 4) := by
      have m4 : 0 ≤ n.fmod 4 ∧ n.fmod 4 < 4 := ⟨Int.fmod_nonneg_of_pos _ (by decide), Int.fmod_lt_of_pos _ (by decide)⟩
      have : n.fmod 4 = 0 ∨ n.fmod 4 = 1 ∨ n.fmod 4 = 2 ∨ n.fmod 4 = 3 := by omega
      rcases this with h | h | h | h <;> rw [h]
      · exact ⟨97, by decide +kernel, by decide +kernel⟩
      · exact ⟨99, by decide +kernel, by decide +kernel⟩
      · exact ⟨100, by decide +kernel, by decide +kernel⟩
      · exact ⟨98, by decide +kernel, by decide +kernel⟩
    have m4 : 0 ≤ n.fmod 4 ∧ n.fmod 4 < 4 := ⟨Int.fmod_nonneg_of_pos _ (by decide), Int.fmod_lt_of_pos _ (by decide)⟩
    have hk : lname (Str.ofString "high") n z = .tup [.str "high", .str (⟨#[d]⟩ ++ "h"), .int 8] := by rw [hn]; rfl
    have lh : (⟨#[d]⟩ : Str).length + (Str.ofString "h").length ≤ 1000 := by
      have : (Str.ofString "h").length = 1 := by decide
      rw [this]; exact Nat.le_of_ble_eq_true rfl
    rw [hk]
    walk_at "ex"
  · rcases mod2 (a := n) with h | h
    · have e1 : ([V.str "fs", .str "gs"] : List V)[(n.fmod 2).toNat]? = some (.str "fs") := by rw [h]; rfl
      have e2 : 0 ≤ n.fmod 2 := by omega
      have e3 : n.fmod 2 < 2 ^ 63 := by omega
      have e4 : lname "segment" n z = .tup [.str "segment", .str "fs", .int 16] := by simp only [lname, wayRV, segName, h]; rfl
      rw [e4]
      walk_at "ex"
    · have e1 : ([V.str "fs", .str "gs"] : List V)[(n.fmod 2).toNat]? = some (.str "gs") := by rw [h]; rfl
      have e2 : 0 ≤ n.fmod 2 := by omega
      have e3 : n.fmod 2 < 2 ^ 63 := by omega
      have e4 : lname "segment" n z = .tup [.str "segment", .str "gs", .int 16] := by simp only [lname, wayRV, segName, h]; rfl
      rw [e4]
      walk_at "ex"
  · walk_at "ex"
local macro_rules | `(tactic| walk_at "op") => `(tactic| ((with_reducible refine' Op2.pow ?h0 ?h1 ?ha); (case h0 => walk_at "dec"); (case h1 => walk_at "dec"); (case ha => walk_at "dec")))
theorem memSz_e {k : Int} (h0 : 0 ≤ k) (h1 : k ≤ 5) : ([V.int 0, .int 8, .int 16, .int 32, .int 64, .int 128] : List V)[k.toNat]? = some (.int (memSz k)) := by
  have : k = 0 ∨ k = 1 ∨ k = 2 ∨ k = 3 ∨ k = 4 ∨ k = 5 := by omega
  rcases this with rfl | rfl | rfl | rfl | rfl | rfl <;> rfl
theorem segNm_e {k : Int} (h0 : 0 ≤ k) (h1 : k ≤ 2) : ([V.str "", .str "fs", .str "gs"] : List V)[k.toNat]? = some (.str (segNm k)) := by
  have : k = 0 ∨ k = 1 ∨ k = 2 := by omega
  rcases this with rfl | rfl | rfl <;> rfl
theorem pow_le {sc : Int} (h0 : 0 ≤ sc) (h1 : sc ≤ 3) : (1 * 2 ^ sc.toNat : Int) = 2 ^ sc.toNat := Int.one_mul _
theorem s_ltold {p : Part} (h : p.ok) : Calls prog w (KK w) 2 (.ref 729) [p.v] (.tup p.told) := by
  refine Calls.def (fa := 729) (ps := ["part_so"]) (ds := [p.v]) (out := .ret (.tup p.told)) (by rfl) (by rfl) (by rfl) (by rfl) (by rfl) (by rfl) (by rfl) (by decide) (ball1 fun _ => rfl) (by walk_at "loc") (fun L => ?_)
  have hz64 : sizeOk 64 := .inl rfl
  cases p with
  | reg way n z =>
    obtain ⟨hw, h0, h1, hz⟩ := h
    have hw' : wayOk way ∨ way = "rip" := .inl hw
    have hs : sok way := by rcases hw with rfl | rfl | rfl | rfl <;> exact sok_of _
    simp only [Part.v, Part.told]
    walk_at "ex"
  | imm wo nm =>
    simp only [Part.v, Part.told]
    walk_at "ex"
  | rel wo nm =>
    simp only [Part.v, Part.told]
    walk_at "ex"
  | mem ba n ix sc wo sz sg nm =>
    obtain ⟨hb, h0, h1, ⟨i0, i1, i2⟩, hr, ⟨c0, c1⟩, _, ⟨z0, z1⟩, ⟨g0, g1⟩, hn⟩ := h
    have ez := memSz_e z0 z1
    have eg := segNm_e g0 g1
    have z2 : sz < 2 ^ 63 := by omega
    have g2 : sg < 2 ^ 63 := by omega
    have c2 : sc ≤ 1000000 := by omega
    have hwg : wayOk (Str.ofString "gpr") ∨ (Str.ofString "gpr") = "rip" := .inl (.inl rfl)
    have hwr : wayOk (Str.ofString "rip") ∨ (Str.ofString "rip") = "rip" := .inr rfl
    simp only [Part.v, Part.told]
    walk_at "ifF"
    walk_at "ifF"
    ((with_reducible refine' Ex.asgE (d := .str (optN (baseR ba n))) ?g1a ?g1b ?g1c ?g1d ?g1e); (case g1b => rfl); (case g1d => decide +kernel); (case g1e => rfl))
    case g1a =>
      rcases hb with rfl | rfl | rfl
      · exact Ev.to (by walk_at "ev") (by rfl)
      · exact Ev.to (by walk_at "ev") (by rfl)
      · exact Ev.to (by walk_at "ev") (by rfl)
    ((with_reducible refine' Ex.asgE (d := .str (optN (idxR ix))) ?g2a ?g2b ?g2c ?g2d ?g2e); (case g2b => rfl); (case g2d => decide +kernel); (case g2e => rfl))
    case g2a =>
      by_cases hi : ix < 0
      · exact Ev.to (b := .str (optN (idxR ix))) (by walk_at "ev") (by unfold idxR; rw [if_pos hi]; rfl)
      · have i3 : 0 ≤ ix := by omega
        exact Ev.to (b := .str (optN (idxR ix))) (by walk_at "ev") (by unfold idxR; rw [if_neg hi]; rfl)
    walk_at "pair"
    ((with_reducible refine' Ex.retTo ?r3a ?r3b); (case r3a => walk_at "ev"))
    unfold scl
    by_cases hi : ix < 0
    · simp [hi]
    · simp [hi]
local macro_rules | `(tactic| walk_at "spec") => `(tactic| with_reducible assumption)
theorem modK {a k : Int} (h : 0 < k) : 0 ≤ a.fmod k ∧ a.fmod k < k := ⟨Int.fmod_nonneg_of_pos _ h, Int.fmod_lt_of_pos _ h⟩
theorem word_e (k : Int) : ∃ wd, ([V.str "", .str "", .str "here", .str "there"] : List V)[(k.fmod 4).toNat]? = some (.str wd) ∧ wordOk wd := by
  have := modK (a := k) (show (0:Int) < 4 by decide)
  have : k.fmod 4 = 0 ∨ k.fmod 4 = 1 ∨ k.fmod 4 = 2 ∨ k.fmod 4 = 3 := by omega
  rcases this with h | h | h | h <;> rw [h]
  · exact ⟨"", rfl, .inl rfl⟩
  · exact ⟨"", rfl, .inl rfl⟩
  · exact ⟨"here", rfl, .inr (.inl rfl)⟩
  · exact ⟨"there", rfl, .inr (.inr rfl)⟩
theorem kind_e (k : Int) : ∃ wd, ([V.str "gpr", .str "gpr", .str "gpr", .str "xmm", .str "high", .str "segment"] : List V)[(k.fmod 6).toNat]? = some (.str wd) ∧ wayOk wd := by
  have := modK (a := k) (show (0:Int) < 6 by decide)
  have : k.fmod 6 = 0 ∨ k.fmod 6 = 1 ∨ k.fmod 6 = 2 ∨ k.fmod 6 = 3 ∨ k.fmod 6 = 4 ∨ k.fmod 6 = 5 := by omega
  rcases this with h | h | h | h | h | h <;> rw [h]
  · exact ⟨"gpr", rfl, .inl rfl⟩
  · exact ⟨"gpr", rfl, .inl rfl⟩
  · exact ⟨"gpr", rfl, .inl rfl⟩
  · exact ⟨"xmm", rfl, .inr (.inl rfl)⟩
  · exact ⟨"high", rfl, .inr (.inr (.inl rfl))⟩
  · exact ⟨"segment", rfl, .inr (.inr (.inr rfl))⟩
theorem size_e (k : Int) : ∃ z, ([V.int 64, .int 8, .int 16, .int 32] : List V)[(k.fmod 4).toNat]? = some (.int z) ∧ sizeOk z := by
  have := modK (a := k) (show (0:Int) < 4 by decide)
  have : k.fmod 4 = 0 ∨ k.fmod 4 = 1 ∨ k.fmod 4 = 2 ∨ k.fmod 4 = 3 := by omega
  rcases this with h | h | h | h <;> rw [h]
  · exact ⟨64, rfl, .inl rfl⟩
  · exact ⟨8, rfl, .inr (.inr (.inr rfl))⟩
  · exact ⟨16, rfl, .inr (.inr (.inl rfl))⟩
  · exact ⟨32, rfl, .inr (.inl rfl)⟩
theorem base_e (k : Int) : ∃ ba, ([V.str "gpr", .str "gpr", .str "rip", .str ""] : List V)[(k.fmod 4).toNat]? = some (.str ba) ∧ (ba = "gpr" ∨ ba = "rip" ∨ ba = "") := by
  have := modK (a := k) (show (0:Int) < 4 by decide)
  have : k.fmod 4 = 0 ∨ k.fmod 4 = 1 ∨ k.fmod 4 = 2 ∨ k.fmod 4 = 3 := by omega
  rcases this with h | h | h | h <;> rw [h]
  · exact ⟨"gpr", rfl, .inl rfl⟩
  · exact ⟨"gpr", rfl, .inl rfl⟩
  · exact ⟨"rip", rfl, .inr (.inl rfl)⟩
  · exact ⟨"", rfl, .inr (.inr rfl)⟩
theorem s_lplain {ns : List Int} {spot : Int} (hz : ns.length ≤ 1000) (h0 : 0 ≤ spot) (h1 : spot ≤ 3) : ∃ p : Part, p.ok ∧ Calls prog w (KK w) 2 (.ref 715) [.scr ns, .int spot] p.v := by
  generalize hc0 : cell ns (1 + 8 * spot) = c0
  generalize hc1 : cell ns (1 + 8 * spot + 1) = c1
  generalize hc2 : cell ns (1 + 8 * spot + 2) = c2
  generalize hc3 : cell ns (1 + 8 * spot + 3) = c3
  have s0 : Calls prog w (KK w) 1 (.ref 694) [.scr ns, .int (1 + 8 * spot)] (.int c0) := hc0 ▸ s_cell hz (by omega) (by omega)
  have s1 : Calls prog w (KK w) 1 (.ref 694) [.scr ns, .int (1 + 8 * spot + 1)] (.int c1) := hc1 ▸ s_cell hz (by omega) (by omega)
  have s2 : Calls prog w (KK w) 1 (.ref 694) [.scr ns, .int (1 + 8 * spot + 2)] (.int c2) := hc2 ▸ s_cell hz (by omega) (by omega)
  have s3 : Calls prog w (KK w) 1 (.ref 694) [.scr ns, .int (1 + 8 * spot + 3)] (.int c3) := hc3 ▸ s_cell hz (by omega) (by omega)
  clear hc0 hc1 hc2 hc3
  have m0 := modK (a := c0) (show (0:Int) < 5 by decide)
  have mw := modK (a := c2) (show (0:Int) < 4096 by decide)
  have mn := modK (a := c1) (show (0:Int) < 16 by decide)
  obtain ⟨wd, e3, hw⟩ := word_e c3
  have i3 := (modK (a := c3) (show (0:Int) < 4 by decide)).1
  have j3 : c3.fmod 4 < 2 ^ 63 := by have := (modK (a := c3) (show (0:Int) < 4 by decide)).2; omega
  obtain ⟨kd, e2, hk⟩ := kind_e c2
  have i2 := (modK (a := c2) (show (0:Int) < 6 by decide)).1
  have j2 : c2.fmod 6 < 2 ^ 63 := by have := (modK (a := c2) (show (0:Int) < 6 by decide)).2; omega
  obtain ⟨z, e1, hz1⟩ := size_e (c1.fdiv 16)
  have i1 := (modK (a := c1.fdiv 16) (show (0:Int) < 4 by decide)).1
  have j1 : (c1.fdiv 16).fmod 4 < 2 ^ 63 := by have := (modK (a := c1.fdiv 16) (show (0:Int) < 4 by decide)).2; omega
  obtain ⟨ba, e4, hb⟩ := base_e (c1.fdiv 16)
  by_cases w0 : c0.fmod 5 = 0
  · refine ⟨.reg kd (c1.fmod 16) z, ⟨hk, by omega, by omega, hz1⟩, ?_⟩
    refine Calls.def (fa := 715) (ps := ["script", "spot"]) (ds := [.scr ns, .int spot]) (out := .ret _) (by rfl) (by rfl) (by rfl) (by rfl) (by rfl) (by rfl) (by rfl) (by decide) (ball2 fun _ _ => rfl) (by walk_at "loc") (fun L => ?_)
    walk_at "asg"
    walk_at "pair"
    walk_at "pair"
    walk_at "ifT"
    walk_at "asg"
    ((with_reducible refine' Ex.retTo ?r1a ?r1b); (case r1a => walk_at "ev"))
    rfl
  by_cases w1 : c0.fmod 5 = 1
  · refine ⟨.imm (c2.fmod 4096 - 2048) wd, ⟨by omega, by omega, hw⟩, ?_⟩
    refine Calls.def (fa := 715) (ps := ["script", "spot"]) (ds := [.scr ns, .int spot]) (out := .ret _) (by rfl) (by rfl) (by rfl) (by rfl) (by rfl) (by rfl) (by rfl) (by decide) (ball2 fun _ _ => rfl) (by walk_at "loc") (fun L => ?_)
    walk_at "asg"
    walk_at "pair"
    walk_at "pair"
    walk_at "ifF"
    walk_at "ifT"
    ((with_reducible refine' Ex.retTo ?r2a ?r2b); (case r2a => walk_at "ev"))
    rfl
  by_cases w2 : c0.fmod 5 = 2
  · refine ⟨.rel (c2.fmod 4096 - 2048) wd, ⟨by omega, by omega, hw⟩, ?_⟩
    refine Calls.def (fa := 715) (ps := ["script", "spot"]) (ds := [.scr ns, .int spot]) (out := .ret _) (by rfl) (by rfl) (by rfl) (by rfl) (by rfl) (by rfl) (by rfl) (by decide) (ball2 fun _ _ => rfl) (by walk_at "loc") (fun L => ?_)
    walk_at "asg"
    walk_at "pair"
    walk_at "pair"
    walk_at "ifF"
    walk_at "ifF"
    walk_at "ifT"
    ((with_reducible refine' Ex.retTo ?r3a ?r3b); (case r3a => walk_at "ev"))
    rfl
  have q1 := modK (a := c1.fdiv 128) (show (0:Int) < 16 by decide)
  have q2 := modK (a := c1.fdiv 2048) (show (0:Int) < 4 by decide)
  have q3 := modK (a := c1.fdiv 8192) (show (0:Int) < 6 by decide)
  have q4 := modK (a := c1.fdiv 49152) (show (0:Int) < 3 by decide)
  have hbs : sok ba := by rcases hb with rfl | rfl | rfl <;> exact sok_of _
  obtain ⟨ix, ⟨hx0, hx1⟩, hxr, hxe⟩ : ∃ ix : Int, (-1 ≤ ix ∧ ix ≤ 15) ∧ (ba = "rip" → ix = -1) ∧ (bif (decide (ba = Str.ofString "rip") || (decide ((c1.fdiv 64).fmod 2 = 0) || false)) then V.int (-1) else V.int ((c1.fdiv 128).fmod 16)) = .int ix := by
    by_cases hr : ba = Str.ofString "rip"
    · exact ⟨-1, by omega, fun _ => rfl, by simp [hr]⟩
    · by_cases hm : (c1.fdiv 64).fmod 2 = 0
      · exact ⟨-1, by omega, fun _ => rfl, by simp [hm]⟩
      · exact ⟨(c1.fdiv 128).fmod 16, ⟨by omega, by omega⟩, fun q => absurd q hr, by simp [hr, hm]⟩
  refine ⟨.mem ba (c1.fmod 16) (if ix = 4 then -1 else ix) ((c1.fdiv 2048).fmod 4) (c2.fmod 4096 - 2048) ((c1.fdiv 8192).fmod 6) ((c1.fdiv 49152).fmod 3) wd, ⟨hb, by omega, by omega, ?_, ?_, by omega, by omega, by omega, by omega, hw⟩, ?_⟩
  · split <;> omega
  · intro hr; have := hxr hr; rw [if_neg (by omega)]; exact this
  refine Calls.def (fa := 715) (ps := ["script", "spot"]) (ds := [.scr ns, .int spot]) (out := .ret _) (by rfl) (by rfl) (by rfl) (by rfl) (by rfl) (by rfl) (by rfl) (by decide) (ball2 fun _ _ => rfl) (by walk_at "loc") (fun L => ?_)
  walk_at "asg"
  walk_at "pair"
  walk_at "pair"
  walk_at "ifF"
  walk_at "ifF"
  walk_at "ifF"
  walk_at "asg"
  ((with_reducible refine' Ex.asgE (d := .int ix) ?g4a ?g4b ?g4c ?g4d ?g4e); (case g4b => rfl); (case g4d => decide +kernel); (case g4e => rfl))
  case g4a =>
    walk_at "evto"
    exact hxe
  ((with_reducible refine' Ex.retTo ?r5a ?r5b); (case r5a => walk_at "ev"))
  by_cases h4 : ix = 4
  · simp [h4]
  · simp [h4]
theorem baseR_s {ba : Str} (hb : ba = "gpr" ∨ ba = "rip" ∨ ba = "") : (ba = Str.ofString "" ∧ ∀ n, baseR ba n = none) ∨ (ba ≠ Str.ofString "" ∧ (wayOk ba ∨ ba = "rip") ∧ ∀ n, baseR ba n = some (wayRV ba n 64)) := by
  rcases hb with rfl | rfl | rfl
  · exact .inr ⟨by decide, .inl (.inl rfl), fun n => rfl⟩
  · exact .inr ⟨by decide, .inr rfl, fun n => rfl⟩
  · exact .inl ⟨rfl, fun n => rfl⟩
theorem s_loperand {p : Part} (h : p.ok) : Calls prog w (KK w) 5 (.ref 722) [p.v] p.op := by
  refine Calls.def (fa := 722) (ps := ["part_so"]) (ds := [p.v]) (out := .ret (p.op)) (by rfl) (by rfl) (by rfl) (by rfl) (by rfl) (by rfl) (by rfl) (by decide) (ball1 fun _ => rfl) (by walk_at "loc") (fun L => ?_)
  have hz64 : sizeOk 64 := .inl rfl
  cases p with
  | reg way n z =>
    obtain ⟨hw, h0, h1, hz⟩ := h
    have hw' : wayOk way ∨ way = "rip" := .inl hw
    simp only [Part.v]
    walk_at "ex"
  | imm wo nm =>
    simp only [Part.v]
    have hs := word_ok h.2.2
    walk_at "ifF"
    walk_at "ifT"
    by_cases he : nm = Str.ofString ""
    · subst he
      (with_reducible refine' Ex.retTo ?a1 ?a2)
      case a1 => exact Ev.ifF (EvT.to (by walk_at "evt") (by decide)) (by walk_at "ev")
      case a2 => rfl
    · (with_reducible refine' Ex.retTo ?b1 ?b2)
      case b1 => exact Ev.ifT (EvT.to (by walk_at "evt") (by simp [he])) (by walk_at "ev")
      case b2 => rfl
  | rel wo nm =>
    simp only [Part.v]
    walk_at "ifF"
    walk_at "ifF"
    walk_at "ifT"
    walk_at "ex"
  | mem ba n ix sc wo sz sg nm =>
    obtain ⟨hb, h0, h1, ⟨i0, i1, i2⟩, hr, ⟨c0, c1⟩, _, ⟨z0, z1⟩, ⟨g0, g1⟩, hn⟩ := h
    have ez := memSz_e z0 z1
    have eg := segNm_e g0 g1
    have z2 : sz < 2 ^ 63 := by omega
    have g2 : sg < 2 ^ 63 := by omega
    have c2 : sc ≤ 1000000 := by omega
    simp only [Part.v]
    walk_at "ifF"
    walk_at "ifF"
    walk_at "ifF"
    ((with_reducible refine' Ex.asgE (d := optV (baseR ba n)) ?g1a ?g1b ?g1c ?g1d ?g1e); (case g1b => rfl); (case g1d => decide +kernel); (case g1e => rfl))
    case g1a =>
      rcases baseR_s hb with ⟨rfl, e⟩ | ⟨hne, hw, e⟩
      · rw [e]; exact Ev.ifT (EvT.to (by walk_at "evt") (by decide)) (Ev.to (by walk_at "ev") (by rfl))
      · rw [e]; exact Ev.ifF (EvT.to (by have := sok_of ""; have hbs : sok ba := (by rcases hb with rfl | rfl | rfl <;> exact sok_of _); walk_at "evt") (by simp [hne])) (Ev.to (by walk_at "ev") (by rfl))
    ((with_reducible refine' Ex.asgE (d := optV (idxR ix)) ?g2a ?g2b ?g2c ?g2d ?g2e); (case g2b => rfl); (case g2d => decide +kernel); (case g2e => rfl))
    case g2a =>
      by_cases hi : ix < 0
      · rw [show idxR ix = none by unfold idxR; rw [if_pos hi]]; exact Ev.ifT (EvT.to (by walk_at "evt") (by simp [hi])) (Ev.to (by walk_at "ev") (by rfl))
      · have i3 : 0 ≤ ix := by omega
        rw [show idxR ix = some (wayRV "gpr" ix 64) by unfold idxR; rw [if_neg hi]]; exact Ev.ifF (EvT.to (by walk_at "evt") (by simp [hi])) (Ev.to (by walk_at "ev") (by rfl))
    ((with_reducible refine' Ex.asgE (d := .int (scl ix sc)) ?g3a ?g3b ?g3c ?g3d ?g3e); (case g3b => rfl); (case g3d => decide +kernel); (case g3e => rfl))
    case g3a =>
      walk_at "evto"
      unfold scl
      by_cases hi : ix < 0
      · simp [hi]
      · simp [hi]
    ((with_reducible refine' Ex.retTo ?r4a ?r4b); (case r4a => walk_at "ev"))
    rfl
theorem nm_ne {way : Str} {n : Int} (hw : way = "gpr" ∨ way = "rip") (h0 : 0 ≤ n) (h1 : n ≤ 15) : (wayRV way n 64).nm ≠ Str.ofString "" := by
  rcases hw with rfl | rfl
  · rcases n16 h0 h1 with rfl | rfl | rfl | rfl | rfl | rfl | rfl | rfl | rfl | rfl | rfl | rfl | rfl | rfl | rfl | rfl <;> decide +kernel
  · show Str.ofString "rip" ≠ _; decide +kernel
noncomputable def neE (s : Str) : Bool := !decide (s = Str.ofString "")
theorem names_eq {b i : Option RV} (hb : ∀ r, b = some r → r.nm ≠ Str.ofString "") (hi : ∀ r, i = some r → r.nm ≠ Str.ofString "") : [optN b, optN i].filter neE = (b.toList ++ i.toList).map RV.nm := by
  have h0 : neE (Str.ofString "") = false := by decide
  cases b with
  | none => cases i with
    | none => simp [optN, h0]
    | some r => have h1 : neE r.nm = true := by simp [neE, hi r rfl]
                simp [optN, h0, h1]
  | some q =>
    have h2 : neE q.nm = true := by simp [neE, hb q rfl]
    cases i with
    | none => simp [optN, h0, h2]
    | some r => have h1 : neE r.nm = true := by simp [neE, hi r rfl]
                simp [optN, h1, h2]
theorem base_ne {ba : Str} {n : Int} (hb : ba = "gpr" ∨ ba = "rip" ∨ ba = "") (h0 : 0 ≤ n) (h1 : n ≤ 15) : ∀ r, baseR ba n = some r → r.nm ≠ Str.ofString "" := by
  intro r hr
  rcases hb with rfl | rfl | rfl
  · cases hr; exact nm_ne (.inl rfl) h0 h1
  · cases hr; exact nm_ne (.inr rfl) h0 h1
  · cases hr
theorem idx_ne {ix : Int} (h1 : ix ≤ 15) : ∀ r, idxR ix = some r → r.nm ≠ Str.ofString "" := by
  intro r hr; unfold idxR at hr; split at hr
  · cases hr
  · cases hr; exact nm_ne (.inl rfl) (by omega) h1
theorem optN_ok {o : Option RV} (h : ∀ r, o = some r → sok r.nm ∧ sok r.kd) : sok (optN o) := by
  cases o with
  | none => exact sok_of _
  | some r => exact (h r rfl).1
theorem s_lnames {p : Part} (h : p.ok) : Calls prog w (KK w) 3 (.ref 734) [p.v] (.lst ((p.regs.map RV.nm).map .str)) := by
  refine Calls.def (fa := 734) (ps := ["part_so"]) (ds := [p.v]) (out := .ret (.lst ((p.regs.map RV.nm).map .str))) (by rfl) (by rfl) (by rfl) (by rfl) (by rfl) (by rfl) (by rfl) (by decide) (ball1 fun _ => rfl) (by walk_at "loc") (fun L => ?_)
  cases p with
  | reg way n z =>
    have ht := s_ltold (prog := prog) (w := w) h
    obtain ⟨hw, h0, h1, hz⟩ := h
    simp only [Part.v, Part.told] at ht ⊢
    walk_at "ex"
  | imm wo nm =>
    simp only [Part.v]
    walk_at "ifF"
    (with_reducible refine' Ex.retTo ?a1 ?a2)
    case a1 => exact Ev.ifF (EvT.to (by walk_at "evt") (by decide)) (by walk_at "ev")
    case a2 => rfl
  | rel wo nm =>
    simp only [Part.v]
    walk_at "ifF"
    (with_reducible refine' Ex.retTo ?a1 ?a2)
    case a1 => exact Ev.ifF (EvT.to (by walk_at "evt") (by decide)) (by walk_at "ev")
    case a2 => rfl
  | mem ba n ix sc wo sz sg nm =>
    have ht := s_ltold (prog := prog) (w := w) h
    obtain ⟨hb, h0, h1, ⟨i0, i1, i2⟩, hr, ⟨c0, c1⟩, _, ⟨z0, z1⟩, ⟨g0, g1⟩, hn⟩ := h
    simp only [Part.v, Part.told] at ht ⊢
    have k1 := optN_ok (base_ok (ba := ba) (n := n))
    have k2 := optN_ok (idx_ok (ix := ix))
    walk_at "ifF"
    (with_reducible refine' Ex.retTo ?b1 ?b2)
    case b1 =>
      show Ev _ _ _ _ _ _ _ (V.lst (([optN (baseR ba n), optN (idxR ix)].filter neE).map V.str))
      refine Ev.ifT (EvT.to (by walk_at "evt") (by decide)) ?_
      refine (EvNew.comp (CompRuns.name (cl := []) (Γf := []) (as := [optN (baseR ba n), optN (idxR ix)]) (g := V.str) (p := neE) (f := V.str) (by decide) rfl rfl (by decide +kernel) FreeOk.nil rfl (EvIt.tup (Ev.to (by walk_at "ev") (by rfl))) (by simp) (fun C d hd => EvTs.one ?_) (fun C d hd hp => ?_)) rfl (by walk_at "scok")).ev
      · have hd' : sok d := by
          simp only [List.mem_cons, List.not_mem_nil, or_false] at hd
          rcases hd with rfl | rfl
          · exact k1
          · exact k2
        show EvT _ _ _ _ _ _ _ (!decide (d = Str.ofString ""))
        walk_at "evt"
      · walk_at "ev"
    case b2 => rw [names_eq (base_ne hb h0 h1) (idx_ne i1)]; rfl
section
variable {K : Frag} {n : Nat} {env : Env} {Γ : Lc} {O : Option (String × OV)} {out : Out}
theorem Ev.pzero {x : Str} {p : Part} {k : Nat} {px p1 pos : Pos} (ho : Ev prog w K n env Γ (.Name x px) p.v) : Ev prog w K n env Γ (.Subscript (.Name x px) (.Constant (.int 0) k p1) pos) (.str p.kind) := by
  cases p with
  | reg => exact Ev.sub ho Ev.cInt (Op2.itemT (j := 0) (by rfl) (by rfl))
  | imm => exact Ev.sub ho Ev.cInt (Op2.itemT (j := 0) (by rfl) (by rfl))
  | rel => exact Ev.sub ho Ev.cInt (Op2.itemT (j := 0) (by rfl) (by rfl))
  | mem => exact Ev.sub ho Ev.cInt (Op2.itemT (j := 0) (by rfl) (by rfl))
theorem Ev.three {e : PySem.Expr} {d : V} (h : Ev prog w K n env Γ e d) : Ev prog w K n env Γ e d := h
theorem Ex.threeE {x y z : String} {k : Nat} {px py pz tpos pos : Pos} {e : PySem.Expr} {d d' d'' : V} {ss : List Stmt} (h : Ev prog w K n env Γ e (.tup [d, d', d''])) (hx : locOk env x) (hy : locOk env y) (hz : locOk env z) (hs : Ex prog w K n env ((z, d'') :: (y, d') :: (x, d) :: Γ) none ss out)
    (h1 : swapsWithSole [.Tuple [.Name (Str.ofString x) px, .Name (Str.ofString y) py, .Name (Str.ofString z) pz] k tpos] e pos.line env = pure false)
    (h2 : swappedStores [.Tuple [.Name (Str.ofString x) px, .Name (Str.ofString y) py, .Name (Str.ofString z) pz] k tpos] e env = pure none) :
    Ex prog w K n env Γ none (.Assign [.Tuple [.Name (Str.ofString x) px, .Name (Str.ofString y) py, .Name (Str.ofString z) pz] k tpos] e pos :: ss) out := Ex.next (Ex1.three (EvO.ev h) hx hy hz (by intro y o h; cases h) h1 h2) hs
end
local macro_rules | `(tactic| walk_at "three") => `(tactic| ((with_reducible refine' Ex.threeE ?k1 ?k2 ?k3 ?k4 ?k5 ?k6 ?k7); (case k1 => walk_at "ev"); (case k2 => exact ⟨by rfl, by decide +kernel⟩); (case k3 => exact ⟨by rfl, by decide +kernel⟩); (case k4 => exact ⟨by rfl, by decide +kernel⟩); (case k6 => rfl); (case k7 => rfl)))
local macro_rules | `(tactic| walk_at "op") => `(tactic| ((with_reducible refine' Op2.mod ?hb); (case hb => with_reducible assumption)))
local macro_rules | `(tactic| walk_at "ev") => `(tactic| ((with_reducible refine' Ev.pzero ?hh); (case hh => walk_at "ev")))
theorem cmpb_names {ys : List Str} (h : ∀ y ∈ ys, sok y) : (V.lst (ys.map V.str)).cmpb = true := cmpb_strs h
theorem memP (p : Part) : p.isMem = decide (p.kind = Str.ofString "mem") := by cases p <;> rfl
theorem regsnm_ok {p : Part} : ∀ y ∈ p.regs.map RV.nm, sok y := by
  intro y hy
  obtain ⟨r, hr, rfl⟩ := List.mem_map.mp hy
  exact regs_ok hr
theorem dueT {ba : Str} {n : Int} (hb : ba = "gpr" ∨ ba = "rip" ∨ ba = "") (h0 : 0 ≤ n) (h1 : n ≤ 15) : optK (baseR ba n) = decide (optN (baseR ba n) = Str.ofString "rip") ∧ (baseR ba n).isNone = decide (optN (baseR ba n) = Str.ofString "") := by
  rcases hb with rfl | rfl | rfl
  · refine ⟨?_, ?_⟩
    · show decide ((wayRV "gpr" n 64).kd = "rip") = decide ((wayRV "gpr" n 64).nm = Str.ofString "rip")
      rcases n16 h0 h1 with rfl | rfl | rfl | rfl | rfl | rfl | rfl | rfl | rfl | rfl | rfl | rfl | rfl | rfl | rfl | rfl <;> decide +kernel
    · show false = decide _
      rw [eq_comm, decide_eq_false_iff_not]; exact nm_ne (.inl rfl) h0 h1
  · exact ⟨by rfl, by rfl⟩
  · exact ⟨by rfl, by rfl⟩
theorem dueI {ix : Int} (h1 : ix ≤ 15) : (idxR ix).isNone = decide (optN (idxR ix) = Str.ofString "") := by
  unfold idxR; split
  · rfl
  · show false = decide _
    rw [eq_comm, decide_eq_false_iff_not]; exact nm_ne (.inl rfl) (by omega) h1
theorem tgt_eq (wo : Int) : Builtin.bitAnd (1 * 2 ^ (64 : Int).toNat - 5 + wo) 18446744073709551615 = (wo - 5).fmod (1 * 2 ^ (64 : Int).toNat) := by
  have h := kbt_maskF (1 * 2 ^ (64 : Int).toNat - 5 + wo) 64
  rw [show (2 ^ 64 - 1 : Int) = 18446744073709551615 from rfl] at h
  rw [h, show (1 * 2 ^ (64 : Int).toNat : Int) = 18446744073709551616 from rfl, show (2 ^ 64 : Int) = 18446744073709551616 from rfl, show (18446744073709551616 - 5 + wo : Int) = (wo - 5) + 18446744073709551616 by omega, Int.add_fmod_right]
theorem s_lopright {p : Part} (h : p.ok) : Calls prog w (KK w) 5 (.ref 739) [p.v, p.op] (.bool true) := by
  refine Calls.def (fa := 739) (ps := ["part_so", "operand"]) (ds := [p.v, p.op]) (out := .ret (.bool true)) (by rfl) (by rfl) (by rfl) (by rfl) (by rfl) (by rfl) (by rfl) (by decide) (ball2 fun _ _ => rfl) (by walk_at "loc") (fun L => ?_)
  have hcmp := told_cmp h
  have hk := kind_ok p
  have hsy := sym_ok h
  have hrn := regsnm_ok (p := p)
  (with_reducible refine' Ex.ifFE ?a1 ?a2 ?a3)
  case a1 => walk_at "evt"
  case a2 => rw [memP]; simp
  simp only [List.nil_append]
  (with_reducible refine' Ex.ifFE ?b1 ?b2 ?b3)
  case b1 =>
    refine EvT.or_ (a := false) ?_ (fun _ => EvT.or_ (a := false) ?_ (fun _ => EvT.or0))
    · refine EvT.to (EvT.cmp (d := .str p.sym) (e := .str p.sym) (by walk_at "ev") ?_ (Op2.neS hsy hsy) (by rfl)) (by simp)
      clear hcmp hk hsy hrn h
      cases p with
      | reg => exact Ev.ifT (EvT.to (by walk_at "evt") (by rfl)) (Ev.to (by walk_at "ev") (by rfl))
      | imm => simp only [Part.v, Part.sym]; exact Ev.ifF (EvT.to (by walk_at "evt") (by rfl)) (by walk_at "ev")
      | rel => simp only [Part.v, Part.sym]; exact Ev.ifF (EvT.to (by walk_at "evt") (by rfl)) (by walk_at "ev")
      | mem => simp only [Part.v, Part.sym]; exact Ev.ifF (EvT.to (by walk_at "evt") (by rfl)) (by walk_at "ev")
    · refine EvT.cmp (d := .lst ((p.regs.map RV.nm).map V.str)) (e := .lst ((p.regs.map RV.nm).map V.str)) ?_ (by walk_at "ev") (Op2.neR (cmpb_strs hrn) rfl) (by rfl)
      refine Ev.to (EvNew.comp (CompRuns.all (cl := []) (Γf := []) (as := p.regs) (g := RV.v) (f := fun r => .str r.nm) (by decide) rfl rfl (by decide +kernel) FreeOk.nil rfl (EvIt.lst (by walk_at "ev")) (by have := regs_len p; omega) (fun C d hd => ?_)) rfl (by walk_at "scok")).ev (by rw [List.map_map]; rfl)
      walk_at "ev"
  case b2 => rfl
  simp only [List.nil_append]
  have hq : (1 * 2 ^ (64 : Int).toNat : Int) ≠ 0 := by decide
  cases p with
  | rel wo nm =>
    clear hcmp hk hsy hrn
    simp only [Part.v, Part.op]
    walk_at "ifT"
    (with_reducible refine' Ex.retTo ?c1 ?c2)
    case c1 => walk_at "ev"
    case c2 => rw [tgt_eq]; simp
  | reg way n z =>
    obtain ⟨hw, h0, h1, hz⟩ := h
    have hw' : wayOk way ∨ way = "rip" := .inl hw
    have hkd := kd_ok way n z
    have hno : sok (Str.ofString "none") := sok_of _
    have hsz : (wayRV way n z).sz + 1 ≠ 0 := by
      rcases hw with rfl | rfl | rfl | rfl
      · show z + 1 ≠ 0; rcases hz with rfl | rfl | rfl | rfl <;> decide
      · show (128 : Int) + 1 ≠ 0; decide
      · show (8 : Int) + 1 ≠ 0; decide
      · show (16 : Int) + 1 ≠ 0; decide
    have hs2 : ¬ (wayRV way n z).sz = (wayRV way n z).sz + 1 := by omega
    have hkn : (wayRV way n z).kd ≠ Str.ofString "none" := by rcases hw with rfl | rfl | rfl | rfl <;> (intro q; revert q; exact of_decide_eq_false (by rfl))
    clear hcmp hk hsy hrn
    simp only [Part.v]
    walk_at "ifF"
    walk_at "ifT"
    walk_at "three"
    (with_reducible refine' Ex.ifFE ?d1 ?d2 ?d3)
    case d1 => walk_at "evt"
    case d2 => simp [Part.size, Part.isRegOf]
    simp only [List.nil_append]
    (with_reducible refine' Ex.retTo ?e1 ?e2)
    case e1 => walk_at "ev"
    case e2 => simp [Part.isRegOf, hsz, hkn, hs2]
  | imm wo nm =>
    clear hcmp hk hsy hrn
    simp only [Part.v]
    walk_at "ifF"
    walk_at "ifF"
    (with_reducible refine' Ex.ifFE ?m1 ?m2 ?m3)
    case m1 => walk_at "evt"
    case m2 => rfl
    simp only [List.nil_append]
    walk_at "ifT"
    walk_at "ex"
  | mem ba n ix sc wo sz sg nm =>
    have ht := s_ltold (prog := prog) (w := w) h
    obtain ⟨hb, h0, h1, ⟨i0, i1, i2⟩, hr, ⟨c0, c1⟩, _, ⟨z0, z1⟩, ⟨g0, g1⟩, hn⟩ := h
    have hnm := word_ok hn
    have ez := memSz_e z0 z1
    have z2 : sz < 2 ^ 63 := by omega
    have k1 := optN_ok (base_ok (ba := ba) (n := n))
    have k2 := optN_ok (idx_ok (ix := ix))
    have k3 := seg_ok sg
    have k4 : ∀ r, baseR ba n = some r → sok r.kd := fun r hr => (base_ok r hr).2
    have k5 : ∀ r, baseR ba n = some r → sok r.nm := fun r hr => (base_ok r hr).1
    have k6 : ∀ r, idxR ix = some r → sok r.nm := fun r hr => (idx_ok r hr).1
    obtain ⟨t1, t2⟩ := dueT hb h0 h1
    have t3 := dueI (ix := ix) i1
    simp only [Part.v, Part.told] at ht
    simp only [Part.told] at hcmp
    clear hk hsy hrn
    simp only [Part.v, Part.op]
    walk_at "ifF"
    walk_at "ifF"
    generalize baseR ba n = b at *
    generalize idxR ix = i at *
    (with_reducible refine' Ex.ifFE ?f1 ?f2 ?f3)
    case f1 => walk_at "evt"
    case f2 => simp
    simp only [List.nil_append]
    walk_at "ifF"
    walk_at "pair"
    (with_reducible refine' Ex.ifFE ?g1 ?g2 ?g3)
    case g1 => walk_at "evt"
    case g2 => rw [t1, t2, t3]; simp
    simp only [List.nil_append]
    have cm1 : (V.tup [.str "mem", .str (optN b), .str (optN i), .int (scl ix sc), .int wo, .int 32, .str (segNm sg), .str nm]).cmpb = true := by simp [V.cmpb, V.okD, V.okL, V.dep, V.depL]; exact ⟨sok_of _, k1, k2, k3, hnm⟩
    have cm2 : (V.tup [.str "mem", .str (optN b), .str (optN i), .int (scl ix sc), .int (wo + 9), .int (memSz sz), .str (segNm sg), .str nm]).cmpb = true := by simp [V.cmpb, V.okD, V.okL, V.dep, V.depL]; exact ⟨sok_of _, k1, k2, k3, hnm⟩
    have cm3 : (V.tup [.str "mem", .str (optN b), .str (optN i), .int (scl ix sc), .int (-7), .int (memSz sz), .str (segNm sg), .str (Str.ofString "")]).cmpb = true := by simp [V.cmpb, V.okD, V.okL, V.dep, V.depL]; exact ⟨sok_of _, k1, k2, k3, sok_of _⟩
    (with_reducible refine' Ex.ifFE ?h1 ?h2 ?h3)
    case h1 => walk_at "evt"
    case h2 => rfl
    simp only [List.nil_append]
    (with_reducible refine' Ex.ifFE ?i1 ?i2 ?i3)
    case i1 => walk_at "evt"
    case i2 => rfl
    simp only [List.nil_append]
    (with_reducible refine' Ex.retTo ?j1 ?j2)
    case j1 => walk_at "ev"
    case j2 =>
      have : ¬ wo = wo + 1 := by omega
      simp [this]
section
variable {K : Frag} {n : Nat} {env : Env} {Γ : Lc} {O : Option (String × OV)} {out : Out}
theorem Ex.exprE {e : PySem.Expr} {d : V} {p2 : Pos} {ss : List Stmt} (h : Ev prog w K n env Γ e d) (hs : Ex prog w K n env Γ O ss out) (hi : interactive env = false) (hsw : swapsWith e none p2.line env = pure false) : Ex prog w K n env Γ O (.Expr e p2 :: ss) out := Ex.next (Ex1.expr (EvO.ev h) hi hsw) hs
theorem ExR.ifF {t : PySem.Expr} {bs os ss : List Stmt} {pos : Pos} {b : Bool} (ht : EvT prog w (KK w) n env Γ t b) (q : b = false) (hos : os = []) (h : ExR prog w n env Γ O ss) : ExR prog w n env Γ O (.If t bs os pos :: ss) := by
  subst q hos; exact ExR.next (Ex1.ifF (EvTO.ev ht) Ex.nil) h
theorem ExR.ifT {t : PySem.Expr} {bs os ss : List Stmt} {pos : Pos} {b : Bool} (ht : EvT prog w (KK w) n env Γ t b) (q : b = true) (h : ExR prog w n env Γ O bs) : ExR prog w n env Γ O (.If t bs os pos :: ss) := by
  subst q; exact ExR.stop (Ex1R.ifT (EvTO.ev ht) h)
end
local macro_rules | `(tactic| walk_at "expr") => `(tactic| ((with_reducible refine' Ex.exprE ?k1 ?k2 ?k3 ?k4); (case k1 => walk_at "ev"); (case k3 => rfl); (case k4 => rfl)))
local macro_rules | `(tactic| walk_at "rifF") => `(tactic| ((with_reducible refine' ExR.ifF ?k1 ?k2 ?k3 ?k4); (case k1 => walk_at "evt"); (case k2 => walk_at "tt"); (case k3 => rfl)))
local macro_rules | `(tactic| walk_at "rifT") => `(tactic| ((with_reducible refine' ExR.ifT ?k1 ?k2 ?k3); (case k1 => walk_at "evt"); (case k2 => walk_at "tt")))
local macro_rules | `(tactic| walk_at "rraise") => `(tactic| exact ExR.stop (Ex1R.raise (by rfl)))
local macro_rules | `(tactic| walk_at "tt") => `(tactic| decide +kernel)
theorem s_addrregO {r : RV} (h1 : sok r.kd) : Calls prog w (KK w) 1 (.ref 469) [optV (some r)] (.bool (decide (r.kd = "gpr") && decide (r.sz = 64))) := s_addrreg h1
theorem s_chkbase {ba : Str} {n ix sc wo sz : Int} {sg nm : Str} (hb : ba = "gpr" ∨ ba = "rip" ∨ ba = "") (hr : ba = "rip" → ix = -1) : Calls prog w (KK w) 2 (.ref 476) [memOp (baseR ba n) (idxR ix) sc wo sz sg nm] .none := by
  rcases hb with rfl | rfl | rfl
  · show Calls _ _ _ _ _ [memOp (some (wayRV "gpr" n 64)) (idxR ix) sc wo sz sg nm] _
    have hk : sok (wayRV "gpr" n 64).kd := sok_of _
    refine Calls.def (fa := 476) (ps := ["mem"]) (ds := [memOp (some (wayRV "gpr" n 64)) (idxR ix) sc wo sz sg nm]) (out := .next (List.zip ["mem"] [memOp (some (wayRV "gpr" n 64)) (idxR ix) sc wo sz sg nm]) none) (by rfl) (by rfl) (by rfl) (by rfl) (by rfl) (by rfl) (by rfl) (by decide) (ball1 fun _ => rfl) (by walk_at "loc") (fun L => ?_)
    walk_at "ifF"
    walk_at "ifF"
    walk_at "ifF"
    exact Ex.nil
  · obtain rfl := hr rfl
    show Calls _ _ _ _ _ [memOp (some (wayRV "rip" n 64)) none sc wo sz sg nm] _
    have hk : sok (wayRV "rip" n 64).kd := sok_of _
    refine Calls.def (fa := 476) (ps := ["mem"]) (ds := [memOp (some (wayRV "rip" n 64)) none sc wo sz sg nm]) (out := .next (List.zip ["mem"] [memOp (some (wayRV "rip" n 64)) none sc wo sz sg nm]) none) (by rfl) (by rfl) (by rfl) (by rfl) (by rfl) (by rfl) (by rfl) (by decide) (ball1 fun _ => rfl) (by walk_at "loc") (fun L => ?_)
    walk_at "ifF"
    walk_at "ifT"
    walk_at "ifF"
    exact Ex.nil
  · show Calls _ _ _ _ _ [memOp none (idxR ix) sc wo sz sg nm] _
    refine Calls.def (fa := 476) (ps := ["mem"]) (ds := [memOp none (idxR ix) sc wo sz sg nm]) (out := .ret .none) (by rfl) (by rfl) (by rfl) (by rfl) (by rfl) (by rfl) (by rfl) (by decide) (ball1 fun _ => rfl) (by walk_at "loc") (fun L => ?_)
    walk_at "ifT"
    exact Ex.stop Ex1.ret0
theorem scl_in {ix sc : Int} (h0 : 0 ≤ sc) (h1 : sc ≤ 3) : scl ix sc = 1 ∨ scl ix sc = 2 ∨ scl ix sc = 4 ∨ scl ix sc = 8 := by
  unfold scl; split
  · exact .inl rfl
  · have : sc = 0 ∨ sc = 1 ∨ sc = 2 ∨ sc = 3 := by omega
    rcases this with rfl | rfl | rfl | rfl
    · exact .inl rfl
    · exact .inr (.inl rfl)
    · exact .inr (.inr (.inl rfl))
    · exact .inr (.inr (.inr rfl))
theorem s_chkindex {ix s wo sz : Int} {b : Option RV} {sg nm : Str} (hi : -1 ≤ ix ∧ ix ≤ 15 ∧ ix ≠ 4) (hs : s = 1 ∨ s = 2 ∨ s = 4 ∨ s = 8) (h1 : ix < 0 → s = 1) : Calls prog w (KK w) 2 (.ref 483) [memOp b (idxR ix) s wo sz sg nm] .none := by
  have e0 : ∃ x : Str, Str.ofString (toString s) = x ∧ sok x ∧ decide (x ∈ ([Str.ofString "1", Str.ofString "2", Str.ofString "4", Str.ofString "8"] : List Str)) = true := by
    rcases hs with rfl | rfl | rfl | rfl <;> exact ⟨_, rfl, sok_of _, by decide +kernel⟩
  have hl : s.natAbs.log2 < 1920 := by rcases hs with rfl | rfl | rfl | rfl <;> decide +kernel
  obtain ⟨x, hx, hxs, hxi⟩ := e0
  have st : Calls prog w (KK w) 0 (.type "str") [.int s] (.str x) := hx ▸ Calls.strI hl
  have hin : x ∈ ([Str.ofString "1", Str.ofString "2", Str.ofString "4", Str.ofString "8"] : List Str) := of_decide_eq_true hxi
  clear hxi hx
  by_cases hn : ix < 0
  · obtain rfl := h1 hn
    rw [show idxR ix = none by unfold idxR; rw [if_pos hn]]
    refine Calls.def (fa := 483) (ps := ["mem"]) (ds := [memOp b none 1 wo sz sg nm]) (out := .next (List.zip ["mem"] [memOp b none 1 wo sz sg nm]) none) (by rfl) (by rfl) (by rfl) (by rfl) (by rfl) (by rfl) (by rfl) (by decide) (ball1 fun _ => rfl) (by walk_at "loc") (fun L => ?_)
    (with_reducible refine' Ex.ifFE ?a1 ?a2 ?a3)
    case a1 => walk_at "evt"
    case a2 => simp only [hin, decide_true, Bool.not_true]
    simp only [List.nil_append]
    walk_at "ifT"
    walk_at "ifF"
    exact Ex.nil
  · rw [show idxR ix = some (wayRV "gpr" ix 64) by unfold idxR; rw [if_neg hn]]
    have hk : sok (wayRV "gpr" ix 64).kd := sok_of _
    refine Calls.def (fa := 483) (ps := ["mem"]) (ds := [memOp b (some (wayRV "gpr" ix 64)) s wo sz sg nm]) (out := .next (List.zip ["mem"] [memOp b (some (wayRV "gpr" ix 64)) s wo sz sg nm]) none) (by rfl) (by rfl) (by rfl) (by rfl) (by rfl) (by rfl) (by rfl) (by decide) (ball1 fun _ => rfl) (by walk_at "loc") (fun L => ?_)
    (with_reducible refine' Ex.ifFE ?b1 ?b2 ?b3)
    case b1 => walk_at "evt"
    case b2 => simp only [hin, decide_true, Bool.not_true]
    simp only [List.nil_append]
    walk_at "ifF"
    (with_reducible refine' Ex.ifFE ?c1 ?c2 ?c3)
    case c1 => walk_at "evt"
    case c2 =>
      rw [show (wayRV "gpr" ix 64).no = ix from rfl, decide_eq_false hi.2.2]
      rfl
    simp only [List.nil_append]
    exact Ex.nil
noncomputable def wordIn (x : Str) (ys : List Str) : Prop := decide (x ∈ ys) = true
theorem memsz_in {k : Int} (h0 : 0 ≤ k) (h1 : k ≤ 5) : (memSz k).natAbs.log2 < 1920 ∧ sok (Str.ofString (toString (memSz k))) ∧ Str.ofString (toString (memSz k)) ∈ ([Str.ofString "0", Str.ofString "8", Str.ofString "16", Str.ofString "32", Str.ofString "64", Str.ofString "128"] : List Str) := by
  have : k = 0 ∨ k = 1 ∨ k = 2 ∨ k = 3 ∨ k = 4 ∨ k = 5 := by omega
  rcases this with rfl | rfl | rfl | rfl | rfl | rfl <;> exact ⟨by decide +kernel, sok_of _, of_decide_eq_true (by decide +kernel)⟩
theorem seg_cases {k : Int} (h0 : 0 ≤ k) (h1 : k ≤ 2) : segNm k = "" ∨ segNm k = "fs" ∨ segNm k = "gs" := by
  have : k = 0 ∨ k = 1 ∨ k = 2 := by omega
  rcases this with rfl | rfl | rfl
  · exact .inl rfl
  · exact .inr (.inl rfl)
  · exact .inr (.inr rfl)
theorem s_chkmem {ba : Str} {n ix sc wo sz sg : Int} {nm : Str} (h : (Part.mem ba n ix sc wo sz sg nm).ok) : Calls prog w (KK w) 3 (.ref 490) [(Part.mem ba n ix sc wo sz sg nm).op] ((Part.mem ba n ix sc wo sz sg nm).op) := by
  obtain ⟨hb, h0, h1, hi, hr, ⟨c0, c1⟩, ⟨w0, w1⟩, ⟨z0, z1⟩, ⟨g0, g1⟩, hn⟩ := h
  obtain ⟨m1, m2, m3⟩ := memsz_in z0 z1
  have hs := scl_in (ix := ix) c0 c1
  have hs1 : ix < 0 → scl ix sc = 1 := fun h => by unfold scl; rw [if_pos h]
  have b1 : Calls prog w (KK w) 2 (.ref 476) [memOp (baseR ba n) (idxR ix) (scl ix sc) wo (memSz sz) (segNm sg) nm] .none := s_chkbase hb hr
  have b2 : Calls prog w (KK w) 2 (.ref 483) [memOp (baseR ba n) (idxR ix) (scl ix sc) wo (memSz sz) (segNm sg) nm] .none := s_chkindex hi hs hs1
  have sg3 := seg_cases g0 g1
  have sgk := seg_ok sg
  simp only [Part.op]
  clear hs hs1
  generalize memSz sz = z at *
  generalize segNm sg = g at *
  generalize scl ix sc = s at *
  have st : Calls prog w (KK w) 0 (.type "str") [.int z] (.str (Str.ofString (toString z))) := Calls.strI m1
  generalize Str.ofString (toString z) = x at *
  refine Calls.def (fa := 490) (ps := ["mem"]) (ds := [memOp (baseR ba n) (idxR ix) s wo z g nm]) (out := .ret (memOp (baseR ba n) (idxR ix) s wo z g nm)) (by rfl) (by rfl) (by rfl) (by rfl) (by rfl) (by rfl) (by rfl) (by decide) (ball1 fun _ => rfl) (by walk_at "loc") (fun L => ?_)
  walk_at "expr"
  walk_at "expr"
  (with_reducible refine' Ex.ifFE ?a1 ?a2 ?a3)
  case a1 => walk_at "evt"
  case a2 =>
    rw [decide_eq_true (show -2147483648 ≤ wo by omega), decide_eq_true (show wo < 2147483648 by omega)]; rfl
  simp only [List.nil_append]
  (with_reducible refine' Ex.ifFE ?b1 ?b2 ?b3)
  case b1 => walk_at "evt"
  case b2 => simp only [m3, decide_true, Bool.not_true]
  simp only [List.nil_append]
  (with_reducible refine' Ex.ifFE ?c1 ?c2 ?c3)
  case c1 => walk_at "evt"
  case c2 => clear b1 b2; rcases sg3 with rfl | rfl | rfl <;> decide +kernel
  simp only [List.nil_append]
  walk_at "ex"
noncomputable def pfOk (pf : Str) : Prop := pf = "" ∨ pf = "lock" ∨ pf = "rep" ∨ pf = "repne"
noncomputable def pfBad (pf : Str) : Prop := pf = "repe" ∨ pf = "REP"
noncomputable def stepM (s : Int) (p : Part) : Int := if p.isMem then s + 1 else s
theorem foldM : ∀ (ps : List Part) (s : Int), ps.foldl stepM s = s + (ps.countP Part.isMem : Int)
  | [], s => by simp
  | p :: ps, s => by
    rw [List.foldl_cons, foldM ps, List.countP_cons]
    unfold stepM
    cases p.isMem <;> simp <;> omega
theorem chk_loop {pf nm : Str} {ps : List Part} (hok : ∀ p ∈ ps, p.ok) {L : Addr} {fa : Addr} {fd : FuncData} {body : List Stmt}
    (hb : ∀ p ∈ ps, ∀ s : Int, ∃ Γ', Ex prog w (KK w) 4 (callEnvC fd L fa) (("operand", p.op) :: [("many", .int s), ("instruction", insV nm ps pf)]) none body (.next Γ' none) ∧ ∀ y d, (([("many", .int (stepM s p)), ("instruction", insV nm ps pf)] : Lc)).lookup y = some d → Γ'.lookup y = some d) :
    FL prog w (KK w) 4 (callEnvC fd L fa) "operand" body [("many", .int 0), ("instruction", insV nm ps pf)] none (ps.map Part.op) (.next [("many", .int (ps.countP Part.isMem : Int)), ("instruction", insV nm ps pf)] none) := by
  have := FL.fold (prog := prog) (w := w) (K := KK w) (n := 4) (env := callEnvC fd L fa) (g := Part.op) (x := "operand") (body := body) (σ := Int) (Γc := fun s => [("many", .int s), ("instruction", insV nm ps pf)]) (Oc := fun _ => none) (step := stepM) (fun _ => True) (by intro s y o h; cases h) ps 0 trivial (fun p hp s _ => ⟨trivial, hb p hp s⟩)
  rwa [foldM, Int.zero_add] at this
theorem s_chkinstr {pf nm : Str} {ps : List Part} (hp : pfOk pf) (hok : ∀ p ∈ ps, p.ok) (hc1 : ps.countP Part.isMem ≤ 1) : Calls prog w (KK w) 5 (.ref 574) [insV nm ps pf] (insV nm ps pf) := by
  refine Calls.def (fa := 574) (ps := ["instruction"]) (ds := [insV nm ps pf]) (out := .ret (insV nm ps pf)) (by rfl) (by rfl) (by rfl) (by rfl) (by rfl) (by rfl) (by rfl) (by decide) (ball1 fun _ => rfl) (by walk_at "loc") (fun L => ?_)
  have hps : sok pf := by rcases hp with rfl | rfl | rfl | rfl <;> exact sok_of _
  (with_reducible refine' Ex.ifFE ?a1 ?a2 ?a3)
  case a1 => walk_at "evt"
  case a2 => rcases hp with rfl | rfl | rfl | rfl <;> decide +kernel
  simp only [List.nil_append]
  walk_at "asg"
  refine Ex.next (Ex1.for (EvIt.tup (by walk_at "ev")) ⟨by rfl, by decide +kernel⟩ (chk_loop hok (fun p hp s => ?_))) ?_
  · cases hm : p.isMem with
    | true =>
      cases p with
      | mem ba n ix sc wo sz sg nm' =>
        have hc := s_chkmem (prog := prog) (w := w) (hok _ hp)
        generalize hq : Part.mem ba n ix sc wo sz sg nm' = p at *
        have hpk : p.kind = "mem" := by rw [← hq]; rfl
        refine ⟨_, Ex.ifT (EvTO.ev (EvT.to (by walk_at "evt") (by rw [hpk]; rfl))) (Ex.exprE (Ev.cg (by rfl) (by rfl) (by walk_at "evl") hc (by decide) (he := star_plain rfl)) (Ex.next (Ex1.asg (EvO.ev (by walk_at "ev")) (by rfl)) Ex.nil) (by rfl) (by rfl)), ?_⟩
        rw [show stepM s p = s + 1 by unfold stepM; rw [hm]; rfl]
        intro y d h
        simp only [List.lookup_cons, List.lookup_nil] at h ⊢
        split at h
        · exact h
        · split at h
          · rename_i q; have := eq_of_beq q; subst this; exact h
          · cases h
      | reg => cases hm
      | imm => cases hm
      | rel => cases hm
    | false =>
      refine ⟨_, Ex.ifF (EvTO.ev (EvT.to (by walk_at "evt") (by have := memP p; rw [hm] at this; exact this.symm))) Ex.nil, ?_⟩
      rw [show stepM s p = s by unfold stepM; rw [hm]; rfl]
      exact drop_x (by rfl)
  · walk_at "ifF"
    walk_at "ex"
theorem s_chkinstrM {pf nm : Str} {ps : List Part} (hp : pfOk pf) (hok : ∀ p ∈ ps, p.ok) (hc1 : 1 < ps.countP Part.isMem) : CallsR prog w 5 (.ref 574) [insV nm ps pf] := by
  refine CallsR.def (fa := 574) (ps := ["instruction"]) (ds := [insV nm ps pf]) (by rfl) (by rfl) (by rfl) (by rfl) (by rfl) (by rfl) (by rfl) (by decide) (ball1 fun _ => rfl) (by walk_at "loc") (fun L => ?_)
  have hps : sok pf := by rcases hp with rfl | rfl | rfl | rfl <;> exact sok_of _
  (with_reducible refine' ExR.ifF ?a1 ?a2 ?a0 ?a3)
  case a1 => walk_at "evt"
  case a2 => rcases hp with rfl | rfl | rfl | rfl <;> decide +kernel
  case a0 => rfl
  refine ExR.next (Ex1.asg (EvO.ev (by walk_at "ev")) (by rfl)) ?_
  refine ExR.next (Ex1.for (EvIt.tup (by walk_at "ev")) ⟨by rfl, by decide +kernel⟩ (chk_loop hok (fun p hp s => ?_))) ?_
  · cases hm : p.isMem with
    | true =>
      cases p with
      | mem ba n ix sc wo sz sg nm' =>
        have hc := s_chkmem (prog := prog) (w := w) (hok _ hp)
        generalize hq : Part.mem ba n ix sc wo sz sg nm' = p at *
        have hpk : p.kind = "mem" := by rw [← hq]; rfl
        refine ⟨_, Ex.ifT (EvTO.ev (EvT.to (by walk_at "evt") (by rw [hpk]; rfl))) (Ex.exprE (Ev.cg (by rfl) (by rfl) (by walk_at "evl") hc (by decide) (he := star_plain rfl)) (Ex.next (Ex1.asg (EvO.ev (by walk_at "ev")) (by rfl)) Ex.nil) (by rfl) (by rfl)), ?_⟩
        rw [show stepM s p = s + 1 by unfold stepM; rw [hm]; rfl]
        intro y d h
        simp only [List.lookup_cons, List.lookup_nil] at h ⊢
        split at h
        · exact h
        · split at h
          · rename_i q; have := eq_of_beq q; subst this; exact h
          · cases h
      | reg => cases hm
      | imm => cases hm
      | rel => cases hm
    | false =>
      refine ⟨_, Ex.ifF (EvTO.ev (EvT.to (by walk_at "evt") (by have := memP p; rw [hm] at this; exact this.symm))) Ex.nil, ?_⟩
      rw [show stepM s p = s by unfold stepM; rw [hm]; rfl]
      exact drop_x (by rfl)
  · walk_at "rifT"
    walk_at "rraise"
theorem s_chkinstrP {pf nm : Str} {ps : List Part} (hp : pfBad pf) : CallsR prog w 5 (.ref 574) [insV nm ps pf] := by
  refine CallsR.def (fa := 574) (ps := ["instruction"]) (ds := [insV nm ps pf]) (by rfl) (by rfl) (by rfl) (by rfl) (by rfl) (by rfl) (by rfl) (by decide) (ball1 fun _ => rfl) (by walk_at "loc") (fun L => ?_)
  have hps : sok pf := by rcases hp with rfl | rfl <;> exact sok_of _
  (with_reducible refine' ExR.ifT ?a1 ?a2 ?a3)
  case a1 => walk_at "evt"
  case a2 => rcases hp with rfl | rfl <;> decide +kernel
  walk_at "rraise"
noncomputable abbrev oddMem : V := memOp none none 2 0 0 (Str.ofString "") (Str.ofString "")
theorem s_chkindexR : CallsR prog w 3 (.ref 483) [oddMem] := by
  refine CallsR.def (fa := 483) (ps := ["mem"]) (ds := [oddMem]) (by rfl) (by rfl) (by rfl) (by rfl) (by rfl) (by rfl) (by rfl) (by decide) (ball1 fun _ => rfl) (by walk_at "loc") (fun L => ?_)
  have st : Calls prog w (KK w) 0 (.type "str") [.int 2] (.str (Str.ofString "2")) := Calls.strI (by decide)
  walk_at "rifF"
  walk_at "rifT"
  walk_at "rifT"
  walk_at "rraise"
theorem s_chkmemR : CallsR prog w 4 (.ref 490) [oddMem] := by
  have b1 : Calls prog w (KK w) 2 (.ref 476) [oddMem] .none := by
    refine Calls.def (fa := 476) (ps := ["mem"]) (ds := [oddMem]) (out := .ret .none) (by rfl) (by rfl) (by rfl) (by rfl) (by rfl) (by rfl) (by rfl) (by decide) (ball1 fun _ => rfl) (by walk_at "loc") (fun L => ?_)
    walk_at "ifT"
    exact Ex.stop Ex1.ret0
  refine CallsR.def (fa := 490) (ps := ["mem"]) (ds := [oddMem]) (by rfl) (by rfl) (by rfl) (by rfl) (by rfl) (by rfl) (by rfl) (by decide) (ball1 fun _ => rfl) (by walk_at "loc") (fun L => ?_)
  refine ExR.next (Ex1.expr (EvO.ev (by walk_at "ev")) (by rfl) (by rfl)) ?_
  exact ExR.stop (Ex1R.expr (EvR.call (Ev.gl (by rfl) (by rfl)) (kp_of (x := "check_index") (by rfl)) (EvL.cons (Ev.name (by rfl)) EvL.nil (by rfl)) s_chkindexR (by decide) (by rfl) (by rfl)) (by rfl) (by rfl))
noncomputable abbrev oddIns : V := .inst 458 [("name", .str "any"), ("operands", .tup [oddMem]), ("prefix", .str "")]
theorem s_chkinstrO : CallsR prog w 5 (.ref 574) [oddIns] := by
  refine CallsR.def (fa := 574) (ps := ["instruction"]) (ds := [oddIns]) (by rfl) (by rfl) (by rfl) (by rfl) (by rfl) (by rfl) (by rfl) (by decide) (ball1 fun _ => rfl) (by walk_at "loc") (fun L => ?_)
  walk_at "rifF"
  refine ExR.next (Ex1.asg (EvO.ev (by walk_at "ev")) (by rfl)) ?_
  refine ExR.stop (Ex1R.for1 (EvIt.tup (by walk_at "ev")) ⟨by rfl, by decide +kernel⟩ (by intro y o h; cases h) ?_)
  walk_at "rifT"
  exact ExR.stop (Ex1R.expr (EvR.call (Ev.gl (by rfl) (by rfl)) (kp_of (x := "check_mem") (by rfl)) (EvL.cons (Ev.name (by rfl)) EvL.nil (by rfl)) s_chkmemR (by decide) (by rfl) (by rfl)) (by rfl) (by rfl))
noncomputable def refB (pf : Str) (ps : List Part) : Bool := decide (pf ∈ ([Str.ofString "repe", Str.ofString "REP"] : List Str)) || decide (1 < (ps.countP Part.isMem : Int))
theorem s_refused {pf nm : Str} {ps : List Part} (hp : pfOk pf ∨ pfBad pf) (hok : ∀ p ∈ ps, p.ok) : Calls prog w (KK w) 6 (.ref 746) [insV nm ps pf] (.bool (refB pf ps)) := by
  rcases hp with hp | hp
  · have e : decide (pf ∈ ([Str.ofString "repe", Str.ofString "REP"] : List Str)) = false := by rcases hp with rfl | rfl | rfl | rfl <;> decide +kernel
    by_cases hc : 1 < ps.countP Part.isMem
    · rw [show refB pf ps = true by unfold refB; rw [e]; simp; omega]
      exact refused_yes (s_chkinstrM hp hok hc)
    · rw [show refB pf ps = false by unfold refB; rw [e]; simp; omega]
      exact refused_no (s_chkinstr hp hok (by omega))
  · have e : decide (pf ∈ ([Str.ofString "repe", Str.ofString "REP"] : List Str)) = true := by rcases hp with rfl | rfl <;> decide +kernel
    rw [show refB pf ps = true by unfold refB; rw [e]; rfl]
    exact refused_yes (s_chkinstrP hp)
theorem s_refusedO : Calls prog w (KK w) 6 (.ref 746) [oddIns] (.bool true) := refused_yes s_chkinstrO
theorem CompRuns.to {K : Frag} {n : Nat} {env : Env} {Γ : Lc} {e iter : PySem.Expr} {scope : Scope} {cl : List (Str × Addr)} {r r' : List V} (h : CompRuns prog w K n env Γ e iter scope cl r) (q : r = r') : CompRuns prog w K n env Γ e iter scope cl r' := q ▸ h
theorem memIx_eq : ∀ (ps : List Part) (i : Nat), memIx i ps = if Str.ofString "mem" ∈ ps.map Part.kind then some (i + (ps.map Part.kind).idxOf (Str.ofString "mem")) else none
  | [], i => by simp [memIx]
  | p :: ps, i => by
    unfold memIx
    rw [memP, List.map_cons]
    by_cases h : p.kind = Str.ofString "mem"
    · rw [decide_eq_true h, if_pos rfl, if_pos (by rw [h]; exact .head _), h]
      simp
    · have h' : ¬ Str.ofString "mem" = p.kind := fun q => h q.symm
      rw [decide_eq_false h, if_neg (by decide), memIx_eq ps (i + 1)]
      by_cases hm : Str.ofString "mem" ∈ ps.map Part.kind
      · rw [if_pos hm, if_pos (.tail _ hm), List.idxOf_cons, show (p.kind == Str.ofString "mem") = false from beq_eq_false_iff_ne.mpr h]
        simp only [cond_false]; congr 1; omega
      · rw [if_neg hm, if_neg]
        intro q
        rcases List.mem_cons.mp q with q | q
        · exact h' q
        · exact hm q
theorem memAt_yes {ps : List Part} (h : Str.ofString "mem" ∈ ps.map Part.kind) : memAt ps = ((ps.map Part.kind).idxOf (Str.ofString "mem") : Int) := by
  unfold memAt; rw [memIx_eq, if_pos h]; simp
theorem memAt_no {ps : List Part} (h : ¬ Str.ofString "mem" ∈ ps.map Part.kind) : memAt ps = -1 := by
  unfold memAt; rw [memIx_eq, if_neg h]
theorem memV_yes {ps : List Part} (h : Str.ofString "mem" ∈ ps.map Part.kind) : ∃ p, ps[(ps.map Part.kind).idxOf (Str.ofString "mem")]? = some p ∧ memV ps = p.op ∧ p ∈ ps := by
  have e : memIx 0 ps = some ((ps.map Part.kind).idxOf (Str.ofString "mem")) := by rw [memIx_eq, if_pos h, Nat.zero_add]
  obtain ⟨_, p, hp, _⟩ := memIx_get ps 0 _ e
  rw [Nat.sub_zero] at hp
  exact ⟨p, hp, by unfold memV; rw [e]; simp only [hp], List.mem_of_getElem? hp⟩
theorem memV_no {ps : List Part} (h : ¬ Str.ofString "mem" ∈ ps.map Part.kind) : memV ps = .none := by
  unfold memV; rw [memIx_eq, if_neg h]
theorem seqIx {j n : Nat} (h : j < n) : seqIndex? (j : Int) n = some j := by
  unfold seqIndex?
  simp only [Int.toNat_natCast]
  split <;> rename_i q <;> first | rfl | omega | (simp at q; omega) | skip
  all_goals first | (simp; omega) | skip
theorem count_mem (ps : List Part) : Spec.countIn (.str (Str.ofString "mem")) ((ps.map Part.kind).map PyData.str) = (ps.countP Part.isMem : Int) := by
  rw [countIn_eq, List.countP_map]
  congr 1
  refine List.countP_congr fun p _ => ?_
  simp only [Function.comp, memP]
theorem namesOf_eq (ps : List Part) : namesOf ps = firsts (ps.foldl (fun s p => stepQ s (p.regs.map RV.nm)) []) := by
  rw [firsts_fold]
  show ps.foldl stepP [] = ps.foldl _ []
  congr 1
  funext s p
  rw [List.foldl_map]
  unfold stepP
  congr 1
  funext s r
  unfold stepR stepS
  by_cases h : r.nm ∈ s <;> simp [h]
noncomputable def Part.isReg (p : Part) : Bool := decide (p.kind = Str.ofString "reg")
noncomputable def Part.way : Part → Str
  | .reg way _ _ => way
  | _ => ""
theorem high_eq {ps : List Part} (hok : ∀ p ∈ ps, p.ok) : ps.any (Part.isRegOf "high" 0) = decide (Str.ofString "high" ∈ (ps.filter Part.isReg).map Part.way) := by
  rw [Bool.eq_iff_iff, List.any_eq_true, decide_eq_true_iff, List.mem_map]
  constructor
  · rintro ⟨p, hp, h⟩
    cases p with
    | reg way n z =>
      refine ⟨_, List.mem_filter.mpr ⟨hp, rfl⟩, ?_⟩
      rcases (hok _ hp).1 with rfl | rfl | rfl | rfl
      · exact absurd h (by rw [show Part.isRegOf "high" 0 (.reg "gpr" n z) = false by rfl]; decide)
      · exact absurd h (by rw [show Part.isRegOf "high" 0 (.reg "xmm" n z) = false by rfl]; decide)
      · rfl
      · exact absurd h (by rw [show Part.isRegOf "high" 0 (.reg "segment" n z) = false by rfl]; decide)
    | imm => cases h
    | rel => cases h
    | mem => cases h
  · rintro ⟨p, hp, h⟩
    obtain ⟨hp, hr⟩ := List.mem_filter.mp hp
    refine ⟨p, hp, ?_⟩
    cases p with
    | reg way n z => cases h; rfl
    | imm => cases hr
    | rel => cases hr
    | mem => cases hr
theorem toldSz_eq : ∀ ps : List Part, toldSz ps = match (ps.filter Part.isReg) with
    | [] => 0
    | p :: _ => p.size
  | [] => rfl
  | p :: ps => by
    have ih := toldSz_eq ps
    cases p with
    | reg way n z => rfl
    | imm => exact ih
    | rel => exact ih
    | mem => exact ih
noncomputable def Part.symS (ps : List Part) : List Str := (ps.filter fun p : Part => !decide (p.sym = Str.ofString "")).map Part.sym
theorem symsV_eq (ps : List Part) : symsV ps = (Part.symS ps).map V.str := by unfold symsV Part.symS; rw [List.map_map]; rfl
theorem symS_ok {ps : List Part} (hok : ∀ p ∈ ps, p.ok) : ∀ y ∈ Part.symS ps, sok y := by
  intro y hy
  obtain ⟨p, hp, rfl⟩ := List.mem_map.mp hy
  exact sym_ok (hok p (List.mem_filter.mp hp).1)
theorem okL_tolds : ∀ {ps : List Part}, (∀ p ∈ ps, p.ok) → V.okL (ps.map fun p => V.tup p.told) = true ∧ V.depL (ps.map fun p => V.tup p.told) ≤ 2
  | [], _ => ⟨rfl, Nat.le_of_ble_eq_true rfl⟩
  | p :: ps, h => by
    obtain ⟨h1, h2⟩ := okL_tolds fun q hq => h q (.tail _ hq)
    have hp := told_cmp (h p (.head _))
    simp only [V.cmpb, Bool.and_eq_true] at hp
    have hd : (V.tup p.told).dep ≤ 2 := by cases p <;> exact Nat.le_of_ble_eq_true rfl
    exact ⟨by simp only [List.map_cons, V.okL, hp.1, h1, Bool.and_self], by simp only [List.map_cons, V.depL]; omega⟩
theorem toldI_cmp {nm pf : Str} {ps : List Part} (hn : sok nm) (hp : sok pf) (hok : ∀ p ∈ ps, p.ok) : (toldI nm ps pf).cmpb = true := by
  obtain ⟨h1, h2⟩ := okL_tolds hok
  have hn' : PyData.strOk nm = true := hn
  have hp' : PyData.strOk pf = true := hp
  simp only [toldI, V.cmpb, V.okD, V.okL, V.dep, V.depL, h1, hn', hp', Bool.and_self, Bool.true_and, decide_eq_true_eq]
  omega
theorem okL_vs : ∀ {ps : List Part}, (∀ p ∈ ps, p.ok) → V.okL (ps.map Part.v) = true ∧ V.depL (ps.map Part.v) ≤ 2
  | [], _ => ⟨rfl, Nat.le_of_ble_eq_true rfl⟩
  | p :: ps, h => by
    obtain ⟨h1, h2⟩ := okL_vs fun q hq => h q (.tail _ hq)
    have hp : p.v.okD = true := by
      have ho := h p (.head _)
      cases p with
      | reg way n z =>
        have : PyData.strOk way = true := by rcases ho.1 with rfl | rfl | rfl | rfl <;> exact sok_of _
        simp only [Part.v, V.okD, V.okL, this, Bool.and_true, Bool.true_and]; exact sok_of _
      | imm wo nm => have : PyData.strOk nm = true := word_ok ho.2.2
                     simp only [Part.v, V.okD, V.okL, this, Bool.and_true]; exact sok_of _
      | rel wo nm => have : PyData.strOk nm = true := word_ok ho.2.2
                     simp only [Part.v, V.okD, V.okL, this, Bool.and_true]; exact sok_of _
      | mem ba n ix sc wo sz sg nm =>
        have h1 : PyData.strOk nm = true := word_ok ho.2.2.2.2.2.2.2.2.2
        have h2 : PyData.strOk ba = true := by rcases ho.1 with rfl | rfl | rfl <;> exact sok_of _
        simp only [Part.v, V.okD, V.okL, h1, h2, Bool.and_true, Bool.true_and]; exact sok_of _
    have hd : p.v.dep ≤ 2 := by cases p <;> exact Nat.le_of_ble_eq_true rfl
    exact ⟨by simp only [List.map_cons, V.okL, hp, h1, Bool.and_self], by simp only [List.map_cons, V.depL]; omega⟩
theorem vs_cmp {ps : List Part} (hok : ∀ p ∈ ps, p.ok) : (V.lst (ps.map Part.v)).cmpb = true := by
  obtain ⟨h1, h2⟩ := okL_vs hok
  have h3 : V.dep (V.lst (ps.map Part.v)) ≤ 64 := by show V.depL _ + 1 ≤ 64; omega
  rw [V.cmpb, decide_eq_true h3, V.okD, h1]; rfl
/-- one part replaced: the two comparisons agree -/
theorem told_sym (p : Part) (hp : p.ok) : (V.tup p.told).eqb (.tup (Part.imm 78 "").told) = (V.tup (Part.imm 78 "").told).eqb (.tup p.told) := by
  have h1 := told_cmp hp
  have h2 : (V.tup (Part.imm 78 "").told).cmpb = true := told_cmp ⟨by decide, by decide, .inl rfl⟩
  simp only [V.cmpb, Bool.and_eq_true, V.okD] at h1 h2
  rw [eqb_tup h1.1 h2.1, eqb_tup h2.1 h1.1]
  have c1 : ∀ x y : Str, decide (x = y) = decide (y = x) := fun x y => by by_cases h : x = y <;> simp [h, eq_comm]
  have c2 : ∀ x y : Int, decide (x = y) = decide (y = x) := fun x y => by by_cases h : x = y <;> simp [h, eq_comm]
  cases p with
  | reg => simp only [Part.told, V.eqbL, Bool.and_false]
  | imm wo nm => simp only [Part.told, V.eqbL, eqb_str, eqb_int]; rw [c1 nm, c2 wo]
  | rel wo nm => simp only [Part.told, V.eqbL, eqb_str, eqb_int]; rw [c1 nm, c2 wo, c1 "rel"]
  | mem => simp only [Part.told, V.eqbL, Bool.and_false]
theorem same_agree {pf : Str} {ps : List Part} {k : Nat} {p : Part} (hp : sok pf) (hok : ∀ p ∈ ps, p.ok) (hk : ps[k]? = some p) :
    (toldI "any" ps pf).eqb (toldI "any" (ps.set k (.imm 78 "")) pf) = (V.lst ((ps.map fun p => V.tup p.told).set k (.tup (Part.imm 78 "").told))).eqb (.lst (ps.map fun p => V.tup p.told)) := by
  have hok' : ∀ q ∈ ps.set k (.imm 78 ""), q.ok := fun q hq => (List.mem_or_eq_of_mem_set hq).elim (hok q) fun e => by rw [e]; exact ⟨by decide, by decide, .inl rfl⟩
  obtain ⟨o1, _⟩ := okL_tolds hok
  obtain ⟨o2, _⟩ := okL_tolds hok'
  have hp' : PyData.strOk pf = true := hp
  have hn' : PyData.strOk (Str.ofString "any") = true := sok_of _
  have e : (ps.set k (.imm 78 "")).map (fun p => V.tup p.told) = (ps.map fun p => V.tup p.told).set k (.tup (Part.imm 78 "").told) := by rw [List.map_set]
  have hk' : (ps.map fun p => V.tup p.told)[k]? = some (.tup p.told) := by rw [List.getElem?_map, hk]; rfl
  obtain ⟨s1, s2⟩ := eqbL_set (e := V.tup (Part.imm 78 "").told) o1 hk'
  unfold toldI
  rw [eqb_tup (by simp only [V.okL, V.okD, o1, hp', Bool.and_true]; exact sok_of _) (by simp only [V.okL, V.okD, o2, hp', Bool.and_true]; exact sok_of _)]
  simp only [V.eqbL, eqb_str, decide_true, Bool.true_and, Bool.and_true]
  rw [eqb_tup o1 o2, eqb_lst (by rw [← e]; exact o2) o1, e, s1, s2]
  exact told_sym p (hok p (List.mem_of_getElem? hk))
theorem s_sameI {n1 n2 p1 p2 : Str} {a b : List Part} (h1 : sok n1) (h2 : sok n2) (h3 : sok p1) (h4 : sok p2) (ha : ∀ p ∈ a, p.ok) (hb : ∀ p ∈ b, p.ok) (za : a.length ≤ 500) (zb : b.length ≤ 500) : Calls prog w (KK w) 3 (.ref 525) [insV n1 a p1, insV n2 b p2] (.bool ((toldI n1 a p1).eqb (toldI n2 b p2))) := by
  refine Calls.def (fa := 525) (ps := ["one", "other"]) (ds := [insV n1 a p1, insV n2 b p2]) (out := .ret (.bool ((toldI n1 a p1).eqb (toldI n2 b p2)))) (by rfl) (by rfl) (by rfl) (by rfl) (by rfl) (by rfl) (by rfl) (by decide) (ball2 fun _ _ => rfl) (by walk_at "loc") (fun L => ?_)
  exact Ex.stop (Ex1.ret (EvO.ev (Ev.cmp (by walk_at "ev") (by walk_at "ev") (Op2.eqV (toldI_cmp h1 h3 ha) (toldI_cmp h2 h4 hb)) (by rfl))))
theorem pf_e (k : Int) : ∃ pf, ([V.str "", .str "lock", .str "rep", .str "repne", .str "repe", .str "REP"] : List V)[(k.fmod 6).toNat]? = some (.str pf) ∧ (pfOk pf ∨ pfBad pf) := by
  have := modK (a := k) (show (0:Int) < 6 by decide)
  have : k.fmod 6 = 0 ∨ k.fmod 6 = 1 ∨ k.fmod 6 = 2 ∨ k.fmod 6 = 3 ∨ k.fmod 6 = 4 ∨ k.fmod 6 = 5 := by omega
  rcases this with h | h | h | h | h | h <;> rw [h]
  · exact ⟨"", rfl, .inl (.inl rfl)⟩
  · exact ⟨"lock", rfl, .inl (.inr (.inl rfl))⟩
  · exact ⟨"rep", rfl, .inl (.inr (.inr (.inl rfl)))⟩
  · exact ⟨"repne", rfl, .inl (.inr (.inr (.inr rfl)))⟩
  · exact ⟨"repe", rfl, .inr (.inl rfl)⟩
  · exact ⟨"REP", rfl, .inr (.inr rfl)⟩
theorem pf_sok {pf : Str} (h : pfOk pf ∨ pfBad pf) : sok pf := by rcases h with (rfl | rfl | rfl | rfl) | rfl | rfl <;> exact sok_of _
section
variable {K : Frag} {n : Nat} {env : Env} {Γ R : Lc} {out : Out}
theorem FreeOk.one {scope : Scope} {cl : List (Str × Addr)} {x : String} {d : V} (h1 : Γ.lookup x = some d) (h2 : env.kindOf (Str.ofString x) = some .cell) (h3 : (relabel scope env).names.lookup (Str.ofString x) = some .cell) (h4 : cl.lookup (Str.ofString x) = env.cells.lookup (Str.ofString x)) : FreeOk scope cl env Γ [(x, d)] := ⟨fun y e h => by
  rw [List.lookup_cons] at h
  cases q : y == x with
  | true => rw [q] at h; cases h; rw [eq_of_beq q]; exact ⟨h1, h2, h3, h4⟩
  | false => rw [q] at h; cases h⟩
theorem Ex.joinN {x : String} {d d' : V} {st : Stmt} {ss : List Stmt} (h : ∃ Γ1, Ex1 prog w K n env ((x, d) :: R) none st (.next Γ1 none) ∧ ∀ y e, ((x, d') :: R : Lc).lookup y = some e → Γ1.lookup y = some e) (hs : Ex prog w K n env ((x, d') :: R) none ss out) : Ex prog w K n env ((x, d) :: R) none (st :: ss) out := by
  obtain ⟨Γ1, h1, h2⟩ := h
  exact Ex.next (Ex1.weak h1 h2) hs
theorem dup_x {x : String} {d d' : V} : ∀ y e, ((x, d') :: R : Lc).lookup y = some e → ((x, d') :: (x, d) :: R : Lc).lookup y = some e := fun y e h => by
  rw [List.lookup_cons] at h ⊢
  cases q : y == x with
  | true => rw [q] at h; exact h
  | false => rw [q] at h; dsimp only at h ⊢; rw [List.lookup_cons, q]; exact h
theorem FL.foldN {α : Type} {g : α → V} {x nm : String} {body : List Stmt} {step : List Str → α → List Str} (inv : Nat → List Str → Prop) {N : Nat} (hx : R.lookup x = none) (hxn : x ≠ nm) (as : List α) (hN : as.length ≤ N) (h0 : inv 0 [])
    (h : ∀ a ∈ as, ∀ j s, j < N → inv j s → inv (j + 1) (step s a) ∧ Ex prog w K n env ((x, g a) :: (nm, .lst (s.map V.str)) :: R) none body (.next ((nm, .lst ((step s a).map V.str)) :: (x, g a) :: (nm, .lst (s.map V.str)) :: R) none)) :
    FL prog w K n env x body ((nm, .lst []) :: R) none (as.map g) (.next ((nm, .lst ((as.foldl step []).map V.str)) :: R) none) :=
  FL.foldI (σ := List Str) (N := N) (Γc := fun s => (nm, .lst (s.map V.str)) :: R) (Oc := fun _ => none) (step := step) inv (by intro s y o h; cases h) as 0 [] (by omega) h0 (fun a ha j s hj hs => by
    obtain ⟨h1, h2⟩ := h a ha j s hj hs
    refine ⟨h1, _, h2, fun y e q => ?_⟩
    rw [List.lookup_cons] at q ⊢
    cases z : y == nm with
    | true => rw [z] at q; exact q
    | false =>
      rw [z] at q; dsimp only at q ⊢
      have zx : (y == x) = false := by
        cases t : y == x with
        | true => rw [eq_of_beq t, hx] at q; cases q
        | false => rfl
      rw [List.lookup_cons, zx, List.lookup_cons, z]; exact q)
end
theorem noLst_op (p : Part) : noLst p.op = true := by
  cases p with
  | mem ba n ix sc wo sz sg nm =>
    have h : ∀ o : Option RV, noLst (optV o) = true := fun o => by cases o <;> rfl
    simp only [Part.op, noLst, noLstF, h, Bool.and_self]
  | _ => rfl
theorem noLst_ops : ∀ ps : List Part, noLsts (ps.map Part.op) = true
  | [] => rfl
  | p :: ps => by simp only [List.map_cons, noLsts, noLst_op, noLst_ops ps, Bool.and_self]
theorem regsnm_len (p : Part) : (p.regs.map RV.nm).length ≤ 2 := by rw [List.length_map]; exact regs_len p
theorem stepQ_ok {t : List Str} {p : Part} (h : ∀ x ∈ t, sok x) : (stepQ t (p.regs.map RV.nm)).length ≤ t.length + 2 ∧ ∀ x ∈ stepQ t (p.regs.map RV.nm), sok x := by
  unfold stepQ
  refine ⟨?_, fun x hx => ?_⟩
  · rw [List.length_append]
    have h1 := List.length_filter_le (fun x => !decide (x ∈ t)) (p.regs.map RV.nm)
    have h2 := regsnm_len p
    omega
  · rcases List.mem_append.mp hx with hx | hx
    · exact h x hx
    · exact regsnm_ok (p := p) x (List.mem_filter.mp hx).1
theorem foldQ_ok : ∀ (ps : List Part) (t : List Str), (∀ x ∈ t, sok x) → (ps.foldl (fun s p => stepQ s (p.regs.map RV.nm)) t).length ≤ t.length + 2 * ps.length ∧ ∀ x ∈ ps.foldl (fun s p => stepQ s (p.regs.map RV.nm)) t, sok x
  | [], t, h => ⟨by simp, h⟩
  | p :: ps, t, h => by
    obtain ⟨a, b⟩ := stepQ_ok (p := p) h
    obtain ⟨c, d⟩ := foldQ_ok ps _ b
    exact ⟨by simp only [List.foldl_cons, List.length_cons]; omega, d⟩
theorem tolds_cmp {ps : List Part} (hok : ∀ p ∈ ps, p.ok) : (V.lst (ps.map fun p => V.tup p.told)).cmpb = true := by
  obtain ⟨h1, h2⟩ := okL_tolds hok
  have h3 : V.dep (V.lst (ps.map fun p => V.tup p.told)) ≤ 64 := by show V.depL _ + 1 ≤ 64; omega
  rw [V.cmpb, decide_eq_true h3, V.okD, h1]; rfl
theorem sizes_cmp : ∀ l : List Part, (V.lst (l.map fun p => V.int p.size)).cmpb = true := fun l => by
  have h : V.okL (l.map fun p => V.int p.size) = true ∧ V.depL (l.map fun p => V.int p.size) = 0 := by
    induction l with
    | nil => exact ⟨rfl, rfl⟩
    | cons p l ih => exact ⟨by simp only [List.map_cons, V.okL, V.okD, ih.1, Bool.and_self], by simp only [List.map_cons, V.depL, V.dep, ih.2, Nat.max_self]⟩
  rw [V.cmpb, V.okD, h.1, V.dep, h.2]; rfl
theorem ways_ok {ps : List Part} (hok : ∀ p ∈ ps, p.ok) : ∀ y ∈ (ps.filter Part.isReg).map Part.way, sok y := by
  intro y hy
  obtain ⟨p, hp, rfl⟩ := List.mem_map.mp hy
  obtain ⟨hp, hr⟩ := List.mem_filter.mp hp
  cases p with
  | reg way n z => rcases (hok _ hp).1 with rfl | rfl | rfl | rfl <;> exact sok_of _
  | imm => cases hr
  | rel => cases hr
  | mem => cases hr
theorem ix_mem {ps : List Part} (h : Str.ofString "mem" ∈ ps.map Part.kind) : (ps.map Part.kind).idxOf (Str.ofString "mem") < ps.length := by
  have := List.idxOf_lt_length_of_mem h; rwa [List.length_map] at this
theorem refL (c : Int) (n : Nat) (h : 0 < n) : ∃ k : Nat, c.fmod (n : Int) = (k : Int) ∧ k < n := by
  have h0 := Int.fmod_nonneg_of_pos c (show (0 : Int) < n by omega)
  have h1 := Int.fmod_lt_of_pos c (show (0 : Int) < n by omega)
  exact ⟨(c.fmod n).toNat, by omega, by omega⟩
theorem s_lineright {ns : List Int} {ps : List Part} (hz : ns.length ≤ 1000) (hok : ∀ p ∈ ps, p.ok) (hn : ps.length ≤ 3) : Calls prog w (KK w) 7 (.ref 751) [.scr ns, .lst (ps.map Part.v)] (.bool true) := by
  generalize hc26 : cell ns 26 = c26
  generalize hc25 : cell ns 25 = c25
  have s26 : Calls prog w (KK w) 1 (.ref 694) [.scr ns, .int 26] (.int c26) := hc26 ▸ s_cell hz (by omega) (by omega)
  have s25 : Calls prog w (KK w) 1 (.ref 694) [.scr ns, .int 25] (.int c25) := hc25 ▸ s_cell hz (by omega) (by omega)
  clear hc26 hc25
  obtain ⟨pf, e6, hpf⟩ := pf_e c26
  have i6 := (modK (a := c26) (show (0:Int) < 6 by decide)).1
  have j6 : c26.fmod 6 < 2 ^ 63 := by have := (modK (a := c26) (show (0:Int) < 6 by decide)).2; omega
  have hps := pf_sok hpf
  have hany : sok (Str.ofString "any") := sok_of _
  have hz1 : (ps.map Part.op).length ≤ 1000 := by rw [List.length_map]; omega
  have hz2 : (ps.map fun p => V.tup p.told).length ≤ 1000 := by rw [List.length_map]; omega
  have hz5 : ps.length ≤ 500 := by omega
  have hcI := toldI_cmp hany hps hok
  refine Calls.def (fa := 751) (ps := ["script", "plains"]) (ds := [.scr ns, .lst (ps.map Part.v)]) (out := .ret (.bool true)) (by rfl) (by rfl) (by rfl) (by rfl) (by rfl) (by rfl) (by rfl) (by decide) (ball2 fun _ _ => rfl) (by walk_at "loc") (fun L => ?_)
  walk_at "asg"
  refine Ex.next (Ex1.ownComp (y := "operands") (CompRuns.all (cl := []) (Γf := []) (as := ps) (g := Part.v) (f := Part.op) (by decide) rfl rfl (by decide +kernel) FreeOk.nil rfl (EvIt.lst (by walk_at "ev")) (by omega) (fun C d hd => ?_)) rfl (by walk_at "scok") ⟨by rfl, by decide +kernel⟩) ?_
  · have := hok d hd
    walk_at "ev"
  refine Ex.next (Ex1.asg (d := insV "any" ps pf) (EvO.thaw (Ev.to (by walk_at "ev") (by rfl)) (by simp only [noLst, noLstF, noLst_ops, Bool.and_self])) (by rfl) (by intro y o h; cases h; decide)) ?_
  refine Ex.next (Ex1.asg (d := .tup [.str "any", .str pf, .tup (ps.map fun p => .tup p.told)]) (EvO.ev (Ev.tup (EvL.cons (by walk_at "ev") (EvL.cons (by walk_at "ev") (EvL.cons (Ev.cb (by rfl) (by rfl) (by rfl) (EvL.cons (EvNew.comp (CompRuns.all (cl := []) (Γf := []) (as := ps) (g := Part.v) (f := fun p => .tup p.told) (by decide) rfl rfl (by decide +kernel) FreeOk.nil rfl (EvIt.lst (by walk_at "ev")) (by omega) (fun C d hd => ?_)) rfl (by walk_at "scok")).ev EvL.nil) (Calls.tupL hz2)) EvL.nil))) (by simp))) (by rfl) (by intro y o h; cases h; decide)) ?_
  · have := hok d hd
    walk_at "ev"
  refine Ex.next (Ex1.append (d := immOp 77 "") (EvO.ev (by walk_at "ev")) hz1) ?_
  refine Ex.freeze ?_
  refine Ex.next (Ex1.asgComp (y := "kinds") ((CompRuns.all (cl := []) (Γf := []) (as := ps) (g := Part.v) (f := fun p => .str p.kind) (by decide) rfl rfl (by decide +kernel) FreeOk.nil rfl (EvIt.lst (by walk_at "ev")) (by omega) (fun C d hd => by walk_at "ev")).to (show _ = (ps.map Part.kind).map V.str by rw [List.map_map]; rfl)) rfl (by walk_at "scok") ⟨by rfl, by decide +kernel⟩) ?_
  have hkn : ∀ y ∈ ps.map Part.kind, sok y := fun y hy => by
    obtain ⟨p, _, rfl⟩ := List.mem_map.mp hy
    exact kind_ok p
  have hkm : sok (Str.ofString "mem") := sok_of _
  have hkl : (ps.map Part.kind).length ≤ 1000 := by rw [List.length_map]; omega
  have hadd : (decide (memAt ps = (if Str.ofString "mem" ∈ ps.map Part.kind then ((ps.map Part.kind).idxOf (Str.ofString "mem") : Int) else -1))) = true := by
    by_cases hm : Str.ofString "mem" ∈ ps.map Part.kind
    · rw [if_pos hm, memAt_yes hm]; simp
    · rw [if_neg hm, memAt_no hm]; simp
  (with_reducible refine' Ex.ifFE ?a1 ?a2 ?a3)
  case a1 =>
    refine EvT.or_ (a := false) (EvT.cmp (d := toldI "any" ps pf) (e := .tup [.str "any", .str pf, .tup (ps.map fun p => .tup p.told)]) (by walk_at "ev") (by walk_at "ev") (Op2.neR (d := toldI "any" ps pf) hcI rfl) (by rfl)) (fun _ => EvT.or_ (a := false) ?_ (fun _ => EvT.or0))
    refine EvT.to (EvT.cmp (d := .int (memAt ps)) (e := .int (memAt ps)) (by walk_at "ev") ?_ Op2.neI (by rfl)) (by simp)
    by_cases hm : Str.ofString "mem" ∈ ps.map Part.kind
    · exact Ev.ifT (EvT.to (by walk_at "evt") (by simp only [hm, decide_true])) (Ev.to (by walk_at "ev") (by rw [memAt_yes hm]))
    · exact Ev.ifF (EvT.to (by walk_at "evt") (by simp only [hm, decide_false])) (Ev.to (by walk_at "ev") (by rw [memAt_no hm]))
  case a2 => rfl
  simp only [List.nil_append]
  (with_reducible refine' Ex.ifFE ?b1 ?b2 ?b3)
  case b1 =>
    by_cases hm : Str.ofString "mem" ∈ ps.map Part.kind
    · obtain ⟨p, hp, hv, hpm⟩ := memV_yes hm
      have hg : (memV ps).glb = false := by rw [hv]; exact op_glb p
      have hN : (memV ps).isNone = false := by rw [hv]; cases p <;> rfl
      have ht := told_cmp (hok p hpm)
      have hx := ix_mem hm
      have hx2 : (ps.map fun p => V.tup p.told)[(ps.map Part.kind).idxOf (Str.ofString "mem")]? = some (.tup p.told) := by rw [List.getElem?_map, hp]; rfl
      have hM : Calls prog w (KK w) 2 (.ref 443) [insV "any" ps pf] p.op := hv ▸ s_memory hz5
      refine EvT.or_ (a := false) ?_ (fun _ => EvT.or_ (a := false) (EvT.to (b := true && (false && true)) (EvT.and_ (a := true) ?_ (fun _ => EvT.and_ (a := false) ?_ (fun h => absurd h (by decide)))) rfl) (fun _ => EvT.or0))
      · refine EvT.to (EvT.cmp (d := .bool (memV ps).isNone) (e := .bool (!decide (Str.ofString "mem" ∈ ps.map Part.kind))) (Ev.cmp (by walk_at "ev") Ev.cNone (Op2.isN hg) (by rfl)) (by walk_at "ev") Op2.neB (by rfl)) (by rw [hN]; simp only [hm, decide_true]; rfl)
      · exact EvT.to (by walk_at "evt") (by simp only [hm, decide_true])
      · refine EvT.cmp (d := .tup p.told) (e := .tup p.told) (Ev.ptold (Ev.meth0 (by walk_at "ev") (mt_of (by rfl)) (by rfl) hM (by decide) (hb := base_plain rfl)) (by decide) (hb := base_plain rfl)) ?_ (Op2.neR ht rfl) (by rfl)
        refine Ev.sub (by walk_at "ev") (by walk_at "ev") (Op2.itemT (by rw [List.length_map]; exact seqIx hx) hx2 (by omega) (by omega))
    · have hg : (memV ps).glb = false := by rw [memV_no hm]; rfl
      have hN : (memV ps).isNone = true := by rw [memV_no hm]; rfl
      refine EvT.or_ (a := false) ?_ (fun _ => EvT.or_ (a := false) (EvT.to (b := false && true) (EvT.and_ (a := false) ?_ (fun h => absurd h (by decide))) rfl) (fun _ => EvT.or0))
      · refine EvT.to (EvT.cmp (d := .bool (memV ps).isNone) (e := .bool (!decide (Str.ofString "mem" ∈ ps.map Part.kind))) (Ev.cmp (by walk_at "ev") Ev.cNone (Op2.isN hg) (by rfl)) (by walk_at "ev") Op2.neB (by rfl)) (by rw [hN]; simp only [hm, decide_false]; rfl)
      · exact EvT.to (by walk_at "evt") (by simp only [hm, decide_false])
  case b2 => rfl
  simp only [List.nil_append]
  have hsy := cmpb_strs (symS_ok hok)
  rw [← symsV_eq] at hsy
  (with_reducible refine' Ex.ifFE ?c1 ?c2 ?c3)
  case c1 =>
    refine EvT.cmp (d := .lst (symsV ps)) (e := .lst (symsV ps)) (by walk_at "ev") ?_ (Op2.neR hsy rfl) (by rfl)
    refine (EvNew.comp (CompRuns.name (cl := []) (Γf := []) (as := ps) (g := Part.v) (p := fun p : Part => !decide (p.sym = Str.ofString "")) (f := fun p : Part => V.str p.sym) (by decide) rfl rfl (by decide +kernel) FreeOk.nil rfl (EvIt.lst (by walk_at "ev")) (by omega) (fun C d hd => EvTs.one ?_) (fun C d hd hp => ?_)) rfl (by walk_at "scok")).ev
    · have hs := sym_ok (hok d hd)
      cases d with
      | reg => simp only [Part.v]; exact EvT.to (EvT.and_ (a := false) (b := true) (EvT.to (by walk_at "evt") (by rfl)) (fun h => absurd h (by decide))) (by rfl)
      | imm wo nm =>
        have hs : sok nm := hs
        simp only [Part.v]; exact EvT.to (EvT.and_ (a := true) (EvT.to (by walk_at "evt") (by rfl)) (fun _ => EvT.and_ (b := true) (by walk_at "evt") (fun _ => EvT.and0))) (by rw [Bool.and_true, Bool.true_and]; rfl)
      | rel wo nm =>
        have hs : sok nm := hs
        simp only [Part.v]; exact EvT.to (EvT.and_ (a := true) (EvT.to (by walk_at "evt") (by rfl)) (fun _ => EvT.and_ (b := true) (by walk_at "evt") (fun _ => EvT.and0))) (by rw [Bool.and_true, Bool.true_and]; rfl)
      | mem ba n ix sc wo sz sg nm =>
        have hs : sok nm := hs
        simp only [Part.v]; exact EvT.to (EvT.and_ (a := true) (EvT.to (by walk_at "evt") (by rfl)) (fun _ => EvT.and_ (b := true) (by walk_at "evt") (fun _ => EvT.and0))) (by rw [Bool.and_true, Bool.true_and]; rfl)
    · cases d with
      | reg => exact absurd hp (by rw [show (Part.reg _ _ _).sym = Str.ofString "" from rfl]; simp)
      | imm wo nm => simp only [Part.v]; exact Ev.to (by walk_at "ev") (by rfl)
      | rel wo nm => simp only [Part.v]; exact Ev.to (by walk_at "ev") (by rfl)
      | mem ba n ix sc wo sz sg nm => simp only [Part.v]; exact Ev.to (by walk_at "ev") (by rfl)
  case c2 => rfl
  simp only [List.nil_append]
  refine Ex.next (Ex1.asgC (x := "names") (d := .lst []) (EvO.ev (Ev.lst EvL.nil (by decide))) ⟨by rfl, by rfl, by decide +kernel⟩) ?_
  refine Ex.next (Ex1.for (EvIt.lst (by walk_at "ev")) ⟨by rfl, by decide +kernel⟩ (FL.foldN (g := Part.v) (step := fun s p => stepQ s (p.regs.map RV.nm)) (fun i s => s.length ≤ 2 * i ∧ ∀ x ∈ s, sok x) (N := 3) (by rfl) (by decide) ps hn ⟨by decide, by intro x hx; cases hx⟩ (fun p hp j s hj hs => ?_))) ?_
  · have ho := hok p hp
    have hq := stepQ_ok (p := p) hs.2
    refine ⟨⟨by have := hq.1; have := hs.1; omega, hq.2⟩, ?_⟩
    have hsn := hs.2
    have hl := hs.1
    have hrl := regsnm_len p
    have hfl : ((p.regs.map RV.nm).filter fun x => !decide (x ∈ s)).length ≤ 2 := Nat.le_trans (List.length_filter_le _ _) hrl
    refine Ex.next (Ex1.asgC (x := "names") (d := .lst ((stepQ s (p.regs.map RV.nm)).map V.str)) (EvO.ev (Ev.to (Ev.bin (by walk_at "ev") (EvNew.comp (CompRuns.name (cl := [(Str.ofString "names", L + 1)]) (Γf := [("names", .lst (s.map V.str))]) (as := p.regs.map RV.nm) (g := V.str) (p := fun x => !decide (x ∈ s)) (f := V.str) (by decide) rfl rfl (by decide +kernel) (FreeOk.one (by rfl) (by rfl) (by rfl) (by rfl)) rfl (EvIt.lst (by walk_at "ev")) (by omega) (fun C d hd => EvTs.one ?_) (fun C d hd hp => by walk_at "ev")) rfl (by walk_at "scok")).ev (Op2.addL (by rw [List.length_map, List.length_map]; omega))) (by rw [stepQ, List.map_append]))) ⟨by rfl, by rfl, by decide +kernel⟩) Ex.nil
    have hdn := regsnm_ok (p := p) d hd
    walk_at "evt"
  have hnm := namesOf_eq ps
  obtain ⟨hTl, hTs⟩ := foldQ_ok ps [] (by intro x hx; cases hx)
  generalize ps.foldl (fun s p => stepQ s (p.regs.map RV.nm)) [] = T at *
  have hTz : T.length ≤ 1000 := by have : ([] : List Str).length = 0 := rfl; omega
  have hvc := vs_cmp hok
  refine Ex.joinN (d' := .lst ((namesOf ps).map V.str)) ?_ ?_
  · by_cases hd : (firsts T).length = T.length
    · refine ⟨_, Ex1.ifF (EvTO.ev ?_) Ex.nil, by rw [hnm, firsts_same hd]; exact fun _ _ z => z⟩
      refine EvT.to (EvT.and_ (a := !(ps.map Part.v).isEmpty) (b := false) (by walk_at "evt") (fun _ => EvT.to (EvT.and_ (b := true) (EvT.cmp (Ev.lenSet (ys := T) (Ev.bl (by rfl) (by rfl)) (Ev.bl (by rfl) (by rfl)) (by walk_at "ev") hTz (star_plain rfl) (star_plain rfl)) (Ev.cb (by rfl) (by rfl) (by rfl) (by walk_at "evl") (Calls.lenL (by rw [List.length_map]; exact hTz) rfl) (he := star_plain rfl)) Op2.neI (by rfl)) (fun _ => EvT.and0)) (by rw [List.length_map, hd]; simp))) (by rw [Bool.and_false])
    · have hne : ps.map Part.v ≠ [] := fun q => hd (by
        rw [List.map_eq_nil_iff] at q
        subst q
        have : T = [] := List.eq_nil_of_length_eq_zero (by simpa using hTl)
        rw [this]; rfl)
      refine ⟨_, Ex1.ifT (EvTO.ev ?_) (Ex.next (Ex1.asgC (x := "names") (EvO.ev (EvNew.comp ((CompRuns.enum (cl := [(Str.ofString "names", L + 1)]) (Γf := [("names", .lst (T.map V.str))]) (as := T) (g := V.str) (p := fun i d => !decide (d ∈ T.take i)) (f := V.str) (fun i => (firsts (T.take i)).map V.str) (by decide) rfl rfl (by decide +kernel) (FreeOk.one (by rfl) (by rfl) (by rfl) (by rfl)) rfl rfl (by decide +kernel) (by decide) rfl (fun i d hid => ?_) (EvItE.enum (Ev.bl (by rfl) (by rfl)) (by walk_at "ev") (.inl rfl)) hTz (fun C i d hid => EvTs.one ?_) (fun C i d hid hp => by walk_at "ev")).to (by rw [List.take_length, ← hnm])) rfl (by walk_at "scok")).ev) ⟨by rfl, by rfl, by decide +kernel⟩) Ex.nil), dup_x⟩
      · refine EvT.to (EvT.and_ (a := !(ps.map Part.v).isEmpty) (b := true) (by walk_at "evt") (fun _ => EvT.to (EvT.and_ (b := true) (EvT.cmp (Ev.lenSet (ys := T) (Ev.bl (by rfl) (by rfl)) (Ev.bl (by rfl) (by rfl)) (by walk_at "ev") hTz (star_plain rfl) (star_plain rfl)) (Ev.cb (by rfl) (by rfl) (by rfl) (by walk_at "evl") (Calls.lenL (by rw [List.length_map]; exact hTz) rfl) (he := star_plain rfl)) Op2.neI (by rfl)) (fun _ => EvT.and0)) (by rw [List.length_map]; simp; omega))) (by cases h : ps.map Part.v with
          | nil => exact absurd h hne
          | cons => rfl)
      · rw [firsts_take hid]
        by_cases hq : d ∈ T.take i <;> simp [hq]
      · have hdn := hTs d (List.mem_of_getElem? hid)
        have hz' : (T.map V.str).length ≤ 1000 := by rw [List.length_map]; exact hTz
        exact EvT.cmp (d := .str d) (e := .lst ((T.take i).map V.str)) (by walk_at "ev") (Ev.to (Ev.upto (by walk_at "ev") (by walk_at "ev") hz') (by rw [List.map_take])) (Op2.notInLS hdn (fun y hy => hTs y (List.mem_of_mem_take hy))) (by rfl)
  have hnamesok : ∀ y ∈ namesOf ps, sok y := fun y hy => by
    rw [hnm] at hy
    exact hTs y (((mem_foldS T [] y).mp hy).elim (by simp) id)
  clear hTl hTs hTz hnm
  have hn4 : ps.length ≤ 400 := by omega
  (with_reducible refine' Ex.ifFE ?d1 ?d2 ?d3)
  case d1 =>
    refine EvT.or_ (a := false) (EvT.cmp (d := .lst ((namesOf ps).map V.str)) (e := .lst ((namesOf ps).map V.str)) (by walk_at "ev") (by walk_at "ev") (Op2.neR (cmpb_strs hnamesok) rfl) (by rfl)) (fun _ => EvT.or_ (a := false) ?_ (fun _ => EvT.or0))
    refine EvT.to (EvT.cmp (d := .bool (ps.any (Part.isRegOf "high" 0))) (e := .bool (decide (Str.ofString "high" ∈ (ps.filter Part.isReg).map Part.way))) (by walk_at "ev") (Ev.cmp (d := .str "high") (e := .lst (((ps.filter Part.isReg).map Part.way).map V.str)) Ev.cStr (Ev.to (EvNew.comp (CompRuns.name (cl := []) (Γf := []) (as := ps) (g := Part.v) (p := Part.isReg) (f := fun p : Part => V.str p.way) (by decide) rfl rfl (by decide +kernel) FreeOk.nil rfl (EvIt.lst (by walk_at "ev")) (by omega) (fun C d hd => EvTs.one ?_) (fun C d hd hp => ?_)) rfl (by walk_at "scok")).ev (by rw [List.map_map]; rfl)) (Op2.inLS (sok_of _) (ways_ok hok)) (by rfl)) Op2.neB (by rfl)) (by rw [high_eq hok]; simp)
    · exact EvT.to (by walk_at "evt") (by rfl)
    · cases d with
      | reg way n z => simp only [Part.v]; exact Ev.to (by walk_at "ev") (by rfl)
      | imm => exact absurd hp (by rw [show Part.isReg _ = false from rfl]; decide)
      | rel => exact absurd hp (by rw [show Part.isReg _ = false from rfl]; decide)
      | mem => exact absurd hp (by rw [show Part.isReg _ = false from rfl]; decide)
  case d2 => rfl
  simp only [List.nil_append]
  refine Ex.next (Ex1.asgComp (y := "sizes") (CompRuns.name (cl := []) (Γf := []) (as := ps) (g := Part.v) (p := Part.isReg) (f := fun p : Part => V.int p.size) (by decide) rfl rfl (by decide +kernel) FreeOk.nil rfl (EvIt.lst (by walk_at "ev")) (by omega) (fun C d hd => EvTs.one ?_) (fun C d hd hp => ?_)) rfl (by walk_at "scok") ⟨by rfl, by decide +kernel⟩) ?_
  · exact EvT.to (by walk_at "evt") (by rfl)
  · cases d with
    | reg way n z =>
      obtain ⟨hw, h0, h1, hz⟩ := hok _ hd
      have hw' : wayOk way ∨ way = "rip" := .inl hw
      simp only [Part.v]; exact Ev.to (by walk_at "ev") (by rfl)
    | imm => exact absurd hp (by rw [show Part.isReg _ = false from rfl]; decide)
    | rel => exact absurd hp (by rw [show Part.isReg _ = false from rfl]; decide)
    | mem => exact absurd hp (by rw [show Part.isReg _ = false from rfl]; decide)
  (with_reducible refine' Ex.ifFE ?e1 ?e2 ?e3)
  case e1 =>
    refine EvT.to (b := false) (EvT.cmp (d := .int (toldSz ps)) (e := .int (toldSz ps)) (by walk_at "ev") ?_ Op2.neI (by rfl)) (by simp)
    have hts := toldSz_eq ps
    have hsc := sizes_cmp (ps.filter Part.isReg)
    cases hF : ps.filter Part.isReg with
    | nil =>
      rw [hF] at hts hsc
      exact Ev.ifF (EvT.to (by walk_at "evt") (by rfl)) (Ev.to (by walk_at "ev") (by rw [hts]))
    | cons q r =>
      rw [hF] at hts hsc
      exact Ev.ifT (EvT.to (by walk_at "evt") (by rfl)) (Ev.to (Ev.sub (by walk_at "ev") (by walk_at "ev") (Op2.itemL (d := .int q.size) (by decide) (by rfl) (by decide))) (by rw [hts]))
  case e2 => rfl
  simp only [List.nil_append]
  (with_reducible refine' Ex.ifFE ?f1 ?f2 ?f3)
  case f1 =>
    refine EvT.to (b := false) (EvT.cmp (d := .bool (refB pf ps)) (e := .bool (refB pf ps)) (by walk_at "ev") ?_ Op2.neB (by rfl)) (by simp)
    exact Ev.to (Ev.or_ (a := decide (pf ∈ ([Str.ofString "repe", Str.ofString "REP"] : List Str))) (b := decide (1 < (ps.countP Part.isMem : Int))) (by walk_at "ev") (fun _ => Ev.bool1 (Ev.to (by walk_at "ev") (by rw [count_mem])))) rfl
  case f2 => rfl
  simp only [List.nil_append]
  have hoI : (toldI "any" ps pf).okD = true := by
    have := hcI; rw [V.cmpb, Bool.and_eq_true] at this; exact this.1
  have hzo : (ps.map Part.op ++ [immOp 77 ""]).length ≤ 1000 := by rw [List.length_append, List.length_map, List.length_singleton]; omega
  (with_reducible refine' Ex.ifFE ?g1 ?g2 ?g3)
  case g1 =>
    refine EvT.or_ (a := false) (EvT.to (b := !true) (EvT.not (EvT.plain (Ev.cg (by rfl) (by rfl) (EvL.cons (Ev.to (by walk_at "ev") (by rfl)) EvL.nil (star_plain rfl)) s_refusedO (by decide) (he := star_plain rfl)))) rfl) (fun _ => EvT.or_ (a := false) ?_ (fun _ => EvT.or0))
    refine EvT.to (b := !true) (EvT.not (EvT.to (EvT.plain (Ev.cg (by rfl) (by rfl) (EvL.cons (by walk_at "ev") (EvL.cons (Ev.to (Ev.cg (by rfl) (by rfl) (EvL.cons (by walk_at "ev") (EvL.cons (Ev.to (Ev.butLast (by walk_at "ev") (by walk_at "ev") hzo) (by rw [List.length_append, List.length_singleton, Nat.add_sub_cancel, List.take_left'] <;> rfl)) (EvL.cons (by walk_at "ev") EvL.nil (star_plain rfl)) (star_plain rfl)) (star_plain rfl)) (s_Instr3 hz1) (by decide) (he := star_plain rfl)) (by rfl)) EvL.nil (star_plain rfl)) (star_plain rfl)) (s_sameI hany hany hps hps hok hok hz5 hz5) (by decide) (he := star_plain rfl))) (eqb_refl hoI))) rfl
  case g2 => rfl
  simp only [List.nil_append]
  by_cases hE : ps = []
  · (with_reducible refine' Ex.ifTE ?h1 ?h2 ?h3)
    case h1 => walk_at "evt"
    case h2 => rw [hE]; rfl
    exact Ex.stop (Ex1.ret (EvO.ev Ev.cBool))
  have hps0 : 0 < ps.length := List.length_pos_iff.mpr hE
  (with_reducible refine' Ex.ifFE ?i1 ?i2 ?i3)
  case i1 => walk_at "evt"
  case i2 => cases ps with
    | nil => exact absurd rfl hE
    | cons => rfl
  simp only [List.nil_append]
  obtain ⟨k, hk, hkl⟩ := refL c25 ps.length hps0
  have hvl : (ps.map Part.v).length ≤ 1000 := by rw [List.length_map]; omega
  ((with_reducible refine' Ex.asgE (d := .int (k : Int)) ?g1a ?g1b ?g1c ?g1d ?g1e); (case g1b => rfl); (case g1d => decide +kernel); (case g1e => rfl))
  case g1a =>
    exact Ev.to (Ev.bin (by walk_at "ev") (Ev.cb (by rfl) (by rfl) (by rfl) (by walk_at "evl") (Calls.lenL hvl rfl) (he := star_plain rfl)) (Op2.mod (by rw [List.length_map]; omega))) (by rw [List.length_map, hk])
  ((with_reducible refine' Ex.asgE (d := insV "any" (ps.set k (.imm 78 "")) pf) ?g2a ?g2b ?g2c ?g2d ?g2e); (case g2b => rfl); (case g2d => decide +kernel); (case g2e => rfl))
  case g2a =>
    exact Ev.meth (by walk_at "ev") (EvL.cons (by walk_at "ev") (EvL.cons (Ev.to (by walk_at "ev") (by rfl)) EvL.nil (star_plain rfl)) (star_plain rfl)) (mt_of (by rfl)) (by rfl) (s_replaced (q := .imm 78 "") hz5 hkl) (by decide) (hb := base_plain rfl)
  have hok' : ∀ q ∈ ps.set k (.imm 78 ""), q.ok := fun q hq => (List.mem_or_eq_of_mem_set hq).elim (hok q) fun e => by rw [e]; exact ⟨by decide, by decide, .inl rfl⟩
  have hl' : (ps.set k (.imm 78 "")).length ≤ 500 := by rw [List.length_set]; omega
  have eT : (ps.set k (.imm 78 "")).map (fun p => V.tup p.told) = (ps.map fun p => V.tup p.told).set k (.tup (Part.imm 78 "").told) := by rw [List.map_set]
  have hz3 : ((ps.map fun p => V.tup p.told).set k (.tup (Part.imm 78 "").told)).length ≤ 1000 := by rw [List.length_set]; exact hz2
  obtain ⟨p, hp⟩ : ∃ p, ps[k]? = some p := ⟨_, List.getElem?_eq_getElem hkl⟩
  have hag := same_agree hps hok hp
  have hcS : (V.lst ((ps.map fun p => V.tup p.told).set k (.tup (Part.imm 78 "").told))).cmpb = true := eT ▸ tolds_cmp hok'
  have hcI' := toldI_cmp hany hps hok'
  refine Ex.next (Ex1.own (x := "told") (ds := ps.map fun p => V.tup p.told) (EvNew.list (Ev.bl (by rfl) (by rfl)) (d := .tup (ps.map fun p => V.tup p.told)) (by walk_at "ev") (.inl rfl) hz2) ⟨by rfl, by decide +kernel⟩) ?_
  refine Ex.next (Ex1.setItem (d := .tup (Part.imm 78 "").told) (EvO.ev (Ev.to (by walk_at "ev") (by rfl))) (EvO.ev (by walk_at "ev")) (by rw [List.length_map]; exact hkl) hz2) ?_
  refine Ex.freeze ?_
  refine Ex.stop (Ex1.ret (EvO.ev (Ev.to (Ev.and_ (a := true) (b := true && ((toldI "any" ps pf).eqb (toldI "any" (ps.set k (.imm 78 "")) pf) == (V.lst ((ps.map fun p => V.tup p.told).set k (.tup (Part.imm 78 "").told))).eqb (.lst (ps.map fun p => V.tup p.told)))) ?x (fun _ => Ev.and_ (a := true) ?y (fun _ => Ev.bool1 ?z))) (by rw [hag]; simp))))
  case x => exact Ev.cmp (d := toldI "any" (ps.set k (.imm 78 "")) pf) (e := .tup [.str "any", .str pf, .tup ((ps.map fun p => V.tup p.told).set k (.tup (Part.imm 78 "").told))]) (by walk_at "ev") (Ev.tup (EvL.cons (by walk_at "ev") (EvL.cons (by walk_at "ev") (EvL.cons (Ev.cb (by rfl) (by rfl) (by rfl) (by walk_at "evl") (Calls.tupL hz3) (he := star_plain rfl)) EvL.nil (star_plain rfl)) (star_plain rfl)) (star_plain rfl)) (by simp)) (Op2.eqR hcI' (by unfold toldI; rw [eT])) (by rfl)
  case y => exact Ev.cmp (d := toldI "any" ps pf) (e := .tup [.str "any", .str pf, .tup (ps.map fun p => .tup p.told)]) (by walk_at "ev") (by walk_at "ev") (Op2.eqR (d := toldI "any" ps pf) hcI rfl) (by rfl)
  case z =>
    refine Ev.cmp (d := .bool ((toldI "any" ps pf).eqb (toldI "any" (ps.set k (.imm 78 "")) pf))) (e := .bool ((V.lst ((ps.map fun p => V.tup p.told).set k (.tup (Part.imm 78 "").told))).eqb (.lst (ps.map fun p => V.tup p.told)))) ?_ ?_ Op2.eqB (by rfl)
    · exact Ev.cg (by rfl) (by rfl) (by walk_at "evl") (s_sameI hany hany hps hps hok hok' hz5 hl') (by decide) (he := star_plain rfl)
    · exact Ev.cmp (d := .lst ((ps.map fun p => V.tup p.told).set k (.tup (Part.imm 78 "").told))) (e := .lst (ps.map fun p => V.tup p.told)) (by walk_at "ev") (EvNew.list (Ev.bl (by rfl) (by rfl)) (d := .tup (ps.map fun p => V.tup p.told)) (by walk_at "ev") (.inl rfl) hz2).ev (Op2.eqV hcS (tolds_cmp hok)) (by rfl)
theorem lawParts {ns : List Int} (hz : ns.length ≤ 1000) : ∃ (nn : Nat) (F : Nat → Part), (cell ns 0).fmod 4 = (nn : Int) ∧ nn ≤ 3 ∧ Builtin.Range.small 0 nn 1 = true ∧ Builtin.Range.rangeSize 0 nn 1 = nn ∧ ∀ i < nn, (F i).ok ∧ Calls prog w (KK w) 2 (.ref 715) [.scr ns, .int (i : Int)] (F i).v := by
  have hm := modK (a := cell ns 0) (show (0 : Int) < 4 by decide)
  obtain ⟨nn, hnn⟩ : ∃ nn : Nat, (cell ns 0).fmod 4 = (nn : Int) := ⟨((cell ns 0).fmod 4).toNat, by omega⟩
  have hle : nn ≤ 3 := by omega
  have hF : ∀ i : Nat, ∃ p : Part, i < nn → p.ok ∧ Calls prog w (KK w) 2 (.ref 715) [.scr ns, .int (i : Int)] p.v := fun i => by
    by_cases h : i < nn
    · obtain ⟨p, hp⟩ := s_lplain (prog := prog) (w := w) (ns := ns) (spot := (i : Int)) hz (by omega) (by omega)
      exact ⟨p, fun _ => hp⟩
    · exact ⟨.imm 0 "", fun q => absurd q h⟩
  have hs : Builtin.Range.small 0 nn 1 = true ∧ Builtin.Range.rangeSize 0 nn 1 = nn := by
    match nn, hle with
    | 0, _ => decide
    | 1, _ => decide
    | 2, _ => decide
    | 3, _ => decide
  exact ⟨nn, fun i => (hF i).choose, hnn, hle, hs.1, hs.2, fun i h => (hF i).choose_spec h⟩
set_option maxHeartbeats 8000000 in
theorem lawAll : PySem.Challenge.rw_nn0053_01.Holds := holds_law wsK fun said => by
  refine holds_open (q := VW) (loose := lsW) (Xt := fun s => xlAt VW [] s && recOk (RowW.records PySem.Challenge.rw_nn0053_01.row.toRowW) s) (XP := XL VW []) (Yf := Hook.obs HW) (Ya := Hook.val HW) (YP := Hook.says HW) (N := 10406) leftK (Hook.of HW) (Hook.keeps HW) (fun s e => xl_of s (Bool.and_eq_true_iff.mp e).1) XL.keeps (by rfl) (by rfl) (by rfl) (fun s e => recFacts_of (Bool.and_eq_true_iff.mp e).2) (by rfl) (by assumption) (by decide +kernel) ⟨rfl, rfl, rfl, rfl, rfl, by decide +kernel⟩ ?hw ?hc
  case hw => w_witness2
  case hc =>
  intro w s0 s1 mg mb G Y fa o pm cd doc dV kV ho hd hcd hD hmg hg args vals as hpre hlay hrd hwl hlo
  have KX := kIn_of Y
  refine Ground.open G ?_
  intro T B D TE TW
  clear D B TE TW Y
  have TA := at_of_top T
  clear hmg
  wrow_args hpre hlay hrd hwl hlo
  all_goals (
    first | refine callC_kw (enter_call ?_) | refine enter_call ?_ | refine callC_kw (enter_callW ?_) | refine enter_callW ?_
    w_top on
    try refine codeAny_mono ?_ (fun _ _ g => GoodW.toG g)
    have K0 := below_caller (Top.heap T)
    w_call any ho hd hcd hD T F
    clear hd TA
    k_drop)
  rename_i ns hs hlay0 hL1 hr1 hl2 w5 w4 a vs w1 hL ra ww r0 hI hr hc1 hc2 h1 tk1 ob right N0 X0
  have hz : ns.length ≤ 1000 := by omega
  have hcx : Cx (KK w) [] s1.heap := ⟨KX, fun a h => (by cases h), fun a h => (by cases h), T.nolimit, ⟨mg, T.g⟩, ⟨mb, T.b, T.builtins⟩, T.nodigits⟩
  refine lawJoin (ns := ns) (hx := ?ex) rfl rfl ⟨rfl, rfl, rfl⟩ rfl rfl hcx F N0 right hL hI ?q
  case q => intro h' tk' hk; refine ⟨.inl ⟨.bool true, .bool true, [], rfl, fun cls => rfl, .bool true, ?post, fun _ => ⟨List.nodup_nil, fun b hb => (by cases hb)⟩⟩, hk, rfl, hg⟩; exact postW_of (by wrow_shape) (by wtm_val) (by w_fin)
  clear hcx X0 N0 right F ob tk1 h1 hD K0 hc2 hc1 hr hI r0 ww ra hL w1 vs a w4 w5 hl2 hr1 hL1 hlay0 hs hcd T KX hg ho doc pm o G mb mg s0
  generalize s1.heap.objs.size = L
  dsimp only
  obtain ⟨nn, F, hnn, hle, hsm, hsz, hF⟩ := lawParts (prog := PySem.Challenge.rw_nn0053_01.row.prog) (w := w) hz
  have hps : ∀ p ∈ (List.range nn).map F, p.ok := fun p hp => by
    obtain ⟨i, hi, rfl⟩ := List.mem_map.mp hp
    exact (hF i (List.mem_range.mp hi)).1
  have hpn : ((List.range nn).map F).length ≤ 3 := by rw [List.length_map, List.length_range]; exact hle
  refine Ex.next (Ex1.asgComp (y := "plains") (res := ((List.range nn).map F).map Part.v) ((CompRuns.all (cl := [(Str.ofString "script", L + 1)]) (Γf := [("script", .scr ns)]) (as := List.range nn) (g := fun i : Nat => V.int (i : Int)) (f := fun i => (F i).v) (by decide) rfl rfl (by decide +kernel) (FreeOk.one (by rfl) (by rfl) (by rfl) (by rfl)) rfl (EvIt.range (nn := nn) (Ev.bl (by rfl) (by rfl)) (Ev.to (by walk_at "ev") (by rw [hnn])) hsm hsz) (by rw [List.length_range]; omega) (fun C i hi => Ev.cg (by rfl) (by rfl) (by walk_at "evl") (hF i (List.mem_range.mp hi)).2 (by decide))).to (by rw [List.map_map]; rfl)) rfl (by walk_at "scok") ⟨by rfl, by decide +kernel⟩) ?_
  clear hF hnn hsm hsz hle
  generalize (List.range nn).map F = ps at *
  refine Ex.next (Ex1.for (EvIt.lst (by walk_at "ev")) ⟨by rfl, by decide +kernel⟩ (FL.fold (σ := Unit) (g := Part.v) (Γc := fun _ => [("plains", .lst (ps.map Part.v)), ("script", .scr ns)]) (Oc := fun _ => none) (step := fun s _ => s) (fun _ => True) (by intro s y o h; cases h) ps () trivial (fun p hp s _ => ⟨trivial, ("part_so", p.v) :: [("plains", .lst (ps.map Part.v)), ("script", .scr ns)], ?_, fun y d h => ?_⟩))) ?_
  · (with_reducible refine' Ex.ifFE ?t1 ?t2 ?t3)
    case t1 => exact EvT.to (b := !true) (EvT.not (EvT.plain (Ev.cg (by rfl) (by rfl) (EvL.cons (by walk_at "ev") (EvL.cons (Ev.cg (by rfl) (by rfl) (EvL.cons (by walk_at "ev") EvL.nil (star_plain rfl)) (s_loperand (hps p hp)) (by decide) (he := star_plain rfl)) EvL.nil (star_plain rfl)) (star_plain rfl)) (s_lopright (hps p hp)) (by decide) (he := star_plain rfl)))) rfl
    case t2 => rfl
    simp only [List.nil_append]
    exact Ex.nil
  · rw [List.lookup_cons]
    cases z : y == "part_so" with
    | false => exact h
    | true => rw [eq_of_beq z] at h; cases (show Option.none = some d from h)
  refine Ex.stop (Ex1.ret (EvO.ev (Ev.to (Ev.and_ (a := true) (b := true) (Ev.cg (by rfl) (by rfl) (EvL.cons (by walk_at "ev") (EvL.cons (by walk_at "ev") EvL.nil (star_plain rfl)) (star_plain rfl)) (s_lineright hz hps hpn) (by decide) (he := star_plain rfl)) (fun _ => Ev.bool1 (Ev.cg (by rfl) (by rfl) (EvL.cons (by walk_at "ev") EvL.nil (star_plain rfl)) s_lprefixes (by decide) (he := star_plain rfl)))) rfl)))
end Mine
theorem PySem.Challenge.cw_nn0053_01_holds : PySem.Challenge.rw_nn0053_01.Holds :=
  Mine.lawAll
