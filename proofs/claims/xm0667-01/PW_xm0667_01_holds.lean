import PyProof.Rows.All
import Wide.All
import OpenK.AllK
import Wide.FinOn
import Lean
import PySem.Challenge.RW_xm0667_01
open PySem PySem.W PyProof.Rows PySem.Spec PySem.Calls
set_option Elab.async false
set_option maxRecDepth 100000
set_option maxHeartbeats 4000000
set_option rowWalk.seconds 0
set_option compiler.extract_closed false
namespace Mine
-- the head. The kit's o_head is answered by a line of this file: the same lemma, and the top and its looks in ONE kernel check (no named heaps: the compiled file stays small)
noncomputable def hdb : { l : List Stmt // l = (view PySem.Challenge.rw_xm0667_01.row.prog [0, 2, 3, 4, 6, 7, 9, 10, 11, 12, 14, 15, 17, 18, 19, 20, 21, 22, 23, 24]).main.body } := ⟨[_, _, _, _, _, _, _, _, _, _, _, _, _, _, _, _, _, _, _, _], rfl⟩
noncomputable def hdv : Program := { PySem.Challenge.rw_xm0667_01.row.prog with main := { PySem.Challenge.rw_xm0667_01.row.prog.main with body := hdb.1 } }
set_option hygiene false in
local macro_rules | `(tactic| o_head $H) => `(tactic| refine holds_open (q := hdv) (loose := []) (Xt := fun s => xlAt hdv [] s && recOk (RowW.records (OpenRow.toRowW PySem.Challenge.rw_xm0667_01.row)) s) (XP := XL hdv []) (Yf := Hook.obs $H) (Ya := Hook.val $H) (YP := Hook.says $H) (N := 4542) (fun w => by (unfold openEnds topFrom; rw [PySem.W.Fast.te14082659384304107361, PySem.W.Fast.te14364793385576792824, PySem.W.Fast.te4187177175401517315]; kernel_rfl)) (Hook.of $H) (Hook.keeps $H) (fun s e => xl_of s (Bool.and_eq_true_iff.mp e).1) XL.keeps (by rfl) (by rfl) (by rfl) (fun s e => recFacts_of (Bool.and_eq_true_iff.mp e).2) (by rfl) (by first | assumption | decide +kernel) (by decide +kernel) ⟨rfl, rfl, rfl, rfl, rfl, by decide +kernel⟩ ?hw ?hc)
-- the kit's quick twins of the looks, by their names: a third of the kernel's work less
theorem ws : PySem.Challenge.rw_xm0667_01.wellSaid = true := (congrFun PySem.W.Fast.te9446332074065402090 _).trans (by kernel_rfl)
local macro_rules | `(tactic| o_law) => `(tactic| refine holds_law ws fun said => ?_)
open_top hd for PySem.Challenge.rw_xm0667_01
example : True := by w_top off; trivial

abbrev Ldg := List (Addr × Obj)

/-- a contract: the def f, called from any def's frame with the arguments vs over the ledger news, comes back (no raise) with Post -/
def Does (w : World) (f : Value) (d : Nat) (vs : List Value) (news : Ldg) (Post : Value → Ldg → Prop) : Prop :=
  ∀ (prog : Program) (p : Program) (loose : List Str) (mean : ExcName → Option Value) (mg mb : Str → Option Value) (dp un : Nat) (gd : Option (List Code)) (cn : Str) (cs : Scope) (a : Addr) (ccd : Value) (cl : List (Str × Addr)) (outer : List Env) (A₀ : Around) (base h₀ : Heap) (L : Addr) (m : Str → Option Value) (s : Shared) (Q E : Value → Shared → Prop),
    Below A₀ base outer h₀ → Fr h₀ L s.heap m → (hd.heap_1 w.params).In h₀ → News h₀ L s.heap news → Top p loose mean mg mb h₀ → cs.kind = .function → dp + d < recursionLimit → un + 8 * d < cLine →
    (∀ r news' h' tk', Fr h₀ L h' m → News h₀ L h' news' → Post r news' → Q r { s with heap := h', toks := tk' }) →
    wpAny (model prog w) (ktrTop dp un gd cn cs L a ccd cl outer) (call f vs) Q E s

theorem kfill (w : World) : (hd.heap_1 w.params, PySem.Challenge.rw_xm0667_01) = (hd.heap_1 w.params, PySem.Challenge.rw_xm0667_01) := by k_fill; rfl

section
variable {prog : Program} {p : Program} {loose : List Str} {mean : ExcName → Option Value} {mg mb : Str → Option Value} {dp un : Nat} {gd : Option (List Code)} {cn : Str} {cs : Scope} {a : Addr} {ccd : Value} {cl : List (Str × Addr)} {outer : List Env} {A₀ : Around} {base h₀ : Heap} {L : Addr} {m : Str → Option Value} {s : Shared} {Q E : Value → Shared → Prop}
theorem does_use {w : World} {f : Value} {d : Nat} {vs : List Value} {news : Ldg} {Post : Value → Ldg → Prop} (D : Does w f d vs news Post)
    (B : Below A₀ base outer h₀) (F : Fr h₀ L s.heap m) (X : (hd.heap_1 w.params).In h₀) (N : News h₀ L s.heap news) (T : Top p loose mean mg mb h₀) (hk : cs.kind = .function) (hdp : dp + d < recursionLimit) (hun : un + 8 * d < cLine)
    (k : ∀ r news' h' tk', Fr h₀ L h' m → News h₀ L h' news' → Post r news' → Q r { s with heap := h', toks := tk' }) :
    wpAny (model prog w) (ktrTop dp un gd cn cs L a ccd cl outer) (call f vs) Q E s := D _ _ _ _ _ _ _ _ _ _ _ _ _ _ _ _ _ _ _ _ _ _ _ B F X N T hk hdp hun k
end

/-- the posts behind variables: a walk's terms stay small -/
theorem hide {prog : Program} {w : World} {A : Around} {α : Type} {c : Sem α} {Q : α → Shared → Prop} {E : Value → Shared → Prop} {s : Shared}
    (h : ∀ Q' E', (∀ v t, Q v t → Q' v t) → (∀ v t, E v t → E' v t) → wpAny (model prog w) A c Q' E' s) : wpAny (model prog w) A c Q E s := h Q E (fun _ _ x => x) (fun _ _ x => x)
/-- the walk stands still here -/
def Stop (P : Prop) : Prop := P
theorem stop {P : Prop} (h : P) : Stop P := h
theorem my_stop {P : Prop} (h : Stop P) : P := h
local macro_rules | `(tactic| k_mem) => `(tactic| first | exact List.Mem.head _ | (refine List.mem_cons_of_mem _ ?_; k_mem))
local macro_rules | `(tactic| walk_at "exec While Compare cons nil") => `(tactic| (refine my_stop ?_))
theorem does_stop {prog : Program} {p : Program} {loose : List Str} {mean : ExcName → Option Value} {mg mb : Str → Option Value} {dp un : Nat} {gd : Option (List Code)} {cn : Str} {cs : Scope} {a : Addr} {ccd : Value} {cl : List (Str × Addr)} {outer : List Env} {A₀ : Around} {base h₀ : Heap} {L : Addr} {m : Str → Option Value} {s : Shared} {Q E : Value → Shared → Prop}
    {w : World} {f : Value} {d : Nat} {vs : List Value} {news : Ldg} {Post : Value → Ldg → Prop} (D : Does w f d vs news Post)
    (B : Below A₀ base outer h₀) (F : Fr h₀ L s.heap m) (X : (hd.heap_1 w.params).In h₀) (N : News h₀ L s.heap news) (T : Top p loose mean mg mb h₀) (hk : cs.kind = .function) (hdp : dp + d < recursionLimit) (hun : un + 8 * d < cLine)
    (k : Stop (∀ r news' h' tk', Fr h₀ L h' m → News h₀ L h' news' → Post r news' → Q r { s with heap := h', toks := tk' })) :
    wpAny (model prog w) (ktrTop dp un gd cn cs L a ccd cl outer) (call f vs) Q E s := does_use D B F X N T hk hdp hun k

theorem room0 {a b R : Nat} (h : a + b < R) : a < R := Nat.lt_of_le_of_lt (Nat.le_add_right a b) h
theorem room1 {a b c R : Nat} (h : a + b < R) (e : Nat.ble c b = true) : a + c < R := Nat.lt_of_le_of_lt (Nat.add_le_add_left (Nat.le_of_ble_eq_true e) a) h
theorem room2 {a b c d R : Nat} (h : a + b < R) (e : Nat.ble (c + d) b = true) : a + c + d < R := by rw [Nat.add_assoc]; exact room1 h e
theorem room3 {a b c d f R : Nat} (h : a + b < R) (e : Nat.ble (c + d + f) b = true) : a + c + d + f < R := by rw [Nat.add_assoc a, Nat.add_assoc a]; exact room1 h e

/-- values that are ints, one for each number -/
inductive NA : List Value → List Nat → Prop
  | nil : NA [] []
  | cons (n : Nat) (t : Tok) {vs ns} : NA vs ns → NA (.int (n : Int) t :: vs) (n :: ns)

theorem NA.length : ∀ {vs : List Value} {ns : List Nat}, NA vs ns → vs.length = ns.length
  | _, _, .nil => rfl
  | _, _, .cons _ _ h => by simp [h.length]
theorem NA.get : ∀ {vs : List Value} {ns : List Nat}, NA vs ns → ∀ (i n : Nat), ns[i]? = some n → ∃ t, vs[i]? = some (.int (n : Int) t)
  | _, _, .cons n t h, i, k, e => by
    cases i with
    | zero => simp at e; subst e; exact ⟨t, rfl⟩
    | succ i => simp at e; obtain ⟨t', h'⟩ := h.get i k e; exact ⟨t', by simpa using h'⟩
theorem NA.item {vs : List Value} {ns : List Nat} (h : NA vs ns) {i : Nat} {v : Value} (e : vs[i]? = some v) : ∃ (n : Nat) (t : Tok), v = .int (n : Int) t ∧ ns[i]? = some n := by
  have hl : i < vs.length := by
    rcases Nat.lt_or_ge i vs.length with h' | h'
    · exact h'
    · rw [List.getElem?_eq_none h'] at e; cases e
  have hl' : i < ns.length := by rw [← h.length]; exact hl
  obtain ⟨t, ht⟩ := h.get i ns[i] (by simp [hl'])
  rw [e] at ht
  exact ⟨ns[i], t, Option.some.inj ht, by simp [hl']⟩
theorem NA.append : ∀ {vs ws : List Value} {ns ms : List Nat}, NA vs ns → NA ws ms → NA (vs ++ ws) (ns ++ ms)
  | _, _, _, _, .nil, h => h
  | _, _, _, _, .cons n t h, h' => .cons n t (h.append h')
theorem NA.one (n : Nat) (t : Tok) : NA [.int (n : Int) t] [n] := .cons n t .nil
theorem NA.snoc {vs : List Value} {ns : List Nat} (h : NA vs ns) (n : Nat) (t : Tok) : NA (vs ++ [.int (n : Int) t]) (ns ++ [n]) := h.append (.one n t)
theorem NA.take : ∀ {vs : List Value} {ns : List Nat}, NA vs ns → ∀ k, NA (vs.take k) (ns.take k)
  | _, _, .nil, k => by simp; exact .nil
  | _, _, .cons n t h, 0 => by simp; exact .nil
  | _, _, .cons n t h, k + 1 => by simp; exact .cons n t (h.take k)
theorem NA.drop : ∀ {vs : List Value} {ns : List Nat}, NA vs ns → ∀ k, NA (vs.drop k) (ns.drop k)
  | _, _, .nil, k => by simp; exact .nil
  | _, _, .cons n t h, 0 => by simp; exact .cons n t h
  | _, _, .cons n t h, k + 1 => by simp; exact h.drop k
theorem NA.ints : ∀ {vs : List Value} {ns : List Nat}, NA vs ns → IntsAre vs (ns.map fun (i : Nat) => (i : Int))
  | _, _, .nil => .nil
  | _, _, .cons n t h => .cons n t h.ints
theorem NA.rev : ∀ {vs : List Value} {ns : List Nat}, NA vs ns → NA vs.reverse ns.reverse
  | _, _, .nil => .nil
  | _, _, .cons n t h => by simp only [List.reverse_cons]; exact h.rev.append (.one n t)
theorem NA.of : ∀ {vs : List Value} {ns : List Nat} {zs : List Int}, IntsAre vs zs → zs = ns.map (fun (i : Nat) => (i : Int)) → NA vs ns
  | _, [], _, .nil, _ => .nil
  | _, _ :: _, _, .nil, e => by cases e
  | _, [], _, .cons _ _ _, e => by cases e
  | _, n :: ns, _, .cons z t h, e => by
    simp only [List.map_cons, List.cons.injEq] at e
    obtain ⟨rfl, e⟩ := e
    exact .cons n t (NA.of h e)

/-- a list of ints in the ledger -/
def IL (news : Ldg) (l : Addr) (ns : List Nat) : Prop := ∃ vs n, (l, listOf vs.toArray n) ∈ news ∧ NA vs ns ∧ vs.length ≤ 100
theorem IL.mono {news news' : Ldg} {l : Addr} {ns : List Nat} (h : IL news l ns) (k : ∀ o, (l, o) ∈ news → (l, o) ∈ news') : IL news' l ns := let ⟨vs, n, a, b⟩ := h; ⟨vs, n, k _ a, b⟩

/-- the ledger with the object at d put anew -/
def updL (d : Addr) (o' : Obj) (news : Ldg) : Ldg := (d, o') :: news.filter fun p => p.1 ≠ d
theorem updL_self {d : Addr} {o' : Obj} {news : Ldg} : (d, o') ∈ updL d o' news := .head _
theorem updL_of {d : Addr} {o' : Obj} {news : Ldg} {p : Addr × Obj} (h : p ∈ news) (hne : p.1 ≠ d) : p ∈ updL d o' news := .tail _ (List.mem_filter.mpr ⟨h, by simpa using hne⟩)
theorem updL_addr {d : Addr} {o o' : Obj} {news : Ldg} (hd : (d, o) ∈ news) : ∀ a, a ∈ (updL d o' news).map (·.1) → a ∈ news.map (·.1) := by
  intro a ha
  simp only [updL, List.map_cons, List.mem_cons, List.mem_map, List.mem_filter] at ha
  rcases ha with rfl | ⟨q, ⟨hq, _⟩, rfl⟩
  · exact List.mem_map.mpr ⟨_, hd, rfl⟩
  · exact List.mem_map.mpr ⟨_, hq, rfl⟩
def offL (d : Addr) (o : Obj) (news : Ldg) : Ldg := (d, o) :: news.filter fun p => p.1 ≠ d
theorem offL_news {h₀ h : Heap} {L d : Addr} {o : Obj} {news : Ldg} (N : News h₀ L h news) (hd : (d, o) ∈ news) : News h₀ L h (offL d o news) := by
  intro p hp
  rcases List.mem_cons.mp hp with rfl | hp
  · exact N _ hd
  · exact N p (List.mem_filter.mp hp).1
theorem offL_upd {d : Addr} {o o' : Obj} {news : Ldg} : Upd d o o' (offL d o news) (updL d o' news) :=
  .head fun p hp => by simpa using (List.mem_filter.mp hp).2
theorem offL_updF {d : Addr} {o : Obj} {news : Ldg} : UpdF d o (offL d o news) (fun o' => updL d o' news) :=
  .head fun p hp => by simpa using (List.mem_filter.mp hp).2

/-- one object stands for one address -/
theorem news_fun {h₀ h : Heap} {L a : Addr} {o o' : Obj} {news : Ldg} (N : News h₀ L h news) (h1 : (a, o) ∈ news) (h2 : (a, o') ∈ news) : o = o' := by
  have e1 := (N _ h1).1
  have e2 := (N _ h2).1
  exact Option.some.inj (e1.symm.trans e2)
theorem news_lt {h₀ h : Heap} {L a : Addr} {o : Obj} {news : Ldg} (N : News h₀ L h news) (h1 : (a, o) ∈ news) : a < h.objs.size := Heap.lt_size (N _ h1).1

section
variable {prog : Program} {w : World} {A : Around} {E : Value → Shared → Prop} {s : Shared} {h₀ h : Heap} {L l : Addr} {m : Str → Option Value} {news : Ldg} {vs : List Value} {n : Nat} {Q : Value → Shared → Prop}
theorem my_isList (N : News h₀ L s.heap news) (hm : (l, listOf vs.toArray n) ∈ news) : s.heap.IsList l vs.toArray := ⟨_, (N _ hm).1, rfl, n, rfl⟩
theorem my_len (N : News h₀ L s.heap news) (hm : (l, listOf vs.toArray n) ∈ news) (hz : vs.length ≤ 1000) (h : Q (.int (vs.length : Int) (s.toks + 1)) { s with toks := s.toks + 1 + 1 }) :
    wpAny (model prog w) A (call (.builtin "len") [.ref l]) Q E s :=
  len_list (my_isList N hm) (by rw [List.size_toArray]; omega) (by rw [List.size_toArray]; exact h)
theorem my_item {value slice : PySem.Expr} {k : Nat} {u : Tok} {x : Value} (N : News h₀ L s.heap news) (hm : (l, listOf vs.toArray n) ∈ news) (hx : vs[k]? = some x) (hz : vs.length ≤ 1000) (h : Q x s)
    (hs : subscripted slice false (.ref l) (.int (k : Int) u) = operate [.ref l, .int (k : Int) u] (getItem (.ref l) (.int (k : Int) u))) :
    wpAny (model prog w) A (subscriptTail value slice (.ref l) (.int (k : Int) u)) Q E s :=
  tail_any (my_isList N hm).typeIs slot_list_getitem.lookup (wpAny_getItem_list (my_isList N hm) (Int.natCast_nonneg k) (by
    have : k < vs.length := by
      rcases Nat.lt_or_ge k vs.length with h | h
      · exact h
      · rw [List.getElem?_eq_none h] at hx; cases hx
    omega) (by simpa using hx) h) hs
end

/-- one row of the tree: what it says, and where its objects stand -/
structure Row where
  kind : Str
  name : Str
  uri : Str
  loc : Str
  par : Option Nat
  ch : List Nat
  atr : List Nat
  nsp : List Nat
  inst : Addr
  dct : Addr
  cC : Addr
  cA : Addr
  cN : Addr

def Row.adr (r : Row) : List Addr := [r.inst, r.dct, r.cC, r.cA, r.cN]

inductive PV : Value → Option Nat → Prop
  | none : PV .none none
  | some (n : Nat) (t : Tok) : PV (.int (n : Int) t) (some n)

structure RTok where
  (k0 k1 k2 k3 k4 k5 k6 k7 k8 k9 k10 k11 k12 : Tok)
  v : Value
  pv : Value

def rowEs (P : Params) (t : RTok) (r : Row) : List DictEntry := [
  ⟨PyData.keyHash P (Str.ofString "kind"), .str (Str.ofString "kind") t.k0, .str r.kind t.k9⟩,
  ⟨PyData.keyHash P (Str.ofString "name"), .str (Str.ofString "name") t.k1, .str r.name t.k10⟩,
  ⟨PyData.keyHash P (Str.ofString "uri"), .str (Str.ofString "uri") t.k2, .str r.uri t.k11⟩,
  ⟨PyData.keyHash P (Str.ofString "local"), .str (Str.ofString "local") t.k3, .str r.loc t.k12⟩,
  ⟨PyData.keyHash P (Str.ofString "value"), .str (Str.ofString "value") t.k4, t.v⟩,
  ⟨PyData.keyHash P (Str.ofString "parent"), .str (Str.ofString "parent") t.k5, t.pv⟩,
  ⟨PyData.keyHash P (Str.ofString "children"), .str (Str.ofString "children") t.k6, .ref r.cC⟩,
  ⟨PyData.keyHash P (Str.ofString "attributes"), .str (Str.ofString "attributes") t.k7, .ref r.cA⟩,
  ⟨PyData.keyHash P (Str.ofString "namespaces"), .str (Str.ofString "namespaces") t.k8, .ref r.cN⟩]

structure Row.In (w : World) (news : Ldg) (r : Row) : Prop where
  inst : (r.inst, instObj 93 r.dct) ∈ news
  dct : ∃ t, PV t.pv r.par ∧ (r.dct, dictOf (rowEs w.params t r) 9) ∈ news
  ch : IL news r.cC r.ch
  atr : IL news r.cA r.atr
  nsp : IL news r.cN r.nsp

structure Tr where
  T : Addr
  dT : Addr
  R : Addr
  rows : List Row

def Tr.adr (t : Tr) : List Addr := t.T :: t.dT :: t.R :: t.rows.flatMap Row.adr

abbrev treeEs (P : Params) (k : Tok) (R : Addr) : List DictEntry := [⟨PyData.keyHash P (Str.ofString "rows"), .str (Str.ofString "rows") k, .ref R⟩]

structure Tr.In (w : World) (news : Ldg) (t : Tr) : Prop where
  inst : (t.T, instObj 282 t.dT) ∈ news
  dct : ∃ k, (t.dT, dictOf (treeEs w.params k t.R) 1) ∈ news
  lst : ∃ n, (t.R, listOf (t.rows.map fun r => Value.ref r.inst).toArray n) ∈ news
  rows : ∀ r ∈ t.rows, r.In w news
  few : t.rows.length ≤ 20
  apart : t.adr.Nodup

theorem row_map {rows : List Row} {k : Nat} {r : Row} (h : rows[k]? = some r) : (rows.map fun r => Value.ref r.inst)[k]? = some (.ref r.inst) := by simp [h]
theorem row_lt {α : Type} {xs : List α} {k : Nat} {x : α} (h : xs[k]? = some x) : k < xs.length := by
  rcases Nat.lt_or_ge k xs.length with h' | h'
  · exact h'
  · rw [List.getElem?_eq_none h'] at h; cases h
theorem row_mem {α : Type} {xs : List α} {k : Nat} {x : α} (h : xs[k]? = some x) : x ∈ xs := List.mem_of_getElem? h

-- rooms of a contract's inner calls
theorem my_sub {prog : Program} {w : World} {A : Around} {Q E : Value → Shared → Prop} {s : Shared} {value slice : PySem.Expr} {l : Addr} {k : Int} {u : Tok}
    (h : wpAny (model prog w) A (subscriptTail value slice (.ref l) (.int k u)) Q E s) : wpAny (model prog w) A (subscriptTail value slice (.ref l) (.int k u)) Q E s := h
local macro_rules | `(tactic| k_room) => `(tactic| ((try simp only [depth_under_make, depth_under_kw, depth_in1, depth_deeper, depth_caller]); first | walk_at "ROOMS" | omega))
local macro_rules | `(tactic| walk_at "ROOMS") => `(tactic| first | with_reducible exact room1 (by assumption) (by decide) | with_reducible exact room2 (by assumption) (by decide) | with_reducible exact room0 (by assumption))
local macro_rules | `(tactic| ktr_room) => `(tactic| first | walk_at "ROOMS" | omega)
local macro_rules | `(tactic| walk_at "MYROOM") => `(tactic| first | walk_at "ROOMS" | omega | ((try simp only [depth_under_make, depth_under_kw, depth_in1, depth_deeper, depth_caller, units_in1, units_deeper, Around.mark_units]); (try dsimp only [ktrTop]); omega))
local macro_rules | `(tactic| walk_at "MYMEM") => `(tactic| first | assumption | exact List.Mem.head _ | (refine List.mem_cons_of_mem _ ?_; walk_at "MYMEM") | (refine List.mem_append_right _ ?_; walk_at "MYMEM"))
local macro_rules | `(tactic| walk_at "call builtin:len") => `(tactic| (k_here; k_dflt (refine my_len (by k_asm) (by first | assumption | k_mem) (by first | assumption | omega | (simp only [List.length_map, List.length_append, List.length_cons, List.length_nil]; omega)) ?_; k_whole); (try simp only [List.length_map, List.length_append, List.length_cons, List.length_nil])))
local macro_rules | `(tactic| walk_at "subscriptTail") => `(tactic| (k_here; (with_reducible refine my_sub ?_); k_dflt (refine my_item (by k_asm) (by assumption) (by first | assumption | exact row_map (by assumption)) (by first | assumption | omega | (simp only [List.length_map]; omega)) ?_ (by with_unfolding_all rfl); k_whole)))

theorem row_does {w : World} {news : Ldg} {t : Tr} (I : t.In w news) {T : Addr} (hT : t.T = T) {k : Nat} {r : Row} (hr : t.rows[k]? = some r) (tk : Tok) :
    Does w (.ref 125) 1 [.ref T, .int (k : Int) tk] news (fun v news' => v = .ref r.inst ∧ news' = news) := by
  subst hT
  intro prog p loose mean mg mb dp un gd cn cs a ccd cl outer A₀ base h₀ L m s Q E B F X N TT hk hdp hun hret
  obtain ⟨h1, ⟨tk1, h2⟩, ⟨n3, h3⟩, hrows, hfew, -⟩ := I
  have hkl := row_lt hr
  refine wpAny_call ?_
  ktr_enter
  k_steps
  exact hret _ _ _ _ (by assumption) (by assumption) ⟨rfl, rfl⟩

local macro_rules | `(tactic| walk_at "MYCTX") => `(tactic| ((case B | F | X | N | T => k_asm); (case K => first | exact rfl | assumption); (try case D => walk_at "MYDOES"); (case d | u => walk_at "MYROOM")))
local macro_rules | `(tactic| walk_at "MYARG") => `(tactic| first | assumption | rfl | exact PV.none | exact PV.some _ _ | walk_at "MYIN")
local macro_rules | `(tactic| walk_at "MYARGS") => `(tactic| ((try case a => walk_at "MYARG"); (try case b => walk_at "MYARG"); (try case c => walk_at "MYARG"); (try case e => walk_at "MYARG"); (try case f => walk_at "MYARG"); (try case g => walk_at "MYARG"); (try case h => walk_at "MYARG"); (try case i => walk_at "MYARG"); (try case j => walk_at "MYARG"); done))
local macro_rules | `(tactic| walk_at "MYBACK") => `(tactic| first | (intro v' news' h' tk' F' N' P'; (first | ((first | obtain ⟨l', vs', n', e1, e2, hv', hl', lt'⟩ := P' | obtain ⟨l', vs', e1, e2, hv', hl', lt'⟩ := P'); subst e1; subst e2; have z' := NA.length hv') | (obtain ⟨e1, e2⟩ := P'; subst e1; have e3 := e2.symm; clear e2; subst e3) | (obtain ⟨⟨u', e1⟩, e2⟩ := P'; subst e1; have e3 := e2.symm; clear e2; subst e3) | (obtain ⟨e1, e2⟩ := P'; have e3 := e2.symm; clear e2; subst e3)); (try k_sweep); try dsimp only) | refine my_stop ?_)
local macro_rules | `(tactic| walk_at "call ref") => `(tactic| (k_here; k_dflt (refine' does_use ?D ?B ?F ?X ?N ?T ?K ?d ?u ?_; walk_at "MYCTX"); k_dflt (walk_at "MYBACK")))
local macro_rules | `(tactic| walk_at "MYDOES") => `(tactic| ((with_reducible refine' row_does ?a ?b ?c _); walk_at "MYARGS"))

local macro_rules | `(tactic| k_handed) => `(tactic| assumption)
theorem PV.handed {v : Value} {o : Option Nat} (h : PV v o) : handedIn v = true := by cases h <;> rfl

theorem kind_does {w : World} {news : Ldg} {t : Tr} (I : t.In w news) {T : Addr} (hT : t.T = T) {k : Nat} {r : Row} (hr : t.rows[k]? = some r) (tk : Tok) :
    Does w (.ref 202) 2 [.ref T, .int (k : Int) tk] news (fun v news' => (∃ u, v = .str r.kind u) ∧ news' = news) := by
  subst hT
  intro prog p loose mean mg mb dp un gd cn cs a ccd cl outer A₀ base h₀ L m s Q E B F X N TT hk hdp hun hret
  have h1 := I.inst
  obtain ⟨tk1, h2⟩ := I.dct
  obtain ⟨i1, ⟨rt, hpv, i2⟩, -, -, -⟩ := I.rows r (row_mem hr)
  refine wpAny_call ?_
  ktr_enter
  k_steps
  exact hret _ _ _ _ (by assumption) (by assumption) ⟨⟨_, rfl⟩, rfl⟩

theorem parent_does {w : World} {news : Ldg} {t : Tr} (I : t.In w news) {T : Addr} (hT : t.T = T) {k : Nat} {r : Row} (hr : t.rows[k]? = some r) (tk : Tok) :
    Does w (.ref 237) 2 [.ref T, .int (k : Int) tk] news (fun v news' => PV v r.par ∧ news' = news) := by
  subst hT
  intro prog p loose mean mg mb dp un gd cn cs a ccd cl outer A₀ base h₀ L m s Q E B F X N TT hk hdp hun hret
  have h1 := I.inst
  obtain ⟨tk1, h2⟩ := I.dct
  obtain ⟨i1, ⟨rt, hpv, i2⟩, -, -, -⟩ := I.rows r (row_mem hr)
  have hha := hpv.handed
  refine wpAny_call ?_
  ktr_enter
  k_steps
  exact hret _ _ _ _ (by assumption) (by assumption) ⟨hpv, rfl⟩


/-- what a call that copies a list of the tree's gives back -/
def Copied (ns : List Nat) (news : Ldg) (v : Value) (news' : Ldg) : Prop := ∃ l vs n, v = .ref l ∧ news' = (l, listOf vs.toArray n) :: news ∧ NA vs ns ∧ vs.length ≤ 100 ∧ ∀ p ∈ news, p.1 < l
theorem my_copy {prog : Program} {w : World} {A : Around} {E : Value → Shared → Prop} {s : Shared} {h₀ : Heap} {L l : Addr} {m : Str → Option Value} {news : Ldg} {vs : List Value} {n : Nat} {Q : Value → Shared → Prop} (F : Fr h₀ L s.heap m) (N : News h₀ L s.heap news)
    (hm : (l, listOf vs.toArray n) ∈ news) (hz : vs.length ≤ 100) (h : ∀ D c h', Fr h₀ L h' m → News h₀ L h' ((D, listOf vs.toArray c) :: news) → (∀ q ∈ news, q.1 < D) → Q (.ref D) { s with heap := h' }) :
    wpAny (model prog w) A (call (.type "list") [.ref l]) Q E s :=
  list_copyK F N (N.isList hm) h (by rw [List.size_toArray, sizeLine_eq]; omega)
local macro_rules | `(tactic| walk_at "call type:list") => `(tactic| (k_here; k_dflt (refine my_copy (by k_asm) (by k_asm) (by assumption) (by omega) ?_); intro D' c' h' F' N' l1; (try k_sweep)))

theorem children_does {w : World} {news : Ldg} {t : Tr} (I : t.In w news) {T : Addr} (hT : t.T = T) {k : Nat} {r : Row} (hr : t.rows[k]? = some r) (tk : Tok) :
    Does w (.ref 244) 2 [.ref T, .int (k : Int) tk] news (Copied r.ch news) := by
  subst hT
  intro prog p loose mean mg mb dp un gd cn cs a ccd cl outer A₀ base h₀ L m s Q E B F X N TT hk hdp hun hret
  have h1 := I.inst
  obtain ⟨tk1, h2⟩ := I.dct
  obtain ⟨i1, ⟨rt, hpv, i2⟩, ⟨vs, n, i3, hv, hvl⟩, -, -⟩ := I.rows r (row_mem hr)
  refine wpAny_call ?_
  ktr_enter
  k_steps
  exact hret _ _ _ _ (by assumption) (by assumption) ⟨_, _, _, rfl, rfl, hv, hvl, by assumption⟩

theorem attributes_does {w : World} {news : Ldg} {t : Tr} (I : t.In w news) {T : Addr} (hT : t.T = T) {k : Nat} {r : Row} (hr : t.rows[k]? = some r) (tk : Tok) :
    Does w (.ref 251) 2 [.ref T, .int (k : Int) tk] news (Copied r.atr news) := by
  subst hT
  intro prog p loose mean mg mb dp un gd cn cs a ccd cl outer A₀ base h₀ L m s Q E B F X N TT hk hdp hun hret
  have h1 := I.inst
  obtain ⟨tk1, h2⟩ := I.dct
  obtain ⟨i1, ⟨rt, hpv, i2⟩, -, ⟨vs, n, i3, hv, hvl⟩, -⟩ := I.rows r (row_mem hr)
  refine wpAny_call ?_
  ktr_enter
  k_steps
  exact hret _ _ _ _ (by assumption) (by assumption) ⟨_, _, _, rfl, rfl, hv, hvl, by assumption⟩

theorem namespaces_does {w : World} {news : Ldg} {t : Tr} (I : t.In w news) {T : Addr} (hT : t.T = T) {k : Nat} {r : Row} (hr : t.rows[k]? = some r) (tk : Tok) :
    Does w (.ref 258) 2 [.ref T, .int (k : Int) tk] news (Copied r.nsp news) := by
  subst hT
  intro prog p loose mean mg mb dp un gd cn cs a ccd cl outer A₀ base h₀ L m s Q E B F X N TT hk hdp hun hret
  have h1 := I.inst
  obtain ⟨tk1, h2⟩ := I.dct
  obtain ⟨i1, ⟨rt, hpv, i2⟩, -, -, ⟨vs, n, i3, hv, hvl⟩⟩ := I.rows r (row_mem hr)
  refine wpAny_call ?_
  ktr_enter
  k_steps
  exact hret _ _ _ _ (by assumption) (by assumption) ⟨_, _, _, rfl, rfl, hv, hvl, by assumption⟩


/-- news' is news with the object at d put anew (and nothing else changed; what stood nowhere in news may stand in news') -/
structure UpdTo (d : Addr) (o' : Obj) (news news' : Ldg) : Prop where
  self : (d, o') ∈ news'
  keep : ∀ p ∈ news, p.1 ≠ d → p ∈ news'
  addr : ∀ a, a ∈ news'.map (·.1) → a ∈ news.map (·.1)
theorem updL_to {d : Addr} {o o' : Obj} {news : Ldg} (hd : (d, o) ∈ news) : UpdTo d o' news (updL d o' news) := ⟨updL_self, fun _ h hne => updL_of h hne, updL_addr hd⟩

section
variable {prog : Program} {w : World} {A : Around} {E : Value → Shared → Prop} {s : Shared} {h₀ h : Heap} {L l : Addr} {m : Str → Option Value} {news : Ldg} {vs : List Value} {n : Nat} {Q : Value → Shared → Prop}
theorem my_append {x : Value} (F : Fr h₀ L s.heap m) (N : News h₀ L s.heap news) (hm : (l, listOf vs.toArray n) ∈ news) (hz : vs.length ≤ 1000)
    (h : ∀ h' news', Fr h₀ L h' m → News h₀ L h' news' → UpdTo l (listOf (vs ++ [x]).toArray (n + 1)) news news' → Q .none { s with heap := h' }) :
    wpAny (model prog w) A (call (.builtin "list.append") [.ref l, x]) Q E s := by
  have U : Upd l (listOf vs.toArray n) (listOf (vs.toArray.push x) (n + 1)) (offL l (listOf vs.toArray n) news) (updL l (listOf (vs ++ [x]).toArray (n + 1)) news) := by
    rw [List.push_toArray]; exact offL_upd
  exact append_K F (offL_news N hm) U (fun h' F' N' => h h' _ F' N' (updL_to hm)) (by rw [List.size_toArray, sizeLine_eq]; omega)
end

theorem Row.In.mono {w : World} {news news' : Ldg} {r : Row} (I : r.In w news) (k : ∀ p ∈ news, p.1 ∈ r.adr → p ∈ news') : r.In w news' := by
  obtain ⟨i1, ⟨t, hp, i2⟩, i3, i4, i5⟩ := I
  refine ⟨k _ i1 (by simp [Row.adr]), ⟨t, hp, k _ i2 (by simp [Row.adr])⟩, i3.mono fun o h => k _ h (by simp [Row.adr]), i4.mono fun o h => k _ h (by simp [Row.adr]), i5.mono fun o h => k _ h (by simp [Row.adr])⟩
theorem Row.In.has {w : World} {news : Ldg} {r : Row} (I : r.In w news) : ∀ a ∈ r.adr, ∃ o, (a, o) ∈ news := by
  obtain ⟨i1, ⟨t, hp, i2⟩, ⟨v3, n3, i3, -⟩, ⟨v4, n4, i4, -⟩, ⟨v5, n5, i5, -⟩⟩ := I
  intro a ha
  simp only [Row.adr, List.mem_cons, List.not_mem_nil, or_false] at ha
  rcases ha with rfl | rfl | rfl | rfl | rfl <;> exact ⟨_, by assumption⟩
theorem Tr.In.has {w : World} {news : Ldg} {t : Tr} (I : t.In w news) : ∀ a ∈ t.adr, ∃ o, (a, o) ∈ news := by
  intro a ha
  obtain ⟨i1, ⟨_, i2⟩, ⟨_, i3⟩, i4, -, -⟩ := I
  simp only [Tr.adr, List.mem_cons, List.mem_flatMap] at ha
  rcases ha with rfl | rfl | rfl | ⟨r, hr, ha⟩
  · exact ⟨_, i1⟩
  · exact ⟨_, i2⟩
  · exact ⟨_, i3⟩
  · exact (i4 r hr).has a ha
/-- the tree stands where all its objects are kept -/
theorem Tr.In.mono {w : World} {news news' : Ldg} {t : Tr} (I : t.In w news) (k : ∀ p ∈ news, p.1 ∈ t.adr → p ∈ news') : t.In w news' := by
  obtain ⟨i1, ⟨k2, i2⟩, ⟨k3, i3⟩, i4, i5, i6⟩ := I
  refine ⟨k _ i1 (by simp [Tr.adr]), ⟨k2, k _ i2 (by simp [Tr.adr])⟩, ⟨k3, k _ i3 (by simp [Tr.adr])⟩, fun r hr => (i4 r hr).mono fun p hp ha => k p hp ?_, i5, i6⟩
  simp only [Tr.adr, List.mem_cons, List.mem_flatMap]
  exact .inr (.inr (.inr ⟨r, hr, ha⟩))
theorem Tr.adr_grow (t : Tr) (row : Row) : ({ t with rows := t.rows ++ [row] } : Tr).adr = t.adr ++ row.adr := by
  simp [Tr.adr, List.flatMap_append]
theorem Tr.In.grow {w : World} {news news' : Ldg} {t : Tr} (I : t.In w news) {row : Row} {n : Nat} (hrow : row.In w news') (keep : ∀ p ∈ news, p.1 ≠ t.R → p ∈ news')
    (hR : (t.R, listOf ((t.rows.map fun r : Row => Value.ref r.inst) ++ [Value.ref row.inst]).toArray n) ∈ news') (fresh : ∀ a ∈ row.adr, ∀ p ∈ news, p.1 < a) (nd : row.adr.Nodup) (hlt : t.rows.length < 20) :
    ({ t with rows := t.rows ++ [row] } : Tr).In w news' := by
  have hh := I.has
  obtain ⟨i1, ⟨k2, i2⟩, ⟨k3, i3⟩, i4, i5, i6⟩ := I
  have nd' := i6
  simp only [Tr.adr, List.nodup_cons, List.mem_cons, not_or, List.mem_flatMap, not_exists, not_and] at nd'
  obtain ⟨⟨n1, n2, n3⟩, ⟨n4, n5⟩, n6, n7⟩ := nd'
  refine ⟨keep _ i1 n2, ⟨k2, keep _ i2 n4⟩, ⟨n, by simpa using hR⟩, ?_, by simp; omega, ?_⟩
  · intro r hr
    rcases List.mem_append.mp hr with hr | hr
    · exact (i4 r hr).mono fun p hp ha => keep p hp fun e => n6 r hr (e ▸ ha)
    · rw [List.mem_singleton.mp hr]; exact hrow
  · rw [Tr.adr_grow, List.nodup_append]
    refine ⟨i6, nd, fun a ha b hb e => ?_⟩
    obtain ⟨o, ho⟩ := hh a ha
    exact Nat.lt_irrefl _ (e ▸ fresh b hb _ ho)

/-- what a call that makes a row gives back -/
structure NewRow (w : World) (news : Ldg) (t : Tr) (kd nm ur lc : Str) (par : Option Nat) (row : Row) (news' : Ldg) : Prop where
  kind : row.kind = kd
  name : row.name = nm
  uri : row.uri = ur
  loc : row.loc = lc
  par : row.par = par
  ch : row.ch = []
  atr : row.atr = []
  nsp : row.nsp = []
  tree : ({ t with rows := t.rows ++ [row] } : Tr).In w news'
  keep : ∀ p ∈ news, p.1 ≠ t.R → p ∈ news'
  fresh : ∀ a ∈ row.adr, ∀ p ∈ news, p.1 < a

theorem ltAll_of {d : Nat} : ∀ {l : Ldg}, AllLt d l → ∀ p ∈ l, p.1 < d
  | [], _, _, hp => (nomatch hp)
  | q :: r, h, p, hp => by
    rcases List.mem_cons.mp hp with rfl | hp
    · exact h.1
    · exact ltAll_of h.2 p hp
theorem mkInt_eq {a b : Int} {t : Tok} (h : a = b) : Value.int a t = Value.int b t := by rw [h]

/-- what NodeRow(..) makes: its objects, the newest first -/
def rowLed (w : World) (t : RTok) (row : Row) : Ldg := [(row.cN, listOf #[] 0), (row.cA, listOf #[] 0), (row.cC, listOf #[] 0), (row.inst, instObj 93 row.dct), (row.dct, dictOf (rowEs w.params t row) 9)]
def RowApart (row : Row) (news : Ldg) : Prop := (∀ p ∈ news, p.1 < row.dct) ∧ @LT.lt Nat _ row.dct row.inst ∧ @LT.lt Nat _ row.inst row.cC ∧ @LT.lt Nat _ row.cC row.cA ∧ @LT.lt Nat _ row.cA row.cN
structure MadeRow (w : World) (news : Ldg) (kd nm ur lc : Str) (par : Option Nat) (v pv : Value) (t : RTok) (row : Row) (r : Value) (news' : Ldg) : Prop where
  ret : r = .ref row.inst
  led : news' = rowLed w t row ++ news
  apart : RowApart row news
  pv : t.pv = pv
  is : (row.kind, row.name, row.uri, row.loc, row.par, row.ch, row.atr, row.nsp) = (kd, nm, ur, lc, par, [], [], [])

theorem noderow_does {w : World} {news : Ldg} (kd nm ur lc : Str) (par : Option Nat) (v pv : Value) (t1 t2 t3 t4 : Tok) :
    Does w (.ref 93) 3 [.str kd t1, .str nm t2, .str ur t3, .str lc t4, v, pv] news (fun r news' => ∃ t row, MadeRow w news kd nm ur lc par v pv t row r news') := by
  intro prog p loose mean mg mb dp un gd cn cs a ccd cl outer A₀ base h₀ L m s Q E B F X N TT hk hdp hun hret
  refine' call_cls ?k1 ?k2 ?k3 ?k4 ?k5 ?k6 ?_
  (case k1 => k_asm)
  (case k2 => k_asm)
  (case k3 => k_asm)
  (case k4 => k_is)
  (case k5 => k_is)
  (case k6 => k_is)
  k_whole
  intro x' d' h' F' N' l1 l2
  (try k_lt l1); (try k_lt2 l2); (try k_sweep)
  ktr_enter
  k_steps
  refine hret (.ref _) _ _ _ (by assumption) (by assumption) ⟨⟨_, _, _, _, _, _, _, _, _, _, _, _, _, v, pv⟩, ⟨kd, nm, ur, lc, par, [], [], [], _, _, _, _, _⟩, rfl, rfl, ?_, rfl, rfl⟩
  refine ⟨by assumption, ?_, ?_, ?_, ?_⟩ <;> (dsimp only; omega)


local macro_rules | `(tactic| walk_at "MYIN") => `(tactic| exact Tr.In.mono (by assumption) (fun p hp _ => by walk_at "MYMEM"))
local macro_rules | `(tactic| walk_at "MYDOES") => `(tactic| ((with_reducible refine' noderow_does _ _ _ _ ?a _ _ _ _ _ _); walk_at "MYARGS"))
/-- a chain upward -/
noncomputable def UpFrom : Nat → List Nat → Prop
  | _, [] => True
  | a, b :: l => a < b ∧ UpFrom b l
theorem up_gt : ∀ (l : List Nat) (a : Nat), UpFrom a l → ∀ x ∈ l, a < x
  | b :: l, a, h, x, hx => by
    rcases List.mem_cons.mp hx with rfl | hx
    · exact h.1
    · exact Nat.lt_trans h.1 (up_gt l b h.2 x hx)
theorem up_nodup : ∀ (l : List Nat) (a : Nat), UpFrom a l → (a :: l).Nodup
  | [], a, _ => by simp
  | b :: l, a, h => List.nodup_cons.mpr ⟨fun hx => Nat.lt_irrefl _ (up_gt (b :: l) a h a hx), up_nodup l b h.2⟩
theorem RowApart.fresh {row : Row} {news : Ldg} (h : RowApart row news) : ∀ a ∈ row.adr, ∀ p ∈ news, p.1 < a := by
  obtain ⟨h1, h2, h3, h4, h5⟩ := h
  intro a ha p hp
  exact up_gt [row.dct, row.inst, row.cC, row.cA, row.cN] p.1 ⟨h1 p hp, h2, h3, h4, h5, trivial⟩ a ((List.Perm.swap row.dct row.inst [row.cC, row.cA, row.cN]).mem_iff.mp ha)
theorem RowApart.nodup {row : Row} {news : Ldg} (h : RowApart row news) : row.adr.Nodup := by
  obtain ⟨h1, h2, h3, h4, h5⟩ := h
  exact (List.Perm.swap row.dct row.inst [row.cC, row.cA, row.cN]).nodup_iff.mpr (up_nodup [row.inst, row.cC, row.cA, row.cN] row.dct ⟨h2, h3, h4, h5, trivial⟩)

theorem new_row_does {w : World} {news : Ldg} {t : Tr} (I : t.In w news) {T : Addr} (hT : t.T = T) (kd nm ur lc : Str) (par : Option Nat) (v pv : Value) (hpv : PV pv par) (t1 t2 t3 t4 : Tok) (hlt : t.rows.length < 20) :
    Does w (.ref 118) 4 [.ref T, .str kd t1, .str nm t2, .str ur t3, .str lc t4, v, pv] news (fun r news' => ∃ row, (∃ u, r = .int (t.rows.length : Int) u) ∧ NewRow w news t kd nm ur lc par row news') := by
  subst hT
  intro prog p loose mean mg mb dp un gd cn cs a ccd cl outer A₀ base h₀ L m s Q E B F X N TT hk hdp hun hret
  have h1 := I.inst
  obtain ⟨tk1, h2⟩ := I.dct
  obtain ⟨n3, h3⟩ := I.lst
  have nd' := I.apart
  simp only [Tr.adr, List.nodup_cons, List.mem_cons, not_or, List.mem_flatMap, not_exists, not_and] at nd'
  obtain ⟨⟨n1, n2, -⟩, ⟨n4, -⟩, n6, -⟩ := nd'
  refine wpAny_call ?_
  ktr_enter
  k_steps
  refine stop ?_
  rintro v1 news1 h1' tk1' F1 N1 ⟨rt, row, e1, e2, hap, e3, e4⟩
  simp only [Prod.mk.injEq] at e4
  obtain ⟨k1, k2, k3, k4, k5, k6, k7, k8⟩ := e4
  subst e1
  have hfr := hap.fresh
  have hnd := hap.nodup
  have keep1 : ∀ p ∈ news, p ∈ news1 := fun p hp => by rw [e2]; exact List.mem_append_right _ hp
  have g1 : ∀ p ∈ rowLed w rt row, p ∈ news1 := fun p hp => by rw [e2]; exact List.mem_append_left _ hp
  have hR1 := keep1 _ h3
  clear e2
  k_steps
  refine my_append (by assumption) N1 hR1 (by simp; omega) ?_
  intro h5 news5 F5 N5 U
  have u1 := U.self
  have u2 := U.keep _ (keep1 _ h1) n2
  have u3 := U.keep _ (keep1 _ h2) n4
  k_steps
  have off : ∀ q ∈ rowLed w rt row, q.1 ≠ t.R := fun q hq e => Nat.lt_irrefl _ (e ▸ hfr q.1 (by
    simp only [rowLed, List.mem_cons, List.not_mem_nil, or_false] at hq
    simp only [Row.adr, List.mem_cons, List.not_mem_nil, or_false]
    rcases hq with rfl | rfl | rfl | rfl | rfl <;> simp) _ h3)
  have g2 : ∀ p ∈ rowLed w rt row, p ∈ news5 := fun p hp => U.keep p (g1 p hp) (off p hp)
  refine hret _ _ _ _ (by assumption) (by assumption) ⟨row, ⟨_, mkInt_eq (by simp)⟩, k1, k2, k3, k4, k5, k6, k7, k8, ?_, fun p hp hne => U.keep p (keep1 p hp) hne, hfr⟩
  refine I.grow (n := n3 + 1) ⟨g2 _ (by simp [rowLed]), ⟨rt, by rw [e3, k5]; exact hpv, g2 _ (by simp [rowLed])⟩, ⟨[], 0, g2 _ (by simp [rowLed]), by rw [k6]; exact .nil, by simp⟩, ⟨[], 0, g2 _ (by simp [rowLed]), by rw [k7]; exact .nil, by simp⟩, ⟨[], 0, g2 _ (by simp [rowLed]), by rw [k8]; exact .nil, by simp⟩⟩ (fun p hp hne => U.keep p (keep1 p hp) hne) U.self hfr hnd hlt

section
variable {prog : Program} {w : World} {A : Around} {E : Value → Shared → Prop} {s : Shared} {h₀ : Heap} {L t : Addr} {m : Str → Option Value} {K : Frag} {items : Array Value} {n : Nat} {Q : Value → Shared → Prop}
def strIn (k : Str) : Value → Bool
  | .str a _ => a == k
  | _ => false
theorem my_notin {k : Str} {u : Tok} {b : Bool} (F : Fr h₀ L s.heap m) (X : K.In h₀) (ho : K.lookup t = some { cls := .type "tuple", dict := none, data := .seq items n, slots := #[] })
    (hs : ∀ y ∈ items.toList, ∃ a v, y = .str a v) (hb : (!items.toList.any (strIn k)) = b) (h : Q (.bool b) s) : wpAny (model prog w) A (compareOp .NotIn (.str k u) (.ref t)) Q E s := by
  refine PySem.SeqAt.notIn_tupleAt (strIn k) (kun_topT F X ho) (fun y hy => ?_) ?_
  · obtain ⟨a, v, rfl⟩ := hs y (by simpa using hy)
    exact PySem.SeqAt.EqAt.str_str a v k u
  · rw [← Array.any_toList, hb]; exact h
end
theorem notin75 {prog : Program} {w : World} {A : Around} {E : Value → Shared → Prop} {s : Shared} {h₀ : Heap} {L : Addr} {m : Str → Option Value} {Q : Value → Shared → Prop}
   {k : Str} {u : Tok} (F : Fr h₀ L s.heap m) (X : (hd.heap_1 w.params).In h₀) (hk : k = Str.ofString "root" ∨ k = Str.ofString "element") (h : Q (.bool false) s) : wpAny (model prog w) A (compareOp .NotIn (.str k u) (.ref 75)) Q E s := by
  refine my_notin F X (by k_is) (fun y hy => ?_) ?_ h
  · simp only [List.mem_cons, List.not_mem_nil, or_false] at hy
    rcases hy with rfl | rfl <;> exact ⟨_, _, rfl⟩
  · rcases hk with rfl | rfl <;> decide +kernel
theorem notin76 {prog : Program} {w : World} {A : Around} {E : Value → Shared → Prop} {s : Shared} {h₀ : Heap} {L : Addr} {m : Str → Option Value} {Q : Value → Shared → Prop}
   {k : Str} {u : Tok} (F : Fr h₀ L s.heap m) (X : (hd.heap_1 w.params).In h₀) (hk : k = Str.ofString "element" ∨ k = Str.ofString "text") (h : Q (.bool false) s) : wpAny (model prog w) A (compareOp .NotIn (.str k u) (.ref 76)) Q E s := by
  refine my_notin F X (by k_is) (fun y hy => ?_) ?_ h
  · simp only [List.mem_cons, List.not_mem_nil, or_false] at hy
    rcases hy with rfl | rfl | rfl | rfl <;> exact ⟨_, _, rfl⟩
  · rcases hk with rfl | rfl <;> decide +kernel
local macro_rules | `(tactic| walk_at "compareOp NotIn str ref") => `(tactic| (k_here; k_dflt (first | refine notin75 (by k_asm) (by k_asm) (by assumption) ?_ | refine notin76 (by k_asm) (by k_asm) (by assumption) ?_)))

theorem flat_set {α β : Type} (f : α → List β) : ∀ {xs : List α} {p : Nat} {x y : α}, xs[p]? = some x → f y = f x → (xs.set p y).flatMap f = xs.flatMap f
  | [], _, _, _, h, _ => by cases h
  | z :: xs, 0, x, y, h, e => by
    simp at h; subst h
    simp [e]
  | z :: xs, p + 1, x, y, h, e => by
    simp at h
    simp [flat_set f h e]
theorem map_set_same {α β : Type} (f : α → β) : ∀ {xs : List α} {p : Nat} {x y : α}, xs[p]? = some x → f y = f x → (xs.set p y).map f = xs.map f
  | [], _, _, _, h, _ => by cases h
  | z :: xs, 0, x, y, h, e => by
    simp at h; subst h
    simp [e]
  | z :: xs, p + 1, x, y, h, e => by
    simp at h
    simp [map_set_same f h e]
/-- in a list of which all images are apart, the image of the one row holds nothing of another place's -/
theorem flat_apart {α β : Type} (f : α → List β) {xs : List α} (nd : (xs.flatMap f).Nodup) {p : Nat} {x y z : α} (hx : xs[p]? = some x) (hy : z ∈ xs.set p y) {d : β} (hd : d ∈ f x) : z = y ∨ (z ∈ xs ∧ d ∉ f z) := by
  induction xs generalizing p with
  | nil => cases hx
  | cons a xs ih =>
    simp only [List.flatMap_cons, List.nodup_append] at nd
    cases p with
    | zero =>
      simp at hx; subst hx
      rcases List.mem_cons.mp hy with rfl | hz
      · exact .inl rfl
      · exact .inr ⟨.tail _ hz, fun h => nd.2.2 d hd d (List.mem_flatMap.mpr ⟨z, hz, h⟩) rfl⟩
    | succ p =>
      simp at hx hy
      rcases hy with rfl | hz
      · exact .inr ⟨.head _, fun h => nd.2.2 d h d (List.mem_flatMap.mpr ⟨x, List.mem_of_getElem? hx, hd⟩) rfl⟩
      · rcases ih nd.2.1 hx hz with h | h
        · exact .inl h
        · exact .inr ⟨.tail _ h.1, h.2⟩

/-- the tree with the row p put anew -/
def Tr.put (t : Tr) (p : Nat) (r : Row) : Tr := { t with rows := t.rows.set p r }
theorem Tr.put_adr {t : Tr} {p : Nat} {r r' : Row} (hr : t.rows[p]? = some r) (e : r'.adr = r.adr) : (t.put p r').adr = t.adr := by
  simp only [Tr.adr, Tr.put, flat_set Row.adr hr e]
theorem Tr.In.put {w : World} {news news' : Ldg} {t : Tr} (I : t.In w news) {p : Nat} {r r' : Row} {d : Addr} (hr : t.rows[p]? = some r) (hd : d ∈ r.adr) (e : r'.adr = r.adr) (h' : r'.In w news') (keep : ∀ q ∈ news, q.1 ≠ d → q ∈ news') :
    (t.put p r').In w news' := by
  have hadr := Tr.put_adr hr e
  obtain ⟨i1, ⟨k2, i2⟩, ⟨k3, i3⟩, i4, i5, i6⟩ := I
  have nd' := i6
  simp only [Tr.adr, List.nodup_cons, List.mem_cons, not_or, List.mem_flatMap, not_exists, not_and] at nd'
  obtain ⟨⟨n1, n2, n3⟩, ⟨n4, n5⟩, n6, n7⟩ := nd'
  have hm := row_mem hr
  have ei : r'.inst = r.inst := by simp [Row.adr] at e; exact e.1
  refine ⟨keep _ i1 fun q => n3 r hm (by have e : t.T = d := q; rw [e]; exact hd), ⟨k2, keep _ i2 fun q => n5 r hm (by have e : t.dT = d := q; rw [e]; exact hd)⟩, ⟨k3, ?_⟩, ?_, by simp [Tr.put]; exact i5, by rw [hadr]; exact i6⟩
  · have := keep _ i3 fun q => n6 r hm (by have e : t.R = d := q; rw [e]; exact hd)
    rw [← map_set_same (fun r : Row => Value.ref r.inst) hr (y := r') (by simp [ei])] at this
    exact this
  · intro r2 hr2
    rcases flat_apart Row.adr n7 hr hr2 hd with rfl | ⟨h1, h2⟩
    · exact h'
    · exact (i4 r2 h1).mono fun q hq ha => keep q hq fun e => h2 (e ▸ ha)
theorem Row.apart {t : Tr} (nd : t.adr.Nodup) {p : Nat} {r : Row} (hr : t.rows[p]? = some r) : r.adr.Nodup := by
  simp only [Tr.adr, List.nodup_cons] at nd
  have h := nd.2.2.2
  clear nd
  generalize t.rows = xs at h hr
  induction xs generalizing p with
  | nil => cases hr
  | cons a xs ih =>
    simp only [List.flatMap_cons, List.nodup_append] at h
    cases p with
    | zero => simp at hr; subst hr; exact h.1
    | succ p =>
      simp at hr
      have h2 := h.2.1
      exact ih (p := p) (by assumption) (by assumption)

theorem Tr.In.setCh {w : World} {news news' : Ldg} {t : Tr} (I : t.In w news) {p : Nat} {r : Row} (hr : t.rows[p]? = some r) {vs : List Value} {n : Nat} {ns : List Nat} (U : UpdTo r.cC (listOf vs.toArray n) news news') (hv : NA vs ns) (hl : vs.length ≤ 100) :
    (t.put p { r with ch := ns }).In w news' := by
  have nd := Row.apart I.apart hr
  simp only [Row.adr, List.nodup_cons, List.mem_cons, List.not_mem_nil, or_false, not_or, not_false_eq_true, List.nodup_nil, and_true] at nd
  obtain ⟨⟨n1, n2, n3, n4⟩, ⟨n5, n6, n7⟩, ⟨n8, n9⟩, n10⟩ := nd
  obtain ⟨i1, ⟨tk, hp, i2⟩, i3, i4, i5⟩ := I.rows r (row_mem hr)
  refine I.put hr (d := r.cC) (by simp [Row.adr]) rfl ⟨U.keep _ i1 n2, ⟨tk, hp, U.keep _ i2 n5⟩, ⟨vs, n, U.self, hv, hl⟩, i4.mono fun o h => U.keep _ h (Ne.symm n8), i5.mono fun o h => U.keep _ h (Ne.symm n9)⟩ U.keep
theorem Tr.In.setAtr {w : World} {news news' : Ldg} {t : Tr} (I : t.In w news) {p : Nat} {r : Row} (hr : t.rows[p]? = some r) {vs : List Value} {n : Nat} {ns : List Nat} (U : UpdTo r.cA (listOf vs.toArray n) news news') (hv : NA vs ns) (hl : vs.length ≤ 100) :
    (t.put p { r with atr := ns }).In w news' := by
  have nd := Row.apart I.apart hr
  simp only [Row.adr, List.nodup_cons, List.mem_cons, List.not_mem_nil, or_false, not_or, not_false_eq_true, List.nodup_nil, and_true] at nd
  obtain ⟨⟨n1, n2, n3, n4⟩, ⟨n5, n6, n7⟩, ⟨n8, n9⟩, n10⟩ := nd
  obtain ⟨i1, ⟨tk, hp, i2⟩, i3, i4, i5⟩ := I.rows r (row_mem hr)
  refine I.put hr (d := r.cA) (by simp [Row.adr]) rfl ⟨U.keep _ i1 n3, ⟨tk, hp, U.keep _ i2 n6⟩, i3.mono fun o h => U.keep _ h n8, ⟨vs, n, U.self, hv, hl⟩, i5.mono fun o h => U.keep _ h (Ne.symm n10)⟩ U.keep
theorem Tr.In.setNsp {w : World} {news news' : Ldg} {t : Tr} (I : t.In w news) {p : Nat} {r : Row} (hr : t.rows[p]? = some r) {vs : List Value} {n : Nat} {ns : List Nat} (U : UpdTo r.cN (listOf vs.toArray n) news news') (hv : NA vs ns) (hl : vs.length ≤ 100) :
    (t.put p { r with nsp := ns }).In w news' := by
  have nd := Row.apart I.apart hr
  simp only [Row.adr, List.nodup_cons, List.mem_cons, List.not_mem_nil, or_false, not_or, not_false_eq_true, List.nodup_nil, and_true] at nd
  obtain ⟨⟨n1, n2, n3, n4⟩, ⟨n5, n6, n7⟩, ⟨n8, n9⟩, n10⟩ := nd
  obtain ⟨i1, ⟨tk, hp, i2⟩, i3, i4, i5⟩ := I.rows r (row_mem hr)
  refine I.put hr (d := r.cN) (by simp [Row.adr]) rfl ⟨U.keep _ i1 n4, ⟨tk, hp, U.keep _ i2 n7⟩, i3.mono fun o h => U.keep _ h n9, i4.mono fun o h => U.keep _ h n10, ⟨vs, n, U.self, hv, hl⟩⟩ U.keep
theorem Tr.In.setPar {w : World} {news news' : Ldg} {t : Tr} (I : t.In w news) {p : Nat} {r : Row} (hr : t.rows[p]? = some r) {rt : RTok} {par : Option Nat} (U : UpdTo r.dct (dictOf (rowEs w.params rt r) 9) news news') (hp : PV rt.pv par) :
    (t.put p { r with par := par }).In w news' := by
  have nd := Row.apart I.apart hr
  simp only [Row.adr, List.nodup_cons, List.mem_cons, List.not_mem_nil, or_false, not_or, not_false_eq_true, List.nodup_nil, and_true] at nd
  obtain ⟨⟨n1, n2, n3, n4⟩, ⟨n5, n6, n7⟩, ⟨n8, n9⟩, n10⟩ := nd
  obtain ⟨i1, ⟨tk, _, i2⟩, i3, i4, i5⟩ := I.rows r (row_mem hr)
  refine I.put hr (d := r.dct) (by simp [Row.adr]) rfl ⟨U.keep _ i1 n1, ⟨rt, hp, U.self⟩, i3.mono fun o h => U.keep _ h (Ne.symm n5), i4.mono fun o h => U.keep _ h (Ne.symm n6), i5.mono fun o h => U.keep _ h (Ne.symm n7)⟩ U.keep

def Tr.add (t : Tr) (row : Row) : Tr := { t with rows := t.rows ++ [row] }
/-- what a call that makes a row and hangs it somewhere leaves -/
structure Grown (w : World) (news : Ldg) (t : Tr) (kd nm ur lc : Str) (par : Option Nat) (row : Row) (t' : Tr) (news' : Ldg) : Prop where
  is : (row.kind, row.name, row.uri, row.loc, row.par, row.ch, row.atr, row.nsp) = (kd, nm, ur, lc, par, [], [], [])
  tree : t'.In w news'
  keep : ∀ q ∈ news, q.1 ∉ t.adr → q ∈ news'
  fresh : ∀ a ∈ row.adr, ∀ q ∈ news, q.1 < a
theorem Tr.R_adr (t : Tr) : t.R ∈ t.adr := by simp [Tr.adr]
theorem NewRow.grown {w : World} {news : Ldg} {t : Tr} {kd nm ur lc : Str} {par : Option Nat} {row : Row} {news' : Ldg} (h : NewRow w news t kd nm ur lc par row news') : Grown w news t kd nm ur lc par row (t.add row) news' :=
  ⟨by rw [h.kind, h.name, h.uri, h.loc, h.par, h.ch, h.atr, h.nsp], h.tree, fun q hq ha => h.keep q hq fun e => ha (e ▸ t.R_adr), h.fresh⟩
theorem add_get {t : Tr} {row r : Row} {k : Nat} (h : t.rows[k]? = some r) : (t.add row).rows[k]? = some r := by
  simp only [Tr.add, List.getElem?_append_left (row_lt h), h]
theorem add_last {t : Tr} {row : Row} : (t.add row).rows[t.rows.length]? = some row := by simp [Tr.add]
theorem row_in_adr {t : Tr} {k : Nat} {r : Row} (h : t.rows[k]? = some r) {a : Addr} (ha : a ∈ r.adr) : a ∈ t.adr := by
  simp only [Tr.adr, List.mem_cons, List.mem_flatMap]
  exact .inr (.inr (.inr ⟨r, row_mem h, ha⟩))

local macro_rules | `(tactic| walk_at "MYDOES") => `(tactic| ((with_reducible refine' new_row_does ?a ?b _ _ _ _ _ _ _ ?c _ _ _ _ ?e); walk_at "MYARGS"))

theorem new_root_does {w : World} {news : Ldg} {t : Tr} (I : t.In w news) {T : Addr} (hT : t.T = T) (hlt : t.rows.length < 20) :
    Does w (.ref 132) 5 [.ref T] news (fun r news' => ∃ row, (∃ u, r = .int (t.rows.length : Int) u) ∧ Grown w news t (Str.ofString "root") (Str.ofString "") (Str.ofString "") (Str.ofString "") none row (t.add row) news') := by
  subst hT
  intro prog p loose mean mg mb dp un gd cn cs a ccd cl outer A₀ base h₀ L m s Q E B F X N TT hk hdp hun hret
  have h1 := I.inst
  obtain ⟨tk1, h2⟩ := I.dct
  refine wpAny_call ?_
  ktr_enter
  k_steps
  refine stop ?_
  rintro v1 news1 h1' tk1' F1 N1 ⟨row, ⟨u, rfl⟩, G⟩
  clear I h2
  k_steps
  exact hret _ _ _ _ (by assumption) (by assumption) ⟨row, ⟨_, rfl⟩, G.grown⟩

theorem add_child_none_does {w : World} {news : Ldg} {t : Tr} (I : t.In w news) {T : Addr} (hT : t.T = T) (hlt : t.rows.length < 20) (kd nm ur lc : Str) (v : Value) (t1 t2 t3 t4 : Tok) :
    Does w (.ref 139) 5 [.ref T, .none, .str kd t1, .str nm t2, .str ur t3, .str lc t4, v] news (fun r news' => ∃ row, (∃ u, r = .int (t.rows.length : Int) u) ∧ Grown w news t kd nm ur lc none row (t.add row) news') := by
  subst hT
  intro prog p loose mean mg mb dp un gd cn cs a ccd cl outer A₀ base h₀ L m s Q E B F X N TT hk hdp hun hret
  have h1 := I.inst
  obtain ⟨tk1, h2⟩ := I.dct
  refine wpAny_call ?_
  ktr_enter
  k_steps
  refine stop ?_
  rintro v1 news1 h1' tk1' F1 N1 ⟨row, ⟨u, rfl⟩, G⟩
  k_steps
  exact hret _ _ _ _ (by assumption) (by assumption) ⟨row, ⟨_, rfl⟩, G.grown⟩

theorem add_child_does {w : World} {news : Ldg} {t : Tr} (I : t.In w news) {T : Addr} (hT : t.T = T) (hlt : t.rows.length < 20) {k : Nat} {rp : Row} (hr : t.rows[k]? = some rp) (hkd : rp.kind = Str.ofString "root" ∨ rp.kind = Str.ofString "element") (hfew : rp.ch.length < 90)
    (kd nm ur lc : Str) (v : Value) (tk t1 t2 t3 t4 : Tok) :
    Does w (.ref 139) 5 [.ref T, .int (k : Int) tk, .str kd t1, .str nm t2, .str ur t3, .str lc t4, v] news
      (fun r news' => ∃ row, (∃ u, r = .int (t.rows.length : Int) u) ∧ Grown w news t kd nm ur lc (some k) row ((t.add row).put k { rp with ch := rp.ch ++ [t.rows.length] }) news') := by
  subst hT
  intro prog p loose mean mg mb dp un gd cn cs a ccd cl outer A₀ base h₀ L m s Q E B F X N TT hk hdp hun hret
  have h1 := I.inst
  obtain ⟨tk1, h2⟩ := I.dct
  obtain ⟨i1, ⟨rt, hpv, i2⟩, -, -, -⟩ := I.rows rp (row_mem hr)
  refine wpAny_call ?_
  ktr_enter
  k_steps
  refine stop ?_
  rintro v1 news1 h1' tk1' F1 N1 ⟨row, ⟨u, rfl⟩, G⟩
  clear h1 h2 i1 i2
  have I1 : (t.add row).In w news1 := G.tree
  have hr1 : (t.add row).rows[k]? = some rp := add_get hr
  have h1 : (t.T, instObj 282 t.dT) ∈ news1 := I1.inst
  obtain ⟨tk2, h2⟩ := I1.dct
  replace h2 : (t.dT, dictOf (treeEs w.params tk2 t.R) 1) ∈ news1 := h2
  obtain ⟨n3, h3⟩ := I1.lst
  replace h3 : (t.R, listOf ((t.add row).rows.map fun r => Value.ref r.inst).toArray n3) ∈ news1 := h3
  obtain ⟨i1, ⟨rt1, hpv1, i2⟩, ⟨vs, n4, i3, hv, hvl⟩, -, -⟩ := I1.rows rp (row_mem hr1)
  have hfew1 : (t.add row).rows.length ≤ 20 := I1.few
  k_steps
  have hvz := hv.length
  refine my_append (by assumption) (by assumption) i3 (by omega) ?_
  intro h5 news5 F5 N5 U
  k_steps
  have I2 := I1.setCh hr1 U (hv.snoc t.rows.length u) (by simp; omega)
  refine hret _ _ _ _ (by assumption) (by assumption) ⟨row, ⟨_, rfl⟩, G.grown.is, I2, ?_, G.fresh⟩
  intro q hq ha
  refine U.keep q (G.grown.keep q hq ha) fun e => ha ?_
  rw [e]
  exact row_in_adr hr (by simp [Row.adr])

local macro_rules | `(tactic| walk_at "MYDOES") => `(tactic| ((with_reducible refine' add_child_does ?a ?b ?c ?e ?f ?g _ _ _ _ _ _ _ _ _ _); walk_at "MYARGS"))
local macro_rules | `(tactic| walk_at "MYDOES") => `(tactic| ((with_reducible refine' add_child_none_does ?a ?b ?c _ _ _ _ _ _ _ _ _); walk_at "MYARGS"))

theorem add_element_none_does {w : World} {news : Ldg} {t : Tr} (I : t.In w news) {T : Addr} (hT : t.T = T) (hlt : t.rows.length < 20) (nm ur lc : Str) (t2 t3 t4 : Tok) :
    Does w (.ref 146) 6 [.ref T, .none, .str nm t2, .str ur t3, .str lc t4] news (fun r news' => ∃ row, (∃ u, r = .int (t.rows.length : Int) u) ∧ Grown w news t (Str.ofString "element") nm ur lc none row (t.add row) news') := by
  subst hT
  intro prog p loose mean mg mb dp un gd cn cs a ccd cl outer A₀ base h₀ L m s Q E B F X N TT hk hdp hun hret
  have h1 := I.inst
  obtain ⟨tk1, h2⟩ := I.dct
  refine wpAny_call ?_
  ktr_enter
  k_steps
  refine stop ?_
  rintro v1 news1 h1' tk1' F1 N1 ⟨row, ⟨u, rfl⟩, G⟩
  k_steps
  exact hret _ _ _ _ (by assumption) (by assumption) ⟨row, ⟨_, rfl⟩, G⟩

theorem add_text_none_does {w : World} {news : Ldg} {t : Tr} (I : t.In w news) {T : Addr} (hT : t.T = T) (hlt : t.rows.length < 20) (v : Str) (t2 : Tok) :
    Does w (.ref 153) 6 [.ref T, .none, .str v t2] news (fun r news' => ∃ row, (∃ u, r = .int (t.rows.length : Int) u) ∧ Grown w news t (Str.ofString "text") (Str.ofString "") (Str.ofString "") (Str.ofString "") none row (t.add row) news') := by
  subst hT
  intro prog p loose mean mg mb dp un gd cn cs a ccd cl outer A₀ base h₀ L m s Q E B F X N TT hk hdp hun hret
  have h1 := I.inst
  obtain ⟨tk1, h2⟩ := I.dct
  refine wpAny_call ?_
  ktr_enter
  k_steps
  refine stop ?_
  rintro v1 news1 h1' tk1' F1 N1 ⟨row, ⟨u, rfl⟩, G⟩
  k_steps
  exact hret _ _ _ _ (by assumption) (by assumption) ⟨row, ⟨_, rfl⟩, G⟩

theorem add_element_does {w : World} {news : Ldg} {t : Tr} (I : t.In w news) {T : Addr} (hT : t.T = T) (hlt : t.rows.length < 20) {k : Nat} {rp : Row} (hr : t.rows[k]? = some rp) (hkd : rp.kind = Str.ofString "root" ∨ rp.kind = Str.ofString "element") (hfew : rp.ch.length < 90)
    (nm ur lc : Str) (tk t2 t3 t4 : Tok) :
    Does w (.ref 146) 6 [.ref T, .int (k : Int) tk, .str nm t2, .str ur t3, .str lc t4] news
      (fun r news' => ∃ row, (∃ u, r = .int (t.rows.length : Int) u) ∧ Grown w news t (Str.ofString "element") nm ur lc (some k) row ((t.add row).put k { rp with ch := rp.ch ++ [t.rows.length] }) news') := by
  subst hT
  intro prog p loose mean mg mb dp un gd cn cs a ccd cl outer A₀ base h₀ L m s Q E B F X N TT hk hdp hun hret
  have h1 := I.inst
  obtain ⟨tk1, h2⟩ := I.dct
  refine wpAny_call ?_
  ktr_enter
  k_steps
  refine stop ?_
  rintro v1 news1 h1' tk1' F1 N1 ⟨row, ⟨u, rfl⟩, G⟩
  k_steps
  exact hret _ _ _ _ (by assumption) (by assumption) ⟨row, ⟨_, rfl⟩, G⟩

theorem add_text_does {w : World} {news : Ldg} {t : Tr} (I : t.In w news) {T : Addr} (hT : t.T = T) (hlt : t.rows.length < 20) {k : Nat} {rp : Row} (hr : t.rows[k]? = some rp) (hkd : rp.kind = Str.ofString "root" ∨ rp.kind = Str.ofString "element") (hfew : rp.ch.length < 90)
    (v : Str) (tk t2 : Tok) :
    Does w (.ref 153) 6 [.ref T, .int (k : Int) tk, .str v t2] news
      (fun r news' => ∃ row, (∃ u, r = .int (t.rows.length : Int) u) ∧ Grown w news t (Str.ofString "text") (Str.ofString "") (Str.ofString "") (Str.ofString "") (some k) row ((t.add row).put k { rp with ch := rp.ch ++ [t.rows.length] }) news') := by
  subst hT
  intro prog p loose mean mg mb dp un gd cn cs a ccd cl outer A₀ base h₀ L m s Q E B F X N TT hk hdp hun hret
  have h1 := I.inst
  obtain ⟨tk1, h2⟩ := I.dct
  refine wpAny_call ?_
  ktr_enter
  k_steps
  refine stop ?_
  rintro v1 news1 h1' tk1' F1 N1 ⟨row, ⟨u, rfl⟩, G⟩
  k_steps
  exact hret _ _ _ _ (by assumption) (by assumption) ⟨row, ⟨_, rfl⟩, G⟩

section
variable {prog : Program} {w : World} {A : Around} {E : Value → Shared → Prop} {s : Shared} {Q : Value → Shared → Prop} {x y : Str} {t u : Tok}
theorem my_eqT (e : x = y) (h : Q (.bool true) s) : wpAny (model prog w) A (compareOp .Eq (.str x t) (.str y u)) Q E s := PyProof.Rows.eq_str (by rw [e, beq_self_eq_true]; exact h)
theorem my_eqF (e : x ≠ y) (h : Q (.bool false) s) : wpAny (model prog w) A (compareOp .Eq (.str x t) (.str y u)) Q E s := PyProof.Rows.eq_str (by rw [beq_eq_false_iff_ne.mpr e]; exact h)
theorem my_neT (e : x ≠ y) (h : Q (.bool true) s) : wpAny (model prog w) A (compareOp .NotEq (.str x t) (.str y u)) Q E s := PyProof.Rows.ne_str (by rw [bne_iff_ne.mpr e]; exact h)
theorem my_neF (e : x = y) (h : Q (.bool false) s) : wpAny (model prog w) A (compareOp .NotEq (.str x t) (.str y u)) Q E s := PyProof.Rows.ne_str (by rw [e, bne_self_eq_false]; exact h)
end
local macro_rules | `(tactic| walk_at "compareOp Eq str str") => `(tactic| (k_dflt (first | refine my_eqT (by with_reducible assumption) ?_ | refine my_eqF (by with_reducible assumption) ?_)))
local macro_rules | `(tactic| walk_at "compareOp NotEq str str") => `(tactic| (k_dflt (first | refine my_neF (by with_reducible assumption) ?_ | refine my_neT (by with_reducible assumption) ?_)))

/-- «element» is asked of a row of this kind -/
theorem element_row_does {w : World} {news : Ldg} {t : Tr} (I : t.In w news) {T : Addr} (hT : t.T = T) {k : Nat} {r : Row} (hr : t.rows[k]? = some r) (hkd : r.kind = Str.ofString "element") (tk : Tok) :
    Does w (.ref 174) 2 [.ref T, .int (k : Int) tk] news (fun v news' => v = .ref r.inst ∧ news' = news) := by
  subst hT
  intro prog p loose mean mg mb dp un gd cn cs a ccd cl outer A₀ base h₀ L m s Q E B F X N TT hk hdp hun hret
  have h1 := I.inst
  obtain ⟨tk1, h2⟩ := I.dct
  obtain ⟨i1, ⟨rt, hpv, i2⟩, -, -, -⟩ := I.rows r (row_mem hr)
  refine wpAny_call ?_
  ktr_enter
  k_steps
  exact hret _ _ _ _ (by assumption) (by assumption) ⟨rfl, rfl⟩

section
variable {prog : Program} {w : World} {A : Around} {E : Value → Shared → Prop} {s : Shared} {env : Env} {h₀ : Heap} {x : Str} {body : List Stmt} {Q : Flow → Shared → Prop}

/-- a turn's end: the state c' with all its objects stands, and the iterator's stands still -/
def LEnd {σ : Type} (h₀ : Heap) (L : Addr) (Led : σ → Ldg) (ps : σ → List (Str × Value)) (x : Str) (stored : List Str) (m₀ : Str → Option Value) (P : σ → Prop) (I : Addr) (io : Obj) (s₁ s₂ : Shared) : Prop :=
  ∃ (c' : σ) (h' : Heap) (tk : Nat) (m' : Str → Option Value), s₂ = { s₁ with heap := h', toks := tk } ∧ Fr h₀ L h' m' ∧ News h₀ L h' ((I, io) :: Led c') ∧ (∀ p ∈ Led c', p.1 ≠ I) ∧ (∀ p ∈ ps c', m' p.1 = some p.2) ∧
    (∀ z, z ≠ x → (∀ p ∈ ps c', z ≠ p.1) → stored.contains z = false → m' z = m₀ z) ∧ P c'
def LPost {σ : Type} (h₀ : Heap) (L : Addr) (Led : σ → Ldg) (ps : σ → List (Str × Value)) (x : Str) (stored : List Str) (m₀ : Str → Option Value) (P : σ → Prop) (I : Addr) (io : Obj) (s₁ : Shared) (Q : Flow → Shared → Prop) (f : Flow) (s₂ : Shared) : Prop :=
  match f with
  | .ret v => Q (.ret v) s₂
  | .brk => Q .next s₂
  | _ => LEnd h₀ L Led ps x stored m₀ P I io s₁ s₂

theorem my_loop {σ : Type} {I : Addr} {fp : List Addr} {n : Nat} {PV : Nat → Value → Prop} {St : Nat → Heap → Prop} {m₀ : Str → Option Value} (Led : σ → Ldg) (ps : σ → List (Str × Value)) (stored : List Str) (P : Nat → σ → Prop) (c₀ : σ)
    (W : Walks prog w A I fp [I] n PV St) (hLf : env.locals ∉ fp) (hI : h₀.get? I = none) (hlive : ∀ i h, St i h → ∃ o, h.get? I = some o)
    (hfp : ∀ b ∈ fp, b = I ∨ ∃ o, ∀ i c, P i c → (b, o) ∈ Led c)
    (hst : St 0 s.heap) (F : Fr h₀ env.locals s.heap m₀) (N : News h₀ env.locals s.heap (Led c₀)) (hnI : ∀ p ∈ Led c₀, p.1 ≠ I) (hk : ∀ p ∈ ps c₀, m₀ p.1 = some p.2) (hp : P 0 c₀)
    (turn : ∀ (c : σ) (i : Nat) v (u : Str → Option Value) h tk io, i < n → PV i v → P i c → (∀ p ∈ Led c, p.1 ≠ I) →
      Fr h₀ env.locals h (fun y => if y = x then some v else kstB (fun z => if stored.contains z then u z else m₀ z) (ps c) y) → News h₀ env.locals h ((I, io) :: Led c) →
      wpAny (model prog w) A (execs body env) (LPost h₀ env.locals Led ps x stored m₀ (P (i + 1)) I io { s with heap := h, toks := tk } Q) E { s with heap := h, toks := tk })
    (done : ∀ (c : σ) (u : Str → Option Value) h tk, P n c → Fr h₀ env.locals h (fun y => if y = x then u y else kstB (fun z => if stored.contains z then u z else m₀ z) (ps c) y) → News h₀ env.locals h (Led c) → Q .next { s with heap := h, toks := tk }) :
    LoopAtV prog w A h₀ env x body Q E (.ref I) s := by
  let J : Nat → (Str → Option Value) → Ldg → Prop := fun i m nx => ∃ c, nx = Led c ∧ (∀ p ∈ ps c, m p.1 = some p.2) ∧ (∀ z, z ≠ x → (∀ p ∈ ps c, z ≠ p.1) → stored.contains z = false → m z = m₀ z) ∧ P i c
  refine ⟨I, fp, [I], n, PV, St, m₀, Led c₀, J, rfl, W, hLf, ?_, ?_, hst, F, N, ⟨c₀, rfl, hk, fun _ _ _ _ => rfl, hp⟩, ?_, ?_⟩
  · intro b hb; rw [List.mem_singleton.mp hb]; exact hI
  · intro p hp hq; exact hnI p hp (List.mem_singleton.mp hq)
  · rintro i v m₁ news₁ s₁ own ⟨hh', tk', rfl⟩ hin hP ⟨c, rfl, h1, h2, hp'⟩ hoff hown hget hall hst' F₁ N₁
    obtain ⟨io, hio⟩ := hlive _ _ hst'
    have hoI : (I, io) ∈ own := hall I (W.sub I (by simp)) hI io hio
    have N₂ : News h₀ env.locals hh' ((I, io) :: Led c) := fun p hp => by
      rcases List.mem_cons.mp hp with rfl | hp
      · exact N₁ _ (List.mem_append_left _ hoI)
      · exact N₁ _ (List.mem_append_right _ hp)
    have hoff' : ∀ p ∈ Led c, p.1 ≠ I := fun p hp e => hoff p hp (by rw [e]; simp)
    refine wpAny_mono (turn c i v m₁ hh' tk' io hin hP hp' hoff' (kst_fr h1 h2 F₁) N₂) (fun f s₂ p => ?_) fun _ _ e => e
    have fin : LEnd h₀ env.locals Led ps x stored m₀ (P (i + 1)) I io { s with heap := hh', toks := tk' } s₂ → LoopStepU h₀ env.locals [I] own (J (i + 1)) { s with heap := hh', toks := tk' } .next s₂ := by
      rintro ⟨c', h', tk, m', e, F', N', hnI', hk', hr', hpc⟩
      refine ⟨rfl, h', tk, m', Led c', e, F', ?_, fun p hp hq => hnI' p hp (List.mem_singleton.mp hq), c', rfl, hk', hr', hpc⟩
      intro p hp
      rcases List.mem_append.mp hp with hp | hp
      · have g := hget p hp
        rcases hfp p.1 (hown p hp) with e | ⟨o, ho⟩
        · have : p = (I, io) := by
            obtain ⟨a, b⟩ := p
            dsimp only at e g
            subst e
            rw [hio] at g
            cases g; rfl
          subst this
          exact N' _ (.head _)
        · have g1 := (N₁ _ (List.mem_append_right _ (ho _ _ hp'))).1
          dsimp only at g1
          rw [g] at g1
          have : p = (p.1, o) := by
            obtain ⟨a, b⟩ := p
            dsimp only at g1
            cases g1; rfl
          rw [this]
          exact N' _ (.tail _ (ho _ _ hpc))
      · exact N' _ (.tail _ hp)
    cases f with
    | ret v => exact .ret p
    | brk => exact .brk p
    | next => exact .next (fin p)
    | cont => exact .cont (fin p)
  · rintro h' tk m' news' F' N' _ ⟨c, rfl, h1, h2, hp'⟩
    exact done c m' h' tk hp' (kst_frOut h1 h2 F') N'

/-- for x in a list of the ledger -/
theorem my_for {σ : Type} {l : Addr} {vs : List Value} {n : Nat} {m₀ : Str → Option Value} (Led : σ → Ldg) (ps : σ → List (Str × Value)) (stored : List Str) (P : Nat → σ → Prop) (c₀ : σ)
    (hh : A.handled = none) (F : Fr h₀ env.locals s.heap m₀) (N : News h₀ env.locals s.heap (Led c₀)) (hm : ∀ i c, P i c → (l, listOf vs.toArray n) ∈ Led c) (hk : ∀ p ∈ ps c₀, m₀ p.1 = some p.2) (hp : P 0 c₀)
    (turn : ∀ (c : σ) (i : Nat) v (u : Str → Option Value) h tk I io, vs[i]? = some v → P i c → (∀ p ∈ Led c, p.1 ≠ I) →
      Fr h₀ env.locals h (fun y => if y = x then some v else kstB (fun z => if stored.contains z then u z else m₀ z) (ps c) y) → News h₀ env.locals h ((I, io) :: Led c) →
      wpAny (model prog w) A (execs body env) (LPost h₀ env.locals Led ps x stored m₀ (P (i + 1)) I io { s with heap := h, toks := tk } Q) E { s with heap := h, toks := tk })
    (done : ∀ (c : σ) (u : Str → Option Value) h tk, P vs.length c → Fr h₀ env.locals h (fun y => if y = x then u y else kstB (fun z => if stored.contains z then u z else m₀ z) (ps c) y) → News h₀ env.locals h (Led c) → Q .next { s with heap := h, toks := tk }) :
    wpAny (model prog w) A (pyIter (.ref l)) (fun it s₂ => LoopAtV prog w A h₀ env x body Q E it s₂) E s := by
  have hml := hm 0 c₀ hp
  have hls := my_isList N hml
  have hlt : l < s.heap.objs.size := news_lt N hml
  have hne : l ≠ s.heap.objs.size := Nat.ne_of_lt hlt
  refine wpAny_pyIter_list hls ?_
  have W := Walks.list (prog := prog) (w := w) (A := A) hh s.heap.objs.size l hne vs.toArray
  rw [List.size_toArray] at W
  refine my_loop (fp := [s.heap.objs.size, l]) Led ps stored P c₀ W ?_ (next_is_new F) (fun i h st => ⟨_, st.1.choose_spec.1⟩) ?_ ⟨⟨_, Heap.get?_push_size _ rfl, rfl, rfl⟩, hls.at fun o e => Heap.get?_push_of_some _ e⟩ (F.push _) (fun p hp => ⟨Heap.get?_push_of_some _ (N p hp).1, (N p hp).2⟩)
    (fun p hp => Nat.ne_of_lt (Heap.lt_size (N p hp).1)) hk hp ?_ ?_
  · intro h
    rcases List.mem_cons.mp h with e | h
    · exact absurd F.ns.lt (e ▸ Nat.lt_irrefl _)
    · exact (N _ hml).2.1 (List.mem_singleton.mp h).symm
  · intro b hb
    rcases List.mem_cons.mp hb with e | hb
    · exact .inl e
    · rw [List.mem_singleton.mp hb]; exact .inr ⟨_, hm⟩
  · intro c i v u h tk io hin hv hpc hoff F' N'
    exact turn c i v u h tk _ io (by simpa using hv) hpc hoff F' N'
  · intro c u h tk hpc F' N'
    exact done c u h tk hpc F' N'

/-- for x in range(n) -/
theorem my_forR {σ : Type} {r : Addr} {n : Nat} {t₀ u₀ v₀ : Tok} {m₀ : Str → Option Value} (Led : σ → Ldg) (ps : σ → List (Str × Value)) (stored : List Str) (P : Nat → σ → Prop) (c₀ : σ)
    (hh : A.handled = none) (hr : IsRange s.heap r 0 (n : Int) 1 t₀ u₀ v₀) (hsmall : Builtin.Range.small 0 (n : Int) 1 = true) (hn : Builtin.Range.rangeSize 0 (n : Int) 1 = (n : Int)) (F : Fr h₀ env.locals s.heap m₀) (N : News h₀ env.locals s.heap (Led c₀)) (hk : ∀ p ∈ ps c₀, m₀ p.1 = some p.2) (hp : P 0 c₀)
    (turn : ∀ (c : σ) (i : Nat) t (u : Str → Option Value) h tk I io, i < n → P i c → (∀ p ∈ Led c, p.1 ≠ I) →
      Fr h₀ env.locals h (fun y => if y = x then some (.int (i : Int) t) else kstB (fun z => if stored.contains z then u z else m₀ z) (ps c) y) → News h₀ env.locals h ((I, io) :: Led c) →
      wpAny (model prog w) A (execs body env) (LPost h₀ env.locals Led ps x stored m₀ (P (i + 1)) I io { s with heap := h, toks := tk } Q) E { s with heap := h, toks := tk })
    (done : ∀ (c : σ) (u : Str → Option Value) h tk, P n c → Fr h₀ env.locals h (fun y => if y = x then u y else kstB (fun z => if stored.contains z then u z else m₀ z) (ps c) y) → News h₀ env.locals h (Led c) → Q .next { s with heap := h, toks := tk }) :
    wpAny (model prog w) A (pyIter (.ref r)) (fun it s₂ => LoopAtV prog w A h₀ env x body Q E it s₂) E s := by
  refine wpAny_pyIter_range hr hsmall ?_
  have W : Walks prog w A s.heap.objs.size [s.heap.objs.size] [s.heap.objs.size] n (fun i v => i < n ∧ ∃ t, v = .int (0 + i * 1) t)
      (fun i h => IsRangeIter h s.heap.objs.size (0 + (i : Nat) * 1) ((n : Int) - (i : Nat)) 1) := (Walks.range hh _ 0 1 n).bound
  refine my_loop Led ps stored P c₀ W ?_ (next_is_new F) (fun i h st => ⟨_, st⟩) (fun b hb => .inl (List.mem_singleton.mp hb)) (by show IsRangeIter _ _ _ _ _; rw [hn]; simpa using Heap.get?_push_size _ rfl) (F.push _) (fun p hp => ⟨Heap.get?_push_of_some _ (N p hp).1, (N p hp).2⟩)
    (fun p hp => Nat.ne_of_lt (Heap.lt_size (N p hp).1)) hk hp ?_ ?_
  · intro hm
    exact absurd F.ns.lt ((List.mem_singleton.mp hm) ▸ Nat.lt_irrefl _)
  · rintro c i v u h tk io hin ⟨_, t, rfl⟩ hpc hoff F' N'
    have e : (0 : Int) + (i : Int) * 1 = (i : Int) := by omega
    rw [e] at F'
    exact turn c i t u h tk _ io hin hpc hoff F' N'
  · intro c u h tk hpc F' N'
    exact done c u h tk hpc F' N'

theorem lpost {σ : Type} {L : Addr} {Led : σ → Ldg} {ps : σ → List (Str × Value)} {stored : List Str} {m₀ m' : Str → Option Value} {P : σ → Prop} {I : Addr} {io : Obj} {s₁ : Shared} {h' : Heap} {tk : Nat} {news' : Ldg} (c' : σ)
    (F : Fr h₀ L h' m') (N : News h₀ L h' news') (hs : ∀ p ∈ (I, io) :: Led c', p ∈ news') (hoff : ∀ p ∈ Led c', p.1 ≠ I) (hk : ∀ p ∈ ps c', m' p.1 = some p.2) (hr : ∀ z, z ≠ x → (∀ p ∈ ps c', z ≠ p.1) → stored.contains z = false → m' z = m₀ z) (hp : P c') :
    LPost h₀ L Led ps x stored m₀ P I io s₁ Q .next { s₁ with heap := h', toks := tk } :=
  ⟨c', h', tk, m', rfl, F, fun p hp => N p (hs p hp), hoff, hk, hr, hp⟩
end

local macro_rules | `(tactic| walk_at "MYDOES") => `(tactic| ((with_reducible refine' element_row_does ?a ?b ?c ?e _); walk_at "MYARGS"))

theorem set_attribute_does {w : World} {news : Ldg} {t : Tr} (I : t.In w news) {T : Addr} (hT : t.T = T) (hlt : t.rows.length < 20) {k : Nat} {rp : Row} (hr : t.rows[k]? = some rp) (hkd : rp.kind = Str.ofString "element") (hfew : rp.atr.length < 90)
    (nm ur lc v : Str) (tk t1 t2 t3 t4 : Tok) (hno : ∀ j ∈ rp.atr, ∃ rj, t.rows[j]? = some rj ∧ rj.loc ≠ lc) :
    Does w (.ref 181) 5 [.ref T, .int (k : Int) tk, .str nm t1, .str ur t2, .str lc t3, .str v t4] news
      (fun r news' => ∃ row, (∃ u, r = .int (t.rows.length : Int) u) ∧ Grown w news t (Str.ofString "attribute") nm ur lc (some k) row ((t.add row).put k { rp with atr := rp.atr ++ [t.rows.length] }) news') := by
  subst hT
  intro prog p loose mean mg mb dp un gd cn cs a ccd cl outer A₀ base h₀ L m s Q E B F X N TT hk hdp hun hret
  have h1 := I.inst
  obtain ⟨tk1, h2⟩ := I.dct
  obtain ⟨n3, h3⟩ := I.lst
  obtain ⟨i1, ⟨rt, hpv, i2⟩, -, ⟨vs, n4, i3, hv, hvl⟩, -⟩ := I.rows rp (row_mem hr)
  refine wpAny_call ?_
  ktr_enter
  k_steps
  refine my_for (fun _ : Unit => news) (fun _ => []) [Str.ofString "known"] (fun _ _ => True) () rfl (by assumption) (by assumption) (fun _ _ _ => i3) (by intro p hp; cases hp) trivial ?_ ?_
  · rintro ⟨⟩ i v0 u hh tk0 Iit io hvi - hoff F1 N1
    obtain ⟨j, tj, rfl, hj⟩ := hv.item hvi
    obtain ⟨rj, hrj, hloc⟩ := hno j (row_mem hj)
    obtain ⟨j1, ⟨rtj, -, j2⟩, -, -, -⟩ := I.rows rj (row_mem hrj)
    have N2 := N1
    have h1 := List.mem_cons_of_mem (Iit, io) h1
    have h2 := List.mem_cons_of_mem (Iit, io) h2
    have h3 := List.mem_cons_of_mem (Iit, io) h3
    have j1 := List.mem_cons_of_mem (Iit, io) j1
    have j2 := List.mem_cons_of_mem (Iit, io) j2
    k_steps
    all_goals exact lpost () (by assumption) (by assumption) (fun p hp => hp) hoff (by intro p hp; cases hp) (by (intro z h1 h2 h3; first | rfl | ((simp only [List.contains_cons, List.contains_nil, Bool.or_false, Bool.or_eq_false_iff, beq_eq_false_iff_ne, ne_eq] at h3); (simp only [List.forall_mem_cons, List.not_mem_nil, false_implies, implies_true, and_true, ne_eq] at h2); (simp [kstB, h1, h2, h3]; done)))) trivial
  · rintro ⟨⟩ u hh tk0 - F1 N1
    clear i3
    k_steps
    refine stop ?_
    rintro v1 news1 h1' tk1' F2 N2 ⟨row, ⟨u1, rfl⟩, G⟩
    clear h1 h2 h3 i1 i2
    have I1 : (t.add row).In w news1 := G.tree
    have hr1 : (t.add row).rows[k]? = some rp := add_get hr
    obtain ⟨i1, ⟨rt1, hpv1, i2⟩, -, ⟨vs, n4, i3, hv, hvl⟩, -⟩ := I1.rows rp (row_mem hr1)
    k_steps
    have hvz := hv.length
    refine my_append (by assumption) (by assumption) i3 (by omega) ?_
    intro h5 news5 F5 N5 U
    k_steps
    have I2 := I1.setAtr hr1 U (hv.snoc t.rows.length u1) (by simp; omega)
    refine hret _ _ _ _ (by assumption) (by assumption) ⟨row, ⟨_, rfl⟩, G.grown.is, I2, ?_, G.fresh⟩
    intro q hq ha
    refine U.keep q (G.grown.keep q hq ha) fun e => ha ?_
    rw [e]
    exact row_in_adr hr (by simp [Row.adr])

theorem add_namespace_does {w : World} {news : Ldg} {t : Tr} (I : t.In w news) {T : Addr} (hT : t.T = T) (hlt : t.rows.length < 20) {k : Nat} {rp : Row} (hr : t.rows[k]? = some rp) (hkd : rp.kind = Str.ofString "element") (hfew : rp.nsp.length < 90)
    (pf ur : Str) (tk t1 t2 : Tok) (hno : ∀ j ∈ rp.nsp, ∃ rj, t.rows[j]? = some rj ∧ rj.name ≠ pf) :
    Does w (.ref 188) 5 [.ref T, .int (k : Int) tk, .str pf t1, .str ur t2] news
      (fun r news' => ∃ row, (∃ u, r = .int (t.rows.length : Int) u) ∧ Grown w news t (Str.ofString "namespace") pf (Str.ofString "") pf (some k) row ((t.add row).put k { rp with nsp := rp.nsp ++ [t.rows.length] }) news') := by
  subst hT
  intro prog p loose mean mg mb dp un gd cn cs a ccd cl outer A₀ base h₀ L m s Q E B F X N TT hk hdp hun hret
  have h1 := I.inst
  obtain ⟨tk1, h2⟩ := I.dct
  obtain ⟨n3, h3⟩ := I.lst
  obtain ⟨i1, ⟨rt, hpv, i2⟩, -, -, ⟨vs, n4, i3, hv, hvl⟩⟩ := I.rows rp (row_mem hr)
  refine wpAny_call ?_
  ktr_enter
  k_steps
  refine my_for (fun _ : Unit => news) (fun _ => []) [] (fun _ _ => True) () rfl (by assumption) (by assumption) (fun _ _ _ => i3) (by intro p hp; cases hp) trivial ?_ ?_
  · rintro ⟨⟩ i v0 u hh tk0 Iit io hvi - hoff F1 N1
    obtain ⟨j, tj, rfl, hj⟩ := hv.item hvi
    obtain ⟨rj, hrj, hloc⟩ := hno j (row_mem hj)
    obtain ⟨j1, ⟨rtj, -, j2⟩, -, -, -⟩ := I.rows rj (row_mem hrj)
    have N2 := N1
    have h1 := List.mem_cons_of_mem (Iit, io) h1
    have h2 := List.mem_cons_of_mem (Iit, io) h2
    have h3 := List.mem_cons_of_mem (Iit, io) h3
    have j1 := List.mem_cons_of_mem (Iit, io) j1
    have j2 := List.mem_cons_of_mem (Iit, io) j2
    k_steps
    all_goals exact lpost () (by assumption) (by assumption) (fun p hp => hp) hoff (by intro p hp; cases hp) (by (intro z h1 h2 h3; first | rfl | ((simp only [List.contains_cons, List.contains_nil, Bool.or_false, Bool.or_eq_false_iff, beq_eq_false_iff_ne, ne_eq] at h3); (simp only [List.forall_mem_cons, List.not_mem_nil, false_implies, implies_true, and_true, ne_eq] at h2); (simp [kstB, h1, h2, h3]; done)))) trivial
  · rintro ⟨⟩ u hh tk0 - F1 N1
    clear i3
    k_steps
    refine stop ?_
    rintro v1 news1 h1' tk1' F2 N2 ⟨row, ⟨u1, rfl⟩, G⟩
    clear h1 h2 h3 i1 i2
    have I1 : (t.add row).In w news1 := G.tree
    have hr1 : (t.add row).rows[k]? = some rp := add_get hr
    obtain ⟨i1, ⟨rt1, hpv1, i2⟩, -, -, ⟨vs, n4, i3, hv, hvl⟩⟩ := I1.rows rp (row_mem hr1)
    k_steps
    have hvz := hv.length
    refine my_append (by assumption) (by assumption) i3 (by omega) ?_
    intro h5 news5 F5 N5 U
    k_steps
    have I2 := I1.setNsp hr1 U (hv.snoc t.rows.length u1) (by simp; omega)
    refine hret _ _ _ _ (by assumption) (by assumption) ⟨row, ⟨_, rfl⟩, G.grown.is, I2, ?_, G.fresh⟩
    intro q hq ha
    refine U.keep q (G.grown.keep q hq ha) fun e => ha ?_
    rw [e]
    exact row_in_adr hr (by simp [Row.adr])

/-- a row's parent stands before it -/
def Tr.Ord (t : Tr) : Prop := ∀ (i : Nat) (r : Row), t.rows[i]? = some r → ∀ p, r.par = some p → p < i

theorem is_above_does {w : World} {news : Ldg} {t : Tr} (I : t.In w news) {T : Addr} (hT : t.T = T) (ho : t.Ord) {k nd : Nat} (hk1 : k < t.rows.length) (hk2 : k < nd) (tq tn : Tok) :
    Does w (.ref 272) 3 [.ref T, .int (nd : Int) tn, .int (k : Int) tq] news (fun v news' => v = .bool false ∧ news' = news) := by
  subst hT
  intro prog p loose mean mg mb dp un gd cn cs a ccd cl outer A₀ base h₀ L m s Q E B F X N TT hk hdp hun hret
  have h1 := I.inst
  obtain ⟨tk1, h2⟩ := I.dct
  refine wpAny_call ?_
  ktr_enter
  k_steps
  refine stop ?_
  refine ksw_while (σ := Value × Option Nat) (fun _ => news) (fun c => [(Str.ofString "other", c.1)]) (fun _ => True) [] (fun c => PV c.1 c.2 ∧ ∀ k', c.2 = some k' → k' ≤ k) (fun c => match c.2 with | none => 0 | some k' => k' + 1) (.int (k : Int) tq, some k) (by assumption) (by assumption) trivial (by kst_all) ⟨PV.some k tq, by intro k' e; cases e; exact Nat.le_refl _⟩ ?_
  rintro ⟨v, o⟩ u h tk0 - ⟨hv, hle⟩ F1 N1
  dsimp only at hv hle F1
  cases hv with
  | none =>
    k_steps
    exact hret _ _ _ _ (by assumption) (by assumption) ⟨rfl, rfl⟩
  | some k' tk' =>
    have hk' := hle k' rfl
    have hlt : k' < t.rows.length := by omega
    obtain ⟨r, hr⟩ : ∃ r, t.rows[k']? = some r := ⟨_, List.getElem?_eq_getElem hlt⟩
    obtain ⟨i1, ⟨rt, hpv, i2⟩, -, -, -⟩ := I.rows r (row_mem hr)
    have hha := hpv.handed
    have hne : ((k' : Int) == (nd : Int)) = false := by simp; omega
    have ho' := ho k' r hr
    k_steps
    refine ksw_end (rt.pv, r.par) (by assumption) (by assumption) (fun p hp => hp) trivial (by kst_all) (by (intro z h2 h3; first | rfl | ((simp only [List.contains_cons, List.contains_nil, Bool.or_false, Bool.or_eq_false_iff, beq_eq_false_iff_ne, ne_eq] at h3); (simp only [List.forall_mem_cons, List.not_mem_nil, false_implies, implies_true, and_true, ne_eq] at h2); (simp [kstB, h2, h3]; done)))) ⟨hpv, fun k2 e => ?_⟩ ?_
    · have := ho' k2 e
      omega
    · dsimp only
      cases e : r.par with
      | none => exact Nat.succ_pos _
      | some k2 => exact Nat.succ_lt_succ (ho' k2 e)

local macro_rules | `(tactic| walk_at "MYDOES") => `(tactic| ((with_reducible refine' children_does ?a ?b ?c _); walk_at "MYARGS"))
local macro_rules | `(tactic| walk_at "MYDOES") => `(tactic| ((with_reducible refine' attributes_does ?a ?b ?c _); walk_at "MYARGS"))
local macro_rules | `(tactic| walk_at "MYDOES") => `(tactic| ((with_reducible refine' namespaces_does ?a ?b ?c _); walk_at "MYARGS"))
local macro_rules | `(tactic| walk_at "MYDOES") => `(tactic| ((with_reducible refine' kind_does ?a ?b ?c _); walk_at "MYARGS"))
local macro_rules | `(tactic| walk_at "MYDOES") => `(tactic| ((with_reducible refine' is_above_does ?a ?b ?c ?e ?f _ _); walk_at "MYARGS"))

theorem news_tail {h₀ h : Heap} {L : Addr} {q : Addr × Obj} {news : Ldg} (N : News h₀ L h (q :: news)) : News h₀ L h news := fun p hp => N p (.tail _ hp)

theorem check_new_place_does {w : World} {news : Ldg} {t : Tr} (I : t.In w news) {T : Addr} (hT : t.T = T) (ho : t.Ord) {k nd ix : Nat} {rp rn : Row} (hrp : t.rows[k]? = some rp) (hrn : t.rows[nd]? = some rn) (hlt : k < nd)
    (hkp : rp.kind = Str.ofString "root" ∨ rp.kind = Str.ofString "element") (hkn : rn.kind = Str.ofString "element" ∨ rn.kind = Str.ofString "text") (hix : ix ≤ rp.ch.length) (tk ti tn : Tok) :
    Does w (.ref 293) 5 [.ref T, .int (k : Int) tk, .int (ix : Int) ti, .int (nd : Int) tn] news (fun v news' => v = .none ∧ news' = news) := by
  subst hT
  intro prog p loose mean mg mb dp un gd cn cs a ccd cl outer A₀ base h₀ L m s Q E B F X N TT hk hdp hun hret
  have h1 := I.inst
  obtain ⟨tk1, h2⟩ := I.dct
  have hkl := row_lt hrp
  refine wpAny_call ?_
  ktr_enter
  k_steps

  exact hret _ _ _ _ (by assumption) (news_tail (by assumption)) ⟨rfl, rfl⟩

theorem parent_none_does {w : World} {news : Ldg} {t : Tr} (I : t.In w news) {T : Addr} (hT : t.T = T) {k : Nat} {r : Row} (hr : t.rows[k]? = some r) (hp : r.par = none) (tk : Tok) :
    Does w (.ref 237) 2 [.ref T, .int (k : Int) tk] news (fun v news' => v = .none ∧ news' = news) := by
  have D := parent_does I hT hr tk
  rw [hp] at D
  intro prog p loose mean mg mb dp un gd cn cs a ccd cl outer A₀ base h₀ L m s Q E B F X N TT hk hdp hun hret
  exact D _ _ _ _ _ _ _ _ _ _ _ _ _ _ _ _ _ _ _ _ _ _ _ B F X N TT hk hdp hun fun r news' h' tk' F' N' P => hret r news' h' tk' F' N' ⟨by cases P.1; rfl, P.2⟩
local macro_rules | `(tactic| walk_at "MYDOES") => `(tactic| ((with_reducible refine' parent_none_does ?a ?b ?c ?e _); walk_at "MYARGS"))
local macro_rules | `(tactic| walk_at "MYDOES") => `(tactic| ((with_reducible refine' check_new_place_does ?a ?b ?c ?e ?f ?g ?h ?i ?j _ _ _); walk_at "MYARGS"))

section
variable {prog : Program} {w : World} {A : Around} {E : Value → Shared → Prop} {s : Shared} {h₀ h : Heap} {L l : Addr} {m : Str → Option Value} {news : Ldg} {vs : List Value} {n : Nat}
theorem my_insert {ix : Nat} {u : Tok} {x : Value} {Q : Value → Shared → Prop} (F : Fr h₀ L s.heap m) (N : News h₀ L s.heap news) (hm : (l, listOf vs.toArray n) ∈ news) (hz : vs.length ≤ 1000) (hix : ix ≤ vs.length)
    (h : ∀ h' news', Fr h₀ L h' m → News h₀ L h' news' → UpdTo l (listOf (vs.take ix ++ x :: vs.drop ix).toArray (n + 1)) news news' → Q .none { s with heap := h' }) :
    wpAny (model prog w) A (call (.builtin "list.insert") [.ref l, .int (ix : Int) u, x]) Q E s := by
  have e : kl_ins vs.toArray.toList (ix : Int) x = vs.take ix ++ x :: vs.drop ix := by
    unfold kl_ins
    have h0 : ¬ ((ix : Int) < 0) := by omega
    simp only [if_neg h0, Int.toNat_natCast]
    have : min ix vs.toArray.toList.length = ix := by simp; omega
    rw [this]
  exact kl_insert F (offL_news N hm) (by
    unfold Builtin.List.listFitsIndex
    simp
    omega) e offL_upd (by simp [sizeLine_eq]; omega) fun h' F' N' => h h' _ F' N' (updL_to hm)

theorem my_setpar {r : Row} {rt : RTok} {v : Value} {Q : Unit → Shared → Prop} (F : Fr h₀ L s.heap m) (X : (hd.heap_1 w.params).In h₀) (N : News h₀ L s.heap news) (i1 : (r.inst, instObj 93 r.dct) ∈ news) (i2 : (r.dct, dictOf (rowEs w.params rt r) 9) ∈ news)
    (h : ∀ h' news', Fr h₀ L h' m → News h₀ L h' news' → UpdTo r.dct (dictOf (rowEs w.params { rt with pv := v } r) 9) news news' → Q () { s with heap := h', toks := s.toks + 2 }) :
    wpAny (model prog w) A (setAttr (.ref r.inst) (Str.ofString "parent") v) Q E s := by
  refine set_dict (es' := rowEs w.params { rt with pv := v } r) (n' := 9) F X (offL_news N i2) (InstAt.of_news N i1 i2) rfl (by k_is) (by k_is) (by k_is) (by k_is) (by k_get) (by k_put) offL_upd (by simp [rowEs]) fun h' F' N' => h h' _ F' N' (updL_to i2)
end

theorem put_get_ne {t : Tr} {k j : Nat} {r r' : Row} (h : t.rows[j]? = some r) (hne : k ≠ j) : (t.put k r').rows[j]? = some r := by
  simp only [Tr.put, List.getElem?_set_ne hne, h]
theorem put_get {t : Tr} {k : Nat} {r r' : Row} (h : t.rows[k]? = some r) : (t.put k r').rows[k]? = some r' := by
  simp only [Tr.put, List.getElem?_set_self (row_lt h)]

theorem NA.ins {vs : List Value} {ns : List Nat} (h : NA vs ns) (ix x : Nat) (t : Tok) : NA (vs.take ix ++ Value.int (x : Int) t :: vs.drop ix) (ns.take ix ++ x :: ns.drop ix) :=
  (h.take ix).append (.cons x t (h.drop ix))

theorem insert_does {w : World} {news : Ldg} {t : Tr} (I : t.In w news) {T : Addr} (hT : t.T = T) (ho : t.Ord) {k nd ix : Nat} {rp rn : Row} (hrp : t.rows[k]? = some rp) (hrn : t.rows[nd]? = some rn) (hlt : k < nd)
    (hkp : rp.kind = Str.ofString "root" ∨ rp.kind = Str.ofString "element") (hkn : rn.kind = Str.ofString "element" ∨ rn.kind = Str.ofString "text") (hix : ix ≤ rp.ch.length) (hpn : rn.par = none) (hfew : rp.ch.length < 90) (tk ti tn : Tok) :
    Does w (.ref 300) 6 [.ref T, .int (k : Int) tk, .int (ix : Int) ti, .int (nd : Int) tn] news
      (fun v news' => v = .none ∧ ((t.put k { rp with ch := rp.ch.take ix ++ nd :: rp.ch.drop ix }).put nd { rn with par := some k }).In w news' ∧ ∀ q ∈ news, q.1 ∉ t.adr → q ∈ news') := by
  subst hT
  intro prog p loose mean mg mb dp un gd cn cs a ccd cl outer A₀ base h₀ L m s Q E B F X N TT hk hdp hun hret
  have h1 := I.inst
  obtain ⟨tk1, h2⟩ := I.dct
  have hkl := row_lt hrp
  obtain ⟨i1, ⟨rt, hpv, i2⟩, ⟨vs, n4, i3, hv, hvl⟩, -, -⟩ := I.rows rp (row_mem hrp)
  refine wpAny_call ?_
  ktr_enter
  k_steps
  have hvz := hv.length
  refine my_insert (by assumption) (by assumption) i3 (by omega) (by omega) ?_
  intro h5 news5 F5 N5 U
  clear h1 h2 i1 i2 i3
  have I1 := I.setCh hrp U (hv.ins ix nd tn) (by simp; omega)
  have hrn1 : (t.put k { rp with ch := rp.ch.take ix ++ nd :: rp.ch.drop ix }).rows[nd]? = some rn := put_get_ne hrn (by omega)
  have h1 : (t.T, instObj 282 t.dT) ∈ news5 := I1.inst
  obtain ⟨tk2, h2⟩ := I1.dct
  replace h2 : (t.dT, dictOf (treeEs w.params tk2 t.R) 1) ∈ news5 := h2
  obtain ⟨j1, ⟨rt1, hpv1, j2⟩, -, -, -⟩ := I1.rows rn (row_mem hrn1)
  k_steps
  refine my_setpar (by assumption) (by assumption) (by assumption) j1 j2 ?_
  intro h6 news6 F6 N6 U6
  k_steps
  refine hret _ _ _ _ (by assumption) (by assumption) ⟨rfl, I1.setPar hrn1 U6 (PV.some k _), fun q hq ha => U6.keep q (U.keep q hq fun e => ha ?_) fun e => ha ?_⟩
  · rw [e]; exact row_in_adr hrp (by simp [Row.adr])
  · rw [e]; exact row_in_adr hrn (by simp [Row.adr])

/-- the nodes from o upward -/
inductive Up (t : Tr) : Option Nat → List Nat → Prop
  | nil : Up t none []
  | cons {k : Nat} {r : Row} {l : List Nat} (hr : t.rows[k]? = some r) (h : Up t r.par l) : Up t (some k) (k :: l)

/-- a call that gives a new list of ints back, and changes nothing -/
abbrev NewInts (ns : List Nat) (news : Ldg) (v : Value) (news' : Ldg) : Prop := Copied ns news v news'

theorem news_drop2 {h₀ h : Heap} {L : Addr} {q q' : Addr × Obj} {news : Ldg} (N : News h₀ L h (q :: q' :: news)) : News h₀ L h (q :: news) := fun p hp => N p (by rcases List.mem_cons.mp hp with h | h <;> simp [h])

structure DownSt where
  v : Value
  o : Option Nat
  pre : List Nat
  rest : List Nat
  vs : List Value
  n : Nat

local macro_rules | `(tactic| walk_at "MYDOES") => `(tactic| ((with_reducible refine' parent_does ?a ?b ?c _); walk_at "MYARGS"))

theorem lines_down_does {w : World} {news : Ldg} {t : Tr} (I : t.In w news) {T : Addr} (hT : t.T = T) {k : Nat} {up : List Nat} (hup : Up t (some k) up) (hfew : up.length ≤ 90) (tq : Tok) :
    Does w (.ref 28) 4 [.ref T, .int (k : Int) tq] news (Copied up.reverse news) := by
  subst hT
  intro prog p loose mean mg mb dp un gd cn cs a ccd cl outer A₀ base h₀ L m s Q E B F X N TT hk hdp hun hret
  have h1 := I.inst
  obtain ⟨tk1, h2⟩ := I.dct
  refine wpAny_call ?_
  ktr_enter
  k_steps
  refine stop ?_
  rename_i lf hx ltf hy Ff Nf
  refine ksw_while (fun c : DownSt => (lf, listOf c.vs.toArray c.n) :: news) (fun c => [(Str.ofString "node", c.v)]) (fun _ => True) [] (fun c => PV c.v c.o ∧ Up t c.o c.rest ∧ NA c.vs c.pre ∧ c.pre ++ c.rest = up) (fun c => c.rest.length)
    ⟨.int (k : Int) tq, some k, [], up, [], 0⟩ (by assumption) (by assumption) trivial (by kst_all) ⟨PV.some k tq, hup, .nil, rfl⟩ ?_
  rintro ⟨v, o, pre, rest, vs, n⟩ u h tk0 - ⟨hv, hu, hn, he⟩ F1 N1
  dsimp only at hv hu hn he F1 N1 ⊢
  have hl1 := hn.length
  have hl2 := congrArg List.length he
  rw [List.length_append] at hl2
  cases hv with
  | none =>
    cases hu
    k_steps
    rename News _ _ _ _ => N9
    simp only [krv_pick] at N9
    rw [List.append_nil] at he
    subst he
    exact hret _ _ _ _ (by assumption) (news_drop2 N9) ⟨_, _, _, rfl, rfl, hn.rev, by simp; omega, fun p hp => Nat.lt_succ_of_lt (news_lt N1 (List.mem_cons_of_mem _ hp))⟩
  | some k' tk' =>
    cases hu with
    | cons hr hu' =>
      rename_i r l
      simp only [List.length_cons] at hl2
      k_steps
      rename PV _ _ => hpv
      refine ksw_end ⟨_, r.par, pre ++ [k'], l, vs ++ [.int (k' : Int) tk'], n + 1⟩ (by assumption) (by assumption) (fun p hp => by simpa [List.push_toArray] using hp) trivial (by kst_all) (by (intro z h2 h3; first | rfl | ((simp only [List.contains_cons, List.contains_nil, Bool.or_false, Bool.or_eq_false_iff, beq_eq_false_iff_ne, ne_eq] at h3); (simp only [List.forall_mem_cons, List.not_mem_nil, false_implies, implies_true, and_true, ne_eq] at h2); (simp [kstB, h2, h3]; done)))) ⟨hpv, hu', hn.snoc k' tk', by simpa using he⟩ (Nat.lt_succ_self _)

def sortOf (kind : Str) : Nat := if kind = Str.ofString "namespace" then 0 else if kind = Str.ofString "attribute" then 1 else 2
def Row.lst (r : Row) (k : Nat) : List Nat := if k = 0 then r.nsp else if k = 1 then r.atr else r.ch

abbrev tupObj (vs : List Value) : Obj := { cls := .type "tuple", data := .seq vs.toArray }
/-- a call that gives a new tuple of ints back, and changes nothing -/
def NewTup (ns : List Nat) (news : Ldg) (v : Value) (news' : Ldg) : Prop := ∃ l vs, v = .ref l ∧ news' = (l, tupObj vs) :: news ∧ NA vs ns ∧ vs.length ≤ 100 ∧ ∀ p ∈ news, p.1 < l

theorem NA.kf : ∀ {vs : List Value} {ns : List Nat}, NA vs ns → kf_ints vs = true
  | _, _, .nil => rfl
  | _, _, .cons n t h => h.kf
theorem NA.at : ∀ {vs : List Value} {ns : List Nat}, NA vs ns → ∀ (k : Nat), kf_at (k : Int) vs = ns.idxOf? k
  | _, _, .nil, k => rfl
  | _, _, .cons n t h, k => by
    rw [List.idxOf?_cons]
    unfold kf_at
    have e : isInt (k : Int) (.int (n : Int) t) = (n == k) := by
      show ((n : Int) == (k : Int)) = (n == k)
      rw [Bool.eq_iff_iff]
      simp
      omega
    rw [e, h.at k]
    cases n == k with
    | true => rfl
    | false =>
      simp only [cond_false, Bool.false_eq_true, if_false]
      cases List.idxOf? k _ <;> rfl
theorem my_index {prog : Program} {w : World} {A : Around} {E : Value → Shared → Prop} {s : Shared} {h₀ : Heap} {L l : Addr} {news : Ldg} {vs : List Value} {n : Nat} {Q : Value → Shared → Prop} {k j : Nat} {t : Tok} {ns : List Nat}
    (N : News h₀ L s.heap news) (hm : (l, listOf vs.toArray n) ∈ news) (hv : NA vs ns) (hj : ns.idxOf? k = some j) (hz : vs.length ≤ 100) (h : Q (.int (j : Int) s.toks) { s with toks := s.toks + 1 }) :
    wpAny (model prog w) A (call (.builtin "list.index") [.ref l, .int (k : Int) t]) Q E s :=
  kf_index N hm (by simpa using hv.kf) (by simpa using (hv.at k).trans hj) rfl (by simp [sizeLine_eq]; omega) h
local macro_rules | `(tactic| walk_at "call builtin:list.index") => `(tactic| (k_here; k_dflt (refine my_index (by k_asm) (by k_mem) (by assumption) (by assumption) (by assumption) ?_)))

theorem place_among_does {w : World} {news : Ldg} {t : Tr} (I : t.In w news) {T : Addr} (hT : t.T = T) {k nd j : Nat} {rp rn : Row} (hrp : t.rows[k]? = some rp) (hrn : t.rows[nd]? = some rn) (hj : (rp.lst (sortOf rn.kind)).idxOf? nd = some j) (tq tn : Tok) :
    Does w (.ref 35) 4 [.ref T, .int (k : Int) tq, .int (nd : Int) tn] news (NewTup [sortOf rn.kind, j] news) := by
  subst hT
  intro prog p loose mean mg mb dp un gd cn cs a ccd cl outer A₀ base h₀ L m s Q E B F X N TT hk hdp hun hret
  have h1 := I.inst
  obtain ⟨tk1, h2⟩ := I.dct
  by_cases hk0 : rn.kind = Str.ofString "namespace"
  · simp only [sortOf, hk0, if_true, Row.lst] at hj
    refine wpAny_call ?_
    ktr_enter
    k_steps
    rename News _ _ _ _ => N9
    exact hret _ _ _ _ (by assumption) (news_drop2 N9) ⟨_, _, rfl, rfl, by rw [sortOf, if_pos hk0]; exact .cons 0 _ (.cons j _ .nil), by simp, by (first | assumption | exact ltAll_of (by assumption) | exact ltAll_of (And.right (by assumption)) | exact ltAll_of (And.right (And.right (by assumption))))⟩
  · by_cases hk1 : rn.kind = Str.ofString "attribute"
    · have e : sortOf rn.kind = 1 := by rw [sortOf, if_neg hk0, if_pos hk1]
      rw [e] at hj hret
      simp only [Row.lst] at hj
      refine wpAny_call ?_
      ktr_enter
      k_steps
      rename News _ _ _ _ => N9
      exact hret _ _ _ _ (by assumption) (news_drop2 N9) ⟨_, _, rfl, rfl, .cons 1 _ (.cons j _ .nil), by simp, by (first | assumption | exact ltAll_of (by assumption) | exact ltAll_of (And.right (by assumption)) | exact ltAll_of (And.right (And.right (by assumption))))⟩
    · have e : sortOf rn.kind = 2 := by rw [sortOf, if_neg hk0, if_neg hk1]
      rw [e] at hj hret
      simp only [Row.lst] at hj
      refine wpAny_call ?_
      ktr_enter
      k_steps
      rename News _ _ _ _ => N9
      exact hret _ _ _ _ (by assumption) (news_drop2 N9) ⟨_, _, rfl, rfl, .cons 2 _ (.cons j _ .nil), by simp, by (first | assumption | exact ltAll_of (by assumption) | exact ltAll_of (And.right (by assumption)) | exact ltAll_of (And.right (And.right (by assumption))))⟩

section
variable {prog : Program} {w : World} {A : Around} {s : Shared} {env : Env} {h₀ : Heap}

theorem my_frT {R : Result → Shared → Prop} {xi xc : Str} {pk pv pt : Pos} {x1 : Nat} {body : List Stmt} {I : Addr} {fp wr : List Addr} {n : Nat} {Pt : Nat → Array Value → Prop} {St : Nat → Heap → Prop} {Mid : Nat → Addr → Heap → Prop}
    {P2 : Nat → Value → Value → Prop} {m : Str → Option Value} {news : Ldg} (hh : A.handled = none) (W : WalksT prog w A I fp wr n Pt St Mid) (h2 : ∀ i vals, Pt i vals → ∃ v0 v1, vals = #[v0, v1] ∧ P2 i v0 v1)
    (hxi : env.kindOf xi = some .local) (hxc : env.kindOf xc = some .local)
    (hp : (env.scope.kind == .class || (env.scope.kind == .module && env.locals != env.globals)) = false)
    (hLf : env.locals ∉ fp) (hwr : ∀ b ∈ wr, h₀.get? b = none) (hnw : ∀ p ∈ news, p.1 ∉ wr)
    (hst : St 0 s.heap) (F : Fr h₀ env.locals s.heap m) (N : News h₀ env.locals s.heap news)
    (J : Nat → (Str → Option Value) → Ldg → Prop) (h0 : J 0 m news)
    (step : ∀ i v0 v1 m₁ news₁ s₁ own, (∃ h tk, s₁ = { s with heap := h, toks := tk }) → i < n → P2 i v0 v1 → J i m₁ news₁ → (∀ p ∈ news₁, p.1 ∉ wr) → (∀ p ∈ own, p.1 ∈ fp) → (∀ b ∈ fp, h₀.get? b = none → ∀ o, s₁.heap.get? b = some o → (b, o) ∈ own) → St (i + 1) s₁.heap →
      Fr h₀ env.locals s₁.heap (fun y => if y = xc then some v1 else if y = xi then some v0 else m₁ y) → News h₀ env.locals s₁.heap (own ++ news₁) →
      wpAny (model prog w) A (execs body env) (LoopStepV h₀ env.locals wr own (J (i + 1)) s₁ (fun v s' => R (.ok (.ret v)) s') fun s' => R (.ok .next) s') (notedBy (model prog w) A env fun e s' => R (.error e) s') s₁)
    (hR : ∀ h' tk m' news', Fr h₀ env.locals h' m' → News h₀ env.locals h' news' → J n m' news' → R (.ok .next) { s with heap := h', toks := tk }) :
    codeAny (model prog w) A (.forLoop (.Tuple [.Name xi pk, .Name xc pv] x1 pt) (.ref I) body [] env) R s := by
  have hLw : env.locals ∉ wr := fun h => hLf (W.sub _ h)
  have old : ∀ b o, h₀.get? b = some o → b ∉ wr := fun b o e hb => by rw [hwr b hb] at e; cases e
  refine codeAny_forLoop_any
    (fun k s' => ∃ h' tk m' news' i, s' = { s with heap := h', toks := tk } ∧ St i h' ∧ Fr h₀ env.locals h' m' ∧ News h₀ env.locals h' news' ∧ (∀ p ∈ news', p.1 ∉ wr) ∧ J i m' news' ∧ i ≤ n ∧ k = n + 1 - i) ?_ (n + 1)
    ⟨s.heap, s.toks, m, news, 0, rfl, hst, F, N, hnw, h0, Nat.zero_le _, rfl⟩
  rintro k s' ⟨H, tk, m', news', i, rfl, hst', F', N', ha', hJ, hi, rfl⟩
  have next : ∀ h₁ : Heap, (∀ b o, b ∉ wr → H.get? b = some o → h₁.get? b = some o) → Fr h₀ env.locals h₁ m' ∧ News h₀ env.locals h₁ news' := fun h₁ hk₁ =>
    ⟨⟨F'.ns.at' fun o e => hk₁ _ o hLw e, fun b o e => hk₁ b o (old b o e) (F'.keep b o e), F'.above⟩, fun p hp => ⟨hk₁ _ _ (ha' p hp) (N' p hp).1, (N' p hp).2⟩⟩
  by_cases hlt : i < n
  · refine W.item i _ _ _ hlt hst' fun T vals h₁ tk₁ hPt _ hT hMid hk₁ => ?_
    obtain ⟨v0, v1, rfl, hP2⟩ := h2 i vals hPt
    refine W.go _ x1 pt i T _ _ _ hMid fun h₂ hst₂ hk₂ => ?_
    have ht₂ : h₂.IsTuple T #[v0, v1] := hT.at fun o e => hk₂ T o (W.apart i T h₁ hMid) e
    refine wpAny_assign_Tuple hh ht₂ rfl rfl fun h₃ hx₃ => ?_
    replace hx₃ : Heap.ExtBut h₂.objs.size h₂ h₃ := hx₃
    have up₃ : ∀ b o, h₂.get? b = some o → h₃.get? b = some o := fun b o x => hx₃ b o (Nat.ne_of_lt (Heap.lt_size x)) x
    obtain ⟨F₃, N₃⟩ := next h₃ fun b o hb x => up₃ b o (hk₂ b o hb (hk₁ b o hb x))
    show wpAny _ A (do holding [v1] (assign (.Name xi pk) env v0); do holding [] (assign (.Name xc pv) env v1); pure ()) _ _ _
    refine wpAny_bind (wpAny_holding (wpAny_assign_Name (wpAny_storeName_local hxi F₃.ns (fun h₄ hn₄ hs₄ => ?_) hp)))
    replace hs₄ : Heap.SameBut env.locals h₃ h₄ := hs₄
    have F₄ := F₃.set hn₄ hs₄
    refine wpAny_bind (wpAny_holding (wpAny_assign_Name (wpAny_storeName_local hxc F₄.ns (fun h₅ hn₅ hs₅ => wpAny_pure ?_) hp)))
    replace hs₅ : Heap.SameBut env.locals h₄ h₅ := hs₅
    have F₅ := F₄.set hn₅ hs₅
    have N₅ : News h₀ env.locals h₅ news' := (N₃.set hs₄).set hs₅
    have hst₅ : St (i + 1) h₅ := W.frame _ _ _ hst₂ fun b hb o e => hs₅.extBut b o (fun q => hLf (q ▸ hb)) (hs₄.extBut b o (fun q => hLf (q ▸ hb)) (up₃ b o e))
    refine wpAny_mono (step i v0 v1 m' news' _ (ownOf h₀ fp h₅) ⟨_, _, rfl⟩ hlt hP2 hJ ha' ownOf_sub (fun b hb hn o e => mem_ownOf hb hn e) hst₅ F₅ ((news_ownOf hLf).append N₅)) (fun f s₃ h₆ => ?_) fun _ _ e => e
    cases f with
    | ret v => exact h₆
    | brk => exact h₆
    | cont =>
      obtain ⟨_, h₆', tk₆, m₂, news₂, rfl, F₆, N₆, ha₆, hJ₆⟩ := h₆
      refine ⟨n + 1 - (i + 1), by omega, h₆', tk₆, m₂, news₂, i + 1, rfl, ?_, F₆, N₆.right, ha₆, hJ₆, hlt, rfl⟩
      refine W.frame _ _ _ hst₅ fun b hb o e => ?_
      cases hn : h₀.get? b with
      | some o₀ =>
        have : o₀ = o := by have q := F₅.keep b o₀ hn; rw [e] at q; exact (Option.some.inj q).symm
        exact this ▸ F₆.keep b o₀ hn
      | none => exact (N₆ _ (List.mem_append_left _ (mem_ownOf hb hn e))).1
    | next =>
      obtain ⟨_, h₆', tk₆, m₂, news₂, rfl, F₆, N₆, ha₆, hJ₆⟩ := h₆
      refine ⟨n + 1 - (i + 1), by omega, h₆', tk₆, m₂, news₂, i + 1, rfl, ?_, F₆, N₆.right, ha₆, hJ₆, hlt, rfl⟩
      refine W.frame _ _ _ hst₅ fun b hb o e => ?_
      cases hn : h₀.get? b with
      | some o₀ =>
        have : o₀ = o := by have q := F₅.keep b o₀ hn; rw [e] at q; exact (Option.some.inj q).symm
        exact this ▸ F₆.keep b o₀ hn
      | none => exact (N₆ _ (List.mem_append_left _ (mem_ownOf hb hn e))).1
  · have hin : i = n := by omega
    subst hin
    refine W.done _ _ _ hst' fun h₁ tk₁ hk₁ => wpAny_execs_nil ?_
    obtain ⟨F₁, N₁⟩ := next h₁ hk₁
    exact hR h₁ tk₁ m' news' F₁ N₁ hJ

/-- for xi, xc in zip(two lists of the ledger), the body storing into nothing that stands -/
def ZipAt (prog : Program) (w : World) (A : Around) (h₀ : Heap) (env : Env) (xi xc : Str) (body : List Stmt) (Q : Flow → Shared → Prop) (E : Value → Shared → Prop) (it : Value) (s₂ : Shared) : Prop :=
  ∃ (I : Addr) (fp wr : List Addr) (n : Nat) (Pt : Nat → Array Value → Prop) (St : Nat → Heap → Prop) (Mid : Nat → Addr → Heap → Prop) (P2 : Nat → Value → Value → Prop) (m : Str → Option Value) (news : Ldg) (J : Nat → (Str → Option Value) → Ldg → Prop),
    it = .ref I ∧ WalksT prog w A I fp wr n Pt St Mid ∧ (∀ i vals, Pt i vals → ∃ v0 v1, vals = #[v0, v1] ∧ P2 i v0 v1) ∧ env.locals ∉ fp ∧ (∀ b ∈ wr, h₀.get? b = none) ∧ (∀ p ∈ news, p.1 ∉ wr) ∧ St 0 s₂.heap ∧
    Fr h₀ env.locals s₂.heap m ∧ News h₀ env.locals s₂.heap news ∧ J 0 m news ∧
    (∀ i v0 v1 m₁ news₁ s₁ own, (∃ h tk, s₁ = { s₂ with heap := h, toks := tk }) → i < n → P2 i v0 v1 → J i m₁ news₁ → (∀ p ∈ news₁, p.1 ∉ wr) → (∀ p ∈ own, p.1 ∈ fp) → (∀ b ∈ fp, h₀.get? b = none → ∀ o, s₁.heap.get? b = some o → (b, o) ∈ own) → St (i + 1) s₁.heap →
      Fr h₀ env.locals s₁.heap (fun y => if y = xc then some v1 else if y = xi then some v0 else m₁ y) → News h₀ env.locals s₁.heap (own ++ news₁) →
      wpAny (model prog w) A (execs body env) (LoopStepV h₀ env.locals wr own (J (i + 1)) s₁ (fun v s' => Q (.ret v) s') fun s' => Q .next s') E s₁) ∧
    (∀ h' tk m' news', Fr h₀ env.locals h' m' → News h₀ env.locals h' news' → J n m' news' → Q .next { s₂ with heap := h', toks := tk })
theorem For_zip {E : Value → Shared → Prop} {Q : Flow → Shared → Prop} {xi xc : Str} {pk pv pt pos : Pos} {x1 : Nat} {iter : PySem.Expr} {body : List Stmt} {L : Addr} {m : Str → Option Value} (F : Fr h₀ L s.heap m) (hh : A.handled = none)
    (hxi : env.kindOf xi = some .local) (hxc : env.kindOf xc = some .local)
    (hp : (env.scope.kind == .class || (env.scope.kind == .module && env.locals != env.globals)) = false)
    (hs : ∀ x, foldedSetIterable iter env x = pure x)
    (h : wpAny (model prog w) A (eval iter env) (fun xv s₁ => wpAny (model prog w) A (pyIter xv) (fun it s₂ => ZipAt prog w A h₀ env xi xc body Q E it s₂) E s₁) E s)
    (hE : PassesOwn (model prog w) A env E := by passes_own) :
    wpAny (model prog w) A (exec (.For (.Tuple [.Name xi pk, .Name xc pv] x1 pt) iter body [] pos) env) Q E s := by
  refine wpAny_For (wpAny_mono h (fun xv s₁ h₁ => wpAny_mono h₁ (fun it s₂ h₂ => ?_) fun _ _ e => e) fun _ _ e => e) hs
  obtain ⟨I, fp, wr, n, Pt, St, Mid, P2, m, news, J, rfl, W, h2, hLf, hwr, hnw, hst, F, N, h0, step, hQ⟩ := h₂
  exact my_frT (R := fun r s' => match r with | .ok f => Q f s' | .error e => cameBackBy (model prog w) A env E e s') hh W h2 hxi hxc hp hLf hwr hnw hst F N J h0 (by intros; exact wpAny_passesOwn hE (by apply step <;> assumption)) hQ

/-- a turn's end -/
def ZEnd {σ : Type} (h₀ : Heap) (L : Addr) (Led : σ → Ldg) (ps : σ → List (Str × Value)) (xi xc : Str) (stored : List Str) (m₀ : Str → Option Value) (P : σ → Prop) (own : Ldg) (c : σ) (s₁ s₂ : Shared) : Prop :=
  ∃ (c' : σ) (h' : Heap) (tk : Nat) (m' : Str → Option Value), s₂ = { s₁ with heap := h', toks := tk } ∧ Fr h₀ L h' m' ∧ News h₀ L h' (own ++ Led c') ∧ (∀ p ∈ Led c', p ∈ Led c ∨ ∀ q ∈ own, q.1 < p.1) ∧ (∀ p ∈ ps c', m' p.1 = some p.2) ∧
    (∀ z, z ≠ xi → z ≠ xc → (∀ p ∈ ps c', z ≠ p.1) → stored.contains z = false → m' z = m₀ z) ∧ P c'
def ZPost {σ : Type} (h₀ : Heap) (L : Addr) (Led : σ → Ldg) (ps : σ → List (Str × Value)) (xi xc : Str) (stored : List Str) (m₀ : Str → Option Value) (P : σ → Prop) (own : Ldg) (c : σ) (s₁ : Shared) (Q : Flow → Shared → Prop) (f : Flow) (s₂ : Shared) : Prop :=
  match f with
  | .ret v => Q (.ret v) s₂
  | .brk => Q .next s₂
  | _ => ZEnd h₀ L Led ps xi xc stored m₀ P own c s₁ s₂
theorem zpost {σ : Type} {L : Addr} {Led : σ → Ldg} {ps : σ → List (Str × Value)} {xi xc : Str} {stored : List Str} {m₀ m' : Str → Option Value} {P : σ → Prop} {own : Ldg} {c : σ} {s₁ : Shared} {h' : Heap} {tk : Nat} {news' : Ldg} {Q : Flow → Shared → Prop} (c' : σ)
    (F : Fr h₀ L h' m') (N : News h₀ L h' news') (hs : ∀ p ∈ own ++ Led c', p ∈ news') (hoff : ∀ p ∈ Led c', p ∈ Led c ∨ ∀ q ∈ own, q.1 < p.1) (hk : ∀ p ∈ ps c', m' p.1 = some p.2) (hr : ∀ z, z ≠ xi → z ≠ xc → (∀ p ∈ ps c', z ≠ p.1) → stored.contains z = false → m' z = m₀ z) (hp : P c') :
    ZPost h₀ L Led ps xi xc stored m₀ P own c s₁ Q .next { s₁ with heap := h', toks := tk } :=
  ⟨c', h', tk, m', rfl, F, fun p hp => N p (hs p hp), hoff, hk, hr, hp⟩

theorem my_zip {σ : Type} {E : Value → Shared → Prop} {Q : Flow → Shared → Prop} {xi xc : Str} {body : List Stmt} {l1 l2 : Addr} {vs1 vs2 : List Value} {n1 n2 : Nat} {m₀ : Str → Option Value} (Led : σ → Ldg) (ps : σ → List (Str × Value)) (stored : List Str) (P : Nat → σ → Prop) (c₀ : σ)
    (hh : A.handled = none) (F : Fr h₀ env.locals s.heap m₀) (N : News h₀ env.locals s.heap (Led c₀)) (hm1 : (l1, listOf vs1.toArray n1) ∈ Led c₀) (hm2 : (l2, listOf vs2.toArray n2) ∈ Led c₀) (hk : ∀ p ∈ ps c₀, m₀ p.1 = some p.2) (hp : P 0 c₀)
    (turn : ∀ (c : σ) (i : Nat) v0 v1 (u : Str → Option Value) h tk own, vs1[i]? = some v0 → vs2[i]? = some v1 → P i c →
      Fr h₀ env.locals h (fun y => if y = xc then some v1 else if y = xi then some v0 else kstB (fun z => if stored.contains z then u z else m₀ z) (ps c) y) → News h₀ env.locals h (own ++ Led c) →
      wpAny (model prog w) A (execs body env) (ZPost h₀ env.locals Led ps xi xc stored m₀ (P (i + 1)) own c { s with heap := h, toks := tk } Q) E { s with heap := h, toks := tk })
    (done : ∀ (c : σ) (u : Str → Option Value) h tk, P (min vs1.length vs2.length) c → Fr h₀ env.locals h (fun y => if y = xc then u y else if y = xi then u y else kstB (fun z => if stored.contains z then u z else m₀ z) (ps c) y) → News h₀ env.locals h (Led c) → Q .next { s with heap := h, toks := tk }) :
    wpAny (model prog w) A (call (.type "zip") [.ref l1, .ref l2]) (fun xv s₁ => wpAny (model prog w) A (pyIter xv) (fun it s₂ => ZipAt prog w A h₀ env xi xc body Q E it s₂) E s₁) E s := by
  have a1 := news_lt N hm1
  have a2 := news_lt N hm2
  have hls1 := my_isList N hm1
  have hls2 := my_isList N hm2
  refine call_zip_2 hls1 hls2 fun h' hz hTI hTO hit1 hit2 hsz hkeep => ?_
  refine wpAny_pyIter_zip hz ?_
  have D := zipApart_new a1 a2
  have W := WalksT.zip2 (prog := prog) (w := w) (A := A) hh (s.heap.objs.size + 4) (s.heap.objs.size + 2) (s.heap.objs.size + 3) s.heap.objs.size (s.heap.objs.size + 1) l1 l2 D vs1.toArray vs2.toArray
  rw [List.size_toArray, List.size_toArray] at W
  have F' : Fr h₀ env.locals h' m₀ := ⟨F.ns.keeps hkeep, fun b o e => hkeep b o (F.keep b o e), F.above⟩
  have N' : News h₀ env.locals h' (Led c₀) := fun p hp => ⟨hkeep _ _ (N p hp).1, (N p hp).2⟩
  have hLs : env.locals < s.heap.objs.size := F.ns.lt
  have hab : h₀.objs.size ≤ env.locals := F.above
  have nw : ∀ k, h₀.get? (s.heap.objs.size + k) = none := fun k => Heap.get?_none_of_le (Nat.le_trans hab (Nat.le_trans (Nat.le_of_lt hLs) (Nat.le_add_right _ k)))
  have hwr0 : ∀ b ∈ [s.heap.objs.size + 4, s.heap.objs.size + 3, s.heap.objs.size, s.heap.objs.size + 1], h₀.get? b = none := by
    intro b hb
    simp only [List.mem_cons, List.not_mem_nil, or_false] at hb
    rcases hb with rfl | rfl | rfl | rfl
    · exact nw 4
    · exact nw 3
    · exact nw 0
    · exact nw 1
  let J : Nat → (Str → Option Value) → Ldg → Prop := fun i m nx => ∃ c, nx = Led c ∧ (∀ p ∈ ps c, m p.1 = some p.2) ∧ (∀ z, z ≠ xi → z ≠ xc → (∀ p ∈ ps c, z ≠ p.1) → stored.contains z = false → m z = m₀ z) ∧ P i c
  refine ⟨_, _, _, _, _, _, _, fun i v0 v1 => vs1[i]? = some v0 ∧ vs2[i]? = some v1, m₀, Led c₀, J, rfl, W, ?_, ?_, hwr0, ?_, ⟨hz, hTI, ⟨_, _, hTO⟩, hit1, hit2, hls1.at fun o e => hkeep l1 o e, hls2.at fun o e => hkeep l2 o e⟩, F', N', ⟨c₀, rfl, hk, fun _ _ _ _ _ => rfl, hp⟩, ?_, ?_⟩
  · rintro i vals ⟨x, y, hx, hy, rfl⟩
    exact ⟨x, y, rfl, by simpa using hx, by simpa using hy⟩
  · intro hm
    simp only [List.mem_cons, List.not_mem_nil, or_false] at hm
    have up : ∀ k, env.locals ≠ s.heap.objs.size + k := fun k e => Nat.ne_of_lt (Nat.lt_of_lt_of_le hLs (Nat.le_add_right _ k)) e
    rcases hm with e | e | e | e | e | e | e
    · exact up 4 e
    · exact up 2 e
    · exact up 3 e
    · exact up 0 e
    · exact up 1 e
    · exact (N _ hm1).2.1 e.symm
    · exact (N _ hm2).2.1 e.symm
  · intro p hp hm
    have hq1 : p.1 < s.heap.objs.size := Heap.lt_size (N p hp).1
    simp only [List.mem_cons, List.not_mem_nil, or_false] at hm
    have dn : ∀ k, p.1 ≠ s.heap.objs.size + k := fun k e => Nat.ne_of_lt (Nat.lt_of_lt_of_le hq1 (Nat.le_add_right _ k)) e
    rcases hm with e | e | e | e
    · exact dn 4 e
    · exact dn 3 e
    · exact dn 0 e
    · exact dn 1 e
  · rintro i v0 v1 m₁ news₁ s₁ own ⟨hh', tk', rfl⟩ hin ⟨hv0, hv1⟩ ⟨c, rfl, h1, h2, hpc⟩ hoff hown hall ⟨z1, z2, ⟨ta, tb, z3⟩, z4, z5, z6, z7⟩ F₁ N₁
    have em : (fun y => if y = xc then some v1 else if y = xi then some v0 else kstB (fun z => if stored.contains z then m₁ z else m₀ z) (ps c) y) = fun y => if y = xc then some v1 else if y = xi then some v0 else m₁ y := by
      funext y
      by_cases hy : y = xc
      · rw [if_pos hy, if_pos hy]
      · rw [if_neg hy, if_neg hy]
        by_cases hy2 : y = xi
        · rw [if_pos hy2, if_pos hy2]
        · rw [if_neg hy2, if_neg hy2]
          exact kstB_eq h1 fun hn => by
            show (if stored.contains y = true then m₁ y else m₀ y) = m₁ y
            cases h3 : stored.contains y with
            | true => simp
            | false => simp only [Bool.false_eq_true, if_false]; exact (h2 y hy2 hy hn h3).symm
    rw [← em] at F₁
    refine wpAny_mono (turn c i v0 v1 m₁ hh' tk' own hv0 hv1 hpc F₁ N₁) (fun f s₂ p => ?_) fun _ _ e => e
    have fin : ZEnd h₀ env.locals Led ps xi xc stored m₀ (P (i + 1)) own c { s with heap := hh', toks := tk' } s₂ → LoopStepU h₀ env.locals [s.heap.objs.size + 4, s.heap.objs.size + 3, s.heap.objs.size, s.heap.objs.size + 1] own (J (i + 1)) { s with heap := hh', toks := tk' } .next s₂ := by
      rintro ⟨c', h'', tk, m', e, F', N', hoff', hk', hr', hpc'⟩
      refine ⟨rfl, h'', tk, m', Led c', e, F', N', fun p hp hq => ?_, c', rfl, hk', hr', hpc'⟩
      rcases hoff' p hp with h3 | h3
      · exact hoff p h3 hq
      · have live : ∃ o, (p.1, o) ∈ own := by
          have := hwr0 p.1 hq
          simp only [List.mem_cons, List.not_mem_nil, or_false] at hq
          have f1 := fun (b : Addr) hb (hn : h₀.get? b = none) o (e : hh'.get? b = some o) => hall b hb hn o e
          obtain ⟨o4, e4, _⟩ := z4
          obtain ⟨o5, e5, _⟩ := z5
          rcases hq with e | e | e | e
          · exact ⟨_, f1 _ (by rw [e]; simp) this _ (by rw [e]; exact z1)⟩
          · exact ⟨_, f1 _ (by rw [e]; simp) this _ (by rw [e]; exact z3)⟩
          · exact ⟨_, f1 _ (by rw [e]; simp) this _ (by rw [e]; exact e4)⟩
          · exact ⟨_, f1 _ (by rw [e]; simp) this _ (by rw [e]; exact e5)⟩
        obtain ⟨o, ho⟩ := live
        have h4 := h3 _ ho
        exact Nat.lt_irrefl _ h4
    cases f with
    | ret v => exact .ret p
    | brk => exact .brk p
    | next => exact .next (fin p)
    | cont => exact .cont (fin p)
  · rintro h'' tk m' news' F' N' ⟨c, rfl, h1, h2, hpc⟩
    refine done c m' h'' tk hpc ?_ N'
    have em : (fun y => if y = xc then m' y else if y = xi then m' y else kstB (fun z => if stored.contains z then m' z else m₀ z) (ps c) y) = m' := by
      funext y
      by_cases hy : y = xc
      · rw [if_pos hy]
      · rw [if_neg hy]
        by_cases hy2 : y = xi
        · rw [if_pos hy2]
        · rw [if_neg hy2]
          exact kstB_eq h1 fun hn => by
            show (if stored.contains y = true then m' y else m₀ y) = m' y
            cases h3 : stored.contains y with
            | true => simp
            | false => simp only [Bool.false_eq_true, if_false]; exact (h2 y hy2 hy hn h3).symm
    rw [em]
    exact F'
end

section
variable {prog : Program} {w : World} {A : Around} {E : Value → Shared → Prop} {s : Shared} {h₀ h : Heap} {L l : Addr} {m : Str → Option Value} {news : Ldg} {vs : List Value} {n : Nat} {Q : Value → Shared → Prop}
theorem my_itemN {value slice : PySem.Expr} {k : Int} {u : Tok} {x : Nat} {ns : List Nat} (N : News h₀ L s.heap news) (hm : (l, listOf vs.toArray n) ∈ news) (hv : NA vs ns) (h0 : 0 ≤ k) (hx : ns[k.toNat]? = some x) (hz : vs.length ≤ 100) (h : ∀ t, Q (.int (x : Int) t) s)
    (hs : subscripted slice false (.ref l) (.int k u) = operate [.ref l, .int k u] (getItem (.ref l) (.int k u))) :
    wpAny (model prog w) A (subscriptTail value slice (.ref l) (.int k u)) Q E s := by
  obtain ⟨t, ht⟩ := hv.get _ _ hx
  have hl := row_lt ht
  refine tail_any (my_isList N hm).typeIs slot_list_getitem.lookup (wpAny_getItem_list (my_isList N hm) h0 ?_ (by simpa using ht) (h t)) hs
  omega
end
local macro_rules | `(tactic| walk_at "subscriptTail") => `(tactic| (k_here; (with_reducible refine my_sub ?_); k_dflt (refine my_itemN (by k_asm) (by k_mem) (by assumption) (by first | decide | omega) (by assumption) (by omega) ?_ (by with_unfolding_all rfl); k_whole); intro ti'))
local macro_rules | `(tactic| walk_at "MYDOES") => `(tactic| ((with_reducible refine' lines_down_does ?a ?b ?c ?e _); walk_at "MYARGS"))

local macro_rules | `(tactic| walk_at "call type:zip") => `(tactic| (refine my_stop ?_))
local macro_rules | `(tactic| walk_at "exec For Tuple Call cons nil") => `(tactic| (refine my_stop ?_))

local macro_rules | `(tactic| k_mem) => `(tactic| (ktn_app; first | (refine List.mem_append_right _ ?_; k_mem) | (refine List.mem_append_left _ ?_; k_mem)))
local macro_rules | `(tactic| walk_at "MYDOES") => `(tactic| ((with_reducible refine' place_among_does ?a ?b ?c ?e ?f _ _); walk_at "MYARGS"))


/-- the steps of a way down: for each two neighbours the sort and the place of the lower one in the upper one's lists -/
inductive Steps (t : Tr) : List Nat → List Nat → Prop
  | one (a : Nat) : Steps t [a] []
  | cons {a b j : Nat} {l q : List Nat} {rp rn : Row} (hrp : t.rows[a]? = some rp) (hrn : t.rows[b]? = some rn) (hj : (rp.lst (sortOf rn.kind)).idxOf? b = some j) (h : Steps t (b :: l) q) : Steps t (a :: b :: l) (sortOf rn.kind :: j :: q)

theorem Steps.length {t : Tr} : ∀ {l q : List Nat}, Steps t l q → q.length + 2 = 2 * l.length
  | _, _, .one a => rfl
  | _, _, .cons _ _ _ h => by have := h.length; simp only [List.length_cons] at this ⊢; omega
theorem pick_from1 (vs : List Value) : slicePick vs.toArray (some 1) none none = (vs.drop 1).toArray := by
  rw [kms_pick_eq]
  unfold kms_pick kms_lo kms_hi
  have h1 : ¬ ((1 : Int) < 0) := by decide
  simp only [if_neg h1]
  congr 1
  cases vs with
  | nil => rfl
  | cons v vs => simp

theorem my_addT {prog : Program} {w : World} {A : Around} {E : Value → Shared → Prop} {s : Shared} {h₀ : Heap} {L t b : Addr} {m : Str → Option Value} {news : Ldg} {vs ws : List Value} {ns ms : List Nat} {Q : Value → Shared → Prop} (F : Fr h₀ L s.heap m) (N : News h₀ L s.heap news)
    (h1 : (t, tupObj vs) ∈ news) (h2 : (b, tupObj ws) ∈ news) (hv : NA vs ns) (hw : NA ws ms) (n1 : ns ≠ []) (n2 : ms ≠ []) (hz1 : vs.length ≤ 100) (hz2 : ws.length ≤ 100)
    (h : ∀ h', Fr h₀ L h' m → News h₀ L h' ((s.heap.objs.size, tupObj (vs ++ ws)) :: news) → Q (.ref s.heap.objs.size) { s with heap := h' }) :
    wpAny (model prog w) A (binaryOp .Add (.ref t) (.ref b)) Q E s := by
  have e1 : vs ≠ [] := fun e => n1 (by subst e; cases hv; rfl)
  have e2 : ws ≠ [] := fun e => n2 (by subst e; cases hw; rfl)
  exact add_tuples F N (N.isTup h1) (N.isTup h2) (fun e => absurd e e1) (fun _ e => absurd e e2) (fun _ _ h' F' N' => h h' F' N') (by rw [sizeLine_eq]; omega)

structure PlSt where
  D : Addr
  vs : List Value
  ns : List Nat

theorem place_of_does {w : World} {news : Ldg} {t : Tr} (I : t.In w news) {T : Addr} (hT : t.T = T) {k : Nat} {up : List Nat} (hup : Up t (some k) up) (hfew : up.length ≤ 40) {r0 : Nat} {l0 q : List Nat} (hr0 : up.reverse = r0 :: l0) (hst : Steps t up.reverse q) (tq : Tok) :
    Does w (.ref 42) 6 [.ref T, .int (k : Int) tq] news (NewTup (r0 :: q) news) := by
  subst hT
  intro prog p loose mean mg mb dp un gd cn cs a ccd cl outer A₀ base h₀ L m s Q E B F X N TT hk hdp hun hret
  have h1 := I.inst
  obtain ⟨tk1, h2⟩ := I.dct
  have hfew90 : up.length ≤ 90 := by omega
  have hrr : up.reverse[0]? = some r0 := by rw [hr0]; rfl
  refine wpAny_call ?_
  ktr_enter
  k_steps
  refine stop ?_
  rename Fr _ _ _ _ => Fz
  with_unfolding_all refine' For_zip Fz ?hh ?hxi ?hxc ?hp ?hs ?_ ?hE
  case hh => with_unfolding_all rfl
  case hxi => with_unfolding_all rfl
  case hxc => with_unfolding_all rfl
  case hp => with_unfolding_all rfl
  case hs => (intro _; with_unfolding_all rfl)
  case hE => passes_own
  k_steps
  refine stop ?_
  rename_i lz vz nz hvz hlz ltz zz hz3 tkz tiz Dz hz2 l1z hz1 Nz hz0 F9 N9
  rw [pick_from1] at N9
  generalize hH : (_ : Addr) + 1 = Sz at N9
  refine my_zip (fun c : PlSt => (c.D, tupObj c.vs) :: (Sz, W.listOf (vz.drop 1).toArray 0) :: (lz, W.listOf vz.toArray nz) :: news) (fun c => [(Str.ofString "found", .ref c.D)]) [] (fun i c => NA c.vs c.ns ∧ ∃ q', Steps t (up.reverse.drop i) q' ∧ c.ns ++ q' = r0 :: q ∧ c.ns ≠ [] ∧ ∀ p ∈ news, p.1 < c.D) ⟨Dz, [.int r0 tiz], [r0]⟩ rfl (by assumption)
    (fun p hp => N9 p (by simp only [List.mem_cons] at hp ⊢; rcases hp with h | h | h | h <;> simp [h])) (n1 := nz) (n2 := 0) (vs1 := vz) (vs2 := vz.drop 1) (by k_mem) (by k_mem) (by kst_all) ⟨.one r0 tiz, q, hst, rfl, by simp, ltAll_of l1z.2⟩ ?_ ?_
  · rintro ⟨D, vs, ns⟩ i v0 v1 u h tk0 own hv0 hv1 ⟨hn, q', hs, he, hne, hlt⟩ F1 N1
    dsimp only at hn hs he F1 N1 ⊢
    obtain ⟨a1, ta, rfl, ha⟩ := hvz.item hv0
    obtain ⟨b1, tb, rfl, hb⟩ := (hvz.drop 1).item hv1
    have hd : up.reverse.drop i = a1 :: up.reverse.drop (i + 1) := by
      rw [List.drop_eq_getElem_cons (row_lt ha)]
      congr 1
      exact Option.some.inj ((List.getElem?_eq_getElem (row_lt ha)).symm.trans ha)
    have hb' : up.reverse[i + 1]? = some b1 := by
      rw [List.getElem?_drop] at hb
      rw [← hb]; congr 1; omega
    have hd2 : up.reverse.drop (i + 1) = b1 :: up.reverse.drop (i + 2) := by
      rw [List.drop_eq_getElem_cons (row_lt hb')]
      congr 1
      exact Option.some.inj ((List.getElem?_eq_getElem (row_lt hb')).symm.trans hb')
    rw [hd, hd2] at hs
    cases hs with
    | cons hrp hrn hj hs' =>
      rename_i j q2 rp rn
      have hqq := hst.length
      rw [List.length_reverse] at hqq
      have hl3 := congrArg List.length he
      have hn3 := hn.length
      simp only [List.length_append, List.length_cons] at hl3
      k_steps
      rename News _ _ _ _ => N8
      rename NA _ [_, _] => hw8
      have hw9 := hw8.length
      have lt8 := fun (q8 : Addr × Obj) (hq8 : q8 ∈ own) => news_lt N8 (List.mem_cons_of_mem _ (List.mem_append_left _ hq8))
      have lt9 := fun (q8 : Addr × Obj) (hq8 : q8 ∈ news) => news_lt N8 (List.mem_cons_of_mem _ (List.mem_append_right _ (List.mem_cons_of_mem _ (List.mem_cons_of_mem _ (List.mem_cons_of_mem _ hq8)))))
      refine my_addT (by assumption) N8 (by k_mem) (by k_mem) hn hw8 hne (by simp) (by omega) (by simp at hw9; omega) ?_
      intro h9 F9' N9'
      k_steps
      refine zpost ⟨_, _, ns ++ [sortOf rn.kind, j]⟩ (by assumption) (by assumption) (fun p hp => ?_) (fun p hp => ?_) (by kst_all) (by (intro z h1 h2 h3 h4; first | rfl | ((simp only [List.contains_cons, List.contains_nil, Bool.or_false, Bool.or_eq_false_iff, beq_eq_false_iff_ne, ne_eq] at h4); (simp only [List.forall_mem_cons, List.not_mem_nil, false_implies, implies_true, and_true, ne_eq] at h3); (simp [kstB, h1, h2, h3, h4]; done)))) ⟨hn.append hw8, q2, by rw [hd2]; exact hs', by simpa using he, by simp, lt9⟩
      · simp only [List.mem_append, List.mem_cons] at hp ⊢
        rcases hp with h | h | h | h | h <;> simp [h]
      · rcases List.mem_cons.mp hp with rfl | h
        · exact .inr lt8
        · exact .inl (List.mem_cons_of_mem _ h)
  · rintro ⟨D, vs, ns⟩ u h tk0 ⟨hn, q', hs, he, hne, hlt⟩ F1 N1
    dsimp only at hn hs he F1 N1 ⊢
    have hqq := hst.length
    have hn3 := hn.length
    have hl3 := congrArg List.length he
    simp only [List.length_append, List.length_cons] at hl3
    rw [List.length_reverse] at hqq
    have hvl := hvz.length
    rw [List.length_reverse] at hvl
    have hup0 : up.length ≠ 0 := by
      have := congrArg List.length hr0
      rw [List.length_reverse, List.length_cons] at this
      omega
    have hql := hs.length
    rw [List.length_drop, List.length_drop, List.length_reverse] at hql
    have hq0 : q' = [] := by
      apply List.eq_nil_of_length_eq_zero
      omega
    subst hq0
    rw [List.append_nil] at he
    subst he
    k_steps
    rename News _ _ _ _ => N8
    exact hret _ _ _ _ (by assumption) (fun p hp => N8 p (by rcases List.mem_cons.mp hp with h | h <;> simp [h])) ⟨_, _, rfl, rfl, hn, by omega, hlt⟩

section
variable {prog : Program} {w : World} {A : Around} {E : Value → Shared → Prop} {s : Shared} {h₀ h : Heap} {L l : Addr} {m : Str → Option Value} {news : Ldg} {its : List Value} {n : Nat}
theorem my_itemA {value slice : PySem.Expr} {k : Int} {u : Tok} {x : Value} {Q : Value → Shared → Prop} (N : News h₀ L s.heap news) (hm : (l, listOf its.toArray n) ∈ news) (h0 : 0 ≤ k) (hk : k < 2 ^ 63) (hx : its[k.toNat]? = some x) (h : Q x s)
    (hs : subscripted slice false (.ref l) (.int k u) = operate [.ref l, .int k u] (getItem (.ref l) (.int k u))) :
    wpAny (model prog w) A (subscriptTail value slice (.ref l) (.int k u)) Q E s :=
  tail_any (my_isList N hm).typeIs slot_list_getitem.lookup (wpAny_getItem_list (my_isList N hm) h0 hk (by simpa using hx) h) hs
theorem my_setA {k : Int} {t : Tok} {v : Value} {q : List Value} {Q : Unit → Shared → Prop} (F : Fr h₀ L s.heap m) (N : News h₀ L s.heap news) (hm : (l, listOf its.toArray n) ∈ news) (h0 : 0 ≤ k) (hk : k < 2 ^ 63) (e : ki_setL its k.toNat v = some q)
    (h : ∀ h' news', Fr h₀ L h' m → News h₀ L h' news' → UpdTo l (listOf q.toArray n) news news' → Q () { s with heap := h' }) : wpAny (model prog w) A (setItem (.ref l) (.int k t) v) Q E s :=
  ki_set F (offL_news N hm) h0 hk (by simpa using e) offL_upd fun h' F' N' => h h' _ F' N' (updL_to hm)
end
local macro_rules | `(tactic| walk_at "subscriptTail") => `(tactic| (k_here; (with_reducible refine my_sub ?_); k_dflt (refine my_itemA (its := [_, _]) (by k_asm) (by walk_at "MYMEM") (by decide) (by decide) (by exact rfl) ?_ (by with_unfolding_all rfl); k_whole)))

/-- the law's source of draws: a list of two ints -/
def Src (news : Ldg) (S : Addr) : Prop := ∃ (a b : Int) (ta tb : Tok) (n : Nat), (S, listOf [Value.int a ta, Value.int b tb].toArray n) ∈ news ∧ 0 ≤ a ∧ 0 ≤ b ∧ b < 2147483647

theorem take_does {w : World} {news : Ldg} {S : Addr} (hS : Src news S) {top : Nat} (ht : 0 < top) (hz : top ≤ 1000) (tq : Tok) :
    Does w (.ref 314) 1 [.ref S, .int (top : Int) tq] news (fun r news' => ∃ (d : Nat) (u : Tok), r = .int (d : Int) u ∧ d < top ∧ Src news' S ∧ ∀ q ∈ news, q.1 ≠ S → q ∈ news') := by
  intro prog p loose mean mg mb dp un gd cn cs a ccd cl outer A₀ base h₀ L m s Q E B F X N TT hk hdp hun hret
  obtain ⟨za, zb, ta, tb, n, hm, ha, hb, hb2⟩ := hS
  have hht : (0 : Int) < (top : Int) := by omega
  have hne : (top : Int) ≠ 0 := by omega
  refine wpAny_call ?_
  ktr_enter
  k_steps
  · refine my_setA (by assumption) (by assumption) hm (by decide) (by decide) rfl ?_
    intro h5 news5 F5 N5 U
    have hm5 := U.self
    k_steps
    have h8 := Int.fmod_nonneg_of_pos za hht
    have h9 := Int.fmod_lt_of_pos za hht
    exact hret _ _ _ _ (by assumption) (by assumption) ⟨(za.fmod (top : Int)).toNat, _, mkInt_eq (Int.toNat_of_nonneg h8).symm, by omega, ⟨_, _, _, _, _, hm5, Int.fdiv_nonneg ha (by omega), hb, hb2⟩, U.keep⟩
  · refine my_setA (by assumption) (by assumption) hm (by decide) (by decide) rfl ?_
    intro h5 news5 F5 N5 U
    have hm5 := U.self
    k_steps
    have f1 := Int.fmod_nonneg_of_pos (zb * 39373 + 7) (show (0 : Int) < 2147483647 by decide)
    have f2 := Int.fmod_lt_of_pos (zb * 39373 + 7) (show (0 : Int) < 2147483647 by decide)
    refine hret _ _ _ _ (by assumption) (by assumption) ⟨Int.toNat _, _, mkInt_eq (Int.toNat_of_nonneg (Int.fmod_nonneg_of_pos _ hht)).symm, ?_, ⟨_, _, _, _, _, hm5, ha, f1, f2⟩, U.keep⟩
    have h9 := Int.fmod_lt_of_pos ((((zb * 39373 + 7).fmod 2147483647 * (zb * 39373 + 7).fmod 2147483647).fmod 2147483629).fdiv 32) hht
    have h8 := Int.fmod_nonneg_of_pos ((((zb * 39373 + 7).fmod 2147483647 * (zb * 39373 + 7).fmod 2147483647).fmod 2147483629).fdiv 32) hht
    omega

local macro_rules | `(tactic| walk_at "MYDOES") => `(tactic| ((with_reducible refine' take_does ?a ?b ?c _); walk_at "MYARGS"))

theorem one_does {w : World} {news : Ldg} {S l : Addr} {vs : List Value} {n : Nat} (hS : Src news S) (hm : (l, listOf vs.toArray n) ∈ news) (hl : l ≠ S) (h0 : 0 < vs.length) (hz : vs.length ≤ 1000) :
    Does w (.ref 321) 3 [.ref S, .ref l] news (fun r news' => (∃ i : Nat, vs[i]? = some r) ∧ Src news' S ∧ ∀ q ∈ news, q.1 ≠ S → q ∈ news') := by
  intro prog p loose mean mg mb dp un gd cn cs a ccd cl outer A₀ base h₀ L m s Q E B F X N TT hk hdp hun hret
  refine wpAny_call ?_
  ktr_enter
  k_steps
  refine stop ?_
  rintro v1 news1 h1' tk1' F2 N2 ⟨d, u, rfl, hd, hS1, hkeep⟩
  have hm1 := hkeep _ hm hl
  have hvd : vs[d]? = some vs[d] := List.getElem?_eq_getElem hd
  k_steps
  exact hret _ _ _ _ (by assumption) (by assumption) ⟨⟨d, hvd⟩, hS1, hkeep⟩

theorem hideI {prog : Program} {w : World} {A : Around} {c : Sem Bool} {d : Sem Flow} {P : Flow → Shared → Prop} {R : Shared → Prop} {E : Value → Shared → Prop} {s : Shared}
    (h : ∀ K : Flow → Shared → Prop, (∀ v t, P v t → K v t) → wpAny (model prog w) A c (fun b s₂ => if b = true then wpAny (model prog w) A d K E s₂ else R s₂) E s) :
    wpAny (model prog w) A c (fun b s₂ => if b = true then wpAny (model prog w) A d P E s₂ else R s₂) E s := h P (fun _ _ x => x)
/-- one entry of the law's own book -/
structure BRow where
  par : Option Nat
  nsp : List Nat
  atr : List Nat
  ch : List Nat
  e : Addr
  cN : Addr
  cA : Addr
  cC : Addr
def BRow.adr (r : BRow) : List Addr := [r.e, r.cN, r.cA, r.cC]
structure BRow.In (news : Ldg) (r : BRow) : Prop where
  e : ∃ pv n, PV pv r.par ∧ (r.e, listOf [pv, .ref r.cN, .ref r.cA, .ref r.cC].toArray n) ∈ news
  nsp : IL news r.cN r.nsp
  atr : IL news r.cA r.atr
  ch : IL news r.cC r.ch

def IntDict (o : Obj) (kvs : List (Int × Value)) : Prop := ∀ (prog : Program) (w : World), o.IsDictOf (PySem.intKind prog w) kvs
theorem intDict_of {prog : Program} {w : World} {o : Obj} {kvs : List (Int × Value)} (h : o.IsDictOf (PySem.intKind prog w) kvs) : IntDict o kvs := by
  intro prog' w'
  obtain ⟨es, ep, h1, h2, h3, h4, h5⟩ := h
  refine ⟨es, ep, h1, h2, h3, ?_, h5⟩
  clear h1 h2 h3 h5
  generalize es.toList = l at h4
  induction h4 with
  | nil => exact .nil
  | cons a b _ ih => exact .cons a b ih

noncomputable def Bk.kvsFrom : Nat → List BRow → List (Int × Value)
  | _, [] => []
  | i, r :: rs => ((i : Int), .ref r.e) :: Bk.kvsFrom (i + 1) rs
structure Bk where
  B : Addr
  rows : List BRow
noncomputable def Bk.kvs (b : Bk) : List (Int × Value) := Bk.kvsFrom 0 b.rows
def Bk.adr (b : Bk) : List Addr := b.B :: b.rows.flatMap BRow.adr
structure Bk.In (news : Ldg) (b : Bk) : Prop where
  dict : ∃ o, (b.B, o) ∈ news ∧ IntDict o b.kvs
  rows : ∀ r ∈ b.rows, r.In news
  few : b.rows.length ≤ 20
  apart : b.adr.Nodup
  low : (b.B == sysModules) = false

theorem kvsFrom_find : ∀ (rs : List BRow) (i k : Nat) (r : BRow), rs[k]? = some r → valueAt (Bk.kvsFrom i rs) ((i + k : Nat) : Int) = some (.ref r.e)
  | [], _, _, _, h => by cases h
  | x :: rs, i, 0, r, h => by
    simp at h; subst h
    simp [Bk.kvsFrom, valueAt]
  | x :: rs, i, k + 1, r, h => by
    simp at h
    have ih := kvsFrom_find rs (i + 1) k r h
    have e : i + 1 + k = i + (k + 1) := by omega
    rw [e] at ih
    unfold Bk.kvsFrom valueAt
    rw [List.find?_cons_of_neg (by simp; omega)]
    exact ih
theorem Bk.find {b : Bk} {k : Nat} {r : BRow} (h : b.rows[k]? = some r) : valueAt b.kvs (k : Int) = some (.ref r.e) := by
  have := kvsFrom_find b.rows 0 k r h
  rwa [Nat.zero_add] at this
theorem kvsFrom_len : ∀ (rs : List BRow) (i : Nat), (Bk.kvsFrom i rs).length = rs.length
  | [], _ => rfl
  | _ :: rs, i => by simp [Bk.kvsFrom, kvsFrom_len rs (i + 1)]

theorem BRow.In.mono {news news' : Ldg} {r : BRow} (I : r.In news) (k : ∀ p ∈ news, p.1 ∈ r.adr → p ∈ news') : r.In news' := by
  obtain ⟨⟨pv, n, hp, i1⟩, i2, i3, i4⟩ := I
  exact ⟨⟨pv, n, hp, k _ i1 (by simp [BRow.adr])⟩, i2.mono fun o h => k _ h (by simp [BRow.adr]), i3.mono fun o h => k _ h (by simp [BRow.adr]), i4.mono fun o h => k _ h (by simp [BRow.adr])⟩
theorem Bk.In.mono {news news' : Ldg} {b : Bk} (I : b.In news) (k : ∀ p ∈ news, p.1 ∈ b.adr → p ∈ news') : b.In news' := by
  obtain ⟨⟨o, i1, hd⟩, i2, i3, i4, i5⟩ := I
  refine ⟨⟨o, k _ i1 (by simp [Bk.adr]), hd⟩, fun r hr => (i2 r hr).mono fun p hp ha => k p hp ?_, i3, i4, i5⟩
  simp only [Bk.adr, List.mem_cons, List.mem_flatMap]
  exact .inr ⟨r, hr, ha⟩
theorem BRow.In.has {news : Ldg} {r : BRow} (I : r.In news) : ∀ a ∈ r.adr, ∃ o, (a, o) ∈ news := by
  obtain ⟨⟨pv, n, hp, i1⟩, ⟨v3, n3, i3, -⟩, ⟨v4, n4, i4, -⟩, ⟨v5, n5, i5, -⟩⟩ := I
  intro a ha
  simp only [BRow.adr, List.mem_cons, List.not_mem_nil, or_false] at ha
  rcases ha with rfl | rfl | rfl | rfl <;> exact ⟨_, by assumption⟩
theorem Bk.In.has {news : Ldg} {b : Bk} (I : b.In news) : ∀ a ∈ b.adr, ∃ o, (a, o) ∈ news := by
  intro a ha
  obtain ⟨⟨o, i1, hd⟩, i2, -, -, -⟩ := I
  simp only [Bk.adr, List.mem_cons, List.mem_flatMap] at ha
  rcases ha with rfl | ⟨r, hr, ha⟩
  · exact ⟨_, i1⟩
  · exact (i2 r hr).has a ha

section
variable {prog : Program} {w : World} {A : Around} {E : Value → Shared → Prop} {s : Shared} {h₀ h : Heap} {L : Addr} {m : Str → Option Value} {news : Ldg} {Q : Value → Shared → Prop}
theorem my_book {value slice : PySem.Expr} {b : Bk} {B : Addr} {k : Nat} {u : Tok} {r : BRow} (N : News h₀ L s.heap news) (hb : b.In news) (hB : b.B = B) (hr : b.rows[k]? = some r) (h : Q (.ref r.e) { s with toks := s.toks + 1 })
    (hs : subscripted slice false (.ref B) (.int (k : Int) u) = operate [.ref B, .int (k : Int) u] (getItem (.ref B) (.int (k : Int) u))) :
    wpAny (model prog w) A (subscriptTail value slice (.ref B) (.int (k : Int) u)) Q E s := by
  subst hB
  obtain ⟨o, ho, hd⟩ := hb.dict
  exact kdt_tail N ho (hd prog w) (kdt_getItem N ho (hd prog w) (intKind_is _ _ _ _) (Bk.find hr) h) hs
end
local macro_rules | `(tactic| walk_at "subscriptTail") => `(tactic| (k_here; (with_reducible refine my_sub ?_); k_dflt (refine my_itemA (its := [_, _, _, _]) (by k_asm) (by walk_at "MYMEM") (by decide) (by decide) (by exact rfl) ?_ (by with_unfolding_all rfl); k_whole)))
local macro_rules | `(tactic| walk_at "subscriptTail") => `(tactic| (k_here; (with_reducible refine my_sub ?_); k_dflt (refine my_book (by k_asm) (by first | assumption | exact Bk.In.mono (by assumption) (fun p hp _ => by walk_at "MYMEM")) (by rfl) (by assumption) ?_ (by with_unfolding_all rfl); k_whole)))

theorem my_addL {prog : Program} {w : World} {A : Around} {E : Value → Shared → Prop} {s : Shared} {h₀ : Heap} {L l b : Addr} {m : Str → Option Value} {news : Ldg} {vs ws : List Value} {n1 n2 : Nat} {Q : Value → Shared → Prop} (F : Fr h₀ L s.heap m) (N : News h₀ L s.heap news)
    (h1 : (l, listOf vs.toArray n1) ∈ news) (h2 : (b, listOf ws.toArray n2) ∈ news) (hz : vs.length + ws.length ≤ 1000)
    (h : ∀ D h', Fr h₀ L h' m → News h₀ L h' ((D, listOf (vs ++ ws).toArray 0) :: news) → (∀ p ∈ news, p.1 < D) → Q (.ref D) { s with heap := h' }) :
    wpAny (model prog w) A (binaryOp .Add (.ref l) (.ref b)) Q E s := by
  refine add_arrays F N (my_isList N h1) (my_isList N h2) (fun h' F' N' => ?_) (by rw [List.size_toArray, List.size_toArray, sizeLine_eq]; omega)
  simp only at N'
  exact h _ h' F' N' fun p hp => Heap.lt_size (N p hp).1
local macro_rules | `(tactic| walk_at "binaryOp Add ref ref") => `(tactic| (k_here; k_dflt (refine my_addL (by k_asm) (by k_asm) (by walk_at "MYMEM") (by walk_at "MYMEM") (by (try simp only [List.length_append, List.length_cons, List.length_nil]); omega) ?_); intro D' h' F' N' l1; (try k_lt l1); (try k_sweep)))

/-- the nodes from o upward, by the book -/
inductive UpB (b : Bk) : Option Nat → List Nat → Prop
  | nil : UpB b none []
  | cons {k : Nat} {r : BRow} {l : List Nat} (hr : b.rows[k]? = some r) (h : UpB b r.par l) : UpB b (some k) (k :: l)

structure LnSt where
  lf : Addr
  vs : List Value
  cur : Nat
  ns : List Nat
  rest : List Nat

theorem law_line_does {w : World} {news : Ldg} {b : Bk} (I : b.In news) {B : Addr} (hB : b.B = B) {k : Nat} {up : List Nat} (hup : UpB b (some k) up) (hfew : up.length ≤ 90) (tq : Tok) :
    Does w (.ref 335) 2 [.ref B, .int (k : Int) tq] news (Copied up.reverse news) := by
  subst hB
  intro prog p loose mean mg mb dp un gd cn cs a ccd cl outer A₀ base h₀ L m s Q E B F X N TT hk hdp hun hret
  refine wpAny_call ?_
  ktr_enter
  k_steps
  refine stop ?_
  rename_i lf hx ltf hy Ff Nf
  cases hup with
  | cons hr0 hu0 =>
  rename_i r0 l0
  refine ksw_while (fun c : LnSt => (c.lf, listOf c.vs.toArray 0) :: news) (fun c => [(Str.ofString "found", .ref c.lf)]) (fun _ => True) [] (fun c => NA c.vs (c.cur :: c.ns) ∧ (∃ r, b.rows[c.cur]? = some r ∧ UpB b r.par c.rest) ∧ c.rest.reverse ++ (c.cur :: c.ns) = (k :: l0).reverse ∧ ∀ p ∈ news, p.1 < c.lf) (fun c => c.rest.length)
    ⟨lf, [.int (k : Int) tq], k, [], l0⟩ (by assumption) (by assumption) trivial (by kst_all) ⟨.one k tq, ⟨r0, hr0, hu0⟩, by simp, ltf⟩ ?_
  rintro ⟨lf, vs, cur, ns, rest⟩ u h tk0 - ⟨hn, ⟨r, hr, hu⟩, he, hlt⟩ F1 N1
  dsimp only at hn hr hu he hlt F1 N1 ⊢
  have hl1 := hn.length
  have hl2 := congrArg List.length he
  simp only [List.length_append, List.length_cons, List.length_reverse] at hl1 hl2 hfew
  obtain ⟨⟨pv, n, hpv, i1⟩, -, -, -⟩ := I.rows r (row_mem hr)
  have hc0 : (cur :: ns)[0]? = some cur := rfl
  generalize hgp : r.par = o at hpv hu
  cases hpv with
  | none =>
    cases hu
    k_steps
    simp only [List.reverse_nil, List.nil_append] at he
    exact hret _ _ _ _ (by assumption) (by assumption) ⟨_, _, _, rfl, rfl, he ▸ hn, by omega, hlt⟩
  | some k' tk' =>
    cases hu with
    | cons hr' hu' =>
      rename_i r' l
      simp only [List.length_cons] at hl2
      refine hideI ?_
      intro K9 hK9
      k_steps
      rename News _ _ _ _ => N9
      refine hK9 _ _ ?_
      refine ksw_end ⟨_, Value.int (k' : Int) tk' :: vs, k', cur :: ns, l⟩ (by assumption) N9 (fun p hp => ?_) trivial (by kst_all) (by (intro z h2 h3; first | rfl | ((simp only [List.contains_cons, List.contains_nil, Bool.or_false, Bool.or_eq_false_iff, beq_eq_false_iff_ne, ne_eq] at h3); (simp only [List.forall_mem_cons, List.not_mem_nil, false_implies, implies_true, and_true, ne_eq] at h2); (simp [kstB, h2, h3]; done)))) ⟨NA.cons k' tk' hn, ⟨r', hr', hu'⟩, by simpa using he, by (dsimp only; (first | assumption | exact ltAll_of (by assumption) | exact ltAll_of (And.right (by assumption)) | exact ltAll_of (And.right (And.right (by assumption)))))⟩ (Nat.lt_succ_self _)
      rcases List.mem_cons.mp hp with h | h <;> simp [h]

section
variable {prog : Program} {w : World} {A : Around} {E : Value → Shared → Prop} {s : Shared} {h₀ h : Heap} {L l b : Addr} {m : Str → Option Value} {news : Ldg} {vs ws : List Value} {n n2 : Nat} {ns ms : List Nat} {Q : Value → Shared → Prop}
theorem cast_inj {ns ms : List Nat} (h : ns.map (fun (i : Nat) => (i : Int)) = ms.map (fun (i : Nat) => (i : Int))) : ns = ms := by
  induction ns generalizing ms with
  | nil => cases ms with
    | nil => rfl
    | cons _ _ => simp at h
  | cons a ns ih => cases ms with
    | nil => simp at h
    | cons c ms =>
      simp only [List.map_cons, List.cons.injEq] at h
      rw [ih h.2, show a = c by omega]
theorem my_neLT (N : News h₀ L s.heap news) (h1 : (l, listOf vs.toArray n) ∈ news) (h2 : (b, listOf ws.toArray n2) ∈ news) (hv : NA vs ns) (hw : NA ws ms) (hu : A.units + 64 < cLine) (e : ns ≠ ms) (h : Q (.bool true) s) :
    wpAny (model prog w) A (compareOp .NotEq (.ref l) (.ref b)) Q E s :=
  ke_ne_ints (my_isList N h1) (my_isList N h2) hv.ints hw.ints hu (by rw [decide_eq_false fun q => e (cast_inj q)]; exact h)
theorem my_neLF (N : News h₀ L s.heap news) (h1 : (l, listOf vs.toArray n) ∈ news) (h2 : (b, listOf ws.toArray n2) ∈ news) (hv : NA vs ns) (hw : NA ws ms) (hu : A.units + 64 < cLine) (e : ns = ms) (h : Q (.bool false) s) :
    wpAny (model prog w) A (compareOp .NotEq (.ref l) (.ref b)) Q E s :=
  ke_ne_ints (my_isList N h1) (my_isList N h2) hv.ints hw.ints hu (by rw [e, decide_eq_true rfl]; exact h)
theorem my_eqLT (N : News h₀ L s.heap news) (h1 : (l, listOf vs.toArray n) ∈ news) (h2 : (b, listOf ws.toArray n2) ∈ news) (hv : NA vs ns) (hw : NA ws ms) (hu : A.units + 64 < cLine) (e : ns = ms) (h : Q (.bool true) s) :
    wpAny (model prog w) A (compareOp .Eq (.ref l) (.ref b)) Q E s :=
  ke_eq_ints (my_isList N h1) (my_isList N h2) hv.ints hw.ints hu (by rw [e, decide_eq_true rfl]; exact h)
theorem my_pop0 {y : Value} {u : Tok} (F : Fr h₀ L s.heap m) (N : News h₀ L s.heap news) (hm : (l, listOf (y :: vs).toArray n) ∈ news) (hz : vs.length ≤ 1000)
    (h : ∀ h' news', Fr h₀ L h' m → News h₀ L h' news' → UpdTo l (listOf vs.toArray (n + 1)) news news' → Q y { s with heap := h' }) :
    wpAny (model prog w) A (call (.builtin "list.pop") [.ref l, .int 0 u]) Q E s :=
  kl_popAt (k := 0) (p := []) (q := vs) F (offL_news N hm) (by rfl) (by simp [seqIndex?]) (by rfl) offL_upd (by simp [sizeLine_eq]; omega) fun h' F' N' => h h' _ F' N' (updL_to hm)
end
local macro_rules | `(tactic| walk_at "compareOp NotEq ref ref") => `(tactic| (refine my_stop ?_))

/-- the nodes gone through, from a stack -/
inductive Gone (b : Bk) : List Nat → List Nat → Prop
  | nil : Gone b [] []
  | cons {k : Nat} {r : BRow} {l out : List Nat} (hr : b.rows[k]? = some r) (h : Gone b (r.nsp ++ r.atr ++ r.ch ++ l) out) : Gone b (k :: l) (k :: out)
theorem Gone.length {b : Bk} : ∀ {l out : List Nat}, Gone b l out → l.length ≤ out.length
  | _, _, .nil => Nat.le_refl _
  | _, _, .cons _ h => by have := h.length; simp only [List.length_append, List.length_cons] at this ⊢; omega

structure GnSt where
  vF : List Value
  nF : Nat
  pre : List Nat
  ll : Addr
  vL : List Value
  nL : Nat
  ns : List Nat
  rest : List Nat

theorem gone_does {w : World} {news : Ldg} {b : Bk} (I : b.In news) {B : Addr} (hB : b.B = B) {k : Nat} {out : List Nat} (hg : Gone b [k] out) (hfew : out.length ≤ 20) (tq : Tok) :
    Does w (.ref 347) 12 [.ref B, .int (k : Int) tq] news (Copied out news) := by
  subst hB
  intro prog p loose mean mg mb dp un gd cn cs a ccd cl outer A₀ base h₀ L m s Q E B F X N TT hk hdp hun hret
  refine wpAny_call ?_
  ktr_enter
  k_steps
  refine stop ?_
  rename_i lf hz5 ltf ll hz4 l1b Dz hz3 l1c hz2 hz1 hz0 Fz Nz
  refine ksw_while (fun c : GnSt => (lf, listOf c.vF.toArray c.nF) :: (c.ll, listOf c.vL.toArray c.nL) :: news) (fun c => [(Str.ofString "left", .ref c.ll)]) (fun _ => True) [Str.ofString "node"]
    (fun c => NA c.vF c.pre ∧ NA c.vL c.ns ∧ Gone b c.ns c.rest ∧ c.pre ++ c.rest = out ∧ lf ≠ c.ll ∧ (∀ p ∈ news, p.1 ≠ c.ll)) (fun c => c.rest.length)
    ⟨[], 0, [], ll, [.int (k : Int) tq], 0, [k], out⟩ (by assumption) (fun p hp => Nz p (by simp only [List.mem_cons] at hp ⊢; rcases hp with h | h | h <;> simp [h])) trivial (by kst_all)
    ⟨.nil, .one k tq, hg, rfl, Nat.ne_of_lt l1b.1, fun p hp => Nat.ne_of_lt (ltAll_of l1b.2 p hp)⟩ ?_
  rintro ⟨vF, nF, pre, ll, vL, nL, ns, rest⟩ u h tk0 - ⟨hF, hL, hgo, he, hne, hnl⟩ F1 N1
  dsimp only at hF hL hgo he hne hnl F1 N1 ⊢
  have hl1 := hF.length
  have hl2 := hL.length
  have hl3 := hgo.length
  have hl4 := congrArg List.length he
  simp only [List.length_append] at hl4
  cases hgo with
  | nil =>
    rw [List.append_nil] at he
    subst he
    k_steps
    refine stop ?_
    refine my_neLF (by k_asm) (by walk_at "MYMEM") (by walk_at "MYMEM") hL .nil (by walk_at "MYROOM") rfl ?_
    k_steps
    rename News _ _ _ _ => N9
    exact hret _ _ _ _ (by assumption) (fun p hp => N9 p (by simp only [List.mem_cons] at hp ⊢; rcases hp with h | h <;> simp [h])) ⟨lf, vF, nF, rfl, rfl, hF, by omega, ltf⟩
  | cons hr hgo' =>
    rename_i kk r l rest
    cases hL with
    | cons _ tkk hL' =>
    have hL0 := NA.cons kk tkk hL'
    have hl5 := hL'.length
    have hl6 := hgo'.length
    simp only [List.length_append, List.length_cons] at hl2 hl3 hl4 hl6
    refine hideI ?_
    intro K9 hK9
    k_steps
    refine stop ?_
    refine my_neLT (by k_asm) (by walk_at "MYMEM") (by walk_at "MYMEM") hL0 .nil (by walk_at "MYROOM") (by intro q9; cases q9) ?_
    k_steps
    rename News _ _ _ _ => N2
    refine my_pop0 (by assumption) N2 (by walk_at "MYMEM") (by omega) ?_
    intro h5 news5 F5 N5 U5
    have e1 := U5.self
    have e2 := U5.keep _ (List.mem_cons_of_mem _ (List.mem_cons_self (a := (lf, listOf vF.toArray nF)))) hne
    have I5 : b.In news5 := I.mono fun p hp _ => U5.keep p (List.mem_cons_of_mem _ (List.mem_cons_of_mem _ (List.mem_cons_of_mem _ hp))) (hnl p hp)
    have kp5 : ∀ p ∈ news, p ∈ news5 := fun p hp => U5.keep p (List.mem_cons_of_mem _ (List.mem_cons_of_mem _ (List.mem_cons_of_mem _ hp))) (hnl p hp)
    k_steps
    rename News _ _ _ _ => N3
    refine my_append (by assumption) N3 e2 (by omega) ?_
    intro h6 news6 F6 N6 U6
    have e3 := U6.self
    have e4 := U6.keep _ e1 (Ne.symm hne)
    have kp6 : ∀ p ∈ news, p ∈ news6 := fun p hp => U6.keep p (kp5 p hp) (Nat.ne_of_lt (ltf p hp))
    have I6 : b.In news6 := I.mono fun p hp _ => kp6 p hp
    clear I5 e1 e2
    obtain ⟨⟨pv, np, hpv, i1⟩, ⟨v1, n1, i2, hv1, hz1⟩, ⟨v2, n2, i3, hv2, hz2⟩, ⟨v3, n3, i4, hv3, hz3⟩⟩ := I6.rows r (row_mem hr)
    k_steps
    rename News _ _ _ _ => N9
    rename _ ∧ _ ∧ AllLt _ news6 => hl9
    have hl8 := ltAll_of hl9.2.2
    refine hK9 _ _ ?_
    refine ksw_end ⟨vF ++ [.int (kk : Int) tkk], nF + 1, pre ++ [kk], _, v1 ++ v2 ++ v3 ++ _, 0, r.nsp ++ r.atr ++ r.ch ++ l, rest⟩ (by assumption) N9 (fun p hp => ?_) trivial (by kst_all) (by (intro z h2 h3; first | rfl | ((simp only [List.contains_cons, List.contains_nil, Bool.or_false, Bool.or_eq_false_iff, beq_eq_false_iff_ne, ne_eq] at h3); (simp only [List.forall_mem_cons, List.not_mem_nil, false_implies, implies_true, and_true, ne_eq] at h2); (simp [kstB, h2, h3]; done))))
      ⟨hF.snoc kk tkk, ((hv1.append hv2).append hv3).append hL', hgo', by simpa using he, Nat.ne_of_lt (hl8 _ e3), fun p hp => Nat.ne_of_lt (hl8 p (kp6 p hp))⟩ (Nat.lt_succ_self _)
    simp only [List.mem_cons] at hp ⊢
    rcases hp with rfl | rfl | hp
    · exact .inr (.inr (.inr e3))
    · exact .inl rfl
    · exact .inr (.inr (.inr (kp6 p hp)))


section
open PyProof.Rows.LCg
variable {prog : Program} {w : World} {A : Around} {E : Value → Shared → Prop} {s : Shared} {h₀ : Heap} {L : Addr} {m : Str → Option Value} {env : Env}

/-- a turn's end in a comprehension: the own objects of the turn stand, what stands beyond them is the ledger's or newer -/
def EEnd (h₀ : Heap) (L : Addr) (m : Str → Option Value) (s₁ : Shared) (own nw : Ldg) (rest : Value → Ldg → Prop) (y : Value) (s₂ : Shared) : Prop :=
  ∃ h' tk nw', s₂ = { s₁ with heap := h', toks := tk } ∧ Fr h₀ L h' m ∧ News h₀ L h' (own ++ nw') ∧ (∀ p ∈ nw', p ∈ nw ∨ ∀ q ∈ own, q.1 < p.1) ∧ rest y nw'

theorem eend {h₀ h' : Heap} {L : Addr} {m : Str → Option Value} {s₁ : Shared} {own nw all : Ldg} {rest : Value → Ldg → Prop} {y : Value} {tk : Nat} (F : Fr h₀ L h' m) (N : News h₀ L h' all) (nw' : Ldg) (sub : ∀ p ∈ own ++ nw', p ∈ all) (off : ∀ p ∈ nw', p ∈ nw ∨ ∀ q ∈ own, q.1 < p.1) (r : rest y nw') :
    EEnd h₀ L m s₁ own nw rest y { s₁ with heap := h', toks := tk } := ⟨h', tk, nw', rfl, F, fun p hp => N p (sub p hp), off, r⟩

theorem eend_one {h₀ h' : Heap} {L : Addr} {m : Str → Option Value} {s₁ : Shared} {own nw : Ldg} {q : Addr × Obj} {rest : Value → Ldg → Prop} {y : Value} {tk : Nat} (F : Fr h₀ L h' m) (N : News h₀ L h' (q :: (own ++ nw))) (hq : ∀ p ∈ own, p.1 < q.1) (r : rest y (q :: nw)) :
    EEnd h₀ L m s₁ own nw rest y { s₁ with heap := h', toks := tk } :=
  eend F N (q :: nw) (fun p hp => by
    rcases List.mem_append.mp hp with h | h
    · simp [h]
    · rcases List.mem_cons.mp h with rfl | h
      · simp
      · simp [h]) (fun p hp => by
    rcases List.mem_cons.mp hp with rfl | h
    · exact .inr hq
    · exact .inl h) r

def EStep (prog : Program) (w : World) (A : Around) (h₀ : Heap) (L : Addr) (m : Str → Option Value) (env : Env) (c elt : PySem.Expr) (a b : Str) (scope : Scope) (cl : List (Str × Addr)) (s : Shared) (vs : List Value) (J : Nat → List Value → Ldg → Prop) : Prop :=
  ∀ (i : Nat) (x : Value) (t : Tok) (ys : List Value) (nw : Ldg) (e : Addr) (oe : Obj) (it : Addr) (oit : Obj) (C : Addr) (oC : Obj) (D : Addr) (m₂ : Str → Option Value) (h : Heap) (tk : Nat) (E' : Value → Shared → Prop),
    vs[i]? = some x → J i ys nw → NsObj oC m₂ → m₂ a = some (.int (i : Int) t) → m₂ b = some x → Fr h₀ L h m → News h₀ L h ((e, oe) :: (it, oit) :: (C, oC) :: (D, lst ys) :: nw) →
    wpAny (model prog w) A (isTrue c (compEnvC scope cl C env) (eval c (compEnvC scope cl C env))) (fun okb s₃ => if okb = true then
        wpAny (model prog w) A (eval elt (compEnvC scope cl C env)) (EEnd h₀ L m { s with heap := h, toks := tk } [(e, oe), (it, oit), (C, oC), (D, lst ys)] nw (fun y nw' => J (i + 1) (ys ++ [y]) nw')) E' s₃
        else EEnd h₀ L m { s with heap := h, toks := tk } [(e, oe), (it, oit), (C, oC), (D, lst ys)] nw (fun _ nw' => J (i + 1) ys nw') .none s₃) E' { s with heap := h, toks := tk }

theorem ect_block {elt iter c : PySem.Expr} {a b : Str} {pa pb tp : Pos} {kk : Nat} {scope : Scope} {cl : List (Str × Addr)} {pos : Pos} {s₂ : Shared} {e it l : Addr} {n : Nat} {vs : List Value} {news : Ldg} (J : Nat → List Value → Ldg → Prop)
    {RR : Value → Addr → Result → Shared → Prop}
    (hh : A.handled = none) (hsz : vs.length ≤ sizeLine) (hJl : ∀ i ys nw, J i ys nw → (l, listOf vs.toArray n) ∈ nw)
    (he : IsEnum s₂.heap e it 0 .none) (hit : s₂.heap.IsListIter it l 0) (hei : e ≠ it)
    (hcell : ∀ y ∈ scope.names, y.2 ≠ .cell) (hkind : scope.kind = .function) (hxa : scope.names.lookup a = some .local) (hxb : scope.names.lookup b = some .local) (hab : ¬ a = b)
    (F : Fr h₀ L s₂.heap m) (N : News h₀ L s₂.heap news) (he₀ : h₀.get? e = none) (hi₀ : h₀.get? it = none) (heL : L ≠ e) (hiL : L ≠ it) (off : ∀ p ∈ news, p.1 ≠ e ∧ p.1 ≠ it)
    (hJ0 : J 0 [] news) (step : EStep prog w A h₀ L m env c elt a b scope cl s₂ vs J)
    (hRR : ∀ D C h tk m' ys nw, Fr h₀ L h m → News h₀ L h ((D, lst ys) :: nw) → h.Ns C m' → h₀.get? C = none → h₀.get? D = none → C ≠ L → D ≠ L → C ≠ D → (∀ p ∈ nw, p.1 ≠ C) → J vs.length ys nw → RR (.ref D) C (.ok .next) { s₂ with heap := h, toks := tk }) :
    wpAny (model prog w) A (newList []) (fun acc s₃ => wpAny (model prog w) A (newFunctionEnv scope env.globals cl [] env.qual none .none (some env)) (fun cenv s₄ =>
      codeAny (model prog w) A (.compStart (.ListComp elt [⟨.Tuple [.Name a pa, .Name b pb] kk tp, iter, [c], 0⟩] scope pos) 0 (.ref e) acc { cenv with scope := relabel scope env }) (RR acc cenv.locals) s₄) E s₃) E s₂ := by
  refine wpAny_newObj_type (wpAny_newFunctionEnv hcell (by intro y hy; simp at hy) (fun h₁ hns₁ hsb₁ => ?_) hkind)
  dsimp only at hns₁ hsb₁ ⊢
  generalize hH2 : s₂.heap.push { cls := .type "list", dict := none, data := .seq ([] : List Value).toArray } = H2 at hns₁ hsb₁ ⊢
  have hC : H2.objs.size = s₂.heap.objs.size + 1 := by rw [← hH2, Heap.size_push]
  have hDC : s₂.heap.objs.size ≠ H2.objs.size := by rw [hC]; exact Nat.ne_of_lt (Nat.lt_succ_self _)
  have below : ∀ b, b < s₂.heap.objs.size → b ≠ H2.objs.size ∧ b ≠ s₂.heap.objs.size := fun b hb => ⟨by rw [hC]; exact Nat.ne_of_lt (Nat.lt_succ_of_lt hb), Nat.ne_of_lt hb⟩
  have helt : e < s₂.heap.objs.size := Heap.lt_size he
  have hilt : it < s₂.heap.objs.size := by obtain ⟨_, x, _⟩ := hit; exact Heap.lt_size x
  have old : ∀ b o, s₂.heap.get? b = some o → h₁.get? b = some o := fun b o e => hsb₁.extBut b o (below b (Heap.lt_size e)).1 (Heap.get?_push_of_some _ (hH2 ▸ Heap.get?_push_of_some _ e))
  have hacc : h₁.get? s₂.heap.objs.size = some (lst []) := hsb₁.extBut _ _ hDC (Heap.get?_push_of_some _ (hH2 ▸ Heap.get?_push_size _ rfl))
  have fresh : ∀ a, s₂.heap.objs.size ≤ a → s₂.heap.get? a = none := fun a ha => by
    cases e : s₂.heap.get? a with
    | none => rfl
    | some o' => exact absurd (Heap.lt_size e) (Nat.not_lt.mpr ha)
  have fresh₀ : ∀ a, s₂.heap.objs.size ≤ a → h₀.get? a = none := fun a ha => by
    cases e : h₀.get? a with
    | none => rfl
    | some o' => have := F.keep a o' e; rw [fresh a ha] at this; cases this
  have hD₀ : h₀.get? s₂.heap.objs.size = none := fresh₀ _ (Nat.le_refl _)
  have hC₀ : h₀.get? H2.objs.size = none := fresh₀ _ (by rw [hC]; exact Nat.le_succ _)
  have hLlt : L < s₂.heap.objs.size := F.ns.lt
  have hDL : s₂.heap.objs.size ≠ L := Ne.symm (below L hLlt).2
  have hCL : H2.objs.size ≠ L := Ne.symm (below L hLlt).1
  have hCe : e ≠ H2.objs.size := (below e helt).1
  have hDe : e ≠ s₂.heap.objs.size := (below e helt).2
  have hCi : it ≠ H2.objs.size := (below it hilt).1
  have hDi : it ≠ s₂.heap.objs.size := (below it hilt).2
  have hml : (l, listOf vs.toArray n) ∈ news := hJl _ _ _ hJ0
  have hle : l ≠ e := (off _ hml).1
  have hli : l ≠ it := (off _ hml).2
  have W := WalksT.enumerate (prog := prog) (w := w) (A := A) hh e it l hei hle hli vs.toArray
  rw [List.size_toArray] at W
  have lisl : ∀ (h : Heap) (nw : Ldg), News h₀ L h nw → (l, listOf vs.toArray n) ∈ nw → h.IsList l vs.toArray := fun h nw N hm => my_isList (s := { s₂ with heap := h }) N hm
  have off₀ : ∀ p ∈ news, p.1 ≠ e ∧ p.1 ≠ it ∧ p.1 ≠ H2.objs.size ∧ p.1 ≠ s₂.heap.objs.size := fun p hp => ⟨(off p hp).1, (off p hp).2, (below _ (Heap.lt_size (N p hp).1)).1, (below _ (Heap.lt_size (N p hp).1)).2⟩
  have hwr : ∀ b : Addr, b ≠ e → b ≠ it → b ∉ [e, it] := fun b h1 h2 hb => by
    rcases List.mem_cons.mp hb with h | h
    · exact h1 h
    · exact h2 (List.mem_singleton.mp h)
  have loop : ∀ s₃ : Shared, s₃ = { s₂ with heap := h₁, toks := s₂.toks + ([] : List (Str × Value)).length } →
      codeAny (model prog w) A (.compLoop (.ListComp elt [⟨.Tuple [.Name a pa, .Name b pb] kk tp, iter, [c], 0⟩] scope pos) 0 (.ref e) (.ref s₂.heap.objs.size) (compEnvC scope cl H2.objs.size env))
        (RR (.ref s₂.heap.objs.size) H2.objs.size) s₃ := by
    rintro s₃ rfl
    refine kct_loop
      (fun k s' => ∃ h' tk i ys m' nw, s' = { s₂ with heap := h', toks := tk } ∧ i ≤ vs.length ∧ k = vs.length + 1 - i ∧ ys.length ≤ i ∧ (∃ old, IsEnum h' e it i old) ∧ h'.IsListIter it l i ∧ Fr h₀ L h' m ∧ h'.Ns H2.objs.size m' ∧
        News h₀ L h' ((s₂.heap.objs.size, lst ys) :: nw) ∧ (∀ p ∈ nw, p.1 ≠ e ∧ p.1 ≠ it ∧ p.1 ≠ H2.objs.size ∧ p.1 ≠ s₂.heap.objs.size) ∧ J i ys nw) ?_ (vs.length + 1)
      ⟨h₁, _, 0, [], _, news, rfl, Nat.zero_le _, rfl, Nat.le_refl _, ⟨_, old _ _ he⟩, hit.at (fun o e => old _ _ e), F.keeps old, hns₁, fun p hp => ?_, off₀, hJ0⟩
    · rintro k s' ⟨h', tk, i, ys, m', nw, rfl, hi, rfl, hyl, he', hit', F', hn', N', off', hJ⟩
      have hl' : h'.IsList l vs.toArray := lisl h' nw (fun p hp => N' p (.tail _ hp)) (hJl _ _ _ hJ)
      by_cases hlt : i < vs.length
      · refine W.item i _ _ _ hlt ⟨he', hit', hl'⟩ fun T vals h₂ tk₂ hPt _ hT hMd hk₂ => ?_
        obtain ⟨t, x, hx, rfl⟩ := hPt
        refine W.go _ kk tp i T _ _ _ hMd fun h₃ hst₃ hk₃ => ?_
        have hT₃ : h₃.IsTuple T #[.int (i : Int) t, x] := hT.at fun o e => hk₃ T o (W.apart i T h₂ hMd) e
        have up₃ : ∀ c o, c ≠ e → c ≠ it → h'.get? c = some o → h₃.get? c = some o := fun c o h1 h2 q => hk₃ c o (hwr c h1 h2) (hk₂ c o (hwr c h1 h2) q)
        refine kcp_assign (env := compEnvC scope cl H2.objs.size env) hh hT₃ (lookup_relabel_local hxa) (lookup_relabel_local hxb) (by simp [compEnvC, relabel, hkind]) (hn'.at' fun o q => up₃ _ o (Ne.symm hCe) (Ne.symm hCi) q) fun h₄ tk₄ hn₄ hs₄ => ?_
        have up : ∀ c o, c ≠ e → c ≠ it → c ≠ H2.objs.size → h'.get? c = some o → h₄.get? c = some o := fun c o h1 h2 h3 q => hs₄ c o h3 (up₃ c o h1 h2 q)
        have hst₄ := W.frame _ _ h₄ hst₃ fun b hb o q => hs₄ b o (fun hbc => by
          rcases List.mem_cons.mp hb with h | h
          · exact hCe (h.symm.trans hbc)
          rcases List.mem_cons.mp h with h | h
          · exact hCi (h.symm.trans hbc)
          · have : l ≠ H2.objs.size := (off₀ _ hml).2.2.1
            exact this ((List.mem_singleton.mp h).symm.trans hbc)) q
        obtain ⟨⟨old₄, he₄⟩, hit₄, hl₄⟩ := hst₄
        obtain ⟨oe, hoe, hoE⟩ : ∃ oe : Obj, h₄.get? e = some oe ∧ ∀ h : Heap, h.get? e = some oe → IsEnum h e it ((i + 1 : Nat) : Int) old₄ := ⟨_, he₄, fun _ q => q⟩
        obtain ⟨oit, hoit, hoI⟩ : ∃ oit : Obj, h₄.get? it = some oit ∧ ∀ h : Heap, h.get? it = some oit → h.IsListIter it l (i + 1) := by
          obtain ⟨oi, q1, q2⟩ := hit₄
          exact ⟨oi, q1, fun _ q => ⟨oi, q, q2⟩⟩
        obtain ⟨oC, heC, hoC⟩ := ns_obj hn₄
        have F₄ : Fr h₀ L h₄ m := ⟨F'.ns.at' fun o q => up _ o heL hiL (Ne.symm hCL) q, fun c o q => up c o (fun z => by rw [z, he₀] at q; cases q) (fun z => by rw [z, hi₀] at q; cases q) (fun z => by rw [z, hC₀] at q; cases q) (F'.keep c o q), F'.above⟩
        have N₄ : News h₀ L h₄ ((e, oe) :: (it, oit) :: (H2.objs.size, oC) :: (s₂.heap.objs.size, lst ys) :: nw) := fun q hq => by
          rcases List.mem_cons.mp hq with rfl | hq
          · exact ⟨hoe, Ne.symm heL, he₀⟩
          rcases List.mem_cons.mp hq with rfl | hq
          · exact ⟨hoit, Ne.symm hiL, hi₀⟩
          rcases List.mem_cons.mp hq with rfl | hq
          · exact ⟨heC, hCL, hC₀⟩
          have z := N' q hq
          rcases List.mem_cons.mp hq with rfl | hq
          · exact ⟨up _ _ (Ne.symm hDe) (Ne.symm hDi) hDC z.1, z.2⟩
          · exact ⟨up _ _ (off' q hq).1 (off' q hq).2.1 (off' q hq).2.2.1 z.1, z.2⟩
        have fin : ∀ (ys' : List Value) (h₅ : Heap) (tk₅ : Nat) (nw₅ : Ldg), ys'.length ≤ i + 1 → Fr h₀ L h₅ m → News h₀ L h₅ ((e, oe) :: (it, oit) :: (H2.objs.size, oC) :: (s₂.heap.objs.size, lst ys') :: nw₅) → (∀ p ∈ nw₅, p ∈ nw ∨ ∀ q ∈ [(e, oe), (it, oit), (H2.objs.size, oC), (s₂.heap.objs.size, lst ys)], q.1 < p.1) → J (i + 1) ys' nw₅ →
            ∃ q', q' < vs.length + 1 - i ∧ (∃ h' tk i ys m' nw, ({ s₂ with heap := h₅, toks := tk₅ } : Shared) = { s₂ with heap := h', toks := tk } ∧ i ≤ vs.length ∧ q' = vs.length + 1 - i ∧ ys.length ≤ i ∧ (∃ old, IsEnum h' e it i old) ∧ h'.IsListIter it l i ∧ Fr h₀ L h' m ∧ h'.Ns H2.objs.size m' ∧
        News h₀ L h' ((s₂.heap.objs.size, lst ys) :: nw) ∧ (∀ p ∈ nw, p.1 ≠ e ∧ p.1 ≠ it ∧ p.1 ≠ H2.objs.size ∧ p.1 ≠ s₂.heap.objs.size) ∧ J i ys nw) := by
          intro ys' h₅ tk₅ nw₅ hl F₅ N₅ off₅ hJ₅
          have ze := (N₅ (e, oe) (by simp)).1
          have zi := (N₅ (it, oit) (by simp)).1
          have zC := (N₅ (H2.objs.size, oC) (by simp)).1
          refine ⟨vs.length + 1 - (i + 1), by omega, h₅, tk₅, i + 1, ys', _, nw₅, rfl, hlt, rfl, hl, ⟨_, hoE h₅ ze⟩, hoI h₅ zi, F₅, hoC.ns zC, fun q hq => N₅ q (.tail _ (.tail _ (.tail _ hq))), fun p hp => ?_, hJ₅⟩
          rcases off₅ p hp with h | h
          · exact off' p h
          · exact ⟨Ne.symm (Nat.ne_of_lt (h (e, oe) (by simp))), Ne.symm (Nat.ne_of_lt (h (it, oit) (by simp))), Ne.symm (Nat.ne_of_lt (h (H2.objs.size, oC) (by simp))), Ne.symm (Nat.ne_of_lt (h (s₂.heap.objs.size, lst ys) (by simp)))⟩
        refine wpAny_mono (step i x t ys nw e oe it oit H2.objs.size oC s₂.heap.objs.size _ h₄ _ _ (by simpa using hx) hJ hoC (by simp [hab]) (by simp) F₄ N₄) (fun okb s₅ h₅ => ?_) fun _ _ e => e
        cases okb with
        | false =>
          simp only [Bool.false_eq_true, if_false] at h₅ ⊢
          obtain ⟨h₅, tk₅, nw₅, rfl, F₅, N₅, off₅, hJ₅⟩ := h₅
          exact fin ys h₅ tk₅ nw₅ (Nat.le_succ_of_le hyl) F₅ N₅ off₅ hJ₅
        | true =>
          simp only [if_true] at h₅ ⊢
          refine wpAny_mono h₅ (fun y s₆ h₆ => ?_) fun _ _ e => e
          obtain ⟨h₅, tk₅, nw₅, rfl, F₅, N₅, off₅, hJ₅⟩ := h₆
          have zD := (N₅ (s₂.heap.objs.size, lst ys) (by simp)).1
          refine append_at (hsz := by show ys.toArray.size ≤ sizeLine; rw [List.size_toArray]; exact Nat.le_trans hyl (Nat.le_trans hi hsz)) zD fun h₆ hs₆ hD₆ => ?_
          refine fin (ys ++ [y]) h₆ _ nw₅ (by rw [List.length_append, List.length_singleton]; exact Nat.succ_le_succ hyl) (F₅.change hs₆ hDL hD₀) (fun q hq => ?_) off₅ hJ₅
          rcases List.mem_cons.mp hq with rfl | hq
          · exact ⟨hs₆.extBut _ oe hDe (N₅ _ (by simp)).1, Ne.symm heL, he₀⟩
          rcases List.mem_cons.mp hq with rfl | hq
          · exact ⟨hs₆.extBut _ oit hDi (N₅ _ (by simp)).1, Ne.symm hiL, hi₀⟩
          rcases List.mem_cons.mp hq with rfl | hq
          · exact ⟨hs₆.extBut _ oC (Ne.symm hDC) (N₅ _ (by simp)).1, hCL, hC₀⟩
          rcases List.mem_cons.mp hq with rfl | hq
          · exact ⟨hD₆.trans (congrArg some (lst_snoc ys y)), hDL, hD₀⟩
          have hne : q.1 ≠ s₂.heap.objs.size := by
            rcases off₅ q hq with h | h
            · exact (off' q h).2.2.2
            · exact Ne.symm (Nat.ne_of_lt (h (s₂.heap.objs.size, lst ys) (by simp)))
          have z := N₅ q (by simp [hq])
          exact ⟨hs₆.extBut _ _ hne z.1, z.2⟩
      · have hin : i = vs.length := Nat.le_antisymm hi (Nat.not_lt.mp hlt)
        subst hin
        refine W.done _ _ _ ⟨he', hit', hl'⟩ fun h₂ tk₂ hk₂ => ?_
        have up₂ : ∀ c o, c ≠ e → c ≠ it → h'.get? c = some o → h₂.get? c = some o := fun c o h1 h2 q => hk₂ c o (hwr c h1 h2) q
        refine hRR _ _ h₂ tk₂ _ ys nw ⟨F'.ns.at' fun o q => up₂ _ o heL hiL q, fun c o q => up₂ c o (fun z => by rw [z, he₀] at q; cases q) (fun z => by rw [z, hi₀] at q; cases q) (F'.keep c o q), F'.above⟩ (fun p hp => ?_) (hn'.at' fun o q => up₂ _ o (Ne.symm hCe) (Ne.symm hCi) q) hC₀ hD₀ hCL hDL (Ne.symm hDC) (fun p hp => (off' p hp).2.2.1) hJ
        have z := N' p hp
        rcases List.mem_cons.mp hp with rfl | hp
        · exact ⟨up₂ _ _ (Ne.symm hDe) (Ne.symm hDi) z.1, z.2⟩
        · exact ⟨up₂ _ _ (off' p hp).1 (off' p hp).2.1 z.1, z.2⟩
    · rcases List.mem_cons.mp hp with rfl | hp
      · exact ⟨hacc, hDL, hD₀⟩
      · exact ⟨old _ _ (N p hp).1, (N p hp).2⟩
  exact codeAny_compStart_list (loop _ rfl) (W.self 0 _ _ _ ⟨⟨_, old _ _ he⟩, hit.at (fun o q => old _ _ q), (lisl s₂.heap news N hml).at fun o q => old _ _ q⟩ (loop _ rfl))

def EctSrc (prog : Program) (w : World) (A : Around) (h₀ : Heap) (L : Addr) (m : Str → Option Value) (env : Env) (c elt : PySem.Expr) (a b : Str) (scope : Scope) (cl : List (Str × Addr)) (Q : Value → Shared → Prop) (xv : Value) (s₁ : Shared) : Prop :=
  ∃ (e it l : Addr) (n : Nat) (vs : List Value) (news : Ldg) (J : Nat → List Value → Ldg → Prop), xv = .ref e ∧ A.handled = none ∧ vs.length ≤ sizeLine ∧ (∀ i ys nw, J i ys nw → (l, listOf vs.toArray n) ∈ nw) ∧
    IsEnum s₁.heap e it 0 .none ∧ s₁.heap.IsListIter it l 0 ∧ e ≠ it ∧ Fr h₀ L s₁.heap m ∧ News h₀ L s₁.heap news ∧ h₀.get? e = none ∧ h₀.get? it = none ∧ L ≠ e ∧ L ≠ it ∧ (∀ p ∈ news, p.1 ≠ e ∧ p.1 ≠ it) ∧ J 0 [] news ∧
    EStep prog w A h₀ L m env c elt a b scope cl s₁ vs J ∧
    (∀ D h tk ys nw, J vs.length ys nw → Fr h₀ L h m → News h₀ L h ((D, lst ys) :: nw) → Q (.ref D) { s₁ with heap := h, toks := tk })

theorem ect_ListComp {elt iter c : PySem.Expr} {a b : Str} {pa pb tp : Pos} {kk : Nat} {scope : Scope} {cl : List (Str × Addr)} {pos : Pos} {Q : Value → Shared → Prop} (_F₀ : Fr h₀ L s.heap m)
    (hclos : closureFor scope env = pure cl) (hcell : ∀ y ∈ scope.names, y.2 ≠ .cell) (hkind : scope.kind = .function)
    (hnames : ∀ y ∈ scope.names, y.2 = .local → scope.names.lookup y.1 = some .local) (hxa : scope.names.lookup a = some .local) (hxb : scope.names.lookup b = some .local) (hab : ¬ a = b)
    (h : wpAny (model prog w) A (eval iter env) (EctSrc prog w A h₀ L m env c elt a b scope cl Q) E s)
    (hs : ∀ x, foldedSetIterable iter env x = pure x := by intro _; rfl) :
    wpAny (model prog w) A (eval (.ListComp elt [⟨.Tuple [.Name a pa, .Name b pb] kk tp, iter, [c], 0⟩] scope pos) env) Q E s := by
  rw [eval_ListComp]
  refine wpAny_comprehension_free (use := none) rfl hs hclos hkind hnames (wpAny_mono h (fun xv s₁ h₁ => ?_) fun _ _ e => e)
  obtain ⟨e, it, l, n, vs, news, J, rfl, hh, hsz, hJl, he, hit, hei, F, N, he₀, hi₀, heL, hiL, off, hJ0, step, fin⟩ := h₁
  refine wpAny_pyIter_enum he ?_
  refine ect_block J hh hsz hJl he hit hei hcell hkind hxa hxb hab F N he₀ hi₀ heL hiL off hJ0 step ?_
  intro D C h tk m' ys nw F' N' hn hC₀ hD₀ hCL hDL hCD offC hJ
  refine ⟨m', hn, fun h'' hs'' => fin D h'' tk ys nw hJ (F'.change hs'' hCL hC₀) (fun p hp => ?_)⟩
  refine ⟨hs''.extBut _ _ ?_ (N' p hp).1, (N' p hp).2⟩
  rcases List.mem_cons.mp hp with rfl | hp
  · exact Ne.symm hCD
  · exact offC p hp

theorem ect_call {elt c : PySem.Expr} {a b : Str} {scope : Scope} {cl : List (Str × Addr)} {Q : Value → Shared → Prop} {l : Addr} {n : Nat} {vs : List Value} {news : Ldg} (J : Nat → List Value → Ldg → Prop)
    (hh : A.handled = none) (F : Fr h₀ L s.heap m) (N : News h₀ L s.heap news) (hm : (l, listOf vs.toArray n) ∈ news) (hsz : vs.length ≤ sizeLine) (hJl : ∀ i ys nw, J i ys nw → (l, listOf vs.toArray n) ∈ nw) (hJ0 : J 0 [] news)
    (step : ∀ h', EStep prog w A h₀ L m env c elt a b scope cl { s with heap := h' } vs J)
    (fin : ∀ D h tk ys nw, J vs.length ys nw → Fr h₀ L h m → News h₀ L h ((D, lst ys) :: nw) → Q (.ref D) { s with heap := h, toks := tk }) :
    wpAny (model prog w) A (call (.type "enumerate") [.ref l]) (EctSrc prog w A h₀ L m env c elt a b scope cl Q) E s := by
  refine call_enumerate_list (my_isList N hm) fun h' hE hI hz hk => ?_
  have hLs : L < s.heap.objs.size := F.ns.lt
  have hl : ∀ p ∈ news, p.1 < s.heap.objs.size := fun p hp => Heap.lt_size (N p hp).1
  have nw : ∀ k, h₀.get? (s.heap.objs.size + k) = none := fun k => Heap.get?_none_of_le (Nat.le_trans F.above (Nat.le_trans (Nat.le_of_lt hLs) (Nat.le_add_right _ k)))
  exact ⟨_, _, l, n, vs, news, J, rfl, hh, hsz, hJl, hE, hI, Nat.succ_ne_self _, ⟨F.ns.keeps hk, fun b o e => hk b o (F.keep b o e), F.above⟩, fun p hp => ⟨hk _ _ (N p hp).1, (N p hp).2⟩, nw 1, nw 0, Nat.ne_of_lt (Nat.lt_succ_of_lt hLs), Nat.ne_of_lt hLs,
    fun p hp => ⟨Nat.ne_of_lt (Nat.lt_succ_of_lt (hl p hp)), Nat.ne_of_lt (hl p hp)⟩, hJ0, step h', fin⟩
end

local macro_rules | `(tactic| walk_at "eval ListComp Tuple cons") => `(tactic| (refine my_stop ?_))
local macro_rules | `(tactic| walk_at "eval ListComp Call cons") => `(tactic| (refine my_stop ?_))
local macro_rules | `(tactic| walk_at "eval ListComp Name cons") => `(tactic| (refine my_stop ?_))
theorem NA.any : ∀ {vs : List Value} {ns : List Nat}, NA vs ns → ∀ (k : Nat), vs.any (isInt (k : Int)) = (ns.idxOf? k).isSome
  | _, _, .nil, k => rfl
  | _, _, .cons n t h, k => by
    have e : isInt (k : Int) (.int (n : Int) t) = (n == k) := by
      show ((n : Int) == (k : Int)) = (n == k)
      rw [Bool.eq_iff_iff]
      simp
      omega
    rw [List.any_cons, List.idxOf?_cons, h.any k, e]
    cases hb : n == k with
    | true => rfl
    | false => simp
theorem my_in {prog : Program} {w : World} {A : Around} {E : Value → Shared → Prop} {s : Shared} {h₀ : Heap} {L l : Addr} {news : Ldg} {vs : List Value} {n : Nat} {Q : Value → Shared → Prop} {k : Nat} {t : Tok} {ns : List Nat} {o : Option Nat}
    (N : News h₀ L s.heap news) (hm : (l, listOf vs.toArray n) ∈ news) (hv : NA vs ns) (hj : ns.idxOf? k = o) (h : Q (.bool o.isSome) s) :
    wpAny (model prog w) A (compareOp .In (.int (k : Int) t) (.ref l)) Q E s :=
  kf_in N hm (by simpa using hv.kf) (by simpa [hj] using hv.any k) h
local macro_rules | `(tactic| walk_at "compareOp In int ref") => `(tactic| (k_here; k_dflt (refine my_in (by k_asm) (by k_mem) (by assumption) (by assumption) ?_); (try dsimp only [Option.isSome])))

def PairJ (news base : Ldg) (s j : Nat) (i : Nat) (ys : List Value) (nw : Ldg) : Prop :=
  (∀ p ∈ base, p ∈ nw) ∧ (i ≤ s → ys = []) ∧ (s < i → ∃ T vs, ys = [.ref T] ∧ (T, tupObj vs) ∈ nw ∧ NA vs [s, j] ∧ vs.length ≤ 100 ∧ ∀ p ∈ news, p.1 < T)

set_option maxHeartbeats 400000 in
theorem law_pair_does {w : World} {news : Ldg} {b : Bk} (I : b.In news) {B : Addr} (hB : b.B = B) {k q sn jn : Nat} {r rq : BRow} (hr : b.rows[k]? = some r) (hpar : r.par = some q) (hrq : b.rows[q]? = some rq)
    (hix : ∀ (i : Nat) (l : List Nat), [rq.nsp, rq.atr, rq.ch][i]? = some l → l.idxOf? k = if i = sn then some jn else none) (hsn : sn < 3) (tq : Tok) :
    Does w (.ref 340) 6 [.ref B, .int (k : Int) tq] news (NewTup [sn, jn] news) := by
  subst hB
  intro prog p loose mean mg mb dp un gd cn cs a ccd cl outer A₀ base h₀ L m s Q E B F X N TT hk hdp hun hret
  obtain ⟨⟨pv, n, hpv, i1⟩, -, -, -⟩ := I.rows r (row_mem hr)
  obtain ⟨⟨pv2, n2, hpv2, j1⟩, ⟨v2, n2', hv2, j2, hz2⟩, ⟨v3, n3', hv3, j3, hz3⟩, ⟨v4, n4', hv4, j4, hz4⟩⟩ := I.rows rq (row_mem hrq)
  generalize hgp : r.par = o at hpv
  rw [hgp] at hpar
  subst hpar
  cases hpv with
  | some _ tk' =>
  refine wpAny_call ?_
  (refine' code_defC ?k1 ?k2 ?k3 ?k4 ?k5 ?kA ?kF ?kK ?k6 ?k7 ?k8 ?k9 ?kB ?kD ?_ ?c2 ?c3 ?c4; (case kA => exact rfl); (case kF => exact rfl); (case kK => assumption); (case k1 => k_asm); (case k2 => k_asm); (case k3 => k_asm); (case k4 => k_asm); (case k5 => k_asm); (case k6 => k_is); (case k7 => k_is); (case k8 => walk_at "MYROOM"); (case k9 => exact BindsTo.of_eq rfl); (case kB => exact rfl); (case kD => decide +kernel); (case c2 => exact rfl); (case c3 => exact rfl); (case c4 => exact rfl); k_whole; intro g' L' h' tk' cells' FG' F' N' Y' B' X' T' l1; (try k_lt l1); k_cells Y'; (try simp only [List.cons_append, List.nil_append] at N'); (try dsimp only); (try k_lift B'); (try k_fold))
  k_steps
  rename Fr _ _ _ _ => F9
  refine stop (ect_ListComp F9 (by with_unfolding_all rfl) (by decide) (by rfl) (by decide) (by rfl) (by rfl) (by decide) ?_)
  k_steps
  rename Fr _ _ _ _ => F9
  rename News _ _ _ _ => N9
  refine ect_call (vs := [.ref rq.cN, .ref rq.cA, .ref rq.cC]) (PairJ news _ sn jn) (by rfl) F9 N9 (by k_mem) (by show 3 ≤ sizeLine; decide) (fun i ys nw h => h.1 _ (by k_mem)) ⟨fun p hp => hp, fun _ => rfl, fun h => absurd h (Nat.not_lt_zero _)⟩ ?_ ?_
  · intro h' i x t ys nw e oe it oit C oC D m₂ h tk E' hx hJ hC ha hb' F8 N8
    obtain ⟨hJ1, hJ2, hJ3⟩ := hJ
    have hx' : ∃ c l vs n, x = .ref c ∧ [rq.nsp, rq.atr, rq.ch][i]? = some l ∧ NA vs l ∧ vs.length ≤ 100 ∧ (c, listOf vs.toArray n) ∈ news := by
      match i, hx with
      | 0, hx => simp at hx; exact ⟨_, _, _, _, hx.symm, rfl, by assumption, by assumption, by assumption⟩
      | 1, hx => simp at hx; exact ⟨_, _, _, _, hx.symm, rfl, by assumption, by assumption, by assumption⟩
      | 2, hx => simp at hx; exact ⟨_, _, _, _, hx.symm, rfl, by assumption, by assumption, by assumption⟩
      | i + 3, hx => simp at hx
    obtain ⟨c, l, vs, n9, rfl, hl, hvl, hzl, hml⟩ := hx'
    have hix' := hix i l hl
    have hml' := hJ1 _ (by k_mem : (c, listOf vs.toArray n9) ∈ _)
    have hJ9 := hJ1
    simp only [List.forall_mem_cons] at hJ9
    obtain ⟨hm1, hm2, hm3⟩ := hJ9
    by_cases his : i = sn
    · subst his
      rw [if_pos rfl] at hix'
      iterate 5 walk1
      simp only [if_true]
      k_steps
      rename News _ _ _ _ => N7
      rename _ ∧ _ ∧ _ ∧ _ ∧ AllLt _ nw => l7
      obtain rfl : ys = [] := hJ2 (Nat.le_refl _)
      obtain ⟨l71, l72, l73, l74, l75⟩ := l7
      show EEnd _ _ _ _ _ _ _ _ _
      refine eend_one (by assumption) N7 (fun q hq => ?_) ?_
      · simp only [List.mem_cons, List.not_mem_nil, or_false] at hq
        rcases hq with rfl | rfl | rfl | rfl
        · exact l71
        · exact l72
        · exact l73
        · exact l74
      · show PairJ _ _ _ _ _ _ _
        refine ⟨fun p hp => .tail _ (hJ1 p hp), fun h => absurd h (Nat.not_succ_le_self _), fun _ => ⟨_, [.int (i : Int) _, .int (jn : Int) _], rfl, .head _, .cons i _ (.cons jn _ .nil), ?_, fun p hp => ltAll_of l75 p (hm3 p hp)⟩⟩
        show 2 ≤ 100
        decide
    · rw [if_neg his] at hix'
      iterate 5 walk1
      simp only [Bool.false_eq_true, if_false]
      exact ⟨_, _, nw, rfl, by assumption, N8, fun p hp => .inl hp, hJ1, fun h => hJ2 (by omega), fun h => hJ3 (by omega)⟩
  · intro D h tk ys nw hJ F8 N8
    obtain ⟨hJ1, -, hJ3⟩ := hJ
    obtain ⟨T, vs, rfl, hT, hvs, hz, hlt⟩ := hJ3 hsn
    k_steps
    rename News _ _ _ _ => N7
    exact hret _ ((T, tupObj vs) :: news) _ _ (by assumption) (fun p hp => N7 p (by rcases List.mem_cons.mp hp with rfl | h; exact .tail _ hT; exact .tail _ (hJ1 p (.tail _ (.tail _ h))))) ⟨T, vs, rfl, rfl, hvs, hz, hlt⟩

def Bk.put (b : Bk) (p : Nat) (r : BRow) : Bk := { b with rows := b.rows.set p r }
def Bk.add (b : Bk) (r : BRow) : Bk := { b with rows := b.rows ++ [r] }
theorem Bk.put_adr {b : Bk} {p : Nat} {r r' : BRow} (hr : b.rows[p]? = some r) (e : r'.adr = r.adr) : (b.put p r').adr = b.adr := by
  simp only [Bk.adr, Bk.put, flat_set BRow.adr hr e]
theorem kvsFrom_set : ∀ {rs : List BRow} {p i : Nat} {r r' : BRow}, rs[p]? = some r → r'.e = r.e → Bk.kvsFrom i (rs.set p r') = Bk.kvsFrom i rs
  | [], _, _, _, _, h, _ => by cases h
  | x :: rs, 0, i, r, r', h, e => by simp at h; subst h; simp [Bk.kvsFrom, e]
  | x :: rs, p + 1, i, r, r', h, e => by
    simp at h
    simp [Bk.kvsFrom, kvsFrom_set (i := i + 1) h e]
theorem kvsFrom_append : ∀ (rs : List BRow) (i : Nat) (r : BRow), Bk.kvsFrom i (rs ++ [r]) = Bk.kvsFrom i rs ++ [(((i + rs.length : Nat) : Int), .ref r.e)]
  | [], i, r => by simp [Bk.kvsFrom]
  | x :: rs, i, r => by
    have e : i + 1 + rs.length = i + (rs.length + 1) := by omega
    simp [Bk.kvsFrom, kvsFrom_append rs (i + 1) r, e]
theorem kvsFrom_none : ∀ (rs : List BRow) (i k : Nat), rs.length ≤ k → valueAt (Bk.kvsFrom i rs) ((i + k : Nat) : Int) = none
  | [], _, _, _ => rfl
  | x :: rs, i, 0, h => by simp at h
  | x :: rs, i, k + 1, h => by
    have ih := kvsFrom_none rs (i + 1) k (by simpa using h)
    have e : i + 1 + k = i + (k + 1) := by omega
    rw [e] at ih
    unfold Bk.kvsFrom valueAt
    rw [List.find?_cons_of_neg (by simp; omega)]
    exact ih
theorem BRow.apart {b : Bk} (nd : b.adr.Nodup) {p : Nat} {r : BRow} (hr : b.rows[p]? = some r) : r.adr.Nodup := by
  simp only [Bk.adr, List.nodup_cons] at nd
  have h := nd.2
  clear nd
  generalize b.rows = xs at h hr
  induction xs generalizing p with
  | nil => cases hr
  | cons a xs ih =>
    simp only [List.flatMap_cons, List.nodup_append] at h
    cases p with
    | zero => simp at hr; subst hr; exact h.1
    | succ p =>
      simp at hr
      have h2 := h.2.1
      exact ih (p := p) (by assumption) (by assumption)
theorem Bk.In.put {news news' : Ldg} {b : Bk} (I : b.In news) {p : Nat} {r r' : BRow} {d : Addr} (hr : b.rows[p]? = some r) (hd : d ∈ r.adr) (e : r'.adr = r.adr) (h' : r'.In news') (keep : ∀ q ∈ news, q.1 ≠ d → q ∈ news') :
    (b.put p r').In news' := by
  have hadr := Bk.put_adr hr e
  obtain ⟨⟨o, i1, i2⟩, i3, i4, i5, i6⟩ := I
  have nd' := i5
  simp only [Bk.adr, List.nodup_cons, List.mem_flatMap, not_exists, not_and] at nd'
  obtain ⟨n1, n2⟩ := nd'
  have hm := row_mem hr
  have ei : r'.e = r.e := by simp [BRow.adr] at e; exact e.1
  refine ⟨⟨o, keep _ i1 fun q => n1 r hm (by have e : b.B = d := q; rw [e]; exact hd), ?_⟩, ?_, by simp [Bk.put]; exact i4, by rw [hadr]; exact i5, i6⟩
  · show IntDict o (Bk.kvsFrom 0 (b.rows.set p r'))
    rw [kvsFrom_set hr ei]
    exact i2
  · intro r2 hr2
    rcases flat_apart BRow.adr n2 hr hr2 hd with rfl | ⟨h1, h2⟩
    · exact h'
    · exact (i3 r2 h1).mono fun q hq ha => keep q hq fun e => h2 (e ▸ ha)
theorem Bk.In.setCh {news news' : Ldg} {b : Bk} (I : b.In news) {p : Nat} {r : BRow} (hr : b.rows[p]? = some r) {vs : List Value} {n : Nat} {ns : List Nat} (U : UpdTo r.cC (listOf vs.toArray n) news news') (hv : NA vs ns) (hl : vs.length ≤ 100) :
    (b.put p { r with ch := ns }).In news' := by
  have nd := BRow.apart I.apart hr
  simp only [BRow.adr, List.nodup_cons, List.mem_cons, List.not_mem_nil, or_false, not_or, not_false_eq_true, List.nodup_nil, and_true] at nd
  obtain ⟨⟨n1, n2, n3⟩, ⟨n5, n6⟩, n8⟩ := nd
  obtain ⟨⟨pv, n9, hp, i1⟩, i3, i4, i5⟩ := I.rows r (row_mem hr)
  exact I.put hr (d := r.cC) (by simp [BRow.adr]) rfl ⟨⟨pv, n9, hp, U.keep _ i1 n3⟩, i3.mono fun o h => U.keep _ h n6, i4.mono fun o h => U.keep _ h n8, ⟨vs, n, U.self, hv, hl⟩⟩ U.keep
theorem Bk.In.setAtr {news news' : Ldg} {b : Bk} (I : b.In news) {p : Nat} {r : BRow} (hr : b.rows[p]? = some r) {vs : List Value} {n : Nat} {ns : List Nat} (U : UpdTo r.cA (listOf vs.toArray n) news news') (hv : NA vs ns) (hl : vs.length ≤ 100) :
    (b.put p { r with atr := ns }).In news' := by
  have nd := BRow.apart I.apart hr
  simp only [BRow.adr, List.nodup_cons, List.mem_cons, List.not_mem_nil, or_false, not_or, not_false_eq_true, List.nodup_nil, and_true] at nd
  obtain ⟨⟨n1, n2, n3⟩, ⟨n5, n6⟩, n8⟩ := nd
  obtain ⟨⟨pv, n9, hp, i1⟩, i3, i4, i5⟩ := I.rows r (row_mem hr)
  exact I.put hr (d := r.cA) (by simp [BRow.adr]) rfl ⟨⟨pv, n9, hp, U.keep _ i1 n2⟩, i3.mono fun o h => U.keep _ h n5, ⟨vs, n, U.self, hv, hl⟩, i5.mono fun o h => U.keep _ h (Ne.symm n8)⟩ U.keep
theorem Bk.In.setNsp {news news' : Ldg} {b : Bk} (I : b.In news) {p : Nat} {r : BRow} (hr : b.rows[p]? = some r) {vs : List Value} {n : Nat} {ns : List Nat} (U : UpdTo r.cN (listOf vs.toArray n) news news') (hv : NA vs ns) (hl : vs.length ≤ 100) :
    (b.put p { r with nsp := ns }).In news' := by
  have nd := BRow.apart I.apart hr
  simp only [BRow.adr, List.nodup_cons, List.mem_cons, List.not_mem_nil, or_false, not_or, not_false_eq_true, List.nodup_nil, and_true] at nd
  obtain ⟨⟨n1, n2, n3⟩, ⟨n5, n6⟩, n8⟩ := nd
  obtain ⟨⟨pv, n9, hp, i1⟩, i3, i4, i5⟩ := I.rows r (row_mem hr)
  exact I.put hr (d := r.cN) (by simp [BRow.adr]) rfl ⟨⟨pv, n9, hp, U.keep _ i1 n1⟩, ⟨vs, n, U.self, hv, hl⟩, i4.mono fun o h => U.keep _ h (Ne.symm n5), i5.mono fun o h => U.keep _ h (Ne.symm n6)⟩ U.keep
theorem Bk.add_adr (b : Bk) (r : BRow) : (b.add r).adr = b.adr ++ r.adr := by simp [Bk.adr, Bk.add, List.flatMap_append]
theorem Bk.add_kvs (b : Bk) (r : BRow) : (b.add r).kvs = b.kvs ++ [((b.rows.length : Int), .ref r.e)] := by
  show Bk.kvsFrom 0 (b.rows ++ [r]) = _
  rw [kvsFrom_append, Nat.zero_add]; rfl
theorem Bk.In.add {news news' : Ldg} {b : Bk} (I : b.In news) {r : BRow} (hr : r.In news') {o : Obj} (ho : (b.B, o) ∈ news') (hd : IntDict o (b.add r).kvs) (keep : ∀ q ∈ news, q.1 ≠ b.B → q ∈ news')
    (fresh : ∀ a ∈ r.adr, ∀ q ∈ news, q.1 < a) (nd : r.adr.Nodup) (hlt : b.rows.length < 20) : (b.add r).In news' := by
  have hh := I.has
  obtain ⟨⟨o1, i1, i2⟩, i3, i4, i5, i6⟩ := I
  have nd' := i5
  simp only [Bk.adr, List.nodup_cons, List.mem_flatMap, not_exists, not_and] at nd'
  refine ⟨⟨o, ho, hd⟩, ?_, by simp [Bk.add]; omega, ?_, i6⟩
  · intro r2 hr2
    rcases List.mem_append.mp hr2 with h | h
    · exact (i3 r2 h).mono fun q hq ha => keep q hq fun e => nd'.1 r2 h (e ▸ ha)
    · rw [List.mem_singleton.mp h]; exact hr
  · rw [Bk.add_adr, List.nodup_append]
    refine ⟨i5, nd, fun a ha c hc e => ?_⟩
    obtain ⟨o2, ho2⟩ := hh a ha
    exact Nat.lt_irrefl _ (e ▸ fresh c hc _ ho2)

theorem my_bookset {prog : Program} {w : World} {A : Around} {E : Value → Shared → Prop} {s : Shared} {h₀ : Heap} {L : Addr} {m : Str → Option Value} {news : Ldg} {Q : Unit → Shared → Prop} {b : Bk} {B : Addr} {k : Nat} {u : Tok} {r : BRow} (F : Fr h₀ L s.heap m) (N : News h₀ L s.heap news) (hb : b.In news) (hB : b.B = B) (hk : b.rows.length = k) {e : Addr} (he : r.e = e)
    (h : ∀ h' news' o', Fr h₀ L h' m → News h₀ L h' news' → UpdTo B o' news news' → IntDict o' (b.add r).kvs → Q () { s with heap := h', toks := s.toks + 1 }) :
    wpAny (model prog w) A (setItem (.ref B) (.int (k : Int) u) (.ref e)) Q E s := by
  subst hB; subst hk; subst he
  obtain ⟨o, ho, hd⟩ := hb.dict
  have hf := hb.few
  refine kda_set F (offL_news N ho) offL_updF (hd prog w) (intKind_is _ _ _ _) ?_ fun h' o' F' N' hd' => ?_
  · show (Bk.kvsFrom 0 b.rows).length ≤ sizeLine
    rw [kvsFrom_len, sizeLine_eq]; omega
  · refine h h' _ o' F' N' (updL_to ho) (intDict_of (prog := prog) (w := w) ?_)
    rw [Bk.add_kvs]
    have hn : valueAt b.kvs ((b.rows.length : Nat) : Int) = none := by
      have := kvsFrom_none b.rows 0 b.rows.length (Nat.le_refl _)
      rwa [Nat.zero_add] at this
    rw [← stored_absent hn]
    exact hd'

/-- a node of the document, told apart from program and heap -/
structure Nod where
  sort : Nat
  par : Option Nat
  nsp : List Nat
  atr : List Nat
  ch : List Nat
def Nod.lst (x : Nod) : Nat → List Nat
  | 0 => x.nsp
  | 1 => x.atr
  | _ => x.ch
def insAt (l : List Nat) (ix n : Nat) : List Nat := l.take ix ++ n :: l.drop ix
def Nod.ins (x : Nod) (s ix n : Nat) : Nod :=
  match s with
  | 0 => { x with nsp := insAt x.nsp ix n }
  | 1 => { x with atr := insAt x.atr ix n }
  | _ => { x with ch := insAt x.ch ix n }
theorem Nod.ins_par (x : Nod) (s ix n : Nat) : (x.ins s ix n).par = x.par := by
  unfold Nod.ins; split <;> rfl
theorem Nod.ins_sort (x : Nod) (s ix n : Nat) : (x.ins s ix n).sort = x.sort := by
  unfold Nod.ins; split <;> rfl
theorem Nod.ins_lst (x : Nod) {s : Nat} (hs : s < 3) (ix n : Nat) {s' : Nat} (hs' : s' < 3) : (x.ins s ix n).lst s' = if s' = s then insAt (x.lst s) ix n else x.lst s' := by
  have h1 : s = 0 ∨ s = 1 ∨ s = 2 := by omega
  have h2 : s' = 0 ∨ s' = 1 ∨ s' = 2 := by omega
  rcases h1 with rfl | rfl | rfl <;> rcases h2 with rfl | rfl | rfl <;> rfl
theorem insAt_mem {l : List Nat} {ix n k : Nat} : k ∈ insAt l ix n ↔ k = n ∨ k ∈ l := by
  unfold insAt
  rw [List.mem_append, List.mem_cons]
  conv => rhs; rw [← List.take_append_drop ix l, List.mem_append]
  constructor
  · rintro (h | h | h) <;> simp [h]
  · rintro (h | h | h) <;> simp [h]
theorem insAt_nodup {l : List Nat} {ix n : Nat} (h : l.Nodup) (hn : n ∉ l) : (insAt l ix n).Nodup := by
  unfold insAt
  have h1 := h
  rw [← List.take_append_drop ix l] at h1 hn
  rw [List.nodup_append] at h1 ⊢
  simp only [List.mem_append, not_or] at hn
  refine ⟨h1.1, ?_, ?_⟩
  · rw [List.nodup_cons]; exact ⟨hn.2, h1.2.1⟩
  · intro a ha b hb
    rcases List.mem_cons.mp hb with rfl | hb
    · intro e; exact hn.1 (e ▸ ha)
    · exact h1.2.2 a ha b hb
theorem insAt_len (l : List Nat) (ix n : Nat) : (insAt l ix n).length = l.length + 1 := by
  unfold insAt
  have := congrArg List.length (List.take_append_drop ix l)
  simp only [List.length_append, List.length_cons] at this ⊢
  omega
theorem insAt_end (l : List Nat) (n : Nat) : insAt l l.length n = l ++ [n] := by simp [insAt]

structure Wf (D : List Nod) : Prop where
  w0 : ∃ x : Nod, D[0]? = some x ∧ x.par = none
  w1 : ∀ (k : Nat) (x : Nod), D[k]? = some x → 0 < k → ∃ (p : Nat) (y : Nod), x.par = some p ∧ p < k ∧ D[p]? = some y ∧ k ∈ y.lst x.sort
  w2 : ∀ (p : Nat) (y : Nod) (s c : Nat), D[p]? = some y → s < 3 → c ∈ y.lst s → ∃ x : Nod, D[c]? = some x ∧ x.par = some p ∧ x.sort = s
  w3 : ∀ (p : Nat) (y : Nod) (s : Nat), D[p]? = some y → s < 3 → (y.lst s).Nodup
  w5 : ∀ (k : Nat) (x : Nod), D[k]? = some x → x.sort < 3
  w6 : ∀ (k : Nat) (x : Nod) (s : Nat), D[k]? = some x → s < 3 → (x.lst s).length ≤ D.length

def growD (D : List Nod) (p : Nat) (y : Nod) (s ix : Nat) : List Nod := D.set p (y.ins s ix D.length) ++ [⟨s, some p, [], [], []⟩]
theorem growD_len (D : List Nod) (p : Nat) (y : Nod) (s ix : Nat) : (growD D p y s ix).length = D.length + 1 := by simp [growD]
theorem growD_get {D : List Nod} {p : Nat} {y : Nod} {s ix : Nat} (hy : D[p]? = some y) {k : Nat} {x : Nod} (h : (growD D p y s ix)[k]? = some x) :
    (k = D.length ∧ x = ⟨s, some p, [], [], []⟩) ∨ (k = p ∧ x = y.ins s ix D.length) ∨ (k ≠ p ∧ k < D.length ∧ D[k]? = some x) := by
  unfold growD at h
  rcases Nat.lt_or_ge k D.length with hk | hk
  · rw [List.getElem?_append_left (by simpa using hk)] at h
    by_cases e : k = p
    · subst e
      rw [List.getElem?_set_self (row_lt hy)] at h
      exact .inr (.inl ⟨rfl, (Option.some.inj h).symm⟩)
    · rw [List.getElem?_set_ne (Ne.symm e)] at h
      exact .inr (.inr ⟨e, hk, h⟩)
  · rw [List.getElem?_append_right (by simpa using hk)] at h
    rw [List.length_set] at h
    have : k - D.length = 0 := by
      rcases Nat.eq_zero_or_pos (k - D.length) with h0 | h0
      · exact h0
      · rw [List.getElem?_eq_none (by simp; omega)] at h; cases h
    rw [this] at h
    refine .inl ⟨by omega, ?_⟩
    simpa using h.symm
theorem growD_p {D : List Nod} {p : Nat} {y : Nod} (s ix : Nat) (hy : D[p]? = some y) : (growD D p y s ix)[p]? = some (y.ins s ix D.length) := by
  unfold growD
  rw [List.getElem?_append_left (by simpa using row_lt hy), List.getElem?_set_self (row_lt hy)]
theorem growD_ne {D : List Nod} {p : Nat} {y : Nod} (s ix : Nat) {k : Nat} {x : Nod} (h : D[k]? = some x) (e : k ≠ p) : (growD D p y s ix)[k]? = some x := by
  unfold growD
  rw [List.getElem?_append_left (by simpa using row_lt h), List.getElem?_set_ne (Ne.symm e), h]
theorem growD_n {D : List Nod} {p : Nat} {y : Nod} {s ix : Nat} : (growD D p y s ix)[D.length]? = some ⟨s, some p, [], [], []⟩ := by
  unfold growD
  rw [List.getElem?_append_right (by simp)]
  simp

theorem Wf.grow {D : List Nod} (W : Wf D) {p : Nat} {y : Nod} (hy : D[p]? = some y) {s : Nat} (hs : s < 3) (ix : Nat) : Wf (growD D p y s ix) := by
  have hp := row_lt hy
  have lt_of : ∀ (p : Nat) (y : Nod) (s c : Nat), D[p]? = some y → s < 3 → c ∈ y.lst s → c < D.length := fun p y s c h1 h2 h3 => by
    obtain ⟨x, hx, -⟩ := W.w2 p y s c h1 h2 h3
    exact row_lt hx
  have hn : ∀ s', s' < 3 → D.length ∉ y.lst s' := fun s' h' hm => Nat.lt_irrefl _ (lt_of p y s' _ hy h' hm)
  have up : ∀ (k : Nat) (x : Nod), D[k]? = some x → ∃ x' : Nod, (growD D p y s ix)[k]? = some x' ∧ x'.par = x.par ∧ x'.sort = x.sort ∧ ∀ s' c, s' < 3 → c ∈ x.lst s' → c ∈ x'.lst s' := fun k x h => by
    by_cases e : k = p
    · subst e
      rw [hy] at h; cases h
      refine ⟨_, growD_p s ix hy, Nod.ins_par .., Nod.ins_sort .., fun s' c h' hc => ?_⟩
      rw [Nod.ins_lst y hs ix _ h']
      split
      · rename_i e; subst e; exact insAt_mem.mpr (.inr hc)
      · exact hc
    · exact ⟨x, growD_ne s ix h e, rfl, rfl, fun _ _ _ h => h⟩
  refine ⟨?_, ?_, ?_, ?_, ?_, ?_⟩
  · obtain ⟨x, hx, h0⟩ := W.w0
    obtain ⟨x', a, b, -⟩ := up 0 x hx
    exact ⟨x', a, b.trans h0⟩
  · intro k x h h0
    rcases growD_get hy h with ⟨rfl, rfl⟩ | ⟨rfl, rfl⟩ | ⟨e, hk, hx⟩
    · refine ⟨p, _, rfl, hp, growD_p s ix hy, ?_⟩
      rw [Nod.ins_lst y hs ix _ hs, if_pos rfl]
      exact insAt_mem.mpr (.inl rfl)
    · obtain ⟨q, z, a1, a2, a3, a4⟩ := W.w1 k y hy h0
      obtain ⟨z', b1, -, -, b4⟩ := up q z a3
      rw [Nod.ins_par, Nod.ins_sort]
      exact ⟨q, z', a1, a2, b1, b4 _ _ (W.w5 k y hy) a4⟩
    · obtain ⟨q, z, a1, a2, a3, a4⟩ := W.w1 k x hx h0
      obtain ⟨z', b1, -, -, b4⟩ := up q z a3
      exact ⟨q, z', a1, a2, b1, b4 _ _ (W.w5 k x hx) a4⟩
  · intro q z s' c h hs' hc
    have old : ∀ z : Nod, D[q]? = some z → c ∈ z.lst s' → ∃ x : Nod, (growD D p y s ix)[c]? = some x ∧ x.par = some q ∧ x.sort = s' := fun z hz hc => by
      obtain ⟨x, b1, b2, b3⟩ := W.w2 q z s' c hz hs' hc
      obtain ⟨x', c1, c2, c3, -⟩ := up c x b1
      exact ⟨x', c1, c2.trans b2, c3.trans b3⟩
    rcases growD_get hy h with ⟨rfl, rfl⟩ | ⟨rfl, rfl⟩ | ⟨e, hk, hx⟩
    · have h3 : s' = 0 ∨ s' = 1 ∨ s' = 2 := by omega
      rcases h3 with rfl | rfl | rfl <;> cases hc
    · rw [Nod.ins_lst y hs ix _ hs'] at hc
      split at hc
      · rename_i e; subst e
        rcases insAt_mem.mp hc with rfl | hc
        · exact ⟨_, growD_n, rfl, rfl⟩
        · exact old y hy hc
      · exact old y hy hc
    · exact old z hx hc
  · intro q z s' h hs'
    rcases growD_get hy h with ⟨rfl, rfl⟩ | ⟨rfl, rfl⟩ | ⟨e, hk, hx⟩
    · have h3 : s' = 0 ∨ s' = 1 ∨ s' = 2 := by omega
      rcases h3 with rfl | rfl | rfl <;> exact List.nodup_nil
    · rw [Nod.ins_lst y hs ix _ hs']
      split
      · rename_i e; subst e
        exact insAt_nodup (W.w3 _ _ _ hy hs') (hn _ hs')
      · exact W.w3 _ _ _ hy hs'
    · exact W.w3 _ _ _ hx hs'
  · intro k x h
    rcases growD_get hy h with ⟨rfl, rfl⟩ | ⟨rfl, rfl⟩ | ⟨e, hk, hx⟩
    · exact hs
    · rw [Nod.ins_sort]; exact W.w5 _ _ hy
    · exact W.w5 _ _ hx
  · intro k x s' h hs'
    rw [growD_len]
    rcases growD_get hy h with ⟨rfl, rfl⟩ | ⟨rfl, rfl⟩ | ⟨e, hk, hx⟩
    · have h3 : s' = 0 ∨ s' = 1 ∨ s' = 2 := by omega
      rcases h3 with rfl | rfl | rfl <;> exact Nat.zero_le _
    · rw [Nod.ins_lst y hs ix _ hs']
      split
      · rename_i e; subst e
        rw [insAt_len]; exact Nat.succ_le_succ (W.w6 _ _ _ hy hs')
      · exact Nat.le_succ_of_le (W.w6 _ _ _ hy hs')
    · exact Nat.le_succ_of_le (W.w6 _ _ _ hx hs')

def TM (rows : List Row) (D : List Nod) : Prop := ∀ (k : Nat) (x : Nod), D[k]? = some x → ∃ r : Row, rows[k]? = some r ∧ r.par = x.par ∧ r.nsp = x.nsp ∧ r.atr = x.atr ∧ r.ch = x.ch ∧ sortOf r.kind = x.sort
def BM (rows : List BRow) (D : List Nod) : Prop := ∀ (k : Nat) (x : Nod), D[k]? = some x → ∃ r : BRow, rows[k]? = some r ∧ r.par = x.par ∧ r.nsp = x.nsp ∧ r.atr = x.atr ∧ r.ch = x.ch

/-- the heap's part of the builder's state; the objects of K stand apart from all of it -/
structure HOk (w : World) (K : Ldg) (S el : Addr) (vs : List Value) (t : Tr) (b : Bk) (news : Ldg) : Prop where
  tree : t.In w news
  book : b.In news
  src : Src news S
  els : ∃ n, (el, listOf vs.toArray n) ∈ news
  ap1 : ∀ a ∈ t.adr, a ∉ b.adr
  ap2 : S ∉ t.adr
  ap3 : S ∉ b.adr
  ap4 : el ∉ t.adr
  ap5 : el ∉ b.adr
  ap6 : el ≠ S
  prot : ∀ q ∈ K, q ∈ news ∧ q.1 ∉ t.adr ∧ q.1 ∉ b.adr ∧ q.1 ≠ S ∧ q.1 ≠ el
section
variable {w : World} {K : Ldg} {S el : Addr} {vs : List Value} {t : Tr} {b : Bk} {news news' : Ldg}
theorem Src.mono (h : Src news S) (k : ∀ o, (S, o) ∈ news → (S, o) ∈ news') : Src news' S := by
  obtain ⟨za, zb, ta, tb, n, hm, h⟩ := h
  exact ⟨za, zb, ta, tb, n, k _ hm, h⟩
theorem HOk.mono (H : HOk w K S el vs t b news) {K' : Ldg} (k : ∀ q ∈ news, (q.1 ∈ t.adr ∨ q.1 ∈ b.adr ∨ q.1 = S ∨ q.1 = el ∨ q ∈ K') → q ∈ news') (kk : ∀ q ∈ K', q ∈ K) : HOk w K' S el vs t b news' := by
  obtain ⟨h1, h2, h3, ⟨n, h4⟩, h5, h6, h7, h8, h9, h10, h11⟩ := H
  exact ⟨h1.mono fun p hp h => k p hp (.inl h), h2.mono fun p hp h => k p hp (.inr (.inl h)), h3.mono fun o h => k _ h (.inr (.inr (.inl rfl))), ⟨n, k _ h4 (.inr (.inr (.inr (.inl rfl))))⟩, h5, h6, h7, h8, h9, h10,
    fun q hq => ⟨k q (h11 q (kk q hq)).1 (.inr (.inr (.inr (.inr hq)))), (h11 q (kk q hq)).2⟩⟩
theorem HOk.up (H : HOk w K S el vs t b news) (k : ∀ q ∈ news, q ∈ news') : HOk w K S el vs t b news' := H.mono (fun q hq _ => k q hq) fun _ h => h
theorem HOk.hasS (H : HOk w K S el vs t b news) : ∃ o, (S, o) ∈ news := by obtain ⟨_, _, _, _, _, hm, _⟩ := H.src; exact ⟨_, hm⟩
theorem HOk.take (H : HOk w K S el vs t b news) (hs : Src news' S) (k : ∀ q ∈ news, q.1 ≠ S → q ∈ news') : HOk w K S el vs t b news' := by
  obtain ⟨h1, h2, h3, ⟨n, h4⟩, h5, h6, h7, h8, h9, h10, h11⟩ := H
  exact ⟨h1.mono fun p hp ha => k p hp fun e => h6 (e ▸ ha), h2.mono fun p hp ha => k p hp fun e => h7 (e ▸ ha), hs, ⟨n, k _ h4 h10⟩, h5, h6, h7, h8, h9, h10, fun q hq => ⟨k q (h11 q hq).1 (h11 q hq).2.2.2.1, (h11 q hq).2⟩⟩
theorem HOk.withTree (H : HOk w K S el vs t b news) {t' : Tr} (ht : t'.In w news') (k : ∀ q ∈ news, q.1 ∉ t.adr → q ∈ news') (hf : ∀ a ∈ t'.adr, a ∈ t.adr ∨ ∀ q ∈ news, q.1 < a) : HOk w K S el vs t' b news' := by
  have hS := H.hasS
  obtain ⟨h1, h2, h3, ⟨n, h4⟩, h5, h6, h7, h8, h9, h10, h11⟩ := H
  have nin : ∀ a, a ∉ t.adr → (∃ o, (a, o) ∈ news) → a ∉ t'.adr := fun a h ⟨o, ho⟩ ha => by
    rcases hf a ha with h' | h'
    · exact h h'
    · exact Nat.lt_irrefl _ (h' _ ho)
  refine ⟨ht, h2.mono fun p hp ha => k p hp fun e => h5 p.1 e ha, h3.mono fun o ho => k _ ho h6, ⟨n, k _ h4 h8⟩, ?_, nin S h6 hS, h7, nin el h8 ⟨_, h4⟩, h9, h10,
    fun q hq => ⟨k q (h11 q hq).1 (h11 q hq).2.1, nin _ (h11 q hq).2.1 ⟨q.2, (h11 q hq).1⟩, (h11 q hq).2.2⟩⟩
  intro a ha hb
  rcases hf a ha with h' | h'
  · exact h5 a h' hb
  · obtain ⟨o, ho⟩ := h2.has a hb
    exact Nat.lt_irrefl _ (h' _ ho)
theorem HOk.withBook (H : HOk w K S el vs t b news) {b' : Bk} (hb : b'.In news') (k : ∀ q ∈ news, q.1 ∉ b.adr → q ∈ news') (hf : ∀ a ∈ b'.adr, a ∈ b.adr ∨ ∀ q ∈ news, q.1 < a) : HOk w K S el vs t b' news' := by
  have hS := H.hasS
  obtain ⟨h1, h2, h3, ⟨n, h4⟩, h5, h6, h7, h8, h9, h10, h11⟩ := H
  have nin : ∀ a, a ∉ b.adr → (∃ o, (a, o) ∈ news) → a ∉ b'.adr := fun a h ⟨o, ho⟩ ha => by
    rcases hf a ha with h' | h'
    · exact h h'
    · exact Nat.lt_irrefl _ (h' _ ho)
  exact ⟨h1.mono fun p hp ha => k p hp (h5 p.1 ha), hb, h3.mono fun o ho => k _ ho h7, ⟨n, k _ h4 h9⟩, fun a ha => nin a (h5 a ha) (h1.has a ha), h6, nin S h7 hS, h8, nin el h9 ⟨_, h4⟩, h10,
    fun q hq => ⟨k q (h11 q hq).1 (h11 q hq).2.2.1, (h11 q hq).2.1, nin _ (h11 q hq).2.2.1 ⟨q.2, (h11 q hq).1⟩, (h11 q hq).2.2.2⟩⟩
theorem HOk.withEls (H : HOk w K S el vs t b news) {el' : Addr} {vs' : List Value} (k : ∀ q ∈ news, q ∈ news') (he : ∃ n, (el', listOf vs'.toArray n) ∈ news') (hf : ∀ q ∈ news, q.1 < el') : HOk w K S el' vs' t b news' := by
  have hS := H.hasS
  obtain ⟨h1, h2, h3, h4, h5, h6, h7, h8, h9, h10, h11⟩ := H.up k
  have nin : ∀ a, (∃ o, (a, o) ∈ news) → el' ≠ a := fun a ⟨o, ho⟩ e => Nat.lt_irrefl _ (e ▸ hf _ ho)
  exact ⟨h1, h2, h3, he, h5, h6, h7, fun ha => nin _ (H.tree.has _ ha) rfl, fun ha => nin _ (H.book.has _ ha) rfl, nin S hS,
    fun q hq => ⟨(h11 q hq).1, (h11 q hq).2.1, (h11 q hq).2.2.1, (h11 q hq).2.2.2.1, Ne.symm (nin _ ⟨q.2, (H.prot q hq).1⟩)⟩⟩
theorem HOk.prot1 (H : HOk w K S el vs t b news) {I : Addr} {io : Obj} (h : ∀ p ∈ news, p.1 ≠ I) : HOk w ((I, io) :: K) S el vs t b ((I, io) :: news) := by
  have no : ∀ a, (∃ o, (a, o) ∈ news) → I ≠ a := fun a ⟨o, ho⟩ e => h _ ho e.symm
  have G := H.up (news' := (I, io) :: news) fun q hq => .tail _ hq
  obtain ⟨h1, h2, h3, h4, h5, h6, h7, h8, h9, h10, h11⟩ := G
  refine ⟨h1, h2, h3, h4, h5, h6, h7, h8, h9, h10, fun q hq => ?_⟩
  rcases List.mem_cons.mp hq with rfl | hq
  · obtain ⟨n, h4'⟩ := H.els
    exact ⟨.head _, fun ha => no _ (H.tree.has _ ha) rfl, fun ha => no _ (H.book.has _ ha) rfl, no _ H.hasS, no _ ⟨_, h4'⟩⟩
  · exact h11 q hq
theorem HOk.drop1 {I : Addr} {io : Obj} (H : HOk w ((I, io) :: K) S el vs t b news) (h : ∀ p ∈ K, p.1 ≠ I) : HOk w K S el vs t b (news.filter fun p => p.1 ≠ I) := by
  have z := (H.prot _ (.head _)).2
  dsimp only at z
  refine H.mono (fun q hq hh => List.mem_filter.mpr ⟨hq, ?_⟩) fun q hq => .tail _ hq
  have : q.1 ≠ I := by
    rcases hh with h1 | h1 | h1 | h1 | h1
    · exact fun e => z.1 (e ▸ h1)
    · exact fun e => z.2.1 (e ▸ h1)
    · exact fun e => z.2.2.1 (e.symm.trans h1)
    · exact fun e => z.2.2.2 (e.symm.trans h1)
    · exact h q h1
  simpa using this
end

/-- the builder's state after i turns -/
structure St where
  news : Ldg
  t : Tr
  b : Bk
  D : List Nod
  el : Addr
  vs : List Value
  ns : List Nat
structure POk (KS PS : Nat → Str) (i : Nat) (c : St) : Prop where
  na : NA c.vs c.ns
  tlen : c.t.rows.length = c.D.length
  blen : c.b.rows.length = c.D.length
  len : c.D.length = i + 2
  tm : TM c.t.rows c.D
  bm : BM c.b.rows c.D
  wf : Wf c.D
  elk : ∀ k ∈ c.ns, ∃ r : Row, c.t.rows[k]? = some r ∧ r.kind = Str.ofString "element"
  elne : c.ns ≠ []
  ellen : c.ns.length ≤ i + 1
  nm1 : ∀ (j : Nat) (r : Row), c.t.rows[j]? = some r → r.kind = Str.ofString "attribute" → ∃ x, x < i ∧ r.loc = KS x
  nm2 : ∀ (j : Nat) (r : Row), c.t.rows[j]? = some r → r.kind = Str.ofString "namespace" → ∃ x, x < i ∧ r.name = PS x
theorem POk.ord {KS PS : Nat → Str} {i : Nat} {c : St} (H : POk KS PS i c) : c.t.Ord := by
  intro j r hr p hp
  have hj : j < c.D.length := by rw [← H.tlen]; exact row_lt hr
  obtain ⟨r', h1, h2, -⟩ := H.tm j _ (List.getElem?_eq_getElem hj)
  rw [hr] at h1; cases h1
  rcases Nat.eq_zero_or_pos j with rfl | h0
  · obtain ⟨x, hx, hn⟩ := H.wf.w0
    rw [List.getElem?_eq_getElem hj] at hx
    cases hx
    rw [hn, hp] at h2; cases h2
  · obtain ⟨q, y, a1, a2, -⟩ := H.wf.w1 j _ (List.getElem?_eq_getElem hj) h0
    rw [← h2, hp] at a1
    cases a1; exact a2

theorem setadd_get {α : Type} {l : List α} {a b x : α} {k j : Nat} (hk : k < l.length) (h : ((l ++ [a]).set k b)[j]? = some x) : (j = l.length ∧ x = a) ∨ (j = k ∧ x = b) ∨ (j ≠ k ∧ l[j]? = some x) := by
  by_cases e : j = k
  · subst e
    rw [List.getElem?_set_self (by simp; omega)] at h
    exact .inr (.inl ⟨rfl, (Option.some.inj h).symm⟩)
  · rw [List.getElem?_set_ne (Ne.symm e)] at h
    rcases Nat.lt_or_ge j l.length with hj | hj
    · rw [List.getElem?_append_left hj] at h
      exact .inr (.inr ⟨e, h⟩)
    · rw [List.getElem?_append_right hj] at h
      have : j - l.length = 0 := by
        rcases Nat.eq_zero_or_pos (j - l.length) with h0 | h0
        · exact h0
        · rw [List.getElem?_eq_none (by simp; omega)] at h; cases h
      rw [this] at h
      exact .inl ⟨by omega, by simpa using h.symm⟩
theorem setadd_k {α : Type} {l : List α} {a b : α} {k : Nat} (hk : k < l.length) : ((l ++ [a]).set k b)[k]? = some b := List.getElem?_set_self (by simp; omega)
theorem setadd_n {α : Type} {l : List α} {a b : α} {k : Nat} (hk : k < l.length) : ((l ++ [a]).set k b)[l.length]? = some a := by
  rw [List.getElem?_set_ne (by omega), List.getElem?_append_right (Nat.le_refl _)]; simp
theorem setadd_ne {α : Type} {l : List α} {a b x : α} {k j : Nat} (h : l[j]? = some x) (e : j ≠ k) : ((l ++ [a]).set k b)[j]? = some x := by
  rw [List.getElem?_set_ne (Ne.symm e), List.getElem?_append_left (row_lt h), h]

theorem TM.grow {rows : List Row} {D : List Nod} (M : TM rows D) (hl : rows.length = D.length) {k : Nat} {y : Nod} (hy : D[k]? = some y) {s ix : Nat} {row rk : Row}
    (h1 : row.par = some k ∧ row.nsp = [] ∧ row.atr = [] ∧ row.ch = [] ∧ sortOf row.kind = s) (h2 : rk.par = y.par ∧ rk.nsp = (y.ins s ix D.length).nsp ∧ rk.atr = (y.ins s ix D.length).atr ∧ rk.ch = (y.ins s ix D.length).ch ∧ sortOf rk.kind = y.sort) :
    TM ((rows ++ [row]).set k rk) (growD D k y s ix) := by
  intro j x h
  have hk : k < rows.length := by rw [hl]; exact row_lt hy
  rcases growD_get hy h with ⟨rfl, rfl⟩ | ⟨rfl, rfl⟩ | ⟨e, hj, hx⟩
  · exact ⟨row, by rw [← hl]; exact setadd_n hk, h1⟩
  · refine ⟨rk, setadd_k hk, ?_⟩
    rw [Nod.ins_par, Nod.ins_sort]
    exact h2
  · obtain ⟨r, hr, h⟩ := M j x hx
    exact ⟨r, setadd_ne hr e, h⟩
theorem setsnoc {α : Type} {l : List α} {a b : α} {k : Nat} (hk : k < l.length) : l.set k b ++ [a] = (l ++ [a]).set k b := by
  rw [List.set_append_left _ _ hk]
theorem BM.grow {rows : List BRow} {D : List Nod} (M : BM rows D) (hl : rows.length = D.length) {k : Nat} {y : Nod} (hy : D[k]? = some y) {s ix : Nat} {row rk : BRow}
    (h1 : row.par = some k ∧ row.nsp = [] ∧ row.atr = [] ∧ row.ch = []) (h2 : rk.par = y.par ∧ rk.nsp = (y.ins s ix D.length).nsp ∧ rk.atr = (y.ins s ix D.length).atr ∧ rk.ch = (y.ins s ix D.length).ch) :
    BM (rows.set k rk ++ [row]) (growD D k y s ix) := by
  intro j x h
  have hk : k < rows.length := by rw [hl]; exact row_lt hy
  rw [setsnoc hk]
  rcases growD_get hy h with ⟨rfl, rfl⟩ | ⟨rfl, rfl⟩ | ⟨e, hj, hx⟩
  · exact ⟨row, by rw [← hl]; exact setadd_n hk, h1⟩
  · refine ⟨rk, setadd_k hk, ?_⟩
    rw [Nod.ins_par]
    exact h2
  · obtain ⟨r, hr, h⟩ := M j x hx
    exact ⟨r, setadd_ne hr e, h⟩

theorem POk.grow {KS PS : Nat → Str} {i : Nat} {c : St} (H : POk KS PS i c) {k : Nat} {y : Nod} {rp : Row} {rb : BRow} (hy : c.D[k]? = some y) (hrp : c.t.rows[k]? = some rp) (hrb : c.b.rows[k]? = some rb) {s ix : Nat} (hs : s < 3) {row rk : Row} {brow bk : BRow} {t' : Tr} {b' : Bk}
    (ht' : t'.rows = (c.t.rows ++ [row]).set k rk) (hb' : b'.rows = c.b.rows.set k bk ++ [brow])
    (h1 : row.par = some k ∧ row.nsp = [] ∧ row.atr = [] ∧ row.ch = [] ∧ sortOf row.kind = s)
    (h2 : rk.par = rp.par ∧ rk.nsp = (y.ins s ix c.D.length).nsp ∧ rk.atr = (y.ins s ix c.D.length).atr ∧ rk.ch = (y.ins s ix c.D.length).ch ∧ rk.kind = rp.kind ∧ rk.loc = rp.loc ∧ rk.name = rp.name)
    (h3 : brow.par = some k ∧ brow.nsp = [] ∧ brow.atr = [] ∧ brow.ch = []) (h4 : bk.par = rb.par ∧ bk.nsp = (y.ins s ix c.D.length).nsp ∧ bk.atr = (y.ins s ix c.D.length).atr ∧ bk.ch = (y.ins s ix c.D.length).ch)
    (hat : row.kind = Str.ofString "attribute" → row.loc = KS i) (hnm : row.kind = Str.ofString "namespace" → row.name = PS i)
    {news' : Ldg} {el' : Addr} {vs' : List Value} {ns' : List Nat} (hna : NA vs' ns') (hns' : ns' = c.ns ∨ (ns' = c.ns ++ [c.D.length] ∧ row.kind = Str.ofString "element")) :
    POk KS PS (i + 1) ⟨news', t', b', growD c.D k y s ix, el', vs', ns'⟩ := by
  have hk : k < c.t.rows.length := row_lt hrp
  obtain ⟨rp', e1, e2⟩ := H.tm k y hy
  rw [hrp] at e1; cases e1
  obtain ⟨rb', f1, f2⟩ := H.bm k y hy
  rw [hrb] at f1; cases f1
  have kept : ∀ (j : Nat) (r : Row), c.t.rows[j]? = some r → ∃ r' : Row, t'.rows[j]? = some r' ∧ r'.kind = r.kind := fun j r hr => by
    rw [ht']
    by_cases e : j = k
    · subst e
      rw [hrp] at hr; cases hr
      exact ⟨rk, setadd_k hk, h2.2.2.2.2.1⟩
    · exact ⟨r, setadd_ne hr e, rfl⟩
  refine ⟨hna, ?_, ?_, ?_, ?_, ?_, H.wf.grow hy hs ix, ?_, ?_, ?_, ?_, ?_⟩
  · show t'.rows.length = _
    rw [ht', growD_len]; simp [H.tlen]
  · show b'.rows.length = _
    rw [hb', growD_len]; simp [H.blen]
  · show (growD _ _ _ _ _).length = _
    rw [growD_len, H.len]
  · show TM t'.rows _
    rw [ht']
    refine H.tm.grow H.tlen hy h1 ⟨h2.1.trans e2.1, h2.2.1, h2.2.2.1, h2.2.2.2.1, ?_⟩
    rw [h2.2.2.2.2.1]; exact e2.2.2.2.2
  · show BM b'.rows _
    rw [hb']
    exact H.bm.grow H.blen hy h3 ⟨h4.1.trans f2.1, h4.2⟩
  · intro j hj
    have old : ∀ j ∈ c.ns, ∃ r : Row, t'.rows[j]? = some r ∧ r.kind = Str.ofString "element" := fun j hj => by
      obtain ⟨r, a1, a2⟩ := H.elk j hj
      obtain ⟨r', b1, b2⟩ := kept j r a1
      exact ⟨r', b1, b2.trans a2⟩
    rcases hns' with e | ⟨e, hkd⟩
    · exact old j (e ▸ hj)
    · have hj' : j ∈ c.ns ++ [c.D.length] := e ▸ hj
      rcases List.mem_append.mp hj' with h | h
      · exact old j h
      · rw [List.mem_singleton.mp h]
        refine ⟨row, ?_, hkd⟩
        show t'.rows[_]? = _
        rw [ht', ← H.tlen]
        exact setadd_n hk
  · show ns' ≠ []
    rcases hns' with e | ⟨e, -⟩
    · rw [e]; exact H.elne
    · rw [e]; simp
  · show ns'.length ≤ _
    have := H.ellen
    rcases hns' with e | ⟨e, -⟩
    · rw [e]; omega
    · rw [e]; simp; omega
  · intro j r hr hkd
    replace hr : t'.rows[j]? = some r := hr
    rw [ht'] at hr
    rcases setadd_get hk hr with ⟨-, rfl⟩ | ⟨-, rfl⟩ | ⟨-, hx⟩
    · exact ⟨i, Nat.lt_succ_self _, hat hkd⟩
    · obtain ⟨x, a1, a2⟩ := H.nm1 k rp hrp (h2.2.2.2.2.1 ▸ hkd)
      exact ⟨x, Nat.lt_succ_of_lt a1, h2.2.2.2.2.2.1.trans a2⟩
    · obtain ⟨x, a1, a2⟩ := H.nm1 j r hx hkd
      exact ⟨x, Nat.lt_succ_of_lt a1, a2⟩
  · intro j r hr hkd
    replace hr : t'.rows[j]? = some r := hr
    rw [ht'] at hr
    rcases setadd_get hk hr with ⟨-, rfl⟩ | ⟨-, rfl⟩ | ⟨-, hx⟩
    · exact ⟨i, Nat.lt_succ_self _, hnm hkd⟩
    · obtain ⟨x, a1, a2⟩ := H.nm2 k rp hrp (h2.2.2.2.2.1 ▸ hkd)
      exact ⟨x, Nat.lt_succ_of_lt a1, h2.2.2.2.2.2.2.trans a2⟩
    · obtain ⟨x, a1, a2⟩ := H.nm2 j r hx hkd
      exact ⟨x, Nat.lt_succ_of_lt a1, a2⟩

local macro_rules | `(tactic| walk_at "call type:range") => `(tactic| (refine my_stop ?_))
section
variable {prog : Program} {w : World} {A : Around} {E : Value → Shared → Prop} {s : Shared} {env : Env} {h₀ : Heap} {x : Str} {body : List Stmt} {Q : Flow → Shared → Prop}
theorem my_range {σ : Type} {n : Nat} {t₀ : Tok} {m₀ : Str → Option Value} (Led : σ → Ldg) (ps : σ → List (Str × Value)) (stored : List Str) (P : Nat → σ → Prop) (c₀ : σ)
    (hh : A.handled = none) (hn : n ≤ 7) (F : Fr h₀ env.locals s.heap m₀) (N : News h₀ env.locals s.heap (Led c₀)) (hk : ∀ p ∈ ps c₀, m₀ p.1 = some p.2) (hp : P 0 c₀)
    (turn : ∀ (c : σ) (i : Nat) t (u : Str → Option Value) h tk I io, i < n → P i c → (∀ p ∈ Led c, p.1 ≠ I) →
      Fr h₀ env.locals h (fun y => if y = x then some (.int (i : Int) t) else kstB (fun z => if stored.contains z then u z else m₀ z) (ps c) y) → News h₀ env.locals h ((I, io) :: Led c) →
      wpAny (model prog w) A (execs body env) (LPost h₀ env.locals Led ps x stored m₀ (P (i + 1)) I io { s with heap := h, toks := tk } Q) E { s with heap := h, toks := tk })
    (done : ∀ (c : σ) (u : Str → Option Value) h tk, P n c → Fr h₀ env.locals h (fun y => if y = x then u y else kstB (fun z => if stored.contains z then u z else m₀ z) (ps c) y) → News h₀ env.locals h (Led c) → Q .next { s with heap := h, toks := tk }) :
    wpAny (model prog w) A (call (.type "range") [.int (n : Int) t₀]) (fun xv s₁ => wpAny (model prog w) A (pyIter xv) (fun it s₂ => LoopAtV prog w A h₀ env x body Q E it s₂) E s₁) E s := by
  refine call_range_1 ?_
  have h7 : n = 0 ∨ n = 1 ∨ n = 2 ∨ n = 3 ∨ n = 4 ∨ n = 5 ∨ n = 6 ∨ n = 7 := (by decide : ∀ k : Nat, k < 8 → k = 0 ∨ k = 1 ∨ k = 2 ∨ k = 3 ∨ k = 4 ∨ k = 5 ∨ k = 6 ∨ k = 7) n (Nat.lt_succ_of_le hn)
  refine my_forR (n := n) Led ps stored P c₀ hh (IsRange.new _ _ _ _ _ _ _) ?_ ?_ (F.push _) (fun p hp => ⟨Heap.get?_push_of_some _ (N p hp).1, (N p hp).2⟩) hk hp turn done
  · rcases h7 with rfl | rfl | rfl | rfl | rfl | rfl | rfl | rfl <;> decide
  · rcases h7 with rfl | rfl | rfl | rfl | rfl | rfl | rfl | rfl <;> decide
end
theorem my_stopR {prog : Program} {w : World} {A : Around} {Q E : Value → Shared → Prop} {s : Shared} {n : Addr} {vs : List Value} (_ : [28, 35, 42, 132, 146, 153, 181, 188, 300, 307, 314, 321, 328, 335, 340, 347].contains n = true)
    (h : Stop (wpAny (model prog w) A (call (.ref n) vs) Q E s)) : wpAny (model prog w) A (call (.ref n) vs) Q E s := h
local macro_rules | `(tactic| walk_at "call ref") => `(tactic| (k_here; refine my_stopR (by decide) ?_))

theorem tree0 {w : World} {news : Ldg} {l x d : Addr} {tk : Tok} (h1 : ∀ p ∈ news, p.1 < d) (h2 : @LT.lt Nat _ d x) (h3 : @LT.lt Nat _ x l ∧ @LT.lt Nat _ d l ∧ AllLt l news) :
    ∃ t : Tr, t.T = x ∧ t.rows = [] ∧ t.In w ((l, listOf #[] 0) :: (x, instObj 282 d) :: (d, dictOf (treeEs w.params tk l) 1) :: news) ∧ ∀ a ∈ t.adr, ∀ p ∈ news, p.1 < a := by
  refine ⟨⟨x, d, l, []⟩, rfl, rfl, ⟨by simp, ⟨tk, by simp⟩, ⟨0, by simp⟩, (fun r hr => by cases hr), by simp, ?_⟩, ?_⟩
  · have a1 := Nat.ne_of_lt h2
    have a2 := Nat.ne_of_lt h3.1
    have a3 := Nat.ne_of_lt h3.2.1
    simp only [Tr.adr, List.flatMap_nil, List.nodup_cons, List.mem_cons, List.not_mem_nil, or_false, not_or, List.nodup_nil, not_false_eq_true, and_true]
    exact ⟨⟨Ne.symm a1, a2⟩, a3⟩
  · intro a ha p hp
    simp only [Tr.adr, List.flatMap_nil, List.mem_cons, List.not_mem_nil, or_false] at ha
    have := h1 p hp
    rcases ha with rfl | rfl | rfl
    · exact Nat.lt_trans this h2
    · exact this
    · exact Nat.lt_trans this h3.2.1
theorem get_of_nil {t : Tr} {row : Row} (h : t.rows = []) : (t.add row).rows[0]? = some row := by simp [Tr.add, h]

theorem ins_len {a n : Nat} (h : n ≤ 50) : min a n + (n - a + 1) ≤ 100 := by omega
theorem book0 {prog : Program} {w : World} {news led : Ldg} {dB l8 l7 l6 l5 l4 l3 l2 l1 : Addr} {o : Obj} {u u2 : Tok}
    {h₀ h : Heap} {L : Addr} (_ : News h₀ L h led) (hd : o.IsDictOf (PySem.intKind prog w) (intKeyPairs [(.int ((0 : Nat) : Int) u, .ref l5), (.int ((1 : Nat) : Int) u2, .ref l1)])) (lo : (dB == sysModules) = false)
    (q0 : ∀ p ∈ news, p.1 < dB) (q1 : @LT.lt Nat _ dB l8 ∧ @LT.lt Nat _ l8 l7 ∧ @LT.lt Nat _ l7 l6 ∧ @LT.lt Nat _ l6 l5 ∧ @LT.lt Nat _ l5 l4 ∧ @LT.lt Nat _ l4 l3 ∧ @LT.lt Nat _ l3 l2 ∧ @LT.lt Nat _ l2 l1)
    (hm : ∀ p ∈ [(dB, o), (l8, listOf #[] 0), (l7, listOf #[] 0), (l6, listOf #[.int ((1 : Nat) : Int) u2] 0), (l5, listOf #[.none, .ref l8, .ref l7, .ref l6] 0), (l4, listOf #[] 0), (l3, listOf #[] 0), (l2, listOf #[] 0), (l1, listOf #[.int ((0 : Nat) : Int) u, .ref l4, .ref l3, .ref l2] 0)], p ∈ led) :
    ∃ b : Bk, b.B = dB ∧ b.In led ∧ b.rows.length = 2 ∧ BM b.rows [⟨2, none, [], [], [1]⟩, ⟨2, some 0, [], [], []⟩] ∧ (∀ a ∈ b.adr, ∀ p ∈ news, p.1 < a) ∧ ∀ a ∈ b.adr, a ≤ l1 := by
  simp only [List.forall_mem_cons] at hm
  obtain ⟨m0, m8, m7, m6, m5, m4, m3, m2, m1, -⟩ := hm
  obtain ⟨a1, a2, a3, a4, a5, a6, a7, a8⟩ := q1
  refine ⟨⟨dB, [⟨none, [], [], [1], l5, l8, l7, l6⟩, ⟨some 0, [], [], [], l1, l4, l3, l2⟩]⟩, rfl, ⟨⟨o, m0, intDict_of hd⟩, ?_, by simp, ?_, lo⟩, rfl, ?_, ?_, ?_⟩
  · intro r hr
    simp only [List.mem_cons, List.not_mem_nil, or_false] at hr
    rcases hr with rfl | rfl
    · exact ⟨⟨_, _, .none, m5⟩, ⟨[], 0, m8, .nil, by simp⟩, ⟨[], 0, m7, .nil, by simp⟩, ⟨[.int ((1 : Nat) : Int) u2], 0, m6, .cons 1 u2 .nil, by simp⟩⟩
    · exact ⟨⟨_, _, .some 0 u, m1⟩, ⟨[], 0, m4, .nil, by simp⟩, ⟨[], 0, m3, .nil, by simp⟩, ⟨[], 0, m2, .nil, by simp⟩⟩
  · show [dB, l5, l8, l7, l6, l1, l4, l3, l2].Nodup
    exact (List.Perm.cons dB (List.Perm.append (l₁ := [l5, l8, l7, l6]) (List.perm_append_comm (l₁ := [l5]) (l₂ := [l8, l7, l6])) (List.perm_append_comm (l₁ := [l1]) (l₂ := [l4, l3, l2])))).nodup_iff.mpr (up_nodup [l8, l7, l6, l5, l4, l3, l2, l1] dB ⟨a1, a2, a3, a4, a5, a6, a7, a8, trivial⟩)
  · intro k x hx
    match k, hx with
    | 0, hx => simp at hx; subst hx; exact ⟨_, rfl, rfl, rfl, rfl, rfl⟩
    | 1, hx => simp at hx; subst hx; exact ⟨_, rfl, rfl, rfl, rfl, rfl⟩
    | k + 2, hx => simp at hx
  · intro a ha p hp
    have hS := q0 p hp
    have ha : a ∈ [dB, l5, l8, l7, l6, l1, l4, l3, l2] := ha
    rcases List.mem_cons.mp ha with rfl | ha
    · exact hS
    · exact Nat.lt_trans hS (up_gt [l8, l7, l6, l5, l4, l3, l2, l1] dB ⟨a1, a2, a3, a4, a5, a6, a7, a8, trivial⟩ a ((List.Perm.append (l₁ := [l5, l8, l7, l6]) (List.perm_append_comm (l₁ := [l5]) (l₂ := [l8, l7, l6])) (List.perm_append_comm (l₁ := [l1]) (l₂ := [l4, l3, l2]))).mem_iff.mp ha))
  · have c2 := Nat.lt_trans a7 a8
    have c3 := Nat.lt_trans a6 c2
    have c4 := Nat.lt_trans a5 c3
    have c5 := Nat.lt_trans a4 c4
    have c6 := Nat.lt_trans a3 c5
    have c7 := Nat.lt_trans a2 c6
    show ∀ a ∈ [dB, l5, l8, l7, l6, l1, l4, l3, l2], a ≤ l1
    simp only [List.forall_mem_cons]
    exact ⟨Nat.le_of_lt (Nat.lt_trans a1 c7), Nat.le_of_lt c4, Nat.le_of_lt c7, Nat.le_of_lt c6, Nat.le_of_lt c5, Nat.le_refl _, Nat.le_of_lt c3, Nat.le_of_lt c2, Nat.le_of_lt a8, fun _ h => by cases h⟩

theorem HOk.elsN {w : World} {K : Ldg} {S el : Addr} {vs : List Value} {t : Tr} {b : Bk} {news : Ldg} (H : HOk w K S el vs t b news) {h₀ h : Heap} {L D : Addr} {ws : List Value} {q1 q2 : Addr × Obj}
    (N : News h₀ L h ((D, listOf ws.toArray 0) :: q1 :: q2 :: news)) (hf : ∀ p ∈ q1 :: q2 :: news, p.1 < D) : ∃ news', News h₀ L h news' ∧ HOk w K S D ws t b news' :=
  ⟨_, N, H.withEls (fun q hq => .tail _ (.tail _ (.tail _ hq))) ⟨0, .head _⟩ fun q hq => hf q (.tail _ (.tail _ hq))⟩
theorem setset {α : Type} {l : List α} {a b x : α} {k : Nat} (hk : k < l.length) : ((l ++ [a]).set k b).set l.length x = (l ++ [x]).set k b := by
  rw [List.set_comm _ _ (Nat.ne_of_lt hk), List.set_append_right _ _ (Nat.le_refl _), Nat.sub_self]
  rfl

def KSf (i : Nat) : Str := Str.ofString "k" ++ Str.ofString (toString (i : Int))
def PSf (i : Nat) : Str := Str.ofString "p" ++ Str.ofString (toString (i : Int))
theorem KSf_ne {i x : Nat} (hi : i < 8) (hx : x < i) : KSf x ≠ KSf i := by
  have : ∀ i, i < 8 → ∀ x, x < i → KSf x ≠ KSf i := by decide +kernel
  exact this i hi x hx
theorem PSf_ne {i x : Nat} (hi : i < 8) (hx : x < i) : PSf x ≠ PSf i := by
  have : ∀ i, i < 8 → ∀ x, x < i → PSf x ≠ PSf i := by decide +kernel
  exact this i hi x hx
theorem sort1 {k : Str} (h : sortOf k = 1) : k = Str.ofString "attribute" := by
  unfold sortOf at h
  split at h
  · cases h
  · split at h
    · assumption
    · cases h
theorem sort0 {k : Str} (h : sortOf k = 0) : k = Str.ofString "namespace" := by
  unfold sortOf at h
  split at h
  · assumption
  · split at h <;> cases h
theorem POk.noA {i : Nat} {c : St} (H : POk KSf PSf i c) (hi : i < 8) {k : Nat} {y : Nod} {rp : Row} (hy : c.D[k]? = some y) (e : rp.atr = y.atr) : ∀ j ∈ rp.atr, ∃ rj : Row, c.t.rows[j]? = some rj ∧ rj.loc ≠ KSf i := by
  intro j hj
  obtain ⟨x, hx, -, hs⟩ := H.wf.w2 k y 1 j hy (by decide) (by rw [e] at hj; exact hj)
  obtain ⟨rj, hr, -, -, -, -, h5⟩ := H.tm j x hx
  obtain ⟨z, hz, hl⟩ := H.nm1 j rj hr (sort1 (h5.trans hs))
  exact ⟨rj, hr, by rw [hl]; exact KSf_ne hi hz⟩
theorem POk.noN {i : Nat} {c : St} (H : POk KSf PSf i c) (hi : i < 8) {k : Nat} {y : Nod} {rp : Row} (hy : c.D[k]? = some y) (e : rp.nsp = y.nsp) : ∀ j ∈ rp.nsp, ∃ rj : Row, c.t.rows[j]? = some rj ∧ rj.name ≠ PSf i := by
  intro j hj
  obtain ⟨x, hx, -, hs⟩ := H.wf.w2 k y 0 j hy (by decide) (by rw [e] at hj; exact hj)
  obtain ⟨rj, hr, -, -, -, -, h5⟩ := H.tm j x hx
  obtain ⟨z, hz, hl⟩ := H.nm2 j rj hr (sort0 (h5.trans hs))
  exact ⟨rj, hr, by rw [hl]; exact PSf_ne hi hz⟩
theorem HOk.grown {w : World} {K : Ldg} {S el : Addr} {vs : List Value} {t t' : Tr} {b : Bk} {news news' : Ldg} {kd nm ur lc : Str} {par : Option Nat} {row : Row} (H : HOk w K S el vs t b news) (G : Grown w news t kd nm ur lc par row t' news') (ha : t'.adr = t.adr ++ row.adr) : HOk w K S el vs t' b news' :=
  H.withTree G.tree G.keep fun a h => by
    rw [ha] at h
    rcases List.mem_append.mp h with h | h
    · exact .inl h
    · exact .inr (G.fresh a h)
theorem add_adr (t : Tr) (row : Row) : (t.add row).adr = t.adr ++ row.adr := by simp [Tr.adr, Tr.add]
theorem addput_adr {t : Tr} {row : Row} {k : Nat} {r r' : Row} (hr : t.rows[k]? = some r) (e : r'.adr = r.adr) : ((t.add row).put k r').adr = t.adr ++ row.adr := by rw [Tr.put_adr (add_get hr) e, add_adr]
theorem addput2_adr {t : Tr} {row : Row} {k : Nat} {r r' row' : Row} (hr : t.rows[k]? = some r) (e : r'.adr = r.adr) (e2 : row'.adr = row.adr) : (((t.add row).put k r').put t.rows.length row').adr = (t.add row).adr := by
  rw [Tr.put_adr (put_get_ne add_last (Nat.ne_of_lt (row_lt hr))) e2, Tr.put_adr (add_get hr) e]
theorem bk_adr {b : Bk} {k : Nat} {r : BRow} (hr : b.rows[k]? = some r) {d : Addr} (hd : d ∈ r.adr) : d ∈ b.adr := by
  simp only [Bk.adr, List.mem_cons, List.mem_flatMap]
  exact .inr ⟨r, row_mem hr, hd⟩
theorem HOk.bput {w : World} {K : Ldg} {S el : Addr} {vs : List Value} {t : Tr} {b : Bk} {news news' : Ldg} (H : HOk w K S el vs t b news) {k : Nat} {r r' : BRow} {d : Addr} {o : Obj} (hr : b.rows[k]? = some r) (e : r'.adr = r.adr) (hd : d ∈ r.adr) (U : UpdTo d o news news') (hb : (b.put k r').In news') : HOk w K S el vs t (b.put k r') news' :=
  H.withBook hb (fun q hq ha => U.keep q hq fun e => ha (by rw [e]; exact bk_adr hr hd)) fun a h => .inl (by rwa [Bk.put_adr hr e] at h)
theorem HOk.badd {w : World} {K : Ldg} {S el : Addr} {vs : List Value} {t : Tr} {b : Bk} {news : Ldg} (H : HOk w K S el vs t b news) {h₀ h : Heap} {L l0 l1 l2 l3 : Addr} {k : Nat} {tk : Tok} {n0 n1 n2 n3 : Nat}
    (_ : News h₀ L h ((l0, listOf #[.int (k : Int) tk, .ref l3, .ref l2, .ref l1] n0) :: (l1, listOf #[] n1) :: (l2, listOf #[] n2) :: (l3, listOf #[] n3) :: news)) (q3 : ∀ p ∈ news, p.1 < l3) (q2 : @LT.lt Nat _ l3 l2) (q1 : @LT.lt Nat _ l2 l1) (q0 : @LT.lt Nat _ l1 l0) (hlt : b.rows.length < 20) :
    ∃ r : BRow, r.e = l0 ∧ (r.par = some k ∧ r.nsp = [] ∧ r.atr = [] ∧ r.ch = []) ∧ b.In ((l0, listOf #[.int (k : Int) tk, .ref l3, .ref l2, .ref l1] n0) :: (l1, listOf #[] n1) :: (l2, listOf #[] n2) :: (l3, listOf #[] n3) :: news) ∧
    ∀ news' o', UpdTo b.B o' ((l0, listOf #[.int (k : Int) tk, .ref l3, .ref l2, .ref l1] n0) :: (l1, listOf #[] n1) :: (l2, listOf #[] n2) :: (l3, listOf #[] n3) :: news) news' → IntDict o' (b.add r).kvs →
      HOk w K S el vs t (b.add r) news' := by
  have up : ∀ q ∈ news, q ∈ (l0, listOf #[.int (k : Int) tk, .ref l3, .ref l2, .ref l1] n0) :: (l1, listOf #[] n1) :: (l2, listOf #[] n2) :: (l3, listOf #[] n3) :: news := fun q hq => .tail _ (.tail _ (.tail _ (.tail _ hq)))
  have hBB : ∃ o, (b.B, o) ∈ news := H.book.has _ (by simp [Bk.adr])
  obtain ⟨oB, hBB⟩ := hBB
  have qB := q3 _ hBB
  dsimp only at qB
  refine ⟨⟨some k, [], [], [], l0, l3, l2, l1⟩, rfl, ⟨rfl, rfl, rfl, rfl⟩, (H.up up).book, fun news' o' U hd => ?_⟩
  have fresh : ∀ a ∈ BRow.adr ⟨some k, [], [], [], l0, l3, l2, l1⟩, ∀ q ∈ news, q.1 < a := by
    intro a ha q hq
    exact up_gt [l3, l2, l1, l0] q.1 ⟨q3 q hq, q2, q1, q0, trivial⟩ a ((List.perm_append_comm (l₁ := [l0]) (l₂ := [l3, l2, l1])).mem_iff.mp ha)
  refine H.withBook (H.book.add ⟨⟨_, n0, .some k tk, U.keep _ (.head _) ?_⟩, ⟨[], n3, U.keep _ (by simp) ?_, .nil, by simp⟩, ⟨[], n2, U.keep _ (by simp) ?_, .nil, by simp⟩, ⟨[], n1, U.keep _ (by simp) ?_, .nil, by simp⟩⟩ U.self hd (fun q hq hne => U.keep q (up q hq) hne) fresh ?_ hlt)
    (fun q hq ha => U.keep q (up q hq) fun e => ha (by rw [e]; simp [Bk.adr])) fun a ha => ?_
  · exact Nat.ne_of_gt (Nat.lt_trans qB (Nat.lt_trans q2 (Nat.lt_trans q1 q0)))
  · exact Nat.ne_of_gt qB
  · exact Nat.ne_of_gt (Nat.lt_trans qB q2)
  · exact Nat.ne_of_gt (Nat.lt_trans qB (Nat.lt_trans q2 q1))
  · exact (List.perm_append_comm (l₁ := [l0]) (l₂ := [l3, l2, l1])).nodup_iff.mpr (up_nodup [l2, l1, l0] l3 ⟨q2, q1, q0, trivial⟩)
  · rw [Bk.add_adr] at ha
    rcases List.mem_append.mp ha with h | h
    · exact .inl h
    · exact .inr (fresh a h)
theorem ord_add {t : Tr} (h : t.Ord) {row : Row} (hp : row.par = none) : (t.add row).Ord := by
  intro i r hr p hpp
  simp only [Tr.add] at hr
  rcases Nat.lt_or_ge i t.rows.length with hi | hi
  · rw [List.getElem?_append_left hi] at hr
    exact h i r hr p hpp
  · have := List.mem_of_getElem? hr
    rw [List.getElem?_append_right hi] at hr
    have := List.mem_of_getElem? hr
    rw [List.mem_singleton.mp this, hp] at hpp
    cases hpp
theorem HOk.upN {w : World} {K : Ldg} {S el : Addr} {vs : List Value} {t : Tr} {b : Bk} {news : Ldg} (H : HOk w K S el vs t b news) {h₀ h : Heap} {L : Addr} {q : Addr × Obj} (_ : News h₀ L h (q :: news)) : HOk w K S el vs t b (q :: news) := H.up fun _ h => .tail _ h
theorem tree2 {w : World} {news L0 news1 news2 : Ldg} {t t1 t2 : Tr} {row row2 : Row} {k1 n1 u1 l1 k2 n2 u2 l2 : Str} {p1 p2 : Option Nat} (hfr : ∀ a ∈ t.adr, ∀ p ∈ news, p.1 < a) (h0 : ∀ p ∈ news, p ∈ L0)
    (G : Grown w L0 t k1 n1 u1 l1 p1 row t1 news1) (G2 : Grown w news1 t1 k2 n2 u2 l2 p2 row2 t2 news2) (ht1 : t1.adr = t.adr ++ row.adr) (ht2 : t2.adr = t1.adr ++ row2.adr) : ∀ p ∈ news, p ∈ news2 ∧ p.1 ∉ t2.adr := by
  intro p hp
  have n0 : p.1 ∉ t.adr := fun h => Nat.lt_irrefl _ (hfr _ h p hp)
  have m1 : p ∈ news1 := G.keep p (h0 p hp) n0
  have n1 : p.1 ∉ t1.adr := fun h => by
    rw [ht1] at h
    rcases List.mem_append.mp h with h | h
    · exact n0 h
    · exact Nat.lt_irrefl _ (G.fresh _ h p (h0 p hp))
  refine ⟨G2.keep p m1 n1, fun h => ?_⟩
  rw [ht2] at h
  rcases List.mem_append.mp h with h | h
  · exact n1 h
  · exact Nat.lt_irrefl _ (G2.fresh _ h p m1)
theorem hok0 {w : World} {news2 led K : Ldg} {t2 : Tr} {b : Bk} {S l1 l0 : Addr} {x : Value} {n : Nat} (I2 : t2.In w news2) (hb : b.In led) (hbf : ∀ a ∈ b.adr, ∀ p ∈ news2, p.1 < a) (hbl : ∀ a ∈ b.adr, a ≤ l1) (hl : @LT.lt Nat _ l1 l0) (hl2 : ∀ p ∈ news2, p.1 < l0)
    (hm : ∀ p ∈ news2, p ∈ led) (hel : (l0, listOf #[x] n) ∈ led) (hS : Src news2 S) (hS2 : S ∉ t2.adr) (hK : ∀ q ∈ K, q ∈ news2 ∧ q.1 ∉ t2.adr ∧ q.1 ≠ S) : HOk w K S l0 [x] t2 b led := by
  have hSo : ∃ o, (S, o) ∈ news2 := by obtain ⟨_, _, _, _, _, hm, _⟩ := hS; exact ⟨_, hm⟩
  have nb : ∀ a, (∃ o, (a, o) ∈ news2) → a ∉ b.adr := fun a ⟨o, ho⟩ h => Nat.lt_irrefl _ (hbf a h _ ho)
  have nl : ∀ a, (∃ o, (a, o) ∈ news2) → a ≠ l0 := fun a ⟨o, ho⟩ h => Nat.lt_irrefl _ (h ▸ hl2 _ ho)
  refine ⟨I2.mono fun p hp _ => hm p hp, hb, hS.mono fun o => hm _, ⟨n, hel⟩, fun a ha => nb a (I2.has a ha), hS2, nb S hSo, fun h => nl _ (I2.has _ h) rfl, fun h => ?_, fun e => nl S hSo e.symm, fun q hq => ?_⟩
  · exact absurd hl (Nat.not_lt.mpr (hbl _ h))
  · obtain ⟨h1, h2, h3⟩ := hK q hq
    exact ⟨hm q h1, h2, nb _ ⟨q.2, h1⟩, h3, nl _ ⟨q.2, h1⟩⟩
theorem wf0 : Wf [⟨2, none, [], [], [1]⟩, ⟨2, some 0, [], [], []⟩] := by
  refine ⟨⟨_, rfl, rfl⟩, ?_, ?_, ?_, ?_, ?_⟩
  · intro k x h h0
    match k, h, h0 with
    | 1, h, _ => simp at h; subst h; exact ⟨0, _, rfl, by decide, rfl, by simp [Nod.lst]⟩
    | k + 2, h, _ => simp at h
  · intro p y s c h hs hc
    have h3 : s = 0 ∨ s = 1 ∨ s = 2 := by omega
    match p, h with
    | 0, h =>
      simp at h; subst h
      rcases h3 with rfl | rfl | rfl
      · cases hc
      · cases hc
      · simp [Nod.lst] at hc; subst hc; exact ⟨_, rfl, rfl, rfl⟩
    | 1, h => simp at h; subst h; rcases h3 with rfl | rfl | rfl <;> cases hc
    | p + 2, h => simp at h
  · intro p y s h hs
    have h3 : s = 0 ∨ s = 1 ∨ s = 2 := by omega
    match p, h with
    | 0, h => simp at h; subst h; rcases h3 with rfl | rfl | rfl <;> simp [Nod.lst]
    | 1, h => simp at h; subst h; rcases h3 with rfl | rfl | rfl <;> simp [Nod.lst]
    | p + 2, h => simp at h
  · intro k x h
    match k, h with
    | 0, h => simp at h; subst h; decide
    | 1, h => simp at h; subst h; decide
    | p + 2, h => simp at h
  · intro p y s h hs
    have h3 : s = 0 ∨ s = 1 ∨ s = 2 := by omega
    match p, h with
    | 0, h => simp at h; subst h; rcases h3 with rfl | rfl | rfl <;> simp [Nod.lst]
    | 1, h => simp at h; subst h; rcases h3 with rfl | rfl | rfl <;> simp [Nod.lst]
    | p + 2, h => simp at h
theorem pok0 {KS PS : Nat → Str} {led : Ldg} {t2 : Tr} {b : Bk} {l0 : Addr} {u2 : Tok} {r1 r2 : Row} (hrows : t2.rows = [r1, r2]) (hblen : b.rows.length = 2) (hbm : BM b.rows [⟨2, none, [], [], [1]⟩, ⟨2, some 0, [], [], []⟩])
    (h1 : r1.kind = Str.ofString "root" ∧ r1.par = none ∧ r1.nsp = [] ∧ r1.atr = [] ∧ r1.ch = [1]) (h2 : r2.kind = Str.ofString "element" ∧ r2.par = some 0 ∧ r2.nsp = [] ∧ r2.atr = [] ∧ r2.ch = []) :
    POk KS PS 0 ⟨led, t2, b, [⟨2, none, [], [], [1]⟩, ⟨2, some 0, [], [], []⟩], l0, [.int ((1 : Nat) : Int) u2], [1]⟩ := by
  obtain ⟨a1, a2, a3, a4, a5⟩ := h1
  obtain ⟨b1, b2, b3, b4, b5⟩ := h2
  have two : ∀ (j : Nat) (r : Row), t2.rows[j]? = some r → r = r1 ∨ r = r2 := fun j r h => by
    have := List.mem_of_getElem? h
    rw [hrows] at this
    simpa using this
  refine ⟨.cons 1 u2 .nil, by rw [hrows]; rfl, hblen, rfl, ?_, hbm, wf0, ?_, by simp, by simp, ?_, ?_⟩
  · intro k x h
    match k, h with
    | 0, h => simp at h; subst h; exact ⟨r1, by rw [hrows]; rfl, a2, a3, a4, a5, by rw [a1]; decide⟩
    | 1, h => simp at h; subst h; exact ⟨r2, by rw [hrows]; rfl, b2, b3, b4, b5, by rw [b1]; decide⟩
    | p + 2, h => simp at h
  · intro k hk
    simp at hk; subst hk
    exact ⟨r2, by rw [hrows]; rfl, b1⟩
  · intro j r h hk
    rcases two j r h with rfl | rfl
    · rw [a1] at hk; exact absurd hk (by decide)
    · rw [b1] at hk; exact absurd hk (by decide)
  · intro j r h hk
    rcases two j r h with rfl | rfl
    · rw [a1] at hk; exact absurd hk (by decide)
    · rw [b1] at hk; exact absurd hk (by decide)

/-- what the law's builder leaves -/
structure Built (w : World) (news : Ldg) (S : Addr) (t : Tr) (b : Bk) (D : List Nod) (row : Row) (tup : Addr) (tk : Tok) (news' : Ldg) : Prop where
  tup : (tup, tupObj [.ref t.T, .ref b.B, .int (D.length : Int) tk]) ∈ news'
  tree : t.In w news'
  book : b.In news'
  tm : TM t.rows D
  bm : BM b.rows D
  wf : Wf D
  blen : b.rows.length = D.length
  len1 : 3 ≤ D.length
  len2 : D.length ≤ 8
  last : t.rows[D.length]? = some row
  par : row.par = none
  keep : ∀ q ∈ news, q.1 ≠ S → q ∈ news'
  apart : ∀ q ∈ news, q.1 ≠ S → q.1 ∉ t.adr ∧ q.1 ∉ b.adr

theorem law_built_does {w : World} {news : Ldg} {S : Addr} (hS : Src news S) :
    Does w (.ref 328) 8 [.ref S] news (fun v news' => ∃ t b D row tup tk, v = .ref tup ∧ Built w news S t b D row tup tk news') := by
  intro prog p loose mean mg mb dp un gd cn cs a ccd cl outer A₀ base h₀ L m s Q E B F X N TT hk hdp hun hret
  refine wpAny_call ?_
  ktr_enter
  k_steps
  rename _ ∧ _ ∧ AllLt _ news => q3
  rename @LT.lt Nat _ _ _ => q2
  rename (∀ p ∈ news, _ < _) => q1
  rename News _ _ _ (_ :: _ :: _ :: news) => N9
  obtain ⟨t, hT, hrows, I, hfr⟩ := tree0 (w := w) q1 q2 q3
  refine stop ?_
  refine' does_use (new_root_does I hT (by rw [hrows]; decide)) ?B ?F ?X ?N ?T ?K ?d ?u ?_
  walk_at "MYCTX"
  rintro v1 news1 h1' tk1' F2 N2 ⟨row, ⟨u, rfl⟩, G⟩
  rw [hrows, List.length_nil]
  subst hT
  have hr := get_of_nil (row := row) hrows
  have I1 : (t.add row).In w news1 := G.tree
  have h1 : (t.T, instObj 282 t.dT) ∈ news1 := I1.inst
  obtain ⟨tk1, h2⟩ := I1.dct
  replace h2 : (t.dT, dictOf (treeEs w.params tk1 t.R) 1) ∈ news1 := h2
  have gis := G.is
  simp only [Prod.mk.injEq] at gis
  k_steps
  refine stop ?_
  refine' does_use (add_element_does I1 rfl (by simp [Tr.add, hrows]) (k := 0) hr (.inl gis.1) (by rw [gis.2.2.2.2.2.1]; decide) _ _ _ _ _ _ _) ?B ?F ?X ?N ?T ?K ?d ?u ?_
  walk_at "MYCTX"
  rintro v2 news2 h2' tk2' F3 N3 ⟨row2, ⟨u2, rfl⟩, G2⟩
  have hlen1 : (t.add row).rows.length = 1 := by simp [Tr.add, hrows]
  rw [hlen1]
  k_steps
  refine' kdn_eval (knd := PySem.intKind prog w) ?F ?N ?b ?a ?l ?e ?n ?_
  (case F => k_asm)
  (case N => k_asm)
  (case b => exact Top.nolimit (by k_asm))
  (case a => rfl)
  (case l => rfl)
  (case e => exact List.cons_ne_nil _ _)
  (case n => exact Nat.le_of_ble_eq_true rfl)
  intro dB hB oB FB NB l1B loB hdB
  k_steps
  refine stop ?_
  rename Obj.IsDictOf (intKind prog w) _ (intKeyPairs _) => hd9
  rename @LT.lt Nat _ dB _ ∧ AllLt _ news2 => q8
  rename @LT.lt Nat _ _ _ ∧ @LT.lt Nat _ dB _ ∧ AllLt _ news2 => q7
  rename @LT.lt Nat _ _ _ ∧ @LT.lt Nat _ _ _ ∧ @LT.lt Nat _ dB _ ∧ AllLt _ news2 => q6
  rename @LT.lt Nat _ _ _ ∧ @LT.lt Nat _ _ _ ∧ @LT.lt Nat _ _ _ ∧ @LT.lt Nat _ dB _ ∧ AllLt _ news2 => q5
  rename @LT.lt Nat _ _ _ ∧ @LT.lt Nat _ _ _ ∧ @LT.lt Nat _ _ _ ∧ @LT.lt Nat _ _ _ ∧ @LT.lt Nat _ dB _ ∧ AllLt _ news2 => q4
  rename @LT.lt Nat _ _ _ ∧ @LT.lt Nat _ _ _ ∧ @LT.lt Nat _ _ _ ∧ @LT.lt Nat _ _ _ ∧ @LT.lt Nat _ _ _ ∧ @LT.lt Nat _ dB _ ∧ AllLt _ news2 => q33
  rename @LT.lt Nat _ _ _ ∧ @LT.lt Nat _ _ _ ∧ @LT.lt Nat _ _ _ ∧ @LT.lt Nat _ _ _ ∧ @LT.lt Nat _ _ _ ∧ @LT.lt Nat _ _ _ ∧ @LT.lt Nat _ dB _ ∧ AllLt _ news2 => q22
  rename @LT.lt Nat _ _ _ ∧ @LT.lt Nat _ _ _ ∧ @LT.lt Nat _ _ _ ∧ @LT.lt Nat _ _ _ ∧ @LT.lt Nat _ _ _ ∧ @LT.lt Nat _ _ _ ∧ @LT.lt Nat _ _ _ ∧ @LT.lt Nat _ dB _ ∧ AllLt _ news2 => q11
  rename @LT.lt Nat _ _ _ ∧ @LT.lt Nat _ _ _ ∧ @LT.lt Nat _ _ _ ∧ @LT.lt Nat _ _ _ ∧ @LT.lt Nat _ _ _ ∧ @LT.lt Nat _ _ _ ∧ @LT.lt Nat _ _ _ ∧ @LT.lt Nat _ _ _ ∧ @LT.lt Nat _ dB _ ∧ AllLt _ news2 => q00
  rename News _ _ _ _ => N9
  obtain ⟨b, hbB, IB, hblen, hbm, hbf, hbl⟩ := book0 N9 hd9 loB l1B ⟨q8.1, q7.1, q6.1, q5.1, q4.1, q33.1, q22.1, q11.1⟩ (by intro p hp; simp only [List.mem_cons, List.not_mem_nil, or_false] at hp ⊢; rcases hp with h | h | h | h | h | h | h | h | h <;> rw [h] <;> simp)
  have gis2 := G2.is
  simp only [Prod.mk.injEq] at gis2
  have hkeep := tree2 hfr (fun p hp => .tail _ (.tail _ (.tail _ hp))) G G2 (by simp [Tr.adr, Tr.add]) (by rw [Tr.put_adr (add_get hr) (by simp [Row.adr])]; simp [Tr.adr, Tr.add])
  have hSo : ∃ o, (S, o) ∈ news := by obtain ⟨_, _, _, _, _, hm, _⟩ := hS; exact ⟨_, hm⟩
  obtain ⟨oS, hSo⟩ := hSo
  have H0 := hok0 (K := news.filter fun p => p.1 ≠ S) G2.tree IB hbf hbl q00.1 (ltAll_of q00.2.2.2.2.2.2.2.2.2) (fun p hp => by simp [hp]) (by k_mem) (hS.mono fun o ho => (hkeep _ ho).1) (hkeep _ hSo).2
    (fun q hq => by obtain ⟨a1, a2⟩ := List.mem_filter.mp hq; exact ⟨(hkeep q a1).1, (hkeep q a1).2, by simpa using a2⟩)
  have P0 := fun KS PS led el => pok0 (KS := KS) (PS := PS) (led := led) (t2 := (((t.add row).add row2).put 0 { row with ch := row.ch ++ [(t.add row).rows.length] })) (l0 := el) (u2 := u2) (r1 := { row with ch := row.ch ++ [(t.add row).rows.length] }) (r2 := row2) (by simp [Tr.add, Tr.put, hrows]) hblen hbm
    (by rw [hlen1]; exact ⟨gis.1, gis.2.2.2.2.1, gis.2.2.2.2.2.2.2, gis.2.2.2.2.2.2.1, by rw [gis.2.2.2.2.2.1]; rfl⟩) ⟨gis2.1, gis2.2.2.2.2.1, gis2.2.2.2.2.2.2.2, gis2.2.2.2.2.2.2.1, gis2.2.2.2.2.2.1⟩
  refine' does_use (take_does H0.src (top := 6) (by decide) (by decide) _) ?B ?F ?X ?N ?T ?K ?d ?u ?_
  walk_at "MYCTX"
  rintro v3 news3 h3' tk3' F4 N4 ⟨d9, u9, rfl, hd9', hS9, hk9⟩
  have H1 := H0.take hS9 hk9
  subst hbB
  have hT2 : (((t.add row).add row2).put 0 { row with ch := row.ch ++ [(t.add row).rows.length] }).T = t.T := rfl
  generalize ((t.add row).add row2).put 0 { row with ch := row.ch ++ [(t.add row).rows.length] } = t2 at *
  generalize t.T = TT9 at *
  k_steps
  refine stop ?_
  rename_i lz9 _ _ _ _ _ _ _ _ _
  have e1d : (1 : Int) + (d9 : Int) = ((1 + d9 : Nat) : Int) := by omega
  rw [e1d]
  refine my_range (σ := St) (fun c => c.news) (fun c => [(Str.ofString "elements", .ref c.el)]) [Str.ofString "parent", Str.ofString "kind", Str.ofString "node", Str.ofString "at"]
    (fun i c => POk KSf PSf i c ∧ HOk w (news.filter fun p => p.1 ≠ S) S c.el c.vs c.t c.b c.news ∧ c.t.T = TT9 ∧ c.b.B = b.B)
    ⟨news3, t2, b, _, _, _, _⟩ rfl (by omega) (by assumption) N4 (by kst_all) ⟨P0 _ _ _ _, H1, hT2, rfl⟩ ?_ ?_
  · rintro c i tq u8 h8 tk8 II io hin ⟨P1, H2, hT3, hB3⟩ hoff F5 N5
    refine hide ?_
    intro Q9 E9 hQ9 _
    obtain ⟨n5, hel5⟩ := H2.els
    have hel6 := hel5
    have hel5 := List.mem_cons_of_mem (II, io) hel5
    have H3 := H2.prot1 (io := io) hoff
    have hvl := P1.na.length
    have hne5 : 0 < c.vs.length := by
      rw [hvl]; exact List.length_pos_iff.mpr P1.elne
    have hll := P1.ellen
    have hvs9 : c.vs.length ≤ 8 := by omega
    k_steps
    refine stop ?_
    refine' does_use (one_does H3.src hel5 H3.ap6 hne5 (Nat.le_trans hvs9 (by decide))) ?B ?F ?X ?N ?T ?K ?d ?u ?_
    walk_at "MYCTX"
    rintro v6 news6 h6 tk6 F6 N6 ⟨⟨i6, hv6⟩, hS6, hk6⟩
    obtain ⟨k, tk, rfl, hkk⟩ := P1.na.item hv6
    have H4 := H3.take hS6 hk6
    clear H3 hel5 hel6 N5 F5
    k_steps
    refine stop ?_
    rename News _ _ _ _ => N7
    rename (∀ p ∈ news6, _ < _) => hl7
    have H5 := H4.upN N7
    obtain ⟨oS6, hoS6⟩ := H4.hasS
    refine' does_use (one_does H5.src (.head _) (Ne.symm (Nat.ne_of_lt (hl7 _ hoS6))) (by show 0 < 5; decide) (by show 5 ≤ 1000; decide)) ?B ?F ?X ?N ?T ?K ?d ?u ?_
    walk_at "MYCTX"
    rintro v8 news8 h8' tk8' F8 N8 ⟨⟨i8, hv8⟩, hS8, hk8⟩
    have H6 := H5.take hS8 hk8
    clear N7 H5 H4 hl7 hoS6 hk6 hS6
    have hkind : ∃ kd u, v8 = .str kd u ∧ (kd = Str.ofString "element" ∨ kd = Str.ofString "text" ∨ kd = Str.ofString "attribute" ∨ kd = Str.ofString "namespace") := by
      match i8, hv8 with
      | 0, h => simp at h; exact ⟨_, _, h.symm, .inl rfl⟩
      | 1, h => simp at h; exact ⟨_, _, h.symm, .inr (.inl rfl)⟩
      | 2, h => simp at h; exact ⟨_, _, h.symm, .inr (.inr (.inl rfl))⟩
      | 3, h => simp at h; exact ⟨_, _, h.symm, .inr (.inr (.inr rfl))⟩
      | 4, h => simp at h; exact ⟨_, _, h.symm, .inl rfl⟩
      | i + 5, h => simp at h
    obtain ⟨kd, uk, rfl, hkd⟩ := hkind
    clear hv8
    have hnk := row_mem hkk
    obtain ⟨rp, hrp, hrk⟩ := P1.elk k hnk
    have hkD : k < c.D.length := by rw [← P1.tlen]; exact row_lt hrp
    have hyD := List.getElem?_eq_getElem hkD
    generalize c.D[k] = y at hyD
    obtain ⟨rb, hrb, hb1, hb2, hb3, hb4⟩ := P1.bm k y hyD
    obtain ⟨rp', hrp', ht1, ht2, ht3, ht4, ht5⟩ := P1.tm k y hyD
    rw [hrp] at hrp'; cases hrp'
    have h1 : (c.t.T, instObj 282 c.t.dT) ∈ news8 := H6.tree.inst
    obtain ⟨tk1, h2⟩ := H6.tree.dct
    have hlen := P1.len
    have htl := P1.tlen
    have hD8 : c.D.length ≤ 8 := by rw [hlen]; omega
    have hi8 : i < 8 := Nat.lt_of_lt_of_le (Nat.lt_add_of_pos_right (k := 2) (by decide)) (hlen ▸ hD8)
    have ht20 : c.t.rows.length < 20 := by rw [htl]; exact Nat.lt_of_le_of_lt hD8 (by decide)
    have hI6 := H6.tree
    have hB6 := H6.book
    rw [← hT3] at F8
    rw [← hB3] at F8
    rcases hkd with rfl | rfl | rfl | rfl
    · k_steps
      refine stop ?_
      refine' does_use (add_element_none_does hI6 rfl ht20 _ _ _ _ _ _) ?B ?F ?X ?N ?T ?K ?d ?u ?_
      walk_at "MYCTX"
      rintro v9 news9 h9' tk9' F9 N9 ⟨row9, ⟨u9, rfl⟩, G9⟩
      have H7 := H6.grown G9 (add_adr _ _)
      have hB7 := H7.book
      have hB7r := hB7.rows rb (row_mem hrb)
      obtain ⟨⟨pv, n9, hpv, hb9⟩, -, -, ⟨vC, nC, hC1, hC2, hC3⟩⟩ := hB7r
      have hC4 := hC2.length
      have hC5 := P1.wf.w6 k y 2 hyD (by decide)
      simp only [Nod.lst] at hC5
      clear h1 h2 hI6 hB6
      k_steps
      refine stop ?_
      have e1C : ((vC.length : Int) + 1) = ((vC.length + 1 : Nat) : Int) := by omega
      rw [e1C]
      refine' does_use (take_does H7.src (top := vC.length + 1) (Nat.succ_pos _) (Nat.le_trans (Nat.succ_le_succ hC3) (by decide)) _) ?B ?F ?X ?N ?T ?K ?d ?u ?_
      walk_at "MYCTX"
      rintro v13 news13 h13 tk13 F13 N13 ⟨at9, ua9, rfl, hat9, hS13, hk13⟩
      have H8 := H7.take hS13 hk13
      clear hb9 hC1 hB7 H7
      k_steps
      refine stop ?_
      have g9 := G9.is
      simp only [Prod.mk.injEq] at g9
      obtain ⟨g1, g2, g3, g4, g5, g6, g7, g8⟩ := g9
      have hI8 := H8.tree
      have hkn : k < c.t.rows.length := row_lt hrp
      have hat : at9 ≤ rp.ch.length := by rw [ht4, ← hb4, ← hC4]; exact Nat.le_of_lt_succ hat9
      refine' does_use (insert_does hI8 rfl (ord_add P1.ord g5) (add_get hrp) add_last hkn (.inr hrk) (.inl g1) hat g5 (by rw [ht4]; exact Nat.lt_of_le_of_lt (Nat.le_trans hC5 hD8) (by decide)) _ _ _) ?B ?F ?X ?N ?T ?K ?d ?u ?_
      walk_at "MYCTX"
      rintro v14 news14 h14 tk14 F14 N14 ⟨rfl, hI14, hk14⟩
      have H9 := H8.withTree hI14 hk14 (fun a ha => .inl (by rwa [addput2_adr (row := row9) (r' := { rp with ch := rp.ch.take at9 ++ c.t.rows.length :: rp.ch.drop at9 }) (row' := { row9 with par := some k }) hrp rfl rfl] at ha))
      have hC6 : rb.ch.length = y.ch.length := by rw [hb4]
      have hB9 := H9.book
      have hB9r := hB9.rows rb (row_mem hrb)
      obtain ⟨⟨pv, n9, hpv, hb9⟩, -, -, ⟨vC, nC, hC1, hC2, hC3⟩⟩ := hB9r
      have hC4 := hC2.length
      clear hI8 H8
      k_steps
      refine my_insert (by assumption) (by assumption) hC1 (Nat.le_trans hC3 (by decide)) (by rw [hC4, hb4, ← ht4]; exact hat) ?_
      intro h15 news15 F15 N15 U15
      have H10 := H9.bput (r' := { rb with ch := insAt rb.ch at9 c.t.rows.length }) hrb rfl (by simp [BRow.adr]) U15 (hB9.setCh hrb U15 (hC2.ins at9 c.t.rows.length u9) (by simp; exact ins_len (by rw [hC4, hb4]; exact Nat.le_trans (Nat.le_trans hC5 hD8) (by decide))))
      clear hb9 hC1 hB9 H9
      obtain ⟨nE, hE⟩ := H10.els
      k_steps
      rename News _ _ _ _ => N16
      rename (_ ∧ AllLt _ news15) => l16
      have eM : (List.replicate (if (Str.ofString "element" == Str.ofString "element") = true then (1 : Int) else 0).toNat [Value.int (c.t.rows.length : Int) u9]).flatten = [Value.int (c.t.rows.length : Int) u9] := by simp
      rw [eM] at N16
      refine my_addL (by assumption) N16 (.tail _ (.tail _ hE)) (.head _) (by simp; exact Nat.le_trans hvs9 (by decide)) ?_
      intro D17 h17 F17 N17 l17
      obtain ⟨news17, N18, H11⟩ := H10.elsN N17 l17
      clear N16 l16 hE N17 l17 H10
      k_steps
      rename (∀ p ∈ news17, _ < _) => q3
      rename @LT.lt Nat _ _ _ ∧ AllLt _ news17 => q2
      rename @LT.lt Nat _ _ _ ∧ @LT.lt Nat _ _ _ ∧ AllLt _ news17 => q1
      rename @LT.lt Nat _ _ _ ∧ @LT.lt Nat _ _ _ ∧ @LT.lt Nat _ _ _ ∧ AllLt _ news17 => q0
      rename News _ _ _ _ => N11
      obtain ⟨r11, hr11, hp11, hb11, hup11⟩ := H11.badd N11 q3 q2.1 q1.1 q0.1 (by simp [Bk.put]; rw [P1.blen]; exact Nat.lt_of_le_of_lt hD8 (by decide))
      refine my_bookset (r := r11) (by assumption) N11 hb11 rfl (by simp [Bk.put]; rw [P1.blen, P1.tlen]) hr11 ?_
      intro h12 news12 o12 F12 N12 U12 hd12
      have H12 := hup11 _ _ U12 hd12
      have P9 := P1.grow hyD hrp hrb (s := 2) (ix := at9) (by decide) (row := { row9 with par := some k }) (rk := { rp with ch := rp.ch.take at9 ++ c.t.rows.length :: rp.ch.drop at9 }) (brow := r11) (bk := { rb with ch := insAt rb.ch at9 c.t.rows.length }) (t' := ((c.t.add row9).put k { rp with ch := rp.ch.take at9 ++ c.t.rows.length :: rp.ch.drop at9 }).put c.t.rows.length { row9 with par := some k }) (b' := (c.b.put k { rb with ch := insAt rb.ch at9 c.t.rows.length }).add r11) (setset hkn) rfl
        ⟨rfl, g8, g7, g6, by show sortOf row9.kind = 2; rw [g1]; decide⟩ ⟨rfl, ht2, ht3, by simp [Nod.ins, insAt, ht4, htl], rfl, rfl, rfl⟩ hp11 ⟨rfl, hb2, hb3, by simp [Nod.ins, hb4, htl]⟩ (fun h => by rw [show ({ row9 with par := some k } : Row).kind = row9.kind from rfl, g1] at h; exact absurd h (by decide)) (fun h => by rw [show ({ row9 with par := some k } : Row).kind = row9.kind from rfl, g1] at h; exact absurd h (by decide)) (news' := news12.filter fun p => p.1 ≠ II) (el' := D17) (vs' := c.vs ++ [Value.int (c.t.rows.length : Int) u9]) (by rw [← htl]; exact P1.na.snoc c.t.rows.length u9) (.inr ⟨rfl, g1⟩)
      k_steps
      refine hQ9 _ _ ?_
      refine lpost ⟨_, _, _, _, _, _, _⟩ (by assumption) (by assumption) (fun p hp => ?_) (fun p hp => ?_) (by kst_all) ?_ ⟨P9, H12.drop1 (fun q hq => hoff q (H2.prot q hq).1), hT3, hB3⟩
      · rcases List.mem_cons.mp hp with rfl | h
        · exact (H12.prot _ (.head _)).1
        · exact (List.mem_filter.mp h).1
      · simpa using (List.mem_filter.mp hp).2
      · intro z h1 h2 h3
        simp only [List.contains_cons, List.contains_nil, Bool.or_false, Bool.or_eq_false_iff, beq_eq_false_iff_ne, ne_eq] at h3
        simp only [List.forall_mem_cons, List.not_mem_nil, false_implies, implies_true, and_true, ne_eq] at h2
        simp [kstB, h1, h2, h3, hT3, hB3]
    · k_steps
      refine stop ?_
      refine' does_use (add_text_none_does hI6 rfl ht20 _ _) ?B ?F ?X ?N ?T ?K ?d ?u ?_
      walk_at "MYCTX"
      rintro v9 news9 h9' tk9' F9 N9 ⟨row9, ⟨u9, rfl⟩, G9⟩
      have H7 := H6.grown G9 (add_adr _ _)
      have hB7 := H7.book
      have hB7r := hB7.rows rb (row_mem hrb)
      obtain ⟨⟨pv, n9, hpv, hb9⟩, -, -, ⟨vC, nC, hC1, hC2, hC3⟩⟩ := hB7r
      have hC4 := hC2.length
      have hC5 := P1.wf.w6 k y 2 hyD (by decide)
      simp only [Nod.lst] at hC5
      clear h1 h2 hI6 hB6
      k_steps
      refine stop ?_
      have e1C : ((vC.length : Int) + 1) = ((vC.length + 1 : Nat) : Int) := by omega
      rw [e1C]
      refine' does_use (take_does H7.src (top := vC.length + 1) (Nat.succ_pos _) (Nat.le_trans (Nat.succ_le_succ hC3) (by decide)) _) ?B ?F ?X ?N ?T ?K ?d ?u ?_
      walk_at "MYCTX"
      rintro v13 news13 h13 tk13 F13 N13 ⟨at9, ua9, rfl, hat9, hS13, hk13⟩
      have H8 := H7.take hS13 hk13
      clear hb9 hC1 hB7 H7
      k_steps
      refine stop ?_
      have g9 := G9.is
      simp only [Prod.mk.injEq] at g9
      obtain ⟨g1, g2, g3, g4, g5, g6, g7, g8⟩ := g9
      have hI8 := H8.tree
      have hkn : k < c.t.rows.length := row_lt hrp
      have hat : at9 ≤ rp.ch.length := by rw [ht4, ← hb4, ← hC4]; exact Nat.le_of_lt_succ hat9
      refine' does_use (insert_does hI8 rfl (ord_add P1.ord g5) (add_get hrp) add_last hkn (.inr hrk) (.inr g1) hat g5 (by rw [ht4]; exact Nat.lt_of_le_of_lt (Nat.le_trans hC5 hD8) (by decide)) _ _ _) ?B ?F ?X ?N ?T ?K ?d ?u ?_
      walk_at "MYCTX"
      rintro v14 news14 h14 tk14 F14 N14 ⟨rfl, hI14, hk14⟩
      have H9 := H8.withTree hI14 hk14 (fun a ha => .inl (by rwa [addput2_adr (row := row9) (r' := { rp with ch := rp.ch.take at9 ++ c.t.rows.length :: rp.ch.drop at9 }) (row' := { row9 with par := some k }) hrp rfl rfl] at ha))
      have hC6 : rb.ch.length = y.ch.length := by rw [hb4]
      have hB9 := H9.book
      have hB9r := hB9.rows rb (row_mem hrb)
      obtain ⟨⟨pv, n9, hpv, hb9⟩, -, -, ⟨vC, nC, hC1, hC2, hC3⟩⟩ := hB9r
      have hC4 := hC2.length
      clear hI8 H8
      k_steps
      refine my_insert (by assumption) (by assumption) hC1 (Nat.le_trans hC3 (by decide)) (by rw [hC4, hb4, ← ht4]; exact hat) ?_
      intro h15 news15 F15 N15 U15
      have H10 := H9.bput (r' := { rb with ch := insAt rb.ch at9 c.t.rows.length }) hrb rfl (by simp [BRow.adr]) U15 (hB9.setCh hrb U15 (hC2.ins at9 c.t.rows.length u9) (by simp; exact ins_len (by rw [hC4, hb4]; exact Nat.le_trans (Nat.le_trans hC5 hD8) (by decide))))
      clear hb9 hC1 hB9 H9
      obtain ⟨nE, hE⟩ := H10.els
      k_steps
      rename News _ _ _ _ => N16
      rename (_ ∧ AllLt _ news15) => l16
      have eM : (List.replicate (if (Str.ofString "text" == Str.ofString "element") = true then (1 : Int) else 0).toNat [Value.int (c.t.rows.length : Int) u9]).flatten = [] := by
        have e9 : (Str.ofString "text" == Str.ofString "element") = false := by decide
        rw [e9]; simp
      rw [eM] at N16
      refine my_addL (by assumption) N16 (.tail _ (.tail _ hE)) (.head _) (by simp; exact Nat.le_trans hvs9 (by decide)) ?_
      intro D17 h17 F17 N17 l17
      obtain ⟨news17, N18, H11⟩ := H10.elsN N17 l17
      clear N16 l16 hE N17 l17 H10
      k_steps
      rename (∀ p ∈ news17, _ < _) => q3
      rename @LT.lt Nat _ _ _ ∧ AllLt _ news17 => q2
      rename @LT.lt Nat _ _ _ ∧ @LT.lt Nat _ _ _ ∧ AllLt _ news17 => q1
      rename @LT.lt Nat _ _ _ ∧ @LT.lt Nat _ _ _ ∧ @LT.lt Nat _ _ _ ∧ AllLt _ news17 => q0
      rename News _ _ _ _ => N11
      obtain ⟨r11, hr11, hp11, hb11, hup11⟩ := H11.badd N11 q3 q2.1 q1.1 q0.1 (by simp [Bk.put]; rw [P1.blen]; exact Nat.lt_of_le_of_lt hD8 (by decide))
      refine my_bookset (r := r11) (by assumption) N11 hb11 rfl (by simp [Bk.put]; rw [P1.blen, P1.tlen]) hr11 ?_
      intro h12 news12 o12 F12 N12 U12 hd12
      have H12 := hup11 _ _ U12 hd12
      have P9 := P1.grow hyD hrp hrb (s := 2) (ix := at9) (by decide) (row := { row9 with par := some k }) (rk := { rp with ch := rp.ch.take at9 ++ c.t.rows.length :: rp.ch.drop at9 }) (brow := r11) (bk := { rb with ch := insAt rb.ch at9 c.t.rows.length }) (t' := ((c.t.add row9).put k { rp with ch := rp.ch.take at9 ++ c.t.rows.length :: rp.ch.drop at9 }).put c.t.rows.length { row9 with par := some k }) (b' := (c.b.put k { rb with ch := insAt rb.ch at9 c.t.rows.length }).add r11) (setset hkn) rfl
        ⟨rfl, g8, g7, g6, by show sortOf row9.kind = 2; rw [g1]; decide⟩ ⟨rfl, ht2, ht3, by simp [Nod.ins, insAt, ht4, htl], rfl, rfl, rfl⟩ hp11 ⟨rfl, hb2, hb3, by simp [Nod.ins, hb4, htl]⟩ (fun h => by rw [show ({ row9 with par := some k } : Row).kind = row9.kind from rfl, g1] at h; exact absurd h (by decide)) (fun h => by rw [show ({ row9 with par := some k } : Row).kind = row9.kind from rfl, g1] at h; exact absurd h (by decide)) (news' := news12.filter fun p => p.1 ≠ II) (el' := D17) (vs' := c.vs ++ []) (by rw [List.append_nil]; exact P1.na) (.inl rfl)
      k_steps
      refine hQ9 _ _ ?_
      refine lpost ⟨_, _, _, _, _, _, _⟩ (by assumption) (by assumption) (fun p hp => ?_) (fun p hp => ?_) (by kst_all) ?_ ⟨P9, H12.drop1 (fun q hq => hoff q (H2.prot q hq).1), hT3, hB3⟩
      · rcases List.mem_cons.mp hp with rfl | h
        · exact (H12.prot _ (.head _)).1
        · exact (List.mem_filter.mp h).1
      · simpa using (List.mem_filter.mp hp).2
      · intro z h1 h2 h3
        simp only [List.contains_cons, List.contains_nil, Bool.or_false, Bool.or_eq_false_iff, beq_eq_false_iff_ne, ne_eq] at h3
        simp only [List.forall_mem_cons, List.not_mem_nil, false_implies, implies_true, and_true, ne_eq] at h2
        simp [kstB, h1, h2, h3, hT3, hB3]
    · k_steps
      refine stop ?_
      refine' does_use (set_attribute_does hI6 rfl ht20 hrp hrk (by rw [ht3]; exact Nat.lt_of_le_of_lt (Nat.le_trans (P1.wf.w6 k y 1 hyD (by decide)) hD8) (by decide)) _ _ _ _ _ _ _ _ _ (P1.noA hi8 hyD ht3)) ?B ?F ?X ?N ?T ?K ?d ?u ?_
      walk_at "MYCTX"
      rintro v9 news9 h9' tk9' F9 N9 ⟨row9, ⟨u9, rfl⟩, G9⟩
      have H7 := H6.grown G9 (addput_adr hrp rfl)
      have hB7 := H7.book
      have hB7r := hB7.rows rb (row_mem hrb)
      obtain ⟨⟨pv, n9, hpv, hb9⟩, -, ⟨vA, nA, hA1, hA2, hA3⟩, -⟩ := hB7r
      clear h1 h2 hI6 hB6
      k_steps
      have hA4 := hA2.length
      have hA5 := P1.wf.w6 k y 1 hyD (by decide)
      simp only [Nod.lst] at hA5
      refine my_append (by assumption) (by assumption) hA1 (Nat.le_trans hA3 (by decide)) ?_
      intro h10 news10 F10 N10 U10
      have H8 := H7.bput (r' := { rb with atr := rb.atr ++ [c.t.rows.length] }) hrb rfl (by simp [BRow.adr]) U10 (hB7.setAtr hrb U10 (hA2.snoc c.t.rows.length u9) (by simp; rw [hb3] at hA4; rw [hA4]; exact Nat.le_trans (Nat.le_trans hA5 hD8) (by decide)))
      clear hb9 hA1 hB7 H7
      k_steps
      rename (∀ p ∈ news10, _ < _) => q3
      rename @LT.lt Nat _ _ _ ∧ AllLt _ news10 => q2
      rename @LT.lt Nat _ _ _ ∧ @LT.lt Nat _ _ _ ∧ AllLt _ news10 => q1
      rename @LT.lt Nat _ _ _ ∧ @LT.lt Nat _ _ _ ∧ @LT.lt Nat _ _ _ ∧ AllLt _ news10 => q0
      rename News _ _ _ _ => N11
      obtain ⟨r11, hr11, hp11, hb11, hup11⟩ := H8.badd N11 q3 q2.1 q1.1 q0.1 (by simp [Bk.put]; rw [P1.blen]; exact Nat.lt_of_le_of_lt hD8 (by decide))
      refine my_bookset (r := r11) (by assumption) N11 hb11 rfl (by simp [Bk.put]; rw [P1.blen, P1.tlen]) hr11 ?_
      intro h12 news12 o12 F12 N12 U12 hd12
      have H9 := hup11 _ _ U12 hd12
      have g9 := G9.is
      simp only [Prod.mk.injEq] at g9
      obtain ⟨g1, g2, g3, g4, g5, g6, g7, g8⟩ := g9
      have P9 := P1.grow hyD hrp hrb (s := 1) (ix := y.atr.length) (by decide) (row := row9) (rk := { rp with atr := rp.atr ++ [c.t.rows.length] }) (brow := r11) (bk := { rb with atr := rb.atr ++ [c.t.rows.length] }) (t' := (c.t.add row9).put k { rp with atr := rp.atr ++ [c.t.rows.length] }) (b' := (c.b.put k { rb with atr := rb.atr ++ [c.t.rows.length] }).add r11) rfl rfl
        ⟨g5, g8, g7, g6, by rw [g1]; decide⟩ ⟨rfl, ht2, by simp [Nod.ins, insAt_end, ht3, htl], ht4, rfl, rfl, rfl⟩ hp11 ⟨rfl, hb2, by simp [Nod.ins, insAt_end, hb3, htl], hb4⟩ (fun _ => g4) (fun h => by rw [g1] at h; exact absurd h (by decide)) (news' := news12.filter fun p => p.1 ≠ II) (el' := c.el) P1.na (.inl rfl)
      k_steps
      refine hQ9 _ _ ?_
      refine lpost ⟨_, _, _, _, _, _, _⟩ (by assumption) (by assumption) (fun p hp => ?_) (fun p hp => ?_) (by kst_all) ?_ ⟨P9, H9.drop1 (fun q hq => hoff q (H2.prot q hq).1), hT3, hB3⟩
      · rcases List.mem_cons.mp hp with rfl | h
        · exact (H9.prot _ (.head _)).1
        · exact (List.mem_filter.mp h).1
      · simpa using (List.mem_filter.mp hp).2
      · intro z h1 h2 h3
        simp only [List.contains_cons, List.contains_nil, Bool.or_false, Bool.or_eq_false_iff, beq_eq_false_iff_ne, ne_eq] at h3
        simp only [List.forall_mem_cons, List.not_mem_nil, false_implies, implies_true, and_true, ne_eq] at h2
        simp [kstB, h1, h2, h3, hT3, hB3]
    · k_steps
      refine stop ?_
      refine' does_use (add_namespace_does hI6 rfl ht20 hrp hrk (by rw [ht2]; exact Nat.lt_of_le_of_lt (Nat.le_trans (P1.wf.w6 k y 0 hyD (by decide)) hD8) (by decide)) _ _ _ _ _ (P1.noN hi8 hyD ht2)) ?B ?F ?X ?N ?T ?K ?d ?u ?_
      walk_at "MYCTX"
      rintro v9 news9 h9' tk9' F9 N9 ⟨row9, ⟨u9, rfl⟩, G9⟩
      have H7 := H6.grown G9 (addput_adr hrp rfl)
      have hB7 := H7.book
      have hB7r := hB7.rows rb (row_mem hrb)
      obtain ⟨⟨pv, n9, hpv, hb9⟩, ⟨vA, nA, hA1, hA2, hA3⟩, -, -⟩ := hB7r
      clear h1 h2 hI6 hB6
      k_steps
      have hA4 := hA2.length
      have hA5 := P1.wf.w6 k y 0 hyD (by decide)
      simp only [Nod.lst] at hA5
      refine my_append (by assumption) (by assumption) hA1 (Nat.le_trans hA3 (by decide)) ?_
      intro h10 news10 F10 N10 U10
      have H8 := H7.bput (r' := { rb with nsp := rb.nsp ++ [c.t.rows.length] }) hrb rfl (by simp [BRow.adr]) U10 (hB7.setNsp hrb U10 (hA2.snoc c.t.rows.length u9) (by simp; rw [hb2] at hA4; rw [hA4]; exact Nat.le_trans (Nat.le_trans hA5 hD8) (by decide)))
      clear hb9 hA1 hB7 H7
      k_steps
      rename (∀ p ∈ news10, _ < _) => q3
      rename @LT.lt Nat _ _ _ ∧ AllLt _ news10 => q2
      rename @LT.lt Nat _ _ _ ∧ @LT.lt Nat _ _ _ ∧ AllLt _ news10 => q1
      rename @LT.lt Nat _ _ _ ∧ @LT.lt Nat _ _ _ ∧ @LT.lt Nat _ _ _ ∧ AllLt _ news10 => q0
      rename News _ _ _ _ => N11
      obtain ⟨r11, hr11, hp11, hb11, hup11⟩ := H8.badd N11 q3 q2.1 q1.1 q0.1 (by simp [Bk.put]; rw [P1.blen]; exact Nat.lt_of_le_of_lt hD8 (by decide))
      refine my_bookset (r := r11) (by assumption) N11 hb11 rfl (by simp [Bk.put]; rw [P1.blen, P1.tlen]) hr11 ?_
      intro h12 news12 o12 F12 N12 U12 hd12
      have H9 := hup11 _ _ U12 hd12
      have g9 := G9.is
      simp only [Prod.mk.injEq] at g9
      obtain ⟨g1, g2, g3, g4, g5, g6, g7, g8⟩ := g9
      have P9 := P1.grow hyD hrp hrb (s := 0) (ix := y.nsp.length) (by decide) (row := row9) (rk := { rp with nsp := rp.nsp ++ [c.t.rows.length] }) (brow := r11) (bk := { rb with nsp := rb.nsp ++ [c.t.rows.length] }) (t' := (c.t.add row9).put k { rp with nsp := rp.nsp ++ [c.t.rows.length] }) (b' := (c.b.put k { rb with nsp := rb.nsp ++ [c.t.rows.length] }).add r11) rfl rfl
        ⟨g5, g8, g7, g6, by rw [g1]; decide⟩ ⟨rfl, by simp [Nod.ins, insAt_end, ht2, htl], ht3, ht4, rfl, rfl, rfl⟩ hp11 ⟨rfl, by simp [Nod.ins, insAt_end, hb2, htl], hb3, hb4⟩ (fun h => by rw [g1] at h; exact absurd h (by decide)) (fun _ => g2) (news' := news12.filter fun p => p.1 ≠ II) (el' := c.el) P1.na (.inl rfl)
      k_steps
      refine hQ9 _ _ ?_
      refine lpost ⟨_, _, _, _, _, _, _⟩ (by assumption) (by assumption) (fun p hp => ?_) (fun p hp => ?_) (by kst_all) ?_ ⟨P9, H9.drop1 (fun q hq => hoff q (H2.prot q hq).1), hT3, hB3⟩
      · rcases List.mem_cons.mp hp with rfl | h
        · exact (H9.prot _ (.head _)).1
        · exact (List.mem_filter.mp h).1
      · simpa using (List.mem_filter.mp hp).2
      · intro z h1 h2 h3
        simp only [List.contains_cons, List.contains_nil, Bool.or_false, Bool.or_eq_false_iff, beq_eq_false_iff_ne, ne_eq] at h3
        simp only [List.forall_mem_cons, List.not_mem_nil, false_implies, implies_true, and_true, ne_eq] at h2
        simp [kstB, h1, h2, h3, hT3, hB3]
  · rintro c u8 h8 tk8 ⟨P1, H2, hT3, hB3⟩ F5 N5
    have hI6 := H2.tree
    have hlen := P1.len
    have htl := P1.tlen
    rw [← hT3] at F5
    rw [← hB3] at F5
    have h1 : (c.t.T, instObj 282 c.t.dT) ∈ c.news := hI6.inst
    obtain ⟨tk1, h2⟩ := hI6.dct
    k_steps
    refine stop ?_
    refine' does_use (add_text_none_does hI6 rfl (by omega) _ _) ?B ?F ?X ?N ?T ?K ?d ?u ?_
    walk_at "MYCTX"
    rintro v9 news9 h9' tk9' F9 N9 ⟨row9, ⟨u9, rfl⟩, G9⟩
    have H7 := H2.grown G9 (add_adr _ _)
    have g9 := G9.is
    simp only [Prod.mk.injEq] at g9
    clear hI6 h1 h2
    k_steps
    rename News _ _ _ _ => N10
    have H8 := H7.upN N10
    refine hret _ _ _ _ (by assumption) (by assumption) ⟨c.t.add row9, c.b, c.D, row9, _, u9, rfl, ?_, H8.tree, H8.book, fun k x hx => ?_, P1.bm, P1.wf, P1.blen, by omega, by omega, by rw [← htl]; exact add_last, g9.2.2.2.2.1, fun q hq hne => (H8.prot q (List.mem_filter.mpr ⟨hq, by simpa using hne⟩)).1,
      fun q hq hne => have z := (H8.prot q (List.mem_filter.mpr ⟨hq, by simpa using hne⟩)).2; ⟨z.1, z.2.1⟩⟩
    · rw [← htl]
      exact .head _
    · obtain ⟨r, hr, h⟩ := P1.tm k x hx
      exact ⟨r, add_get hr, h⟩

-- after: 02
structure SOrd (n : Nat) (lt : Nat → Nat → Bool) : Prop where
  irr : ∀ i, lt i i = false
  tr : ∀ i j k, lt i j = true → lt j k = true → lt i k = true
  tot : ∀ i j, i < n → j < n → i ≠ j → lt i j = true ∨ lt j i = true
theorem SOrd.asym {n : Nat} {lt : Nat → Nat → Bool} (O : SOrd n lt) {i j : Nat} (h : lt i j = true) : lt j i = false := by
  cases e : lt j i with
  | false => rfl
  | true => have := O.tr _ _ _ h e; rw [O.irr] at this; cases this

abbrev pat (p : Array Nat) (i : Nat) : Nat := p.getD i 0
def SPre (lt : Nat → Nat → Bool) (p : Array Nat) (k : Nat) : Prop := ∀ i j, i < j → j < k → lt (pat p i) (pat p j) = true
def DPre (lt : Nat → Nat → Bool) (p : Array Nat) (k : Nat) : Prop := ∀ i j, i < j → j < k → lt (pat p j) (pat p i) = true
def SPerm (n : Nat) (p : Array Nat) : Prop := p.Perm (List.toArray (List.range n))
theorem SPerm.size {n : Nat} {p : Array Nat} (h : SPerm n p) : p.size = n := by
  have := Array.Perm.size_eq h
  simpa using this
theorem SPerm.list {n : Nat} {p : Array Nat} (h : SPerm n p) : p.toList.Perm (List.range n) := by
  have := Array.perm_iff_toList_perm.mp h
  simpa using this
theorem pat_eq {p : Array Nat} {i : Nat} (h : i < p.size) : p[i]? = some (pat p i) := by
  unfold pat
  simp [Array.getD, h]
theorem pat_of {p : Array Nat} {i x : Nat} (h : p[i]? = some x) : pat p i = x := by
  unfold pat
  rw [Array.getD_eq_getD_getElem?, h]; rfl
theorem SPerm.lt {n : Nat} {p : Array Nat} (h : SPerm n p) {i : Nat} (hi : i < n) : pat p i < n := by
  have h1 := pat_eq (p := p) (i := i) (by rw [h.size]; exact hi)
  have h2 : pat p i ∈ p.toList := by
    rw [Array.mem_toList_iff]
    exact Array.mem_of_getElem? h1
  have := h.list.mem_iff.mp h2
  simpa using this
theorem SPerm.inj {n : Nat} {p : Array Nat} (h : SPerm n p) {i j : Nat} (hi : i < n) (hj : j < n) (hne : i ≠ j) : pat p i ≠ pat p j := by
  have nd : p.toList.Nodup := h.list.nodup_iff.mpr List.nodup_range
  intro e
  have hz := h.size
  have a1 : p.toList[i]? = some (pat p i) := by rw [Array.getElem?_toList]; exact pat_eq (by omega)
  have a2 : p.toList[j]? = some (pat p j) := by rw [Array.getElem?_toList]; exact pat_eq (by omega)
  rw [← e] at a2
  have hi' : i < p.toList.length := by simp; omega
  have hj' : j < p.toList.length := by simp; omega
  rw [List.getElem?_eq_getElem hi'] at a1
  rw [List.getElem?_eq_getElem hj'] at a2
  have pw := List.pairwise_iff_getElem.mp nd
  have e3 := (Option.some.inj a1).trans (Option.some.inj a2).symm
  rcases Nat.lt_or_ge i j with q | q
  · exact pw i j hi' hj' q e3
  · exact pw j i hj' hi' (by omega) e3.symm

section
variable {n : Nat} {lt : Nat → Nat → Bool} {cmp : Nat → Nat → (Bool → Shared → Prop) → Shared → Prop} {s : Shared}

theorem s_asc (O : SOrd n lt) (hc : ∀ i j C, i < n → j < n → C (lt i j) s → cmp i j C s) {p : Array Nat} (P : SPerm n p) {G : Nat → Shared → Prop} : ∀ (f k : Nat), 1 ≤ k → k + f ≤ n → SPre lt p k →
    (∀ m, k ≤ m → m ≤ k + f → SPre lt p m → (m < k + f → lt (pat p m) (pat p (m - 1)) = true) → G m s) → (kas_asc p f k).kasWp cmp G s
  | 0, k, h1, h2, h3, h => h k (Nat.le_refl _) (Nat.le_refl _) h3 fun q => absurd q (Nat.lt_irrefl _)
  | f + 1, k, h1, h2, h3, h => by
    show cmp (pat p k) (pat p (k - 1)) (fun b s' => (if b = true then KasT.ret k else kas_asc p f (k + 1)).kasWp cmp G s') s
    refine hc _ _ _ (P.lt (by omega)) (P.lt (by omega)) ?_
    cases e : lt (pat p k) (pat p (k - 1)) with
    | true => exact h k (Nat.le_refl _) (by omega) h3 fun _ => e
    | false =>
      simp only [Bool.false_eq_true, if_false]
      have up : lt (pat p (k - 1)) (pat p k) = true := by
        rcases O.tot _ _ (P.lt (i := k - 1) (by omega)) (P.lt (i := k) (by omega)) (P.inj (by omega) (by omega) (by omega)) with h | h
        · exact h
        · rw [e] at h; cases h
      refine s_asc O hc P f (k + 1) (by omega) (by omega) ?_ fun m a b c d => h m (by omega) (by omega) c fun q => d (by omega)
      intro i j hij hj
      rcases Nat.lt_or_ge j k with hjk | hjk
      · exact h3 i j hij hjk
      · have : j = k := by omega
        subst this
        rcases Nat.lt_or_ge i (j - 1) with hi | hi
        · exact O.tr _ _ _ (h3 i (j - 1) hi (by omega)) up
        · have : i = j - 1 := by omega
          subst this; exact up

theorem s_desc (O : SOrd n lt) (hc : ∀ i j C, i < n → j < n → C (lt i j) s → cmp i j C s) {p : Array Nat} (P : SPerm n p) {G : Array Nat × Nat × Nat → Shared → Prop} : ∀ (f k : Nat), 1 ≤ k → k + f ≤ n → DPre lt p k →
    (∀ m, k ≤ m → m ≤ k + f → DPre lt p m → G (p, m, 0) s) → (kas_desc f p k 0).kasWp cmp G s
  | 0, k, h1, h2, h3, h => h k (Nat.le_refl _) (Nat.le_refl _) h3
  | f + 1, k, h1, h2, h3, h => by
    show cmp (pat p k) (pat p (k - 1)) (fun c s' => (if c = true then (if 0 > 0 then kas_desc f (kas_rev p (k - (0 + 1)) k) (k + 1) 0 else kas_desc f p (k + 1) 0)
      else .ask (p.getD (k - 1) 0) (p.getD k 0) fun d => if d = true then .ret (p, k, 0) else kas_desc f p (k + 1) (0 + 1)).kasWp cmp G s') s
    refine hc _ _ _ (P.lt (by omega)) (P.lt (by omega)) ?_
    cases e : lt (pat p k) (pat p (k - 1)) with
    | true =>
      simp only [if_true, gt_iff_lt, Nat.lt_irrefl, if_false]
      refine s_desc O hc P f (k + 1) (by omega) (by omega) ?_ fun m a b c => h m (by omega) (by omega) c
      intro i j hij hj
      rcases Nat.lt_or_ge j k with hjk | hjk
      · exact h3 i j hij hjk
      · have : j = k := by omega
        subst this
        rcases Nat.lt_or_ge i (j - 1) with hi | hi
        · exact O.tr _ _ _ e (h3 i (j - 1) hi (by omega))
        · have : i = j - 1 := by omega
          subst this; exact e
    | false =>
      simp only [Bool.false_eq_true, if_false]
      show cmp (pat p (k - 1)) (pat p k) (fun d s' => (if d = true then KasT.ret (p, k, 0) else kas_desc f p (k + 1) (0 + 1)).kasWp cmp G s') s
      have up : lt (pat p (k - 1)) (pat p k) = true := by
        rcases O.tot _ _ (P.lt (i := k - 1) (by omega)) (P.lt (i := k) (by omega)) (P.inj (by omega) (by omega) (by omega)) with h | h
        · exact h
        · rw [e] at h; cases h
      refine hc _ _ _ (P.lt (by omega)) (P.lt (by omega)) ?_
      rw [up, if_pos rfl]
      exact h k (Nat.le_refl _) (by omega) h3

theorem s_rev {p : Array Nat} (P : SPerm n p) (i j : Nat) : SPerm n (kas_rev p i j) := Array.Perm.trans (mirror_perm _ _ _ _) P
theorem s_rev_at {p : Array Nat} {j k : Nat} (hj : j ≤ p.size) (hk : k < j) : pat (kas_rev p 0 j) k = pat p (j - 1 - k) := by
  refine pat_of ?_
  show (mirror p 0 j ((j - 0) / 2))[k]? = _
  rw [getElem?_mirror_all hj, if_pos ⟨Nat.zero_le _, hk⟩, Nat.zero_add]
  exact pat_eq (by omega)
theorem s_rev_up {p : Array Nat} {j : Nat} (hj : j ≤ p.size) (h : DPre lt p j) : SPre lt (kas_rev p 0 j) j := by
  intro a b hab hb
  rw [s_rev_at hj (by omega), s_rev_at hj hb]
  exact h _ _ (by omega) (by omega)

theorem s_tail3 (O : SOrd n lt) (hc : ∀ i j C, i < n → j < n → C (lt i j) s → cmp i j C s) {p : Array Nat} (P : SPerm n p) {G : Nat × Array Nat → Shared → Prop} {k : Nat} (h1 : 1 ≤ k) (h2 : k ≤ n) (h3 : DPre lt p k)
    (h : ∀ m p', 1 ≤ m → m ≤ n → SPerm n p' → SPre lt p' m → G (m, p') s) : (kas_tail3 k n p).kasWp cmp G s := by
  unfold kas_tail3
  rw [KasT.kasWp_bind]
  exact s_asc O hc (s_rev P 0 k) (n - k) k h1 (by omega) (s_rev_up (by rw [P.size]; exact h2) h3) fun m a b c _ => h m _ (by omega) (by omega) (s_rev P 0 k) c
theorem s_descPart (O : SOrd n lt) (hc : ∀ i j C, i < n → j < n → C (lt i j) s → cmp i j C s) {p : Array Nat} (P : SPerm n p) {G : Nat × Array Nat → Shared → Prop} {k : Nat} (h1 : 1 ≤ k) (h2 : k + 1 ≤ n) (h3 : DPre lt p (k + 1))
    (h : ∀ m p', 1 ≤ m → m ≤ n → SPerm n p' → SPre lt p' m → G (m, p') s) : (kas_descPart k n p).kasWp cmp G s := by
  unfold kas_descPart
  rw [KasT.kasWp_bind]
  refine s_desc O hc P _ (k + 1) (by omega) (by omega) h3 fun m a b c => ?_
  simp only [gt_iff_lt, Nat.lt_irrefl, if_false]
  exact s_tail3 O hc P (by omega) (by omega) c h
theorem s_count (O : SOrd n lt) (hc : ∀ i j C, i < n → j < n → C (lt i j) s → cmp i j C s) {p : Array Nat} (P : SPerm n p) {G : Nat × Array Nat → Shared → Prop} (hn : 1 ≤ n)
    (h : ∀ m p', 1 ≤ m → m ≤ n → SPerm n p' → SPre lt p' m → G (m, p') s) : (kas_count n p).kasWp cmp G s := by
  unfold kas_count
  rw [KasT.kasWp_bind]
  refine s_asc O hc P (n - 1) 1 (Nat.le_refl _) (by omega) (fun i j a b => by omega) fun m a b c d => ?_
  split
  · exact h m p a (by omega) P c
  · rename_i hmn
    have hmn : m < n := by
      have : m ≠ n := by simpa using hmn
      omega
    split
    · show cmp (pat p 0) (pat p (m - 1)) (fun b s' => (if b = true then KasT.ret (m, p) else kas_descPart m n (kas_rev p 0 m)).kasWp cmp G s') s
      refine hc _ _ _ (P.lt (by omega)) (P.lt (by omega)) ?_
      rw [c 0 (m - 1) (by omega) (by omega), if_pos rfl]
      exact h m p a (by omega) P c
    · have hm1 : m = 1 := by omega
      subst hm1
      refine s_descPart O hc (s_rev P 0 1) (Nat.le_refl _) (by omega) ?_ h
      intro i j hij hj
      have e0 : i = 0 := by omega
      have e1 : j = 1 := by omega
      subst e0; subst e1
      have hr0 : pat (kas_rev p 0 1) 0 = pat p 0 := s_rev_at (by rw [P.size]; omega) (by omega)
      have hr1 : pat (kas_rev p 0 1) 1 = pat p 1 := by
        refine pat_of ?_
        show (mirror p 0 1 ((1 - 0) / 2))[1]? = _
        rw [getElem?_mirror_all (by rw [P.size]; omega), if_neg (by omega)]
        exact pat_eq (by rw [P.size]; omega)
      rw [hr0, hr1]
      exact d (by omega)

theorem s_place (O : SOrd n lt) (hc : ∀ i j C, i < n → j < n → C (lt i j) s → cmp i j C s) {p : Array Nat} (P : SPerm n p) {k : Nat} (hk : k < n) {G : Nat → Shared → Prop} (hs : SPre lt p k) : ∀ (f l r : Nat), l ≤ r → r ≤ k → r - l ≤ f →
    (∀ i, i < l → lt (pat p i) (pat p k) = true) → (∀ i, r ≤ i → i < k → lt (pat p k) (pat p i) = true) →
    (∀ m, m ≤ k → (∀ i, i < m → lt (pat p i) (pat p k) = true) → (∀ i, m ≤ i → i < k → lt (pat p k) (pat p i) = true) → G m s) → (kas_place p k f l r).kasWp cmp G s
  | 0, l, r, h1, h2, h3, h4, h5, h => by
    have : l = r := by omega
    subst this
    exact h l h2 h4 h5
  | f + 1, l, r, h1, h2, h3, h4, h5, h => by
    unfold kas_place
    split
    · have : l = r := by omega
      subst this
      exact h l h2 h4 h5
    · rename_i hlr
      show cmp (pat p k) (pat p ((l + r) / 2)) (fun c s' => (if c = true then kas_place p k f l ((l + r) / 2) else kas_place p k f ((l + r) / 2 + 1) r).kasWp cmp G s') s
      have hm1 : (l + r) / 2 < r := by omega
      have hm0 : l ≤ (l + r) / 2 := by omega
      generalize (l + r) / 2 = md at hm1 hm0
      refine hc _ _ _ (P.lt hk) (P.lt (by omega)) ?_
      cases e : lt (pat p k) (pat p md) with
      | true =>
        rw [if_pos rfl]
        refine s_place O hc P hk hs f l md hm0 (by omega) (by omega) h4 (fun i hi hik => ?_) h
        rcases Nat.lt_or_ge md i with q | q
        · exact O.tr _ _ _ e (hs md i q hik)
        · have : i = md := by omega
          subst this; exact e
      | false =>
        simp only [Bool.false_eq_true, if_false]
        have up : lt (pat p md) (pat p k) = true := by
          rcases O.tot _ _ (P.lt (i := md) (by omega)) (P.lt (i := k) (by omega)) (P.inj (by omega) (by omega) (by omega)) with h | h
          · exact h
          · rw [e] at h; cases h
        refine s_place O hc P hk hs f (md + 1) r (by omega) h2 (by omega) (fun i hi => ?_) h5 h
        rcases Nat.lt_or_ge i md with q | q
        · exact O.tr _ _ _ (hs i md q (by omega)) up
        · have : i = md := by omega
          subst this; exact up

theorem s_bin (O : SOrd n lt) (hc : ∀ i j C, i < n → j < n → C (lt i j) s → cmp i j C s) {G : Array Nat → Shared → Prop} (h : ∀ p, SPerm n p → SPre lt p n → G p s) : ∀ (f : Nat) (p : Array Nat) (k : Nat), k + f = n → SPerm n p → SPre lt p k → (kas_bin f p k).kasWp cmp G s
  | 0, p, k, hk, P, hs => by
    have : k = n := by omega
    subst this
    exact h p P hs
  | f + 1, p, k, hk, P, hs => by
    unfold kas_bin
    rw [KasT.kasWp_bind]
    have hkn : k < n := by omega
    refine s_place O hc P hkn hs k 0 k (Nat.zero_le _) (Nat.le_refl _) (by omega) (fun i hi => by omega) (fun i a b => by omega) fun m hm a b => ?_
    refine s_bin O hc h f _ (k + 1) (by omega) (Array.Perm.trans (bubble_perm _ _ _) P) ?_
    have at' : ∀ i, i < n → pat (bubble p k (k - m)) i = if i = m then pat p k else if m < i ∧ i ≤ k then pat p (i - 1) else pat p i := by
      intro i hi
      refine pat_of ?_
      rw [getElem?_bubble (by rw [P.size]; exact hkn) (k - m) (by omega) i]
      have e : k - (k - m) = m := by omega
      rw [e]
      split
      · exact pat_eq (by rw [P.size]; exact hkn)
      · split
        · exact pat_eq (by rw [P.size]; omega)
        · exact pat_eq (by rw [P.size]; exact hi)
    intro i j hij hj
    rw [at' i (by omega), at' j (by omega)]
    by_cases ei : i = m
    · subst ei
      rw [if_pos rfl, if_neg (by omega), if_pos (by omega)]
      exact b (j - 1) (by omega) (by omega)
    · rw [if_neg ei]
      by_cases ej : j = m
      · subst ej
        rw [if_pos rfl, if_neg (by omega)]
        exact a i hij
      · rw [if_neg ej]
        split
        · rw [if_pos (by omega)]
          exact hs _ _ (by omega) (by omega)
        · split
          · rcases Nat.lt_or_ge i m with q | q
            · exact hs _ _ (by omega) (by omega)
            · omega
          · exact hs _ _ hij (by omega)
theorem s_sort (O : SOrd n lt) (hc : ∀ i j C, i < n → j < n → C (lt i j) s → cmp i j C s) (hn : 1 ≤ n) {G : Array Nat → Shared → Prop} (h : ∀ p, SPerm n p → SPre lt p n → G p s) : (kas_sort n).kasWp cmp G s := by
  unfold kas_sort
  rw [KasT.kasWp_bind]
  refine s_count O hc (Array.Perm.refl _) hn fun m p' h1 h2 P hs => ?_
  dsimp only
  split
  · have e : max m 1 = m := by omega
    rw [e]
    exact s_bin O hc h (n - m) p' m (by omega) P hs
  · have : m = n := by omega
    subst this
    exact h p' P hs
end
/-- two strictly ordered lists of the same numbers are one -/
theorem s_uniq {lt : Nat → Nat → Bool} (hir : ∀ i, lt i i = false) (htr : ∀ i j k, lt i j = true → lt j k = true → lt i k = true) : ∀ {a b : List Nat}, a.Perm b → a.Pairwise (fun i j => lt i j = true) → b.Pairwise (fun i j => lt i j = true) → a = b
  | [], _, p, _, _ => p.nil_eq
  | x :: r, b, p, ha, hb => by
    cases b with
    | nil => exact absurd p.length_eq (by simp)
    | cons y t =>
      have hx : x ∈ y :: t := p.mem_iff.mp (.head _)
      have hy : y ∈ x :: r := p.mem_iff.mpr (.head _)
      have e : x = y := by
        rcases List.mem_cons.mp hx with h | h
        · exact h
        · rcases List.mem_cons.mp hy with h' | h'
          · exact h'.symm
          · have a1 := (List.pairwise_cons.mp ha).1 y h'
            have a2 := (List.pairwise_cons.mp hb).1 x h
            have := htr _ _ _ a1 a2
            rw [hir] at this; cases this
      subst e
      rw [s_uniq hir htr (List.Perm.cons_inv p) (List.pairwise_cons.mp ha).2 (List.pairwise_cons.mp hb).2]
theorem s_pairs {lt : Nat → Nat → Bool} {n : Nat} {p : Array Nat} (P : SPerm n p) (h : SPre lt p n) : p.toList.Pairwise (fun i j => lt i j = true) := by
  rw [List.pairwise_iff_getElem]
  intro i j hi hj hij
  have hz := P.size
  rw [Array.length_toList] at hi hj
  have e1 : p.toList[i] = pat p i := by
    have := pat_eq (p := p) hi
    rw [← Array.getElem?_toList, List.getElem?_eq_getElem (by simpa using hi)] at this
    exact Option.some.inj this
  have e2 : p.toList[j] = pat p j := by
    have := pat_eq (p := p) hj
    rw [← Array.getElem?_toList, List.getElem?_eq_getElem (by simpa using hj)] at this
    exact Option.some.inj this
  rw [e1, e2]
  exact h i j hij (by omega)

-- after: 27
noncomputable def lexb : List Nat → List Nat → Bool
  | [], [] => false
  | [], _ :: _ => true
  | _ :: _, [] => false
  | a :: as, b :: bs => if a = b then lexb as bs else decide (a < b)
theorem lexb_irr : ∀ a, lexb a a = false
  | [] => rfl
  | a :: as => by simp [lexb, lexb_irr as]
theorem lexb_tr : ∀ a b c, lexb a b = true → lexb b c = true → lexb a c = true
  | [], [], _, h, _ => by cases h
  | [], b :: bs, [], _, h => by cases h
  | [], b :: bs, c :: cs, _, _ => rfl
  | a :: as, [], _, h, _ => by cases h
  | a :: as, b :: bs, [], _, h => by cases h
  | a :: as, b :: bs, c :: cs, h1, h2 => by
    unfold lexb at h1 h2 ⊢
    split at h1
    · subst_vars
      split at h2
      · subst_vars
        rw [if_pos rfl]
        exact lexb_tr as bs cs h1 h2
      · rename_i hne
        rw [if_neg hne]; exact h2
    · simp only [decide_eq_true_eq] at h1
      split at h2
      · subst_vars
        rw [if_neg (by omega)]; simpa using h1
      · simp only [decide_eq_true_eq] at h2
        rw [if_neg (by omega)]; simp; omega
theorem lexb_pre : ∀ (p a b : List Nat), lexb (p ++ a) (p ++ b) = lexb a b
  | [], _, _ => rfl
  | x :: p, a, b => by simp [lexb, lexb_pre p a b]
theorem lexb_head (p : List Nat) (a : Nat) (as : List Nat) : lexb p (p ++ a :: as) = true := by
  have := lexb_pre p [] (a :: as)
  rw [List.append_nil] at this
  rw [this]; rfl
theorem lexb_two {s1 j1 s2 j2 : Nat} (h : s1 < s2 ∨ (s1 = s2 ∧ j1 < j2)) (p u v : List Nat) : lexb (p ++ [s1, j1] ++ u) (p ++ [s2, j2] ++ v) = true := by
  rw [List.append_assoc, List.append_assoc, lexb_pre]
  simp only [List.cons_append, List.nil_append, lexb]
  rcases h with h | ⟨rfl, h⟩
  · rw [if_neg (by omega)]; simpa using h
  · rw [if_pos rfl, if_neg (by omega)]; simpa using h

/-- the place of a node, told by the document alone (without its topmost node) -/
noncomputable def plN (D : List Nod) (k : Nat) : List Nat :=
  match D[k]? with
  | none => []
  | some x => match x.par with
    | none => []
    | some p => if _h : p < k then plN D p ++ [x.sort, (((D[p]?.map fun y => y.lst x.sort).getD []).idxOf? k).getD 0] else []
termination_by k

theorem plN_root {D : List Nod} {k : Nat} {x : Nod} (hx : D[k]? = some x) (hp : x.par = none) : plN D k = [] := by
  rw [plN]; simp only [hx, hp]
theorem plN_step {D : List Nod} {k p : Nat} {x y : Nod} (hx : D[k]? = some x) (hp : x.par = some p) (hlt : p < k) (hy : D[p]? = some y) {j : Nat} (hj : (y.lst x.sort).idxOf? k = some j) : plN D k = plN D p ++ [x.sort, j] := by
  rw [plN]; simp only [hx, hp, hy, dif_pos hlt, Option.map_some, Option.getD_some, hj]

theorem idx_some {l : List Nat} {k : Nat} (h : k ∈ l) : ∃ j, l.idxOf? k = some j := by
  cases e : l.idxOf? k with
  | some j => exact ⟨j, rfl⟩
  | none => exact absurd h (List.idxOf?_eq_none_iff.mp e)
theorem idx_at {l : List Nat} (h : l.Nodup) {i : Nat} (hi : i < l.length) : l.idxOf? l[i] = some i := by
  rw [List.idxOf?_eq_some_iff]
  refine ⟨hi, rfl, fun j hj e => ?_⟩
  exact List.pairwise_iff_getElem.mp h j i (by omega) hi hj e

theorem row_lst {r : Row} {y : Nod} (h1 : r.nsp = y.nsp) (h2 : r.atr = y.atr) (h3 : r.ch = y.ch) {s : Nat} (hs : s < 3) : r.lst s = y.lst s := by
  have h : s = 0 ∨ s = 1 ∨ s = 2 := by omega
  rcases h with rfl | rfl | rfl
  · exact h1
  · exact h2
  · exact h3

theorem Steps.snoc {t : Tr} {a b j : Nat} {rp rn : Row} (hrp : t.rows[a]? = some rp) (hrn : t.rows[b]? = some rn) (hj : (rp.lst (sortOf rn.kind)).idxOf? b = some j) : ∀ {l q : List Nat}, Steps t l q → l.getLast? = some a → Steps t (l ++ [b]) (q ++ [sortOf rn.kind, j])
  | _, _, .one a', h => by
    simp at h; subst h
    exact .cons hrp hrn hj (.one b)
  | _, _, .cons h1 h2 h3 h4, h => by
    have := Steps.snoc hrp hrn hj h4 (by simpa [List.getLast?_cons_cons] using h)
    exact .cons h1 h2 h3 this

structure Way (t : Tr) (b : Bk) (D : List Nod) (k : Nat) (us : List Nat) : Prop where
  up : Up t (some k) us
  upb : UpB b (some k) us
  len : us.length ≤ k + 1
  rev : ∃ l0, us.reverse = 0 :: l0
  last : ∃ l1, us = k :: l1
  steps : Steps t us.reverse (plN D k)

theorem way {t : Tr} {b : Bk} {D : List Nod} (W : Wf D) (M : TM t.rows D) (B : BM b.rows D) : ∀ (n k : Nat), k < n → k < D.length → ∃ up, Way t b D k up
  | 0, k, h, _ => absurd h (Nat.not_lt_zero _)
  | n + 1, k, hn, hk => by
    have hx := List.getElem?_eq_getElem hk
    generalize D[k] = x at hx
    obtain ⟨r, hr, r1, r2, r3, r4, r5⟩ := M k x hx
    obtain ⟨rb, hb, b1, -⟩ := B k x hx
    rcases Nat.eq_zero_or_pos k with rfl | h0
    · obtain ⟨x', hx', hp⟩ := W.w0
      rw [hx] at hx'; cases hx'
      refine ⟨[0], .cons hr (by rw [r1, hp]; exact .nil), .cons hb (by rw [b1, hp]; exact .nil), Nat.le_refl _, ⟨[], rfl⟩, ⟨[], rfl⟩, ?_⟩
      rw [plN_root hx hp]
      exact .one 0
    · obtain ⟨p, y, hp, hlt, hy, hm⟩ := W.w1 k x hx h0
      obtain ⟨j, hj⟩ := idx_some hm
      obtain ⟨up, u1, u2, u3, ⟨l0, u4⟩, ⟨l1, u5⟩, u6⟩ := way W M B n p (by omega) (by omega)
      obtain ⟨rp, hrp, p1, p2, p3, p4, p5⟩ := M p y hy
      refine ⟨k :: up, .cons hr (by rw [r1, hp]; exact u1), .cons hb (by rw [b1, hp]; exact u2), by rw [List.length_cons]; omega, ⟨l0 ++ [k], by rw [List.reverse_cons, u4]; rfl⟩, ⟨up, rfl⟩, ?_⟩
      rw [plN_step hx hp hlt hy hj, List.reverse_cons, ← r5]
      refine Steps.snoc hrp hr ?_ u6 ?_
      · rw [row_lst p2 p3 p4 (by rw [r5]; exact W.w5 k x hx), r5]; exact hj
      · rw [u5]; simp

def Nod.kids (x : Nod) : List Nat := x.nsp ++ x.atr ++ x.ch
theorem kids_mem {y : Nod} {c : Nat} (h : c ∈ y.kids) : ∃ s, s < 3 ∧ c ∈ y.lst s := by
  simp only [Nod.kids, List.mem_append] at h
  rcases h with (h | h) | h
  · exact ⟨0, by decide, h⟩
  · exact ⟨1, by decide, h⟩
  · exact ⟨2, by decide, h⟩
theorem mem_kids {y : Nod} {c s : Nat} (hs : s < 3) (h : c ∈ y.lst s) : c ∈ y.kids := by
  have h3 : s = 0 ∨ s = 1 ∨ s = 2 := by omega
  simp only [Nod.kids, List.mem_append]
  rcases h3 with rfl | rfl | rfl
  · exact .inl (.inl h)
  · exact .inl (.inr h)
  · exact .inr h

/-- c1 stands before c2 beneath k -/
def Bef (D : List Nod) (k c1 c2 : Nat) : Prop := ∃ s1 j1 s2 j2, plN D c1 = plN D k ++ [s1, j1] ∧ plN D c2 = plN D k ++ [s2, j2] ∧ (s1 < s2 ∨ (s1 = s2 ∧ j1 < j2))

theorem kid_at {D : List Nod} (W : Wf D) {k : Nat} {y : Nod} (hy : D[k]? = some y) {s : Nat} (hs : s < 3) {i : Nat} (hi : i < (y.lst s).length) : plN D (y.lst s)[i] = plN D k ++ [s, i] := by
  obtain ⟨x, hx, hp, rfl⟩ := W.w2 k y s _ hy hs (List.getElem_mem hi)
  have hlt : k < (y.lst x.sort)[i] := by
    rcases Nat.eq_zero_or_pos (y.lst x.sort)[i] with h0 | h0
    · obtain ⟨x0, hx0, hp0⟩ := W.w0
      rw [h0, hx0] at hx; cases hx
      rw [hp0] at hp; cases hp
    · obtain ⟨p, z, a1, a2, -⟩ := W.w1 _ x hx h0
      rw [hp] at a1; cases a1; exact a2
  exact plN_step hx hp hlt hy (idx_at (W.w3 k y _ hy hs) hi)

theorem kid_lt {D : List Nod} (W : Wf D) {k : Nat} {y : Nod} (hy : D[k]? = some y) {c : Nat} (hc : c ∈ y.kids) : k < c ∧ c < D.length ∧ ∃ s j, plN D c = plN D k ++ [s, j] := by
  obtain ⟨s, hs, hm⟩ := kids_mem hc
  obtain ⟨i, hi, rfl⟩ := List.getElem_of_mem hm
  obtain ⟨x, hx, hp, rfl⟩ := W.w2 k y s _ hy hs (List.getElem_mem hi)
  refine ⟨?_, row_lt hx, _, _, kid_at W hy hs hi⟩
  rcases Nat.eq_zero_or_pos (y.lst x.sort)[i] with h0 | h0
  · obtain ⟨x0, hx0, hp0⟩ := W.w0
    rw [h0, hx0] at hx; cases hx
    rw [hp0] at hp; cases hp
  · obtain ⟨p, z, a1, a2, -⟩ := W.w1 _ x hx h0
    rw [hp] at a1; cases a1; exact a2

theorem kids_bef {D : List Nod} (W : Wf D) {k : Nat} {y : Nod} (hy : D[k]? = some y) : y.kids.Pairwise (Bef D k) := by
  have same : ∀ s, s < 3 → (y.lst s).Pairwise (Bef D k) := fun s hs => by
    rw [List.pairwise_iff_getElem]
    intro i j hi hj hij
    exact ⟨s, i, s, j, kid_at W hy hs hi, kid_at W hy hs hj, .inr ⟨rfl, hij⟩⟩
  have cross : ∀ s1 s2, s1 < s2 → s2 < 3 → ∀ a ∈ y.lst s1, ∀ b ∈ y.lst s2, Bef D k a b := fun s1 s2 h12 h3 a ha b hb => by
    obtain ⟨i, hi, rfl⟩ := List.getElem_of_mem ha
    obtain ⟨j, hj, rfl⟩ := List.getElem_of_mem hb
    exact ⟨s1, i, s2, j, kid_at W hy (by omega) hi, kid_at W hy h3 hj, .inl h12⟩
  unfold Nod.kids
  rw [List.pairwise_append, List.pairwise_append]
  refine ⟨⟨same 0 (by decide), same 1 (by decide), cross 0 1 (by decide) (by decide)⟩, same 2 (by decide), fun a ha c hc => ?_⟩
  rcases List.mem_append.mp ha with h | h
  · exact cross 0 2 (by decide) (by decide) a h c hc
  · exact cross 1 2 (by decide) (by decide) a h c hc

/-- what stands beneath k (k with it), gone through -/
structure Thru (b : Bk) (D : List Nod) (k : Nat) (out : List Nat) : Prop where
  go : ∀ l o, Gone b l o → Gone b (k :: l) (out ++ o)
  self : k ∈ out
  clo : ∀ m ∈ out, ∀ y : Nod, D[m]? = some y → ∀ c ∈ y.kids, c ∈ out
  pre : ∀ m ∈ out, m < D.length ∧ ∃ u, plN D m = plN D k ++ u
  ord : out.Pairwise fun i j => lexb (plN D i) (plN D j) = true

theorem thru_kids {b : Bk} {D : List Nod} {k : Nat} : ∀ (cs : List Nat), (∀ c ∈ cs, ∃ out, Thru b D c out) → cs.Pairwise (Bef D k) → (∀ c ∈ cs, ∃ s j, plN D c = plN D k ++ [s, j]) →
    ∃ out, (∀ l o, Gone b l o → Gone b (cs ++ l) (out ++ o)) ∧ (∀ c ∈ cs, c ∈ out) ∧ (∀ m ∈ out, ∀ y : Nod, D[m]? = some y → ∀ c ∈ y.kids, c ∈ out) ∧ (∀ m ∈ out, m < D.length ∧ ∃ a u, plN D m = plN D k ++ a :: u) ∧ out.Pairwise (fun i j => lexb (plN D i) (plN D j) = true) ∧
      (∀ m ∈ out, ∃ c ∈ cs, ∃ u, plN D m = plN D c ++ u)
  | [], _, _, _ => ⟨[], fun l o h => h, fun c hc => (nomatch hc), fun m hm => (nomatch hm), fun m hm => (nomatch hm), .nil, fun m hm => (nomatch hm)⟩
  | c :: cs, hT, hP, hk => by
    obtain ⟨o1, t1, t2, t3, t4, t5⟩ := hT c (.head _)
    rw [List.pairwise_cons] at hP
    obtain ⟨o2, g1, g2, g3, g4, g5, g6⟩ := thru_kids cs (fun c hc => hT c (.tail _ hc)) hP.2 (fun c hc => hk c (.tail _ hc))
    refine ⟨o1 ++ o2, ?_, ?_, ?_, ?_, ?_, ?_⟩
    · intro l o h
      rw [List.append_assoc]
      exact t1 _ _ (g1 l o h)
    · intro d hd
      rcases List.mem_cons.mp hd with rfl | hd
      · exact List.mem_append_left _ t2
      · exact List.mem_append_right _ (g2 d hd)
    · intro m hm y hy d hd
      rcases List.mem_append.mp hm with h | h
      · exact List.mem_append_left _ (t3 m h y hy d hd)
      · exact List.mem_append_right _ (g3 m h y hy d hd)
    · intro m hm
      rcases List.mem_append.mp hm with h | h
      · obtain ⟨a1, u, a2⟩ := t4 m h
        obtain ⟨s, j, e⟩ := hk c (.head _)
        refine ⟨a1, s, j :: u, ?_⟩
        rw [a2, e, List.append_assoc]; rfl
      · exact g4 m h
    · rw [List.pairwise_append]
      refine ⟨t5, g5, fun a ha d hd => ?_⟩
      obtain ⟨-, u, e1⟩ := t4 a ha
      obtain ⟨c2, hc2, v, e2⟩ := g6 d hd
      obtain ⟨s1, j1, s2, j2, q1, q2, q3⟩ := hP.1 c2 hc2
      rw [e1, e2, q1, q2]
      exact lexb_two q3 _ _ _
    · intro m hm
      rcases List.mem_append.mp hm with h | h
      · obtain ⟨-, u, e⟩ := t4 m h
        exact ⟨c, .head _, u, e⟩
      · obtain ⟨d, hd, u, e⟩ := g6 m h
        exact ⟨d, .tail _ hd, u, e⟩

theorem thru {b : Bk} {D : List Nod} (W : Wf D) (B : BM b.rows D) : ∀ (f k : Nat), D.length - k ≤ f → k < D.length → ∃ out, Thru b D k out
  | 0, k, h, hk => by omega
  | f + 1, k, h, hk => by
    have hy := List.getElem?_eq_getElem hk
    generalize D[k] = y at hy
    obtain ⟨rb, hb, b1, b2, b3, b4⟩ := B k y hy
    obtain ⟨out, g1, g2, g3, g4, g5, -⟩ := thru_kids (b := b) (D := D) (k := k) y.kids (fun c hc => by
      obtain ⟨a1, a2, -⟩ := kid_lt W hy hc
      exact thru W B f c (by omega) a2) (kids_bef W hy) (fun c hc => (kid_lt W hy hc).2.2)
    refine ⟨k :: out, ?_, .head _, ?_, ?_, ?_⟩
    · intro l o ho
      refine .cons hb ?_
      have := g1 l o ho
      rw [b2, b3, b4]
      exact this
    · intro m hm z hz c hc
      rcases List.mem_cons.mp hm with rfl | hm
      · rw [hy] at hz; cases hz
        exact .tail _ (g2 c hc)
      · exact .tail _ (g3 m hm z hz c hc)
    · intro m hm
      rcases List.mem_cons.mp hm with rfl | hm
      · exact ⟨hk, [], (List.append_nil _).symm⟩
      · obtain ⟨a1, a, u, e⟩ := g4 m hm
        exact ⟨a1, _, e⟩
    · rw [List.pairwise_cons]
      refine ⟨fun m hm => ?_, g5⟩
      obtain ⟨-, a, u, e⟩ := g4 m hm
      rw [e]
      exact lexb_head _ _ _

theorem thru_all {b : Bk} {D : List Nod} (W : Wf D) {out : List Nat} (T : Thru b D 0 out) : ∀ (n k : Nat), k < n → k < D.length → k ∈ out
  | 0, k, h, _ => absurd h (Nat.not_lt_zero _)
  | n + 1, k, hn, hk => by
    rcases Nat.eq_zero_or_pos k with rfl | h0
    · exact T.self
    · have hx := List.getElem?_eq_getElem hk
      obtain ⟨p, y, hp, hlt, hy, hm⟩ := W.w1 k _ hx h0
      exact T.clo p (thru_all W T n p (by omega) (by omega)) y hy k (mem_kids (W.w5 k _ hx) hm)

theorem lex_nodup {f : Nat → List Nat} {l : List Nat} (h : l.Pairwise fun i j => lexb (f i) (f j) = true) : l.Nodup :=
  h.imp fun {a b} h e => by subst e; rw [lexb_irr] at h; cases h

/-- the whole document gone through -/
theorem gone_all {b : Bk} {D : List Nod} (W : Wf D) (B : BM b.rows D) (h0 : 0 < D.length) : ∃ out, Gone b [0] out ∧ out.Perm (List.range D.length) ∧ out.Pairwise (fun i j => lexb (plN D i) (plN D j) = true) := by
  obtain ⟨out, T⟩ := thru W B D.length 0 (by omega) h0
  have g := T.go [] [] .nil
  rw [List.append_nil] at g
  refine ⟨out, g, ?_, T.ord⟩
  rw [List.perm_ext_iff_of_nodup (lex_nodup T.ord) List.nodup_range]
  intro a
  rw [List.mem_range]
  exact ⟨fun h => (T.pre a h).1, fun h => thru_all W T (a + 1) a (Nat.lt_succ_self _) h⟩

theorem lex_tot {b : Bk} {D : List Nod} (W : Wf D) (B : BM b.rows D) (h0 : 0 < D.length) {i j : Nat} (hi : i < D.length) (hj : j < D.length) (hne : i ≠ j) : lexb (plN D i) (plN D j) = true ∨ lexb (plN D j) (plN D i) = true := by
  obtain ⟨out, -, hp, ho⟩ := gone_all W B h0
  have mi : i ∈ out := hp.mem_iff.mpr (by simpa using hi)
  have mj : j ∈ out := hp.mem_iff.mpr (by simpa using hj)
  obtain ⟨a, ha, ea⟩ := List.getElem_of_mem mi
  obtain ⟨c, hc, ec⟩ := List.getElem_of_mem mj
  have pw := List.pairwise_iff_getElem.mp ho
  rcases Nat.lt_trichotomy a c with q | q | q
  · have := pw a c ha hc q
    rw [ea, ec] at this; exact .inl this
  · subst q
    exact absurd (ea.symm.trans ec) hne
  · have := pw c a hc ha q
    rw [ea, ec] at this; exact .inr this

-- after: 27
section
open PyProof.V PySem.SeqAt
def dInts (ns : List Nat) : List PyData := ns.map fun (i : Nat) => PyData.int (i : Int)
theorem dInts_lay : ∀ ns : List Nat, PyData.canLayAll0 (dInts ns) = true
  | [] => rfl
  | _ :: r => by
    show (PyData.canLay0 _ && PyData.canLayAll0 (dInts r)) = true
    rw [dInts_lay r]; rfl
theorem dInts_depth : ∀ ns : List Nat, PyData.depthAll (dInts ns) = 0
  | [] => rfl
  | _ :: r => by
    show max (PyData.depth _) (PyData.depthAll (dInts r)) = 0
    rw [dInts_depth r]; rfl
def dTup (ns : List Nat) : PyData := .tuple (dInts ns)
theorem dTup_lay (ns : List Nat) : (dTup ns).canLay0 = true := by show PyData.canLayAll0 (dInts ns) = true; exact dInts_lay ns
theorem dTup_depth (ns : List Nat) : (dTup ns).depth = 1 := by show PyData.depthAll (dInts ns) + 1 = 1; rw [dInts_depth]
theorem dTup_shaped (ns : List Nat) : shaped (dTup ns) = true := by
  unfold shaped
  rw [dTup_lay, dTup_depth]; rfl
theorem dTups_lay : ∀ nss : List (List Nat), PyData.canLayAll0 (nss.map dTup) = true
  | [] => rfl
  | n :: r => by
    show (PyData.canLay0 (dTup n) && PyData.canLayAll0 (r.map dTup)) = true
    rw [dTup_lay, dTups_lay r]; rfl
theorem dTups_depth : ∀ nss : List (List Nat), PyData.depthAll (nss.map dTup) ≤ 1
  | [] => Nat.zero_le _
  | n :: r => by
    show max (PyData.depth (dTup n)) (PyData.depthAll (r.map dTup)) ≤ 1
    rw [dTup_depth]
    have := dTups_depth r
    omega
theorem dList_shaped (nss : List (List Nat)) : shaped (.list (nss.map dTup)) = true := by
  unfold shaped
  have h1 : (PyData.list (nss.map dTup)).canLay0 = true := by show PyData.canLayAll0 _ = true; exact dTups_lay nss
  have h2 : (PyData.list (nss.map dTup)).depth ≤ 2 := by
    show PyData.depthAll _ + 1 ≤ 2
    have := dTups_depth nss
    omega
  rw [h1, Bool.true_and, decide_eq_true_eq]
  omega
theorem NA.reads {h : Heap} : ∀ {vs : List Value} {ns : List Nat}, NA vs ns → ∃ as, ReadsAll h vs (dInts ns) as
  | _, _, .nil => ⟨_, .nil⟩
  | _, _, .cons n t r => by
    obtain ⟨as, ih⟩ := r.reads (h := h)
    exact ⟨_, .cons (.int _ t) ih⟩
/-- references to tuples of ints of the ledger -/
inductive TL (news : Ldg) : List Value → List (List Nat) → Prop
  | nil : TL news [] []
  | cons {t : Addr} {ws : List Value} {ns : List Nat} {vs : List Value} {nss : List (List Nat)} (hm : (t, tupObj ws) ∈ news) (hw : NA ws ns) (r : TL news vs nss) : TL news (.ref t :: vs) (ns :: nss)
theorem TL.mono {news news' : Ldg} (k : ∀ p ∈ news, p ∈ news') : ∀ {vs : List Value} {nss : List (List Nat)}, TL news vs nss → TL news' vs nss
  | _, _, .nil => .nil
  | _, _, .cons hm hw r => .cons (k _ hm) hw (r.mono k)
theorem TL.snoc {news : Ldg} {t : Addr} {ws : List Value} {ns : List Nat} (hm : (t, tupObj ws) ∈ news) (hw : NA ws ns) : ∀ {vs : List Value} {nss : List (List Nat)}, TL news vs nss → TL news (vs ++ [.ref t]) (nss ++ [ns])
  | _, _, .nil => .cons hm hw .nil
  | _, _, .cons a b r => .cons a b (r.snoc hm hw)
theorem TL.length {news : Ldg} : ∀ {vs : List Value} {nss : List (List Nat)}, TL news vs nss → vs.length = nss.length
  | _, _, .nil => rfl
  | _, _, .cons _ _ r => by simp [r.length]
theorem TL.item {news : Ldg} : ∀ {vs : List Value} {nss : List (List Nat)}, TL news vs nss → ∀ {i : Nat} {v : Value}, vs[i]? = some v → ∃ t ws ns, v = .ref t ∧ (t, tupObj ws) ∈ news ∧ NA ws ns ∧ nss[i]? = some ns
  | _, _, .nil, i, v, h => by cases h
  | _, _, .cons hm hw r, 0, v, h => by simp at h; subst h; exact ⟨_, _, _, rfl, hm, hw, rfl⟩
  | _, _, .cons hm hw r, i + 1, v, h => by
    simp at h
    obtain ⟨t, ws, ns, a, b, c, d⟩ := r.item h
    exact ⟨t, ws, ns, a, b, c, by simpa using d⟩
variable {prog : Program} {w : World} {A : Around} {E : Value → Shared → Prop} {s : Shared} {h₀ h : Heap} {L a b : Addr} {news : Ldg} {vs ws : List Value} {n n2 : Nat} {ns : List Nat} {nss : List (List Nat)} {Q : Value → Shared → Prop}
theorem reads_tup (N : News h₀ L h news) (hm : (a, tupObj vs) ∈ news) (hv : NA vs ns) : ∃ as, Reads h (.ref a) (dTup ns) as := by
  obtain ⟨as, r⟩ := hv.reads (h := h)
  exact ⟨as, .tuple (N _ hm).1 rfl rfl (by simpa using r)⟩
theorem TL.reads (N : News h₀ L h news) : ∀ {vs : List Value} {nss : List (List Nat)}, TL news vs nss → ∃ as, ReadsAll h vs (nss.map dTup) as
  | _, _, .nil => ⟨_, .nil⟩
  | _, _, .cons hm hw r => by
    obtain ⟨as, ih⟩ := TL.reads N r
    obtain ⟨bs, hr⟩ := reads_tup N hm hw
    exact ⟨_, .cons hr ih⟩
theorem reads_tl (N : News h₀ L h news) (hm : (a, listOf vs.toArray n) ∈ news) (hv : TL news vs nss) : ∃ as, Reads h (.ref a) (.list (nss.map dTup)) as := by
  obtain ⟨as, r⟩ := hv.reads N
  exact ⟨a :: as, .list (N _ hm).1 rfl rfl (by simpa using r)⟩
theorem my_tupNeF (N : News h₀ L s.heap news) (h1 : (a, tupObj vs) ∈ news) (h2 : (b, tupObj ws) ∈ news) (hv : NA vs ns) (hw : NA ws ns) (hu : A.units + 64 < cLine) (h : Q (.bool false) s) :
    wpAny (model prog w) A (compareOp .NotEq (.ref a) (.ref b)) Q E s := by
  obtain ⟨_, r1⟩ := reads_tup N h1 hv
  obtain ⟨_, r2⟩ := reads_tup N h2 hw
  exact ne_dataH r1 r2 (dTup_shaped ns) (dTup_shaped ns) hu (by rw [eqv_refl _ (dTup_lay ns)]; exact h)
theorem my_tupEqT (N : News h₀ L s.heap news) (h1 : (a, tupObj vs) ∈ news) (h2 : (b, tupObj ws) ∈ news) (hv : NA vs ns) (hw : NA ws ns) (hu : A.units + 64 < cLine) (h : Q (.bool true) s) :
    wpAny (model prog w) A (compareOp .Eq (.ref a) (.ref b)) Q E s := by
  obtain ⟨_, r1⟩ := reads_tup N h1 hv
  obtain ⟨_, r2⟩ := reads_tup N h2 hw
  exact eq_dataH r1 r2 (dTup_shaped ns) (dTup_shaped ns) hu (by rw [eqv_refl _ (dTup_lay ns)]; exact h)
theorem my_tlNeF (N : News h₀ L s.heap news) (h1 : (a, listOf vs.toArray n) ∈ news) (h2 : (b, listOf ws.toArray n2) ∈ news) (hv : TL news vs nss) (hw : TL news ws nss) (hu : A.units + 64 < cLine) (h : Q (.bool false) s) :
    wpAny (model prog w) A (compareOp .NotEq (.ref a) (.ref b)) Q E s := by
  obtain ⟨_, r1⟩ := reads_tl N h1 hv
  obtain ⟨_, r2⟩ := reads_tl N h2 hw
  exact ne_dataH r1 r2 (dList_shaped nss) (dList_shaped nss) hu (by rw [eqv_refl (.list (nss.map dTup)) (by show PyData.canLayAll0 _ = true; exact dTups_lay nss)]; exact h)
theorem my_tlNeNil (N : News h₀ L s.heap news) (h1 : (a, listOf vs.toArray n) ∈ news) (h2 : (b, listOf #[] n2) ∈ news) (hv : TL news vs nss) (hu : A.units + 64 < cLine) (h : Q (.bool (!nss.isEmpty)) s) :
    wpAny (model prog w) A (compareOp .NotEq (.ref a) (.ref b)) Q E s := by
  obtain ⟨_, r1⟩ := reads_tl N h1 hv
  obtain ⟨_, r2⟩ := reads_tl (vs := []) (nss := []) N h2 .nil
  refine ne_dataH r1 r2 (dList_shaped nss) (dList_shaped []) hu ?_
  cases nss with
  | nil => simpa [PyData.eqv, PyData.eqvAll] using h
  | cons x xs => simpa [PyData.eqv, PyData.eqvAll] using h
theorem my_last {value slice : PySem.Expr} {u : Tok} {x : Value} (N : News h₀ L s.heap news) (hm : (a, listOf vs.toArray n) ∈ news) (hx : vs[vs.length - 1]? = some x) (h : Q x s)
    (hs : subscripted slice false (.ref a) (.int (-1) u) = operate [.ref a, .int (-1) u] (getItem (.ref a) (.int (-1) u))) :
    wpAny (model prog w) A (subscriptTail value slice (.ref a) (.int (-1) u)) Q E s := by
  have hl := row_lt hx
  refine tail_any (my_isList N hm).typeIs slot_list_getitem.lookup (wpAny_getItem_list_neg (my_isList N hm) (by decide) ?_ (by decide) ?_ h) hs
  · rw [List.size_toArray]; omega
  · rw [List.size_toArray]
    have e : (-1 + (vs.length : Int)).toNat = vs.length - 1 := by omega
    rw [e]; simpa using hx
end
section
variable {prog : Program} {w : World} {A : Around} {E : Value → Shared → Prop} {s : Shared} {h₀ : Heap} {L : Addr} {m : Str → Option Value} {news : Ldg} {Q : Value → Shared → Prop}
theorem kvsFrom_at : ∀ (rs : List BRow) (i j : Nat) {k : Int} {x : Value}, (Bk.kvsFrom i rs)[j]? = some (k, x) → k = ((i + j : Nat) : Int)
  | [], _, _, _, _, h => by cases h
  | r :: rs, i, 0, k, x, h => by
    simp [Bk.kvsFrom] at h
    rw [← h.1]; rfl
  | r :: rs, i, j + 1, k, x, h => by
    simp [Bk.kvsFrom] at h
    rw [kvsFrom_at rs (i + 1) j h]
    congr 1; omega
theorem book_keys {b : Bk} {vs : List Value} (hl : vs.length = b.kvs.length) (hv : ∀ (j : Nat) (v : Value), vs[j]? = some v → ∃ k x, b.kvs[j]? = some (k, x) ∧ (PySem.intKind prog w).is k v = true) : NA vs (List.range b.rows.length) := by
  have hb : b.kvs.length = b.rows.length := kvsFrom_len b.rows 0
  have hi : ∀ (j : Nat) (v : Value), vs[j]? = some v → ∃ t, v = .int (j : Int) t := fun j v h => by
    obtain ⟨k, x, hk, hi⟩ := hv j v h
    have := kvsFrom_at b.rows 0 j hk
    rw [Nat.zero_add] at this
    subst this
    cases v with
    | int i t => simp [intKind, Value.isInt] at hi; subst hi; exact ⟨t, rfl⟩
    | _ => simp [intKind, Value.isInt] at hi
  have go : ∀ (n : Nat) (vs : List Value) (i : Nat), vs.length = n → (∀ (j : Nat) (v : Value), vs[j]? = some v → ∃ t, v = .int ((i + j : Nat) : Int) t) → NA vs (List.range' i n) := by
    intro n
    induction n with
    | zero => intro vs i h _; rw [List.eq_nil_of_length_eq_zero h]; exact .nil
    | succ n ih =>
      intro vs i h hj
      cases vs with
      | nil => cases h
      | cons v vs =>
        obtain ⟨t, ht⟩ := hj 0 v rfl
        rw [ht]
        refine .cons i t (ih vs (i + 1) (by simpa using h) fun j u hu => ?_)
        obtain ⟨t', ht'⟩ := hj (j + 1) u (by simpa using hu)
        refine ⟨t', ?_⟩
        rw [ht']
        congr 1
        omega
  rw [List.range_eq_range', ← hb, ← hl]
  exact go vs.length vs 0 rfl fun j v h => by
    obtain ⟨t, ht⟩ := hi j v h
    exact ⟨t, by rw [ht, Nat.zero_add]⟩
/-- sorted(book): its nodes by number -/
theorem my_sortedB {b : Bk} {B : Addr} (hh : A.handled = none) (F : Fr h₀ L s.heap m) (N : News h₀ L s.heap news) (I : b.In news) (hB : b.B = B)
    (h : ∀ D vs c h' tk, Fr h₀ L h' m → News h₀ L h' ((D, listOf vs.toArray c) :: news) → (∀ q ∈ news, q.1 < D) → NA vs (List.range b.rows.length) → Q (.ref D) { s with heap := h', toks := tk }) :
    wpAny (model prog w) A (call (.builtin "sorted") [.ref B]) Q E s := by
  subst hB
  obtain ⟨o, ho, hd⟩ := I.dict
  have hf := I.few
  have hkl : b.kvs.length = b.rows.length := kvsFrom_len b.rows 0
  obtain ⟨es, ep, r⟩ := hd prog w
  have hat : s.heap.DictAt (PySem.intKind prog w) b.B b.kvs ep := ⟨o, es, (N _ ho).1, r⟩
  refine kdu_sorted (kdl_dict (knd := PySem.intKind prog w) (kvs := b.kvs) (ep := ep) I.low) hh F N hat (by rw [hkl, sizeLine_eq]; omega) fun D h' tk vs F' N' l1 hl hv => ?_
  have hna := book_keys (prog := prog) (w := w) hl hv
  have hvl := hna.length
  rw [List.length_range] at hvl
  refine ksk_lsort (s := { s with heap := h', toks := tk }) F' N' (fun o => .head fun p hp => Nat.ne_of_lt (l1 p hp)) (vs := vs) (by simp) hna.ints (by simp; omega) fun vs' ns' c h'' F'' N'' hi _ hp hs _ => ?_
  have e : ns' = (List.range b.rows.length).map fun (i : Nat) => (i : Int) := by
    refine ksm_same hp hs ?_
    rw [List.pairwise_map]
    exact List.pairwise_lt_range.imp fun {a b} h => Int.ofNat_le.mpr (Nat.le_of_lt h)
  exact h D vs' c h'' tk F'' N'' l1 (NA.of hi e)
end

-- after: 30 31 32
section
variable {prog : Program} {w : World} {A : Around} {E : Value → Shared → Prop} {s : Shared} {h₀ : Heap} {L : Addr} {m : Str → Option Value} {news : Ldg}
theorem my_sortedKD {T : String} {r d : Addr} {n : Nat} {P : Nat → Value → Prop} {OK : Heap → Prop} {f : Value} {kw : List (Str × Value)} {Q : Value → Shared → Prop} (K : KdlSrc prog w T r d n P OK) (hh : A.handled = none) (F : Fr h₀ L s.heap m) (N : News h₀ L s.heap news) (hok : OK s.heap)
    (h2 : 2 ≤ n) (h64 : n < 64) (ha1 : argsOk "sorted" ⟨[.ref r], kw⟩) (ha2 : ∀ x, argsOk "list.sort" ⟨[.ref x], kw⟩) (ht : ∀ x, Builtin.«list.sort» ⟨[.ref x], kw⟩ = ksk_tree x f false)
    (h : ∀ D kS e1 h' tk (vs : List Value), vs.length = n → (∀ (j : Nat) (v : Value), vs[j]? = some v → P j v) → Fr h₀ L h' m → News h₀ L h' ((kS, seqObj "list" #[] 0) :: (D, seqObj "list" #[] e1) :: news) → D < kS → (∀ q ∈ news, q.1 < D) →
      KatKeys prog w A.in1.in1 h₀ L m kS f (fun ks e s' => wpAny (model prog w) A.in1.in1 (keyKind' (List.toArray ks)) (fun κ s'' => (kas_sort vs.length).kasWp (kas_ask prog w A.in1.in1 κ (katRev false ks)) (fun p s3 => KatFin h₀ L m kS D ks e e1 (katRev false (p.toList.map fun i => (katRev false vs).getD i Value.none)) (fun s4 => Q (.ref D) s4) s3) s'') (fun _ _ => False) s') vs [] 0 { s with heap := h', toks := tk }) :
    wpAny (model prog w) A (call (.builtin "sorted") [.ref r] kw) Q E s := by
  refine call_function_entry_kw kind_sorted plain_sorted entry_sorted ha1 ?_
  unfold Builtin.«sorted»
  refine wpAny_bind (m := checkCount "sorted" 1 1 _) (wpAny_pure ?_)
  refine wpAny_bind (kdu_collect (A := A.in1) K hh hok (by rw [sizeLine_eq]; omega) fun h' tk acc hk hacc => ?_)
  have hl : acc.toList.length = n := by rw [Array.length_toList]; exact hacc.1
  refine wpAny_bind (wpAny_newList ?_ (by rw [hl, sizeLine_eq]; omega))
  have F1 : Fr h₀ L (h'.push { cls := .type "list", data := .seq acc.toList.toArray }) m := (F.keeps hk).push _
  have N1 : News h₀ L (h'.push { cls := .type "list", data := .seq acc.toList.toArray }) news := fun p hp => ⟨Heap.get?_push_of_some _ (hk _ _ (N p hp).1), (N p hp).2⟩
  have hoL : (h'.push { cls := .type "list", data := .seq acc.toList.toArray }).get? h'.objs.size = some (seqObj "list" acc.toList.toArray 0) := Heap.get?_push_size _ rfl
  have hLs : L < h'.objs.size := (F.keeps hk).ns.lt
  refine wpAny_bind (wpAny_holding (wpAny_call_entry_kw slot_list_sort ⟨_, hoL, rfl⟩ entry_list_sort ?body (ha2 _)))
  case body =>
    have ht' := ht h'.objs.size
    show wpAny (model prog w) A.in1.in1 (Builtin.«list.sort» ⟨[.ref h'.objs.size], kw⟩) _ _ _
    rw [ht']
    refine kat_keyed (s := { s with heap := h'.push { cls := .type "list", data := .seq acc.toList.toArray }, toks := tk }) F1 N1 hoL (Nat.ne_of_gt hLs) (Heap.get?_none_of_le (Nat.le_trans F.above (Nat.le_of_lt hLs)))
      (fun p hp => Nat.ne_of_lt (Heap.lt_size (hk _ _ (N p hp).1))) (by rw [hl]; exact h2) (by rw [hl]; exact h64) fun kS e1 h'' F' N' l0 l1 => ?_
    refine kat_keys_mono (h _ kS e1 h'' tk acc.toList hl (fun j v e => hacc.2 j v (by rw [← Array.getElem?_toList]; exact e)) F' N' l0 fun q hq => Heap.lt_size (hk _ _ (N q hq).1)) fun ks e s' hl' hd => ?_
    have hl2 : ks.length = acc.toList.length := by simpa using hl'
    refine wpAny_mono hd (fun κ s'' hk' => ?_) fun _ _ x => x
    rw [kat_ask_eq (vs := katRev false acc.toList) (by rw [kat_len, kat_len, hl2])] at hk' ⊢
    exact kas_wp_mono hk' fun p s3 hk3 => hk3.mono fun s4 hq => ⟨_, rfl, wpAny_pure ⟨_, rfl, hq⟩⟩

/-- one turn of the comparison of two tuples of ints -/
theorem lex_ints {b fin : Bool} {Q : Bool → Shared → Prop} : ∀ {vs : List Value} {ns : List Nat}, NA vs ns → ∀ {ws : List Value} {ms : List Nat}, NA ws ms → ∀ (i : Nat), fin = decide (vs.length < ws.length) → Q (lexb ns ms) s → KatLex prog w A b fin Q (vs.zip ws) i s
  | _, _, .nil, _, _, .nil, i, e, h => by subst e; exact kat_nil h
  | _, _, .nil, _, _, .cons m u hw, i, e, h => by subst e; exact kat_nil (by simpa [lexb] using h)
  | _, _, .cons n t hv, _, _, .nil, i, e, h => by subst e; exact kat_nil (by simpa [lexb] using h)
  | _, _, .cons n t hv, _, _, .cons m u hw, i, e, h => by
    refine kat_cons (wpAny_eqBool_int ?_)
    by_cases hnm : n = m
    · subst hnm
      have e1 : ((n : Int) == (n : Int)) = true := by simp
      rw [e1]
      refine kat_yes (lex_ints hv hw (i + 1) (by rw [e]; simp) ?_)
      simpa [lexb] using h
    · have e1 : ((n : Int) == (m : Int)) = false := by simp; omega
      rw [e1]
      have e2 : ∀ as bs : List Nat, lexb (n :: as) (m :: bs) = decide (n < m) := fun as bs => by unfold lexb; rw [if_neg hnm]
      rw [e2] at h
      have e3 : decide ((n : Int) < (m : Int)) = decide (n < m) := by simp
      refine kat_no ?_
      cases (b && i == 0) with
      | true => exact oneLt_int (by rw [e3]; exact h)
      | false =>
        refine kat_one _ _ ?_
        refine lt_int ?_
        rw [e3]; exact h
/-- what the key of sorted gives: a new tuple of ints -/
def KeyOut (h₀ : Heap) (L : Addr) (m : Str → Option Value) (led : Ldg) (ns : List Nat) (s₁ : Shared) (v : Value) (s₂ : Shared) : Prop :=
  ∃ h' tk' T ws, s₂ = { s₁ with heap := h', toks := tk' } ∧ v = .ref T ∧ Fr h₀ L h' m ∧ News h₀ L h' ((T, tupObj ws) :: led) ∧ NA ws ns ∧ ∀ p ∈ led, p.1 < T

theorem TL.tups {h : Heap} {led : Ldg} (N : News h₀ L h led) : ∀ {ks : List Value} {nss : List (List Nat)}, TL led ks nss → (∀ ns ∈ nss, ∃ r, ns = 0 :: r) → ∃ fs, KatTups h ks fs ∧ fs.length = ks.length ∧ ∀ v ∈ fs, ∃ t, v = .int ((0 : Nat) : Int) t
  | _, _, .nil, _ => ⟨[], trivial, rfl, fun v hv => (nomatch hv)⟩
  | _, _, .cons hm hw r, hz => by
    obtain ⟨fs, a, b, c⟩ := TL.tups N r (fun ns hns => hz ns (.tail _ hns))
    obtain ⟨q, e⟩ := hz _ (.head _)
    subst e
    cases hw with
    | cons _ t hw =>
      refine ⟨.int ((0 : Nat) : Int) t :: fs, KatTups.cons (N _ hm).1 rfl rfl (by simp) a, by simp [b], fun v hv => ?_⟩
      rcases List.mem_cons.mp hv with rfl | hv
      · exact ⟨t, rfl⟩
      · exact c v hv

theorem my_sortedKey {b : Bk} {B fa : Addr} {pl : Nat → List Nat} {Q : Value → Shared → Prop} (hh : A.handled = none) (F : Fr h₀ L s.heap m) (N : News h₀ L s.heap news) (I : b.In news) (hB : b.B = B) (h2 : 2 ≤ b.rows.length)
    (O : SOrd b.rows.length (fun i j => lexb (pl i) (pl j)))
    (key : ∀ (led : Ldg) (h : Heap) (tk : Nat) (i : Nat) (t : Tok), i < b.rows.length → (∀ p ∈ news, p ∈ led) → Fr h₀ L h m → News h₀ L h led →
      wpAny (model prog w) A.in1.in1 (call (.ref fa) [.int (i : Int) t]) (KeyOut h₀ L m led (0 :: pl i) { s with heap := h, toks := tk }) (fun _ _ => False) { s with heap := h, toks := tk })
    (h : ∀ D vs c h' tk out, Fr h₀ L h' m → News h₀ L h' ((D, listOf vs.toArray c) :: news) → (∀ q ∈ news, q.1 < D) → NA vs out → out.Perm (List.range b.rows.length) → out.Pairwise (fun i j => lexb (pl i) (pl j) = true) → Q (.ref D) { s with heap := h', toks := tk }) :
    wpAny (model prog w) A (call (.builtin "sorted") [.ref B] [(Str.ofString "key", .ref fa)]) Q E s := by
  subst hB
  obtain ⟨o, ho, hd⟩ := I.dict
  have hf := I.few
  have hkl : b.kvs.length = b.rows.length := kvsFrom_len b.rows 0
  obtain ⟨es, ep, r⟩ := hd prog w
  have hat : s.heap.DictAt (PySem.intKind prog w) b.B b.kvs ep := ⟨o, es, (N _ ho).1, r⟩
  refine my_sortedKD (kdl_dict (knd := PySem.intKind prog w) (kvs := b.kvs) (ep := ep) I.low) hh F N hat (by rw [hkl]; exact h2) (by omega) (ksk_s1 _ _) (fun x => ksk_l1 _ _) (fun x => ksk_t1 _ _) fun D kS e1 h' tk vs hl hv F' N' l0 l1 => ?_
  have hna := book_keys (prog := prog) (w := w) hl hv
  have hvl := hna.length
  rw [List.length_range] at hvl
  have go : ∀ (r : List Value) (rs : List Nat) (ks : List Value) (kn : List Nat) (e : Nat) (h : Heap) (tk : Nat) (kt : Ldg), NA r rs → (∀ x ∈ rs, x < b.rows.length) → kn ++ rs = List.range b.rows.length → TL kt ks (kn.map fun i => 0 :: pl i) → Fr h₀ L h m →
      News h₀ L h ((kS, seqObj "list" ks.toArray e) :: (D, seqObj "list" #[] e1) :: (kt ++ news)) → (∀ p ∈ kt ++ news, p.1 ≠ kS ∧ p.1 ≠ D) →
      KatKeys prog w A.in1.in1 h₀ L m kS (.ref fa) (fun ks e s' => wpAny (model prog w) A.in1.in1 (keyKind' (List.toArray ks)) (fun κ s'' => (kas_sort vs.length).kasWp (kas_ask prog w A.in1.in1 κ (katRev false ks)) (fun p s3 => KatFin h₀ L m kS D ks e e1 (katRev false (p.toList.map fun i => (katRev false vs).getD i Value.none)) (fun s4 => Q (.ref D) s4) s3) s'') (fun _ _ => False) s') r ks e { s with heap := h, toks := tk } := by
    intro r
    induction r with
    | nil =>
      intro rs ks kn e h9 tk9 kt hr hrs hkn hks F9 N9 off
      cases hr
      rw [List.append_nil] at hkn
      subst hkn
      refine KatKeys.nil ?_
      have hkl2 := hks.length
      rw [List.length_map, List.length_range] at hkl2
      have hks2 : TL ((kS, seqObj "list" ks.toArray e) :: (D, seqObj "list" #[] e1) :: (kt ++ news)) ks ((List.range b.rows.length).map fun i => 0 :: pl i) := hks.mono fun p hp => .tail _ (.tail _ (List.mem_append_left _ hp))
      obtain ⟨fs, f1, f2, f3⟩ := hks2.tups N9 (fun ns hns => by obtain ⟨i, -, rfl⟩ := List.mem_map.mp hns; exact ⟨_, rfl⟩)
      refine kat_kind f1 (by omega) (T := .type "int") (fun v hv => ?_) rfl ?_
      · obtain ⟨t, rfl⟩ := f3 v hv
        exact Looks.of_pure rfl
      have item : ∀ i, i < b.rows.length → ∃ T ws, ks.getD i Value.none = .ref T ∧ (T, tupObj ws) ∈ ((kS, seqObj "list" ks.toArray e) :: (D, seqObj "list" #[] e1) :: (kt ++ news)) ∧ NA ws (0 :: pl i) := fun i hi => by
        have hki : ks[i]? = some ks[i] := List.getElem?_eq_getElem (by omega)
        obtain ⟨T, ws, ns, a1, a2, a3, a4⟩ := hks2.item hki
        refine ⟨T, ws, ?_, a2, ?_⟩
        · simp [List.getD, hki, a1]
        · simp [hi] at a4
          rw [a4]; exact a3
      rw [hvl]
      refine s_sort O (fun i j C hi hj hC => ?_) (by omega) fun p P hs => ?_
      · obtain ⟨T1, w1, g1, m1, n1⟩ := item i hi
        obtain ⟨T2, w2, g2, m2, n2⟩ := item j hj
        show wpAny (model prog w) A.in1.in1 (keyLt' _ (ks.getD i Value.none) (ks.getD j Value.none)) C (fun _ _ => False) _
        rw [g1, g2]
        refine kat_lt (N9 _ m1).1 rfl (N9 _ m2).1 rfl ?_
        have := lex_ints (prog := prog) (w := w) (A := A.in1.in1) (s := { s with heap := h9, toks := tk9 }) (b := (Value.type "int" != Value.type "tuple")) (fin := decide (w1.toArray.size < w2.toArray.size)) (Q := C) n1 n2 0 (by simp) (by simpa [lexb] using hC)
        simpa using this
      · have hpl := P.list
        have hz := P.size
        refine KatFin.intro F9 N9 (.head fun p hp => ?_) fun h10 c10 F10 N10 => ?_
        · rcases List.mem_cons.mp hp with rfl | hp
          · exact Nat.ne_of_lt l0
          · exact (off p hp).1
        refine KasFin.intro F10 N10 (.tail (Nat.ne_of_gt l0) (.head fun p hp => (off p hp).2)) fun h11 c11 F11 N11 => ?_
        refine h D (p.toList.map fun i => vs.getD i Value.none) c11 h11 tk9 p.toList F11 (fun q hq => N11 q ?_) l1 ?_ hpl (s_pairs P hs)
        · rcases List.mem_cons.mp hq with rfl | hq
          · exact .tail _ (.head _)
          · exact .tail _ (.tail _ (List.mem_append_right _ hq))
        · have hall : ∀ i ∈ p.toList, i < b.rows.length := fun i hi => by simpa using hpl.mem_iff.mp hi
          generalize p.toList = l at hall
          clear hpl
          induction l with
          | nil => exact .nil
          | cons a l ih =>
            have ha := hall a (.head _)
            obtain ⟨t, ht⟩ := hna.get a a (by simp [ha])
            have e : vs.getD a Value.none = .int (a : Int) t := by simp [List.getD, ht]
            show NA (vs.getD a Value.none :: _) _
            rw [e]
            exact .cons a t (ih fun i hi => hall i (.tail _ hi))
    | cons v r ih =>
      intro rs ks kn e h9 tk9 kt hr hrs hkn hks F9 N9 off
      cases hr with
      | cons i t hr =>
      rename_i rs
      refine KatKeys.cons (wpAny_mono (key _ h9 tk9 i t (hrs i (.head _)) (fun p hp => .tail _ (.tail _ (List.mem_append_right _ hp))) F9 N9) (fun v s₂ hk => ?_) fun _ _ x => x)
      obtain ⟨h10, tk10, T, ws, rfl, rfl, F10, N10, hw, hlt⟩ := hk
      have N11 : News h₀ L h10 ((kS, seqObj "list" ks.toArray e) :: (D, seqObj "list" #[] e1) :: (((T, tupObj ws) :: kt) ++ news)) := fun p hp => N10 p (by
        simp only [List.mem_cons, List.mem_append] at hp ⊢
        rcases hp with h | h | (h | h) | h <;> simp [h])
      have off' : ∀ p ∈ ((T, tupObj ws) :: kt) ++ news, p.1 ≠ kS ∧ p.1 ≠ D := fun p hp => by
        rcases List.mem_cons.mp hp with rfl | hp
        · exact ⟨Nat.ne_of_gt (hlt (kS, _) (.head _)), Nat.ne_of_gt (hlt (D, _) (.tail _ (.head _)))⟩
        · exact off p hp
      refine KatBack.intro F10 N11 (.head fun p hp => ?_) fun h12 c12 F12 N12 => ?_
      · rcases List.mem_cons.mp hp with rfl | hp
        · exact Nat.ne_of_lt l0
        · exact (off' p hp).1
      refine ih rs (ks ++ [.ref T]) (kn ++ [i]) c12 h12 tk10 ((T, tupObj ws) :: kt) hr (fun x hx => hrs x (.tail _ hx)) (by simpa using hkn) ?_ F12 N12 off'
      rw [List.map_append]
      exact (hks.mono fun p hp => .tail _ hp).snoc (.head _) hw
  refine go vs (List.range b.rows.length) [] [] 0 h' tk [] hna (fun x hx => by simpa using hx) rfl .nil F' N' (fun p hp => ?_)
  have := l1 p hp
  exact ⟨Nat.ne_of_lt (Nat.lt_trans this l0), Nat.ne_of_lt this⟩
end

-- after: 32
section
abbrev ex2 (x y : Str) (px px2 py pe : Pos) (iter : PySem.Expr) (scope : Scope) (pos : Pos) : PySem.Expr := .ListComp (.Name y pe) [⟨.Name x px, iter, [], 0⟩, ⟨.Name y py, .Name x px2, [], 0⟩] scope pos
theorem turn0 (x y : Str) (px px2 py pe : Pos) (iter : PySem.Expr) (scope : Scope) (pos : Pos) (it acc : Value) (env : Env) :
    compTurn (ex2 x y px px2 py pe iter scope pos) 0 it acc env = (standAt iter.pos >>= fun _ => pyNext it >>= fun r => match r with
      | none => pure (.done .next)
      | some v => letOwnedTupleGo (.Name x px) it v >>= fun _ => assign (.Name x px) env v >>= fun _ =>
        eval (.Name x px2) env >>= fun z => standAt px2 >>= fun _ => foldedSetIterable (.Name x px2) env z >>= fun z' => holding [z'] (pyIter z') >>= fun it2 =>
          runOwn (.compStart (ex2 x y px px2 py pe iter scope pos) 1 it2 acc env) env >>= fun _ =>
          again (.compLoop (ex2 x y px px2 py pe iter scope pos) 0 it acc env)) := by rfl
theorem turn1 (x y : Str) (px px2 py pe : Pos) (iter : PySem.Expr) (scope : Scope) (pos : Pos) (it acc : Value) (env : Env) :
    compTurn (ex2 x y px px2 py pe iter scope pos) 1 it acc env = (standAt px2 >>= fun _ => pyNext it >>= fun r => match r with
      | none => pure (.done .next)
      | some v => letOwnedTupleGo (.Name y py) it v >>= fun _ => assign (.Name y py) env v >>= fun _ =>
        (eval (.Name y pe) env >>= fun z => call (.builtin "list.append") [acc, z] >>= fun _ => pure ()) >>= fun _ =>
          again (.compLoop (ex2 x y px px2 py pe iter scope pos) 1 it acc env)) := by rfl

variable {prog : Program} {w : World} {A : Around} {E : Value → Shared → Prop} {s : Shared} {x y : Str} {px px2 py pe pos : Pos} {iter : PySem.Expr} {scope : Scope} {env : Env} {R : Result → Shared → Prop}
theorem lst_snoc' (ys : List Value) (v : Value) : ({ cls := .type "list", data := .seq (ys.toArray.push v) (ys.length + 1) } : Obj) = PyProof.Rows.LCg.lst (ys ++ [v]) := PyProof.Rows.LCg.lst_snoc ys v

open PyProof.Rows.LCg in
theorem flat_inner {C D J T : Addr} {ws ys : List Value} {m : Str → Option Value} (hh : A.handled = none) (hyl : env.kindOf y = some .local) (hk : env.scope.kind = .function) (hC : env.locals = C) (hdb : (y == ("__debug__" : Str)) = false)
    (hit : s.heap.IsTupleIter J T 0) (ht : s.heap.IsTuple T ws.toArray) (hD : s.heap.get? D = some (lst ys)) (hn : s.heap.Ns C m) (hJC : J ≠ C) (hJD : J ≠ D) (hTJ : T ≠ J) (hTC : T ≠ C) (hTD : T ≠ D) (hCD : C ≠ D) (hsz : ys.length + ws.length ≤ 1000)
    (hR : ∀ h' tk m', h'.Ns C m' → h'.get? D = some (lst (ys ++ ws)) → (∀ b o, b ≠ C → b ≠ J → b ≠ D → s.heap.get? b = some o → h'.get? b = some o) → R (.ok .next) { s with heap := h', toks := tk }) :
    codeAny (model prog w) A (.compLoop (ex2 x y px px2 py pe iter scope pos) 1 (.ref J) (.ref D) env) R s := by
  have W := Walks.tuple (prog := prog) (w := w) (A := A) hh J T hTJ ws.toArray
  rw [List.size_toArray] at W
  subst hC
  refine codeAny_loop rfl (fun k s' => ∃ h' tk i m', s' = { s with heap := h', toks := tk } ∧ i ≤ ws.length ∧ k = ws.length + 1 - i ∧ (h'.IsTupleIter J T i ∧ h'.IsTuple T ws.toArray) ∧ h'.get? D = some (lst (ys ++ ws.take i)) ∧ h'.Ns env.locals m' ∧
      (∀ b o, b ≠ env.locals → b ≠ J → b ≠ D → s.heap.get? b = some o → h'.get? b = some o)) (fun k s' hI => ?_) (ws.length + 1) ⟨s.heap, s.toks, 0, m, rfl, Nat.zero_le _, rfl, ⟨hit, ht⟩, by simpa using hD, hn, fun b o _ _ _ e => e⟩
  obtain ⟨H, tk, i, m', rfl, hi, rfl, hst, hD', hn', hk'⟩ := hI
  show wpAny _ A ((compTurn (ex2 x y px px2 py pe iter scope pos) 1 (.ref J) (.ref D) env).onRaise (fun x => do noteFrame x env; theTreesLotGoes x)) _ _ _
  refine wpAny_noted ?_
  rw [turn1]
  refine wpAny_bind (wpAny_standAt (wpAny_bind ?_))
  by_cases hlt : i < ws.length
  · refine W.item i _ _ _ hlt hst fun v h₂ tk₂ hPv hst₂ hk₂ => ?_
    have hv : ws[i]? = some v := by simpa using hPv
    have up : ∀ b o, b ≠ J → H.get? b = some o → h₂.get? b = some o := fun b o hb e => hk₂ b o (by simpa using hb) e
    refine wpAny_bind (wpAny_of_eq rfl (wpAny_bind (wpAny_assign_Name (wpAny_storeName_local hyl (hn'.at' fun o e => up _ o (Ne.symm hJC) e) (fun h₃ hn₃ hs₃ => ?_) (by rw [hk]; rfl)))))
    have hs3 : ∀ b o, b ≠ env.locals → h₂.get? b = some o → h₃.get? b = some o := fun b o hb e => hs₃.extBut b o hb e
    refine wpAny_bind (wpAny_bind (wpAny_Name (wpAny_loadName_local hk hyl hn₃ (v := v) (by simp) ?_) hdb))
    have hD₃ : h₃.get? D = some (lst (ys ++ ws.take i)) := hs3 _ _ (Ne.symm hCD) (up _ _ (Ne.symm hJD) hD')
    refine wpAny_bind (append_at hD₃ (fun h₄ hs₄ hD₄ => wpAny_pure (wpAny_pure ⟨rfl, ws.length + 1 - (i + 1), by omega, h₄, _, i + 1, _, rfl, hlt, rfl, ?_, ?_, hn₃.sameBut hs₄ hCD, ?_⟩)) (by simp [sizeLine_eq]; omega))
    · have s4 : ∀ b o, b ≠ D → h₃.get? b = some o → h₄.get? b = some o := fun b o hb e => hs₄.extBut b o hb e
      exact ⟨hst₂.1.at fun o e => s4 _ o hJD (hs3 _ o hJC e), hst₂.2.at fun o e => s4 _ o hTD (hs3 _ o hTC e)⟩
    · rw [List.take_add_one, hv, hD₄, lst_snoc']
      simp
    · intro b o h1 h2 h3 e
      exact hs₄.extBut b o h3 (hs3 b o h1 (up b o h2 (hk' b o h1 h2 h3 e)))
  · have hin : i = ws.length := by omega
    subst hin
    refine W.done _ _ _ hst fun h₂ tk₂ hk₂ => ?_
    have up : ∀ b o, b ≠ J → H.get? b = some o → h₂.get? b = some o := fun b o hb e => hk₂ b o (by simpa using hb) e
    refine wpAny_pure (hR h₂ _ m' (hn'.at' fun o e => up _ o (Ne.symm hJC) e) ?_ fun b o h1 h2 h3 e => up b o h2 (hk' b o h1 h2 h3 e))
    have := up _ _ (Ne.symm hJD) hD'
    rwa [List.take_length] at this

theorem flat_start1 {it acc : Value} (h0 : codeAny (model prog w) A (.compLoop (ex2 x y px px2 py pe iter scope pos) 1 it acc env) R s)
    (h : wpAny (model prog w) A (pyIter it) (fun it' s' => codeAny (model prog w) A (.compLoop (ex2 x y px px2 py pe iter scope pos) 1 it' acc env) R s') (notedBy (model prog w) A env fun x s' => R (.error x) s') s) :
    codeAny (model prog w) A (.compStart (ex2 x y px px2 py pe iter scope pos) 1 it acc env) R s := by
  refine codeAny_of_tree ?_
  show wpAny _ _ ((compStart (ex2 x y px px2 py pe iter scope pos) 1 it acc env).onRaise (fun x => do noteFrame x env; standAt theWindowsPlace)) _ _ s
  refine wpAny_notedAt ?_
  unfold compStart
  show wpAny _ _ (ask >>= _) _ _ s
  refine wpAny_bind (wpAny_askSetting (wpAny_ite ?_))
  split
  · first
      | exact wpAny_bind (wpAny_pure (wpAny_pure (And.intro rfl h0)))
      | exact wpAny_pure (And.intro rfl h0)
  · first
      | exact wpAny_bind (wpAny_rule (wpAny_bind (wpAny_standAt (wpAny_bind (wpAny_mono h (fun it' s' h' => wpAny_pure (And.intro rfl h')) fun _ _ x => x)))))
      | (refine wpAny_bind (wpAny_rule ?_); show wpAny _ _ (standAt px2 >>= _) _ _ s; exact wpAny_bind (wpAny_standAt (wpAny_bind (wpAny_mono h (fun it' s' h' => wpAny_pure (And.intro rfl h')) fun _ _ x => x))))

open PyProof.Rows.LCg in
def FlatI (s : Shared) (C I ax D : Addr) (vs : List Value) (wss : List (List Value)) (i : Nat) (s' : Shared) : Prop :=
  ∃ h' tk m', s' = { s with heap := h', toks := tk } ∧ i ≤ vs.length ∧ (h'.IsListIter I ax i ∧ h'.IsList ax vs.toArray) ∧ h'.get? D = some (lst (wss.take i).flatten) ∧ h'.Ns C m' ∧ (∀ b o, b ≠ C → b ≠ I → b ≠ D → s.heap.get? b = some o → h'.get? b = some o)

open PyProof.Rows.LCg in
theorem flat_outer {C D I ax : Addr} {vs : List Value} {wss : List (List Value)} {m : Str → Option Value} (hh : A.handled = none) (hxl : env.kindOf x = some .local) (hyl : env.kindOf y = some .local) (hk : env.scope.kind = .function) (hC : env.locals = C) (hdb : (y == ("__debug__" : Str)) = false) (hdx : (x == ("__debug__" : Str)) = false)
    (hit : s.heap.IsListIter I ax 0) (hl : s.heap.IsList ax vs.toArray) (hD : s.heap.get? D = some (lst [])) (hn : s.heap.Ns C m) (hIC : I ≠ C) (hID : I ≠ D) (hxI : ax ≠ I) (hxC : ax ≠ C) (hxD : ax ≠ D) (hCD : C ≠ D)
    (items : ∀ (i : Nat) (v : Value), vs[i]? = some v → ∃ (T : Addr) (ws : List Value), v = .ref T ∧ wss[i]? = some ws ∧ s.heap.IsTuple T ws.toArray ∧ T ≠ C ∧ T ≠ I ∧ T ≠ D) (hlen : wss.length = vs.length) (hsz : wss.flatten.length ≤ 1000)
    (hR : ∀ h' tk m', h'.Ns C m' → h'.get? D = some (lst wss.flatten) → (∀ b o, b ≠ C → b ≠ I → b ≠ D → s.heap.get? b = some o → h'.get? b = some o) → R (.ok .next) { s with heap := h', toks := tk }) :
    codeAny (model prog w) A (.compLoop (ex2 x y px px2 py pe iter scope pos) 0 (.ref I) (.ref D) env) R s := by
  have W := Walks.list (prog := prog) (w := w) (A := A) hh I ax hxI vs.toArray
  rw [List.size_toArray] at W
  subst hC
  refine codeAny_loop rfl (fun k s' => ∃ i, k = vs.length + 1 - i ∧ FlatI s env.locals I ax D vs wss i s') (fun k s' hI => ?_) (vs.length + 1) ⟨0, rfl, s.heap, s.toks, m, rfl, Nat.zero_le _, ⟨hit, hl⟩, by simpa using hD, hn, fun b o _ _ _ e => e⟩
  obtain ⟨i, rfl, H, tk, m', rfl, hi, hst, hD', hn', hk'⟩ := hI
  show wpAny _ A ((compTurn (ex2 x y px px2 py pe iter scope pos) 0 (.ref I) (.ref D) env).onRaise (fun x => do noteFrame x env; theTreesLotGoes x)) _ _ _
  refine wpAny_noted ?_
  rw [turn0]
  refine wpAny_bind (wpAny_standAt (wpAny_bind ?_))
  by_cases hlt : i < vs.length
  · refine W.item i _ _ _ hlt hst fun v h₂ tk₂ hPv hst₂ hk₂ => ?_
    have hv : vs[i]? = some v := by simpa using hPv
    obtain ⟨T, ws, rfl, hws, hT, hTC, hTI, hTD⟩ := items i v hv
    have up : ∀ b o, b ≠ I → H.get? b = some o → h₂.get? b = some o := fun b o hb e => hk₂ b o (by simpa using hb) e
    refine wpAny_bind (wpAny_of_eq rfl (wpAny_bind (wpAny_assign_Name (wpAny_storeName_local hxl (hn'.at' fun o e => up _ o (Ne.symm hIC) e) (fun h₃ hn₃ hs₃ => ?_) (by rw [hk]; rfl)))))
    have hs3 : ∀ b o, b ≠ env.locals → h₂.get? b = some o → h₃.get? b = some o := fun b o hb e => hs₃.extBut b o hb e
    refine wpAny_bind (wpAny_Name (wpAny_loadName_local hk hxl hn₃ (v := .ref T) (by simp) ?_) hdx)
    refine wpAny_bind (wpAny_standAt (wpAny_bind (wpAny_of_eq rfl ?_)))
    have all3 : ∀ b o, b ≠ env.locals → b ≠ I → b ≠ D → s.heap.get? b = some o → h₃.get? b = some o := fun b o h1 h2 h3 e => hs3 b o h1 (up b o h2 (hk' b o h1 h2 h3 e))
    have hT₃ : h₃.IsTuple T ws.toArray := hT.at fun o e => all3 T o hTC hTI hTD e
    have hD₃ : h₃.get? D = some (lst (wss.take i).flatten) := hs3 _ _ (Ne.symm hCD) (up _ _ (Ne.symm hID) hD')
    refine wpAny_bind (wpAny_holding (wpAny_pyIter_tuple hT₃ ?_))
    have hJ : ∀ b o, h₃.get? b = some o → h₃.objs.size ≠ b := fun b o e => Nat.ne_of_gt (Heap.lt_size e)
    obtain ⟨oT, hoT, -⟩ := id hT₃
    obtain ⟨oC, hoC, -⟩ := ns_obj hn₃
    have hst₃I : ∃ o, h₃.get? I = some o := by
      obtain ⟨o, ho, -⟩ := hst₂.1
      exact ⟨o, hs3 _ _ hIC ho⟩
    obtain ⟨oI, hoI⟩ := hst₃I
    have push : ∀ b o, h₃.get? b = some o → (h₃.push { cls := .type "tuple_iterator", data := .fields #[.ref T, .int 0 0] }).get? b = some o := fun b o e => Heap.get?_push_of_some _ e
    refine wpAny_bind (wpAny_runOwn ?_)
    show codeAny (model prog w) A _ _ _
    have inner : ∀ (R' : Result → Shared → Prop) (s₄ : Shared), (∃ tk, s₄ = { s with heap := h₃.push { cls := .type "tuple_iterator", data := .fields #[.ref T, .int 0 0] }, toks := tk }) → (∀ s₅, FlatI s env.locals I ax D vs wss (i + 1) s₅ → R' (.ok .next) s₅) →
        codeAny (model prog w) A (.compLoop (ex2 x y px px2 py pe iter scope pos) 1 (.ref h₃.objs.size) (.ref D) env) R' s₄ := by
      rintro R' s₄ ⟨tk₄, rfl⟩ hR'
      refine flat_inner (C := env.locals) (D := D) (J := h₃.objs.size) (T := T) (ws := ws) (ys := (wss.take i).flatten) hh hyl hk rfl hdb ⟨_, Heap.get?_push_size _ rfl, rfl, rfl⟩ (hT₃.at fun o e => push _ o e) (push _ _ hD₃) (hn₃.at' fun o e => push _ o e) (hJ _ _ hoC) (hJ _ _ hD₃) (Ne.symm (hJ _ _ hoT)) hTC hTD hCD ?_ ?_
      · have e : (wss.take i).flatten.length + ws.length ≤ wss.flatten.length := by
          have e1 : wss.take (i + 1) = wss.take i ++ [ws] := by rw [List.take_add_one, hws]; rfl
          have e2 : wss.flatten = (wss.take (i + 1)).flatten ++ (wss.drop (i + 1)).flatten := by rw [← List.flatten_append, List.take_append_drop]
          rw [e2, e1]; simp
        omega
      · intro h₅ tk₅ m₅ hn₅ hD₅ hk₅
        have keep : ∀ b o, b ≠ env.locals → b ≠ D → h₃.get? b = some o → h₅.get? b = some o := fun b o h1 h2 e => hk₅ b o h1 (Ne.symm (hJ b o e)) h2 (push b o e)
        refine hR' _ ⟨h₅, tk₅, m₅, rfl, hlt, ⟨hst₂.1.at fun o e => keep _ o hIC hID (hs3 _ o hIC e), hst₂.2.at fun o e => keep _ o hxC hxD (hs3 _ o hxC e)⟩, ?_, hn₅, fun b o h1 h2 h3 e => keep b o h1 h3 (all3 b o h1 h2 h3 e)⟩
        rw [hD₅, List.take_add_one, hws]
        simp
    refine flat_start1 (inner _ _ ⟨_, rfl⟩ fun s₅ h₅ => ?_) ?_
    · exact wpAny_pure ⟨rfl, vs.length + 1 - (i + 1), by omega, i + 1, rfl, h₅⟩
    have W2 := Walks.tuple (prog := prog) (w := w) (A := A) hh h₃.objs.size T (Ne.symm (hJ _ _ hoT)) ws.toArray
    refine W2.self 0 _ _ _ ⟨⟨_, Heap.get?_push_size _ rfl, rfl, rfl⟩, hT₃.at fun o e => push _ o e⟩ (inner _ _ ⟨_, rfl⟩ fun s₅ h₅ => ?_)
    exact wpAny_pure ⟨rfl, vs.length + 1 - (i + 1), by omega, i + 1, rfl, h₅⟩
  · have hin : i = vs.length := by omega
    subst hin
    refine W.done _ _ _ hst fun h₂ tk₂ hk₂ => ?_
    have up : ∀ b o, b ≠ I → H.get? b = some o → h₂.get? b = some o := fun b o hb e => hk₂ b o (by simpa using hb) e
    refine wpAny_pure (hR h₂ _ m' (hn'.at' fun o e => up _ o (Ne.symm hIC) e) ?_ fun b o h1 h2 h3 e => up b o h2 (hk' b o h1 h2 h3 e))
    have := up _ _ (Ne.symm hID) hD'
    rwa [← hlen, List.take_length] at this

open PyProof.Rows.LCg in
def FlatSrc (A : Around) (h₀ : Heap) (L : Addr) (m : Str → Option Value) (Q : Value → Shared → Prop) (xv : Value) (s₁ : Shared) : Prop :=
  ∃ (ax : Addr) (vs : List Value) (n : Nat) (nss : List (List Nat)) (news : Ldg), xv = .ref ax ∧ A.handled = none ∧ Fr h₀ L s₁.heap m ∧ News h₀ L s₁.heap news ∧ (ax, listOf vs.toArray n) ∈ news ∧ TL news vs nss ∧ nss.flatten.length ≤ 1000 ∧
    ∀ D h tk ys, Fr h₀ L h m → News h₀ L h ((D, lst ys) :: news) → (∀ p ∈ news, p.1 < D) → NA ys nss.flatten → Q (.ref D) { s₁ with heap := h, toks := tk }
theorem TL.split {news : Ldg} : ∀ {vs : List Value} {nss : List (List Nat)}, TL news vs nss → ∃ wss : List (List Value), wss.length = vs.length ∧ NA wss.flatten nss.flatten ∧ ∀ (i : Nat) (v : Value), vs[i]? = some v → ∃ (T : Addr) (ws : List Value), v = .ref T ∧ wss[i]? = some ws ∧ (T, tupObj ws) ∈ news
  | _, _, .nil => ⟨[], rfl, .nil, fun i v h => by cases h⟩
  | _, _, .cons (t := t) (ws := ws) hm hw r => by
    obtain ⟨wss, a, b, c⟩ := r.split
    refine ⟨ws :: wss, by simp [a], by simpa using hw.append b, fun i v h => ?_⟩
    cases i with
    | zero => simp at h; subst h; exact ⟨t, ws, rfl, rfl, hm⟩
    | succ i =>
      simp at h
      obtain ⟨T, us, e1, e2, e3⟩ := c i v h
      exact ⟨T, us, e1, by simpa using e2, e3⟩
open PyProof.Rows.LCg in
theorem flat_ListComp {h₀ : Heap} {L : Addr} {m : Str → Option Value} {cl : List (Str × Addr)} {Q : Value → Shared → Prop}
    (hclos : closureFor scope env = pure cl) (hcell : ∀ y ∈ scope.names, y.2 ≠ .cell) (hkind : scope.kind = .function)
    (hnames : ∀ y ∈ scope.names, y.2 = .local → scope.names.lookup y.1 = some .local) (hx : scope.names.lookup x = some .local) (hy : scope.names.lookup y = some .local) (hdb : (y == ("__debug__" : Str)) = false) (hdx : (x == ("__debug__" : Str)) = false)
    (h : wpAny (model prog w) A (eval iter env) (FlatSrc A h₀ L m Q) E s)
    (hs : ∀ x, foldedSetIterable iter env x = pure x := by intro _; rfl) :
    wpAny (model prog w) A (eval (ex2 x y px px2 py pe iter scope pos) env) Q E s := by
  rw [eval_ListComp]
  refine wpAny_comprehension_free (use := none) rfl hs hclos hkind hnames (wpAny_mono h (fun xv s₁ h₁ => ?_) fun _ _ e => e)
  obtain ⟨ax, vs, n, nss, news, rfl, hh, F, N, hm, hT, hsz, fin⟩ := h₁
  have hl : s₁.heap.IsList ax vs.toArray := my_isList N hm
  have hlt : ax < s₁.heap.objs.size := news_lt N hm
  refine wpAny_pyIter_list hl ?_
  refine wpAny_newObj_type (wpAny_newFunctionEnv hcell (by intro y hy; simp at hy) (fun h₁ hns₁ hsb₁ => ?_) hkind)
  dsimp only at hns₁ hsb₁ ⊢
  generalize hH1 : s₁.heap.push { cls := .type "list_iterator", data := .fields #[.ref ax, .int 0 0] } = H1 at hns₁ hsb₁ ⊢
  have sz1 : H1.objs.size = s₁.heap.objs.size + 1 := by rw [← hH1, Heap.size_push]
  generalize hH2 : H1.push { cls := .type "list", dict := none, data := .seq ([] : List Value).toArray } = H2 at hns₁ hsb₁ ⊢
  have sz2 : H2.objs.size = s₁.heap.objs.size + 1 + 1 := by rw [← hH2, Heap.size_push, sz1]
  have old1 : ∀ b o, s₁.heap.get? b = some o → H1.get? b = some o := fun b o e => hH1 ▸ Heap.get?_push_of_some _ e
  have old2 : ∀ b o, H1.get? b = some o → H2.get? b = some o := fun b o e => hH2 ▸ Heap.get?_push_of_some _ e
  have bl : ∀ b o, s₁.heap.get? b = some o → b ≠ s₁.heap.objs.size ∧ b ≠ H1.objs.size ∧ b ≠ H2.objs.size := fun b o e => by
    have := Heap.lt_size e
    rw [sz1, sz2]
    unfold Addr at *
    omega
  have old : ∀ b o, s₁.heap.get? b = some o → h₁.get? b = some o := fun b o e => hsb₁.extBut b o (bl b o e).2.2 (Heap.get?_push_of_some _ (old2 _ _ (old1 _ _ e)))
  have hCI : s₁.heap.objs.size ≠ H2.objs.size := by rw [sz2]; unfold Addr at *; omega
  have hDI : s₁.heap.objs.size ≠ H1.objs.size := by rw [sz1]; unfold Addr at *; omega
  have hCD : H2.objs.size ≠ H1.objs.size := by rw [sz1, sz2]; unfold Addr at *; omega
  have hit₁ : h₁.IsListIter s₁.heap.objs.size ax 0 := ⟨_, hsb₁.extBut _ _ hCI (Heap.get?_push_of_some _ (old2 _ _ (hH1 ▸ Heap.get?_push_size _ rfl))), rfl, rfl⟩
  have hacc : h₁.get? H1.objs.size = some (lst []) := hsb₁.extBut _ _ (Ne.symm hCD) (Heap.get?_push_of_some _ (hH2 ▸ Heap.get?_push_size _ rfl))
  have fresh₀ : ∀ a, s₁.heap.objs.size ≤ a → h₀.get? a = none := fun a ha => Heap.get?_none_of_le (Nat.le_trans F.above (Nat.le_trans (Nat.le_of_lt F.ns.lt) ha))
  have hLlt : L < s₁.heap.objs.size := F.ns.lt
  have hI₀ : h₀.get? s₁.heap.objs.size = none := fresh₀ _ (Nat.le_refl _)
  have hD₀ : h₀.get? H1.objs.size = none := fresh₀ _ (by rw [sz1]; exact Nat.le_succ _)
  have hC₀ : h₀.get? H2.objs.size = none := fresh₀ _ (by rw [sz2]; exact Nat.le_succ_of_le (Nat.le_succ _))
  have hLI : L ≠ s₁.heap.objs.size := Nat.ne_of_lt hLlt
  have hLD : L ≠ H1.objs.size := by rw [sz1]; exact Nat.ne_of_lt (Nat.lt_succ_of_lt hLlt)
  have hLC : L ≠ H2.objs.size := by rw [sz2]; exact Nat.ne_of_lt (Nat.lt_succ_of_lt (Nat.lt_succ_of_lt hLlt))
  obtain ⟨oax, hoax, -⟩ := id hl
  obtain ⟨wss, hw1, hw2, hw3⟩ := hT.split
  have loop : ∀ s₃ : Shared, (∃ tk, s₃ = { s₁ with heap := h₁, toks := tk }) → codeAny (model prog w) A (.compLoop (ex2 x y px px2 py pe iter scope pos) 0 (.ref s₁.heap.objs.size) (.ref H1.objs.size) (compEnvC scope cl H2.objs.size env)) (compPost (model prog w) A E none Q (.ref H1.objs.size) H2.objs.size) s₃ := by
    rintro s₃ ⟨tk₃, rfl⟩
    refine flat_outer (C := H2.objs.size) (D := H1.objs.size) (I := s₁.heap.objs.size) (ax := ax) (vs := vs) (wss := wss) hh (lookup_relabel_local hx) (lookup_relabel_local hy) (by simp [compEnvC, relabel, hkind]) rfl hdb hdx hit₁ (hl.at fun o e => old _ o e) hacc hns₁ hCI hDI (bl _ _ hoax).1 (bl _ _ hoax).2.2 (bl _ _ hoax).2.1 hCD ?_ hw1 (by rw [hw2.length]; exact hsz) ?_
    · intro i v hv
      obtain ⟨T, ws, e1, e2, e3⟩ := hw3 i v hv
      have b := bl _ _ (N _ e3).1
      exact ⟨T, ws, e1, e2, ⟨_, old _ _ (N _ e3).1, rfl, _, rfl⟩, b.2.2, b.1, b.2.1⟩
    · intro h' tk m' hn' hD' hk'
      have keep : ∀ b o, s₁.heap.get? b = some o → h'.get? b = some o := fun b o e => hk' b o (bl b o e).2.2 (bl b o e).1 (bl b o e).2.1 (old b o e)
      refine ⟨m', hn', fun h'' hs'' => fin H1.objs.size h'' tk wss.flatten ((F.keeps keep).change hs'' (Ne.symm hLC) hC₀) (fun p hp => ?_) (fun p hp => ?_) hw2⟩
      · rcases List.mem_cons.mp hp with rfl | hp
        · exact ⟨hs''.extBut _ _ (Ne.symm hCD) hD', Ne.symm hLD, hD₀⟩
        · exact ⟨hs''.extBut _ _ (bl _ _ (N p hp).1).2.2 (keep _ _ (N p hp).1), (N p hp).2⟩
      · have := Heap.lt_size (N p hp).1
        rw [sz1]
        exact Nat.lt_succ_of_lt this
  have W := Walks.list (prog := prog) (w := w) (A := A) hh s₁.heap.objs.size ax (bl _ _ hoax).1 vs.toArray
  exact codeAny_compStart_list (loop _ ⟨_, rfl⟩) (W.self 0 _ _ _ ⟨hit₁, hl.at fun o e => old _ o e⟩ (loop _ ⟨_, rfl⟩))
theorem flat_ListCompF {h₀ : Heap} {L : Addr} {m : Str → Option Value} {cl : List (Str × Addr)} {Q : Value → Shared → Prop} (_F : Fr h₀ L s.heap m)
    (hclos : closureFor scope env = pure cl) (hcell : ∀ y ∈ scope.names, y.2 ≠ .cell) (hkind : scope.kind = .function)
    (hnames : ∀ y ∈ scope.names, y.2 = .local → scope.names.lookup y.1 = some .local) (hx : scope.names.lookup x = some .local) (hy : scope.names.lookup y = some .local) (hdb : (y == ("__debug__" : Str)) = false) (hdx : (x == ("__debug__" : Str)) = false)
    (hs : ∀ x, foldedSetIterable iter env x = pure x)
    (h : wpAny (model prog w) A (eval iter env) (FlatSrc A h₀ L m Q) E s) :
    wpAny (model prog w) A (eval (.ListComp (.Name y pe) [⟨.Name x px, iter, [], 0⟩, ⟨.Name y py, .Name x px2, [], 0⟩] scope pos) env) Q E s := flat_ListComp hclos hcell hkind hnames hx hy hdb hdx h hs
end

-- after: 30 31 32
def pairN (D : List Nod) (k : Nat) : List Nat :=
  match D[k]? with
  | none => []
  | some x => match x.par with
    | none => []
    | some p => [x.sort, (((D[p]?.map fun y => y.lst x.sort).getD []).idxOf? k).getD 0]
theorem pairN_eq {D : List Nod} {k p : Nat} {x y : Nod} (hx : D[k]? = some x) (hp : x.par = some p) (hy : D[p]? = some y) {j : Nat} (hj : (y.lst x.sort).idxOf? k = some j) : pairN D k = [x.sort, j] := by
  unfold pairN; simp only [hx, hp, hy, Option.map_some, Option.getD_some, hj]
theorem plN_pair {D : List Nod} (W : Wf D) {k : Nat} (h0 : 0 < k) (hk : k < D.length) : ∃ (p : Nat) (x y : Nod), D[k]? = some x ∧ x.par = some p ∧ p < k ∧ D[p]? = some y ∧ (∃ j, (y.lst x.sort).idxOf? k = some j ∧ pairN D k = [x.sort, j]) ∧ plN D k = plN D p ++ pairN D k := by
  have hx := List.getElem?_eq_getElem hk
  obtain ⟨p, y, hp, hlt, hy, hm⟩ := W.w1 k _ hx h0
  obtain ⟨j, hj⟩ := idx_some hm
  exact ⟨p, _, y, hx, hp, hlt, hy, ⟨j, hj, pairN_eq hx hp hy hj⟩, by rw [pairN_eq hx hp hy hj]; exact plN_step hx hp hlt hy hj⟩
theorem way_pairs {t : Tr} {D : List Nod} (W : Wf D) (M : TM t.rows D) : ∀ (n k : Nat), k < n → k < D.length → ∀ us, Up t (some k) us → ((us.reverse.drop 1).map (pairN D)).flatten = plN D k ∧ (∀ b ∈ us.reverse.drop 1, 0 < b ∧ b < D.length) ∧ (0 < k → us.reverse.drop 1 ≠ [] ∧ (us.reverse.drop 1).getLast? = some k) ∧ (k = 0 → us.reverse.drop 1 = [])
  | 0, k, h, _, _, _ => absurd h (Nat.not_lt_zero _)
  | n + 1, k, hn, hk, us, hu => by
    have hx := List.getElem?_eq_getElem hk
    obtain ⟨r, hr, r1, -⟩ := M k _ hx
    cases hu with
    | cons hr' hu' =>
    rename_i r' us'
    rw [hr] at hr'; cases hr'
    rcases Nat.eq_zero_or_pos k with rfl | h0
    · obtain ⟨x', hx', hp⟩ := W.w0
      rw [hx] at hx'; cases hx'
      rw [r1, hp] at hu'
      cases hu'
      refine ⟨by rw [plN_root hx hp]; rfl, by simp, fun h => absurd h (Nat.lt_irrefl _), fun _ => rfl⟩
    · obtain ⟨p, x, y, hx2, hp, hlt, hy, -, hpl⟩ := plN_pair W h0 hk
      rw [hx] at hx2; cases hx2
      rw [r1, hp] at hu'
      obtain ⟨i1, i2, i3, i4⟩ := way_pairs W M n p (by omega) (by omega) us' hu'
      have hne : 1 ≤ us'.reverse.length := by
        cases hu' with
        | cons _ _ => simp
      have e : (k :: us').reverse.drop 1 = us'.reverse.drop 1 ++ [k] := by
        rw [List.reverse_cons, List.drop_append_of_le_length hne]
      refine ⟨?_, ?_, fun _ => ⟨by rw [e]; simp, by rw [e]; simp⟩, fun h => by omega⟩
      · rw [e, List.map_append, List.flatten_append, i1, hpl]; simp
      · intro b hb
        rw [e] at hb
        rcases List.mem_append.mp hb with h | h
        · exact i2 b h
        · rw [List.mem_singleton.mp h]; exact ⟨h0, hk⟩

theorem nod_lists (y : Nod) {i : Nat} {l : List Nat} (h : [y.nsp, y.atr, y.ch][i]? = some l) : i < 3 ∧ l = y.lst i := by
  match i, h with
  | 0, h => simp at h; exact ⟨by decide, h.symm⟩
  | 1, h => simp at h; exact ⟨by decide, h.symm⟩
  | 2, h => simp at h; exact ⟨by decide, h.symm⟩
  | i + 3, h => simp at h
/-- what _law_pair asks of the book, for a node beneath the topmost one -/
theorem pair_facts {b : Bk} {D : List Nod} (W : Wf D) (B : BM b.rows D) {k : Nat} (h0 : 0 < k) (hk : k < D.length) : ∃ (r rq : BRow) (q sn jn : Nat), b.rows[k]? = some r ∧ r.par = some q ∧ b.rows[q]? = some rq ∧ (∀ (i : Nat) (l : List Nat), [rq.nsp, rq.atr, rq.ch][i]? = some l → l.idxOf? k = if i = sn then some jn else none) ∧ sn < 3 ∧ pairN D k = [sn, jn] := by
  obtain ⟨p, x, y, hx, hp, hlt, hy, ⟨j, hj, hpn⟩, -⟩ := plN_pair W h0 hk
  obtain ⟨r, hr, a1, -⟩ := B k x hx
  obtain ⟨rq, hrq, -, c1, c2, c3⟩ := B p y hy
  refine ⟨r, rq, p, x.sort, j, hr, a1.trans hp, hrq, fun i l h => ?_, W.w5 k x hx, hpn⟩
  rw [c1, c2, c3] at h
  obtain ⟨hi, rfl⟩ := nod_lists y h
  split
  · rename_i e; rw [e]; exact hj
  · rename_i e
    rw [List.idxOf?_eq_none_iff]
    intro hm
    obtain ⟨x', hx', -, hs⟩ := W.w2 p y i k hy hi hm
    rw [hx] at hx'; cases hx'
    exact e hs.symm
theorem among_facts {t : Tr} {b : Bk} {D : List Nod} (W : Wf D) (M : TM t.rows D) (B : BM b.rows D) {k : Nat} (h0 : 0 < k) (hk : k < D.length) : ∃ (p : Nat) (rb : BRow) (rp rn : Row) (j : Nat), b.rows[k]? = some rb ∧ rb.par = some p ∧ t.rows[p]? = some rp ∧ t.rows[k]? = some rn ∧ (rp.lst (sortOf rn.kind)).idxOf? k = some j ∧ pairN D k = [sortOf rn.kind, j] := by
  obtain ⟨p, x, y, hx, hp, hlt, hy, ⟨j, hj, hpn⟩, -⟩ := plN_pair W h0 hk
  obtain ⟨rb, hrb, a1, -⟩ := B k x hx
  obtain ⟨rn, hrn, -, -, -, -, e5⟩ := M k x hx
  obtain ⟨rp, hrp, -, c1, c2, c3, -⟩ := M p y hy
  refine ⟨p, rb, rp, rn, j, hrb, a1.trans hp, hrp, hrn, ?_, by rw [e5]; exact hpn⟩
  rw [e5, row_lst c1 c2 c3 (W.w5 k x hx)]; exact hj
theorem sord_of {b : Bk} {D : List Nod} (W : Wf D) (B : BM b.rows D) (h0 : 0 < D.length) : SOrd D.length (fun i j => lexb (plN D i) (plN D j)) :=
  ⟨fun i => lexb_irr _, fun i j k => lexb_tr _ _ _, fun i j hi hj hne => lex_tot W B h0 hi hj hne⟩

-- after: 19
theorem pool_call {prog : Program} {p : Program} {loose : List Str} {mean : ExcName → Option Value} {mg mb : Str → Option Value} {dp un : Nat} {gd : Option (List Code)} {cn : Str} {cs : Scope} {a : Addr} {ccd : Value} {cl : List (Str × Addr)} {outer : List Env} {A₀ : Around} {base h₀ : Heap} {L : Addr} {m : Str → Option Value} {s : Shared} {Q E : Value → Shared → Prop}
    {w : World} {news : Ldg} {l : Addr} {vs : List Value} {zs : List Int} {tk : Tok} (hi : IntsAre vs zs) (hl : base.IsList l vs.toArray) (hz : zs.length ≤ 63)
    (B : Below A₀ base outer h₀) (F : Fr h₀ L s.heap m) (X : (hd.heap_1 w.params).In h₀) (N : News h₀ L s.heap news) (TT : Top p loose mean mg mb h₀) (hk : cs.kind = .function) (hdp : dp + 2 < recursionLimit) (hun : un + 8 * 2 < cLine)
    (hret : ∀ S a b ta tb n h' tk', 0 ≤ a → 0 ≤ b → b < 2147483647 → Fr h₀ L h' m → News h₀ L h' ((S, listOf [Value.int a ta, Value.int b tb].toArray n) :: news) → (∀ q ∈ news, q.1 < S) → Q (.ref S) { s with heap := h', toks := tk' }) :
    wpAny (model prog w) (ktrTop dp un gd cn cs L a ccd cl outer) (call (.ref 307) [.ref l, .int 0 tk]) Q E s := by
  have hl1 := hi.length
  refine wpAny_call ?_
  ktr_enter
  rename Below _ _ _ _ => B2
  have hl2 := stays_list (Below.stays B2) hl
  k_steps
  all_goals (rename (∀ p ∈ news, _ < _) => l9)
  all_goals refine hret _ _ _ _ _ _ _ _ (Int.mul_nonneg ?_ ?_) (Int.fmod_nonneg_of_pos _ (by decide)) (Int.fmod_lt_of_pos _ (by decide)) (by assumption) (by assumption) l9
  all_goals (split <;> omega)

-- after: 28
/-- Tree(): a tree without rows -/
theorem tree_does {w : World} {news : Ldg} :
    Does w (.ref 282) 3 [] news (fun r news' => ∃ t : Tr, r = .ref t.T ∧ t.rows = [] ∧ t.In w news' ∧ (∀ p ∈ news, p ∈ news') ∧ ∀ a ∈ t.adr, ∀ p ∈ news, p.1 < a) := by
  intro prog p loose mean mg mb dp un gd cn cs a ccd cl outer A₀ base h₀ L m s Q E B F X N TT hk hdp hun hret
  refine' call_cls ?k1 ?k2 ?k3 ?k4 ?k5 ?k6 ?_
  (case k1 => k_asm)
  (case k2 => k_asm)
  (case k3 => k_asm)
  (case k4 => k_is)
  (case k5 => k_is)
  (case k6 => k_is)
  k_whole
  intro x' d' h' F' N' l1 l2
  (try k_lt l1); (try k_lt2 l2); (try k_sweep)
  ktr_enter
  k_steps
  rename _ ∧ _ ∧ AllLt _ news => q3
  obtain ⟨t, hT, hrows, I, hfr⟩ := tree0 (w := w) l1 l2 q3
  exact hret (.ref _) _ _ _ (by assumption) (by assumption) ⟨t, by rw [hT], hrows, I, fun p hp => .tail _ (.tail _ (.tail _ hp)), hfr⟩

-- after: 33 34 35 36 38
/-- four objects of the ledger put ahead of it; nothing is lost -/
theorem front4 {h₀ h : Heap} {L : Addr} {news : Ldg} {q3 q2 q1 q0 : Addr × Obj} (N : News h₀ L h news) (m3 : q3 ∈ news) (m2 : q2 ∈ news) (m1 : q1 ∈ news) (m0 : q0 ∈ news) :
    ∃ rest : Ldg, News h₀ L h (q3 :: q2 :: q1 :: q0 :: rest) ∧ (∀ q ∈ news, q ∈ q3 :: q2 :: q1 :: q0 :: rest) ∧ (∀ q ∈ q3 :: q2 :: q1 :: q0 :: rest, q ∈ news) ∧ (∀ q ∈ rest, q.1 ≠ q3.1 ∧ q.1 ≠ q2.1 ∧ q.1 ≠ q1.1 ∧ q.1 ≠ q0.1) := by
  refine ⟨news.filter fun p => p.1 ≠ q3.1 ∧ p.1 ≠ q2.1 ∧ p.1 ≠ q1.1 ∧ p.1 ≠ q0.1, ?_, ?_, ?_, ?_⟩
  · intro p hp
    simp only [List.mem_cons] at hp
    rcases hp with rfl | rfl | rfl | rfl | hp
    · exact N _ m3
    · exact N _ m2
    · exact N _ m1
    · exact N _ m0
    · exact N _ (List.mem_filter.mp hp).1
  · intro q hq
    have same : ∀ q' ∈ news, q.1 = q'.1 → q = q' := fun q' hq' e => by
      obtain ⟨a, o⟩ := q
      obtain ⟨a', o'⟩ := q'
      dsimp only at e
      subst e
      rw [news_fun N hq hq']
    by_cases e3 : q.1 = q3.1
    · rw [same q3 m3 e3]; simp
    · by_cases e2 : q.1 = q2.1
      · rw [same q2 m2 e2]; simp
      · by_cases e1 : q.1 = q1.1
        · rw [same q1 m1 e1]; simp
        · by_cases e0 : q.1 = q0.1
          · rw [same q0 m0 e0]; simp
          · simp only [List.mem_cons]
            exact .inr (.inr (.inr (.inr (List.mem_filter.mpr ⟨hq, by simp [e3, e2, e1, e0]⟩))))
  · intro p hp
    simp only [List.mem_cons] at hp
    rcases hp with rfl | rfl | rfl | rfl | hp
    · exact m3
    · exact m2
    · exact m1
    · exact m0
    · exact (List.mem_filter.mp hp).1
  · intro q hq
    simpa using (List.mem_filter.mp hq).2
/-- the four objects ahead, the tree behind them -/
theorem Tr.In.front {w : World} {t : Tr} {news' : Ldg} {a3 a2 a1 a0 : Addr} {o3 o2 o1 o0 : Obj} {h₀ h : Heap} {L : Addr} (I : t.In w news') (N : News h₀ L h news') (p3 : (a3, o3) ∈ news' ∧ a3 ∉ t.adr) (p2 : (a2, o2) ∈ news' ∧ a2 ∉ t.adr) (p1 : (a1, o1) ∈ news' ∧ a1 ∉ t.adr) (p0 : (a0, o0) ∈ news' ∧ a0 ∉ t.adr) :
    ∃ rest' : Ldg, News h₀ L h ((a3, o3) :: (a2, o2) :: (a1, o1) :: (a0, o0) :: rest') ∧ t.In w rest' ∧ (∀ a ∈ [a3, a2, a1, a0], a ∉ t.adr) ∧ ∀ q ∈ rest', q.1 ≠ a3 ∧ q.1 ≠ a2 ∧ q.1 ≠ a1 ∧ q.1 ≠ a0 := by
  obtain ⟨rest', N', up, -, off⟩ := front4 N p3.1 p2.1 p1.1 p0.1
  refine ⟨rest', N', I.mono fun p hp hpa => ?_, ?_, off⟩
  · have := up p hp
    simp only [List.mem_cons] at this
    rcases this with rfl | rfl | rfl | rfl | h
    · exact absurd hpa p3.2
    · exact absurd hpa p2.2
    · exact absurd hpa p1.2
    · exact absurd hpa p0.2
    · exact h
  · simp only [List.forall_mem_cons]
    exact ⟨p3.2, p2.2, p1.2, p0.2, fun _ h => (nomatch h)⟩
/-- what stands apart from the tree stands apart from the grown one -/
theorem Grown.apart {w : World} {news : Ldg} {t : Tr} {kd nm ur lc : Str} {par : Option Nat} {row : Row} {t' : Tr} {news' : Ldg} (G : Grown w news t kd nm ur lc par row t' news') (ha : t'.adr = t.adr ++ row.adr) {q : Addr × Obj} (hq : q ∈ news ∧ q.1 ∉ t.adr) : q ∈ news' ∧ q.1 ∉ t'.adr := by
  refine ⟨G.keep q hq.1 hq.2, fun h => ?_⟩
  rw [ha] at h
  rcases List.mem_append.mp h with h | h
  · exact hq.2 h
  · exact Nat.lt_irrefl _ (G.fresh _ h q hq.1)
/-- behind a call that grew the tree: the four objects ahead again, the tree behind them -/
theorem Grown.front {w : World} {rest : Ldg} {t : Tr} {kd nm ur lc : Str} {par : Option Nat} {row : Row} {t' : Tr} {news' : Ldg} {a3 a2 a1 a0 : Addr} {o3 o2 o1 o0 : Obj} (G : Grown w ((a3, o3) :: (a2, o2) :: (a1, o1) :: (a0, o0) :: rest) t kd nm ur lc par row t' news')
    {h₀ h : Heap} {L : Addr} (N : News h₀ L h news') (ha : t'.adr = t.adr ++ row.adr) (hn : ∀ a ∈ [a3, a2, a1, a0], a ∉ t.adr) :
    ∃ rest' : Ldg, News h₀ L h ((a3, o3) :: (a2, o2) :: (a1, o1) :: (a0, o0) :: rest') ∧ t'.In w rest' ∧ (∀ a ∈ [a3, a2, a1, a0], a ∉ t'.adr) ∧ ∀ q ∈ rest', q.1 ≠ a3 ∧ q.1 ≠ a2 ∧ q.1 ≠ a1 ∧ q.1 ≠ a0 := by
  simp only [List.forall_mem_cons] at hn
  obtain ⟨n3, n2, n1, n0, -⟩ := hn
  have p3 := G.apart ha (q := (a3, o3)) ⟨by simp, n3⟩
  have p2 := G.apart ha (q := (a2, o2)) ⟨by simp, n2⟩
  have p1 := G.apart ha (q := (a1, o1)) ⟨by simp, n1⟩
  have p0 := G.apart ha (q := (a0, o0)) ⟨by simp, n0⟩
  obtain ⟨rest', N', up, -, off⟩ := front4 N p3.1 p2.1 p1.1 p0.1
  refine ⟨rest', N', G.tree.mono fun p hp hpa => ?_, ?_, off⟩
  · have := up p hp
    simp only [List.mem_cons] at this
    rcases this with rfl | rfl | rfl | rfl | h
    · exact absurd hpa p3.2
    · exact absurd hpa p2.2
    · exact absurd hpa p1.2
    · exact absurd hpa p0.2
    · exact h
  · simp only [List.forall_mem_cons]
    exact ⟨p3.2, p2.2, p1.2, p0.2, fun _ h => (nomatch h)⟩
theorem Tr.In.four {w : World} {rest : Ldg} {t : Tr} (I : t.In w rest) (q3 q2 q1 q0 : Addr × Obj) : t.In w (q3 :: q2 :: q1 :: q0 :: rest) := I.mono fun _ hp _ => .tail _ (.tail _ (.tail _ (.tail _ hp)))
theorem addput_adr' {t : Tr} {row : Row} {k : Nat} {r r' : Row} (hr : t.rows[k]? = some r) (e : r'.adr = r.adr) : ((t.add row).put k r').adr = t.adr ++ row.adr := addput_adr hr e

section
variable {M : Model} {A : Around} {E : Value → Shared → Prop} {s : Shared} {h₀ : Heap} {L a : Addr} {m : Str → Option Value} {cn : Str} {cs : Scope} {ccd : Value} {cl : List (Str × Addr)} {x : Str} {v : Value} {Q : Unit → Shared → Prop} {v₀ : Option Value} {rest : Ldg} {a3 a2 a1 a0 : Addr} {o3 o2 o1 o0 : Obj}
def Four (a3 a2 a1 a0 : Addr) : Prop := a3 ≠ a2 ∧ a3 ≠ a1 ∧ a3 ≠ a0 ∧ a2 ≠ a1 ∧ a2 ≠ a0 ∧ a1 ≠ a0
theorem store1 (F : Fr h₀ L s.heap m) (N : News h₀ L s.heap ((a3, o3) :: (a2, o2) :: (a1, o1) :: (a0, o0) :: rest)) (off : ∀ q ∈ rest, q.1 ≠ a3 ∧ q.1 ≠ a2 ∧ q.1 ≠ a1 ∧ q.1 ≠ a0) (d4 : Four a3 a2 a1 a0) (hd : o1.data = .cell v₀) (hc : cl.lookup x = some a1)
    (hk : cs.kind = .function) (hx : (envX cn cs L a ccd cl).kindOf x = some .cell)
    (h : ∀ h' o', Fr h₀ L h' m → News h₀ L h' ((a3, o3) :: (a2, o2) :: (a1, o') :: (a0, o0) :: rest) → o'.data = .cell (some v) → Q () { s with heap := h' }) : wpAny M A (storeName (envX cn cs L a ccd cl) x v) Q E s := by
  obtain ⟨d1, d2, d3, d5, d6, d7⟩ := d4
  refine storeX_C F N hc (.tail d2 (.tail d5 (.head fun p hp => ?_))) hd h hk hx
  rcases List.mem_cons.mp hp with rfl | hp
  · exact Ne.symm d7
  · exact (off p hp).2.2.1
theorem store2 (F : Fr h₀ L s.heap m) (N : News h₀ L s.heap ((a3, o3) :: (a2, o2) :: (a1, o1) :: (a0, o0) :: rest)) (off : ∀ q ∈ rest, q.1 ≠ a3 ∧ q.1 ≠ a2 ∧ q.1 ≠ a1 ∧ q.1 ≠ a0) (d4 : Four a3 a2 a1 a0) (hd : o2.data = .cell v₀) (hc : cl.lookup x = some a2)
    (hk : cs.kind = .function) (hx : (envX cn cs L a ccd cl).kindOf x = some .cell)
    (h : ∀ h' o', Fr h₀ L h' m → News h₀ L h' ((a3, o3) :: (a2, o') :: (a1, o1) :: (a0, o0) :: rest) → o'.data = .cell (some v) → Q () { s with heap := h' }) : wpAny M A (storeName (envX cn cs L a ccd cl) x v) Q E s := by
  obtain ⟨d1, d2, d3, d5, d6, d7⟩ := d4
  refine storeX_C F N hc (.tail d1 (.head fun p hp => ?_)) hd h hk hx
  rcases List.mem_cons.mp hp with rfl | hp
  · exact Ne.symm d5
  rcases List.mem_cons.mp hp with rfl | hp
  · exact Ne.symm d6
  · exact (off p hp).2.1
theorem store3 (F : Fr h₀ L s.heap m) (N : News h₀ L s.heap ((a3, o3) :: (a2, o2) :: (a1, o1) :: (a0, o0) :: rest)) (off : ∀ q ∈ rest, q.1 ≠ a3 ∧ q.1 ≠ a2 ∧ q.1 ≠ a1 ∧ q.1 ≠ a0) (d4 : Four a3 a2 a1 a0) (hd : o3.data = .cell v₀) (hc : cl.lookup x = some a3)
    (hk : cs.kind = .function) (hx : (envX cn cs L a ccd cl).kindOf x = some .cell)
    (h : ∀ h' o', Fr h₀ L h' m → News h₀ L h' ((a3, o') :: (a2, o2) :: (a1, o1) :: (a0, o0) :: rest) → o'.data = .cell (some v) → Q () { s with heap := h' }) : wpAny M A (storeName (envX cn cs L a ccd cl) x v) Q E s := by
  obtain ⟨d1, d2, d3, d5, d6, d7⟩ := d4
  refine storeX_C F N hc (.head fun p hp => ?_) hd h hk hx
  rcases List.mem_cons.mp hp with rfl | hp
  · exact Ne.symm d1
  rcases List.mem_cons.mp hp with rfl | hp
  · exact Ne.symm d2
  rcases List.mem_cons.mp hp with rfl | hp
  · exact Ne.symm d3
  · exact (off p hp).1
end
theorem four_of {S : Nat} (h : 349 < S) : Four (S + 1 + 1 + 1) (S + 1 + 1) (S + 1) 349 := by
  unfold Four
  refine ⟨?_, ?_, ?_, ?_, ?_, ?_⟩ <;> (intro e; (have e' : @Eq Nat _ _ := e); omega)
theorem NA.two {vs : List Value} {a b : Nat} (h : NA vs [a, b]) : ∃ t u, vs = [.int (a : Int) t, .int (b : Int) u] := by
  cases h with
  | cons _ t h => cases h with
    | cons _ u h => cases h; exact ⟨t, u, rfl⟩
section
open PyProof.Rows.LCg
theorem comp_end1 {h₀ : Heap} {L I C D : Addr} {m : Str → Option Value} {s₁ : Shared} {oI oC oD : Obj} {S : Ldg → Prop} {rest : Value → Ldg → Prop} {y : Value} {h' : Heap} {tk : Nat} {news : Ldg} {q : Addr × Obj}
    (F : Fr h₀ L h' m) (N : News h₀ L h' (q :: (I, oI) :: (C, oC) :: (D, oD) :: news)) (hlt : ∀ p ∈ (I, oI) :: (C, oC) :: (D, oD) :: news, p.1 < q.1) (off : Off3 I C D news) (hS : S (q :: news)) (r : rest y (q :: news)) :
    CompEnd h₀ L m s₁ I oI C oC D oD S rest y { s₁ with heap := h', toks := tk } := by
  refine CompEnd.intro F N (q :: news) (fun p hp => ?_) ⟨⟨Nat.ne_of_gt (hlt (I, oI) (by simp)), Nat.ne_of_gt (hlt (C, oC) (by simp)), Nat.ne_of_gt (hlt (D, oD) (by simp))⟩, off⟩ hS r
  simp only [List.mem_cons] at hp ⊢
  rcases hp with h | h | h | h | h <;> simp [h]
theorem comp_inv {prog : Program} {w : World} {A : Around} {h₀ : Heap} {L : Addr} {m : Str → Option Value} {env : Env} {elt : PySem.Expr} {x : Str} {scope : Scope} {cl : List (Str × Addr)} {s : Shared} {S : Ldg → Prop} {P : Nat → Value → Prop} {Fin : List Value → Ldg → Prop} {n : Nat} (J : Nat → List Value → Ldg → Prop)
    (step : ∀ i ys news v I oI C oC D m₂ h tk (E' : Value → Shared → Prop), i < n → J i ys news → P i v → NsObj oC m₂ → m₂ x = some v → Fr h₀ L h m → News h₀ L h ((I, oI) :: (C, oC) :: (D, lst ys) :: news) → Off3 I C D news →
      wpAny (model prog w) A (eval elt (compEnvC scope cl C env)) (CompEnd h₀ L m { s with heap := h, toks := tk } I oI C oC D (lst ys) S (fun y news' => J (i + 1) (ys ++ [y]) news')) E' { s with heap := h, toks := tk })
    (fin : ∀ ys news, J n ys news → Fin ys news) : ∀ k i ys news, i + k = n → J i ys news → CompRest prog w A h₀ L m env elt x scope cl s S P Fin k i ys news
  | 0, i, ys, news, e, hJ => fin ys news (by rw [Nat.add_zero] at e; rw [← e]; exact hJ)
  | k + 1, i, ys, news, e, hJ => by
    refine CompRest.succ fun v I oI C oC D m₂ h tk E' hP hC hx F N off _ => ?_
    refine wpAny_mono (step i ys news v I oI C oC D m₂ h tk E' (by omega) hJ hP hC hx F N off) (fun y s₂ he => ?_) fun _ _ e => e
    obtain ⟨h', tk', news', e1, F', N', off', hS, hJ'⟩ := he
    exact ⟨h', tk', news', e1, F', N', off', hS, comp_inv J step fin k (i + 1) (ys ++ [y]) news' (by omega) hJ'⟩
end
theorem fr_gen {h₀ h : Heap} {L : Addr} {m : Str → Option Value} {v : Value} (F : Fr h₀ L h m) (hv : m (Str.ofString "script") = some v) : ∃ m', Fr h₀ L h m' ∧ m' (Str.ofString "script") = some v := ⟨m, F, hv⟩
theorem news_tails {h₀ h : Heap} {L : Addr} {news : Ldg} (pre : Ldg) (N : News h₀ L h (pre ++ news)) : News h₀ L h news := fun p hp => N p (List.mem_append_right _ hp)
theorem Built.front {w : World} {news : Ldg} {S : Addr} {t : Tr} {b : Bk} {D : List Nod} {row : Row} {tup : Addr} {tk : Tok} {news' : Ldg} {a3 a2 a1 a0 : Addr} {o3 o2 o1 o0 : Obj} {x : Obj} (G : Built w ((S, x) :: (a3, o3) :: (a2, o2) :: (a1, o1) :: (a0, o0) :: news) S t b D row tup tk news') {h₀ h : Heap} {L : Addr} (N : News h₀ L h news')
    (hlt : ∀ q ∈ (a3, o3) :: (a2, o2) :: (a1, o1) :: (a0, o0) :: news, q.1 < S) :
    ∃ rest' : Ldg, News h₀ L h ((a3, o3) :: (a2, o2) :: (a1, o1) :: (a0, o0) :: rest') ∧ (∀ q ∈ rest', q.1 ≠ a3 ∧ q.1 ≠ a2 ∧ q.1 ≠ a1 ∧ q.1 ≠ a0) ∧ (tup, tupObj [.ref t.T, .ref b.B, .int (D.length : Int) tk]) ∈ (a3, o3) :: (a2, o2) :: (a1, o1) :: (a0, o0) :: rest' ∧ t.In w rest' ∧ b.In rest' := by
  have k : ∀ q ∈ (a3, o3) :: (a2, o2) :: (a1, o1) :: (a0, o0) :: news, q ∈ news' ∧ q.1 ∉ t.adr ∧ q.1 ∉ b.adr := fun q hq => ⟨G.keep q (.tail _ hq) (Nat.ne_of_lt (hlt q hq)), G.apart q (.tail _ hq) (Nat.ne_of_lt (hlt q hq))⟩
  have k3 := k (a3, o3) (.head _)
  have k2 := k (a2, o2) (.tail _ (.head _))
  have k1 := k (a1, o1) (.tail _ (.tail _ (.head _)))
  have k0 := k (a0, o0) (.tail _ (.tail _ (.tail _ (.head _))))
  obtain ⟨rest', N', up, -, off⟩ := front4 N k3.1 k2.1 k1.1 k0.1
  refine ⟨rest', N', off, up _ G.tup, G.tree.mono fun p hp ha => ?_, G.book.mono fun p hp ha => ?_⟩
  · have := up p hp
    simp only [List.mem_cons] at this
    rcases this with rfl | rfl | rfl | rfl | h
    · exact absurd ha k3.2.1
    · exact absurd ha k2.2.1
    · exact absurd ha k1.2.1
    · exact absurd ha k0.2.1
    · exact h
  · have := up p hp
    simp only [List.mem_cons] at this
    rcases this with rfl | rfl | rfl | rfl | h
    · exact absurd ha k3.2.2
    · exact absurd ha k2.2.2
    · exact absurd ha k1.2.2
    · exact absurd ha k0.2.2
    · exact h
theorem Bk.In.four {rest : Ldg} {b : Bk} (I : b.In rest) (q3 q2 q1 q0 : Addr × Obj) : b.In (q3 :: q2 :: q1 :: q0 :: rest) := I.mono fun _ hp _ => .tail _ (.tail _ (.tail _ (.tail _ hp)))

section
variable {prog : Program} {w : World} {A : Around} {E : Value → Shared → Prop} {s : Shared} {env : Env} {h₀ : Heap} {x : Str} {body : List Stmt} {Q : Flow → Shared → Prop}
abbrev UPost (h₀ : Heap) (L : Addr) (led : Ldg) (x : Str) (stored : List Str) (m₀ : Str → Option Value) (I : Addr) (io : Obj) (s₁ : Shared) (Q : Flow → Shared → Prop) (f : Flow) (s₂ : Shared) : Prop :=
  LPost h₀ L (fun _ : Unit => led) (fun _ => []) x stored m₀ (fun _ => True) I io s₁ Q f s₂
/-- a loop over a list that keeps the ledger -/
theorem my_forU {l : Addr} {vs : List Value} {n : Nat} {m₀ : Str → Option Value} {led : Ldg} (stored : List Str)
    (hh : A.handled = none) (F : Fr h₀ env.locals s.heap m₀) (N : News h₀ env.locals s.heap led) (hm : (l, listOf vs.toArray n) ∈ led)
    (turn : ∀ (i : Nat) v (u : Str → Option Value) h tk I io, vs[i]? = some v → (∀ p ∈ led, p.1 ≠ I) →
      Fr h₀ env.locals h (fun y => if y = x then some v else if stored.contains y then u y else m₀ y) → News h₀ env.locals h ((I, io) :: led) →
      wpAny (model prog w) A (execs body env) (UPost h₀ env.locals led x stored m₀ I io { s with heap := h, toks := tk } Q) E { s with heap := h, toks := tk })
    (done : ∀ (u : Str → Option Value) h tk, Fr h₀ env.locals h (fun y => if y = x then u y else if stored.contains y then u y else m₀ y) → News h₀ env.locals h led → Q .next { s with heap := h, toks := tk }) :
    wpAny (model prog w) A (pyIter (.ref l)) (fun it s₂ => LoopAtV prog w A h₀ env x body Q E it s₂) E s :=
  my_for (fun _ : Unit => led) (fun _ => []) stored (fun _ _ => True) () hh F N (fun _ _ _ => hm) (by intro p hp; cases hp) trivial
    (fun _ i v u h tk I io hv _ hoff F1 N1 => turn i v u h tk I io hv hoff F1 N1) (fun _ u h tk _ F1 N1 => done u h tk F1 N1)
theorem upost {L : Addr} {led : Ldg} {stored : List Str} {m₀ m' : Str → Option Value} {I : Addr} {io : Obj} {s₁ : Shared} {h' : Heap} {tk : Nat} {news' : Ldg}
    (F : Fr h₀ L h' m') (N : News h₀ L h' news') (hs : ∀ p ∈ (I, io) :: led, p ∈ news') (hoff : ∀ p ∈ led, p.1 ≠ I) (hr : ∀ z, z ≠ x → stored.contains z = false → m' z = m₀ z) :
    UPost h₀ L led x stored m₀ I io s₁ Q .next { s₁ with heap := h', toks := tk } :=
  lpost () F N hs hoff (by intro p hp; cases hp) (fun z h1 _ h3 => hr z h1 h3) trivial
end
theorem src_of {h₀ h : Heap} {L S : Addr} {a b : Int} {ta tb : Tok} {n : Nat} {news : Ldg} (_ : News h₀ L h ((S, listOf [Value.int a ta, Value.int b tb].toArray n) :: news)) (ha : 0 ≤ a) (hb : 0 ≤ b) (hc : b < 2147483647) : Src ((S, listOf [Value.int a ta, Value.int b tb].toArray n) :: news) S := ⟨a, b, ta, tb, n, .head _, ha, hb, hc⟩
theorem pick_to1 (vs : List Value) : slicePick vs.toArray none (some 1) none = (vs.take 1).toArray := by
  rw [kms_pick_eq]
  unfold kms_pick kms_lo kms_hi
  have h1 : ¬ ((1 : Int) < 0) := by decide
  simp only [if_neg h1]
  congr 1
  cases vs with
  | nil => rfl
  | cons v vs => simp
section
open PyProof.Rows.LCg
/-- what the element of a comprehension gives: a new tuple of ints -/
def TupBack (h₀ : Heap) (L : Addr) (m : Str → Option Value) (s₁ : Shared) (led : Ldg) (ns : List Nat) (y : Value) (s₂ : Shared) : Prop :=
  ∃ T ws h' tk', y = .ref T ∧ s₂ = { s₁ with heap := h', toks := tk' } ∧ Fr h₀ L h' m ∧ News h₀ L h' ((T, tupObj ws) :: led) ∧ NA ws ns ∧ ∀ p ∈ led, p.1 < T
theorem comp_tl {prog : Program} {w : World} {A : Around} {h₀ : Heap} {L : Addr} {m : Str → Option Value} {env : Env} {elt : PySem.Expr} {x : Str} {scope : Scope} {cl : List (Str × Addr)} {s : Shared} {Fin : List Value → Ldg → Prop} {ax : Addr} {vs : List Value} {n : Nat} {nss : List (List Nat)} {led : Ldg}
    (hl : vs.length = nss.length) (hm : (ax, listOf vs.toArray n) ∈ led)
    (step : ∀ (i : Nat) (v : Value) (ns : List Nat) I oI C oC D m₂ h tk (E' : Value → Shared → Prop) nw ys, vs[i]? = some v → nss[i]? = some ns → (∀ p ∈ led, p ∈ nw) → NsObj oC m₂ → m₂ x = some v → Fr h₀ L h m → News h₀ L h ((I, oI) :: (C, oC) :: (D, lst ys) :: nw) →
      wpAny (model prog w) A (eval elt (compEnvC scope cl C env)) (TupBack h₀ L m { s with heap := h, toks := tk } ((I, oI) :: (C, oC) :: (D, lst ys) :: nw) ns) E' { s with heap := h, toks := tk })
    (fin : ∀ ys nw, TL nw ys nss → (∀ p ∈ led, p ∈ nw) → Fin ys nw) :
    CompRest prog w A h₀ L m env elt x scope cl s (SrcAt h₀ ax vs.toArray) (fun i v => vs.toArray[i]? = some v) Fin vs.toArray.size 0 [] led := by
  refine comp_inv (n := vs.length) (fun i ys nw => (∀ p ∈ led, p ∈ nw) ∧ TL nw ys (nss.take i)) ?_ ?_ _ 0 [] led (by simp) ⟨fun p hp => hp, .nil⟩
  · intro i ys nw v I oI C oC D m₂ h tk E' hi hJ hP hC hx F N off
    have hv : vs[i]? = some v := by simpa using hP
    have hns : nss[i]? = some nss[i] := List.getElem?_eq_getElem (by omega)
    refine wpAny_mono (step i v _ I oI C oC D m₂ h tk E' nw ys hv hns hJ.1 hC hx F N) (fun y s₂ hb => ?_) fun _ _ e => e
    obtain ⟨T, ws, h', tk', rfl, rfl, F', N', hw, hlt⟩ := hb
    refine comp_end1 F' N' hlt off (.inr ⟨_, .tail _ (hJ.1 _ hm), rfl, n, rfl⟩) ⟨fun p hp => .tail _ (hJ.1 p hp), ?_⟩
    rw [List.take_add_one, hns]
    exact (hJ.2.mono fun p hp => .tail _ hp).snoc (.head _) hw
  · intro ys nw hJ
    refine fin ys nw ?_ hJ.1
    have := hJ.2
    rwa [hl, List.take_length] at this
end
theorem Bk.In.upTo {b : Bk} {nw led : Ldg} {h₀ h : Heap} {L : Addr} (I : b.In nw) (_ : News h₀ L h led) (k : ∀ p ∈ nw, p ∈ led) : b.In led := I.mono fun p hp _ => k p hp
theorem Tr.In.upTo {w : World} {t : Tr} {nw led : Ldg} {h₀ h : Heap} {L : Addr} (I : t.In w nw) (_ : News h₀ L h led) (k : ∀ p ∈ nw, p ∈ led) : t.In w led := I.mono fun p hp _ => k p hp
theorem kpick1 (vs : List Value) : kms_pick vs.toArray.toList none (some 1) = vs.take 1 := by
  unfold kms_pick kms_lo kms_hi
  have h1 : ¬ ((1 : Int) < 0) := by decide
  simp only [if_neg h1]
  cases vs with
  | nil => rfl
  | cons v vs => simp

-- after: 40
local macro_rules | `(tactic| walk_at "MYROOM") => `(tactic| first | decide | ((try simp only [depth_under_make, depth_under_kw, depth_in1, depth_deeper, depth_caller, units_in1, units_deeper, Around.mark_units]); (try dsimp only [ktrTop]); decide))
local macro_rules | `(tactic| walk_at "call ref") => `(tactic| (k_here; (with_reducible show wpAny _ _ (call (Value.ref 282) _) _ _ _); refine my_stop ?_))
local macro_rules | `(tactic| walk_at "CompSrc") => `(tactic| (refine my_stop ?_))
local macro_rules | `(tactic| walk_at "CompEnd") => `(tactic| (refine my_stop ?_))
local macro_rules | `(tactic| walk_at "eval Name") => `(tactic| (k_here; (with_reducible show wpAny _ _ (eval (PySem.Expr.Name (Str.ofString "script") _) _) _ _ _); k_dflt (refine' nameX_L ?F ?v ?_ ?a ?b; (case F => k_asm); (case a => rfl); (case b => rfl); (case v => assumption); k_whole)))
theorem my_cwL {prog : Program} {w : World} {A : Around} {Q E : Value → Shared → Prop} {s : Shared} {n : Addr} {pos : Pos} {xs : List Value} {as : List (Bool × Sem Value)} {ks : List (Option Str × Sem Value)} (_ : [28, 35, 42, 132, 146, 153, 181, 188, 282, 307, 328, 335, 340, 347].contains n = true)
    (h : wpAny (model prog w) A (callWith pos (.ref n) xs as ks) Q E s) : wpAny (model prog w) A (callWith pos (.ref n) xs as ks) Q E s := h
local macro_rules | `(tactic| walk_at "callWith ref") => `(tactic| (k_here; refine my_cwL (by decide) ?_; k_dflt (first | (refine' callWith_K ?k1 ?k2 ?_; (case k1 => k_asm); (case k2 => k_is); k_whole) | (refine' callWith_K0 ?k1 ?k2 ?_; (case k1 => k_in); (case k2 => k_is); k_whole) | (refine' callWith_M0 ?k1 ?k2 ?_; (case k1 => k_meth); (case k2 => k_is); k_whole; try dsimp only [List.nil_append, List.cons_append]) | (refine' callWith_M ?k1 ?k2 ?k3 ?k4 ?_; (case k1 => k_asm); (case k2 => k_asm); (case k3 => k_mem); (case k4 => k_is); k_whole))))
local macro_rules | `(tactic| walk_at "call builtin:sorted") => `(tactic| (refine my_stop ?_))
local macro_rules | `(tactic| walk_at "exec Assign cons ListComp") => `(tactic| (refine my_stop ?_))
local macro_rules | `(tactic| walk_at "binaryOp Add ref ref") => `(tactic| (refine my_stop ?_))
local macro_rules | `(tactic| walk_at "call type:tuple") => `(tactic| (refine my_stop ?_))
local macro_rules | `(tactic| walk_at "compareOp Eq ref ref") => `(tactic| (refine my_stop ?_))
local macro_rules | `(tactic| walk_at "eval Lambda") => `(tactic| (refine my_stop ?_))
local macro_rules | `(tactic| walk_at "subscriptTail") => `(tactic| (k_here; (with_reducible show wpAny _ _ (subscriptTail _ _ (Value.ref _) (Value.int (-1) _)) _ _ _); refine my_stop ?_))
local macro_rules | `(tactic| walk_at "subscriptTail Name Slice ref ref") => `(tactic| ((with_reducible show wpAny _ _ (subscriptTail _ (PySem.Expr.Slice none (some _) none _) (Value.ref _) (Value.ref _)) _ _ _); refine my_stop ?_))
local macro_rules | `(tactic| walk_at "FlatSrc") => `(tactic| (refine my_stop ?_))
structure Keep9 {α : Type} (Q Q' : α → Shared → Prop) : Prop where
  go : ∀ v t, Q v t → Q' v t
theorem hideS {prog : Program} {w : World} {A : Around} {α : Type} {c : Sem α} {Q : α → Shared → Prop} {E : Value → Shared → Prop} {s : Shared}
    (h : ∀ Q', Keep9 Q Q' → wpAny (model prog w) A c Q' E s) : wpAny (model prog w) A c Q E s := h Q ⟨fun _ _ x => x⟩
open PyProof.Rows.LCg in
theorem law_holds : PySem.Challenge.rw_xm0667_01.Holds := hd (by
  k_go0
  all_goals try k_fold
  refine hideS ?_
  intro QF hQF
  k_steps
  refine stop ?_
  rename World => w
  have d4 := four_of (by assumption)
  refine' does_use tree_does ?B ?F ?X ?N ?T ?K ?d ?u ?_
  walk_at "MYCTX"
  rintro v0 news0 h0' tk0' F0 N0 ⟨t, rfl, hrows, I0, up0, fr0⟩
  have nfr : ∀ p ∈ _, p ∈ news0 ∧ p.1 ∉ t.adr := fun p hp => ⟨up0 p hp, fun ha => Nat.lt_irrefl _ (fr0 _ ha p hp)⟩
  simp only [List.forall_mem_cons] at nfr
  obtain ⟨p3, p2, p1, p0, -⟩ := nfr
  obtain ⟨rest0, N0', I0, ap0, off0⟩ := I0.front N0 p3 p2 p1 p0
  clear N0 up0 fr0 p3 p2 p1 p0
  obtain ⟨mm, F0, hms⟩ := fr_gen F0 rfl
  refine store3 F0 N0' off0 d4 (by assumption) rfl rfl rfl ?_
  intro h1s oC F1s N1s dC
  have h1 : (t.T, instObj 282 t.dT) ∈ rest0 := I0.inst
  obtain ⟨tk1, h2⟩ := I0.dct
  k_steps
  refine stop ?_
  refine' does_use (new_root_does (I0.four _ _ _ _) rfl (by rw [hrows]; decide)) ?B ?F ?X ?N ?T ?K ?d ?u ?_
  walk_at "MYCTX"
  rintro v1 news1 h1' tk1' F1 N1 ⟨row, ⟨u, rfl⟩, G⟩
  obtain ⟨rest1, N1', I1, ap1, -⟩ := G.front N1 (add_adr _ _) ap0
  rw [hrows, List.length_nil]
  have hr := get_of_nil (row := row) hrows
  have gis := G.is
  simp only [Prod.mk.injEq] at gis
  clear N1 N0' N1s I0 ap0 G h1 h2
  have h1 : (t.T, instObj 282 t.dT) ∈ rest1 := I1.inst
  obtain ⟨tk1, h2⟩ := I1.dct
  replace h2 : (t.dT, dictOf (treeEs w.params tk1 t.R) 1) ∈ rest1 := h2
  k_steps
  refine stop ?_
  refine' does_use (add_element_does (I1.four _ _ _ _) rfl (by simp [Tr.add, hrows]) (k := 0) hr (.inl gis.1) (by rw [gis.2.2.2.2.2.1]; decide) _ _ _ _ _ _ _) ?B ?F ?X ?N ?T ?K ?d ?u ?_
  walk_at "MYCTX"
  rintro v2 news2 h2' tk2' F3 N3 ⟨row2, ⟨u2, rfl⟩, G2⟩
  have hlen1 : (t.add row).rows.length = 1 := by simp [Tr.add, hrows]
  obtain ⟨rest2, N3', I2, ap2, off2⟩ := G2.front N3 (addput_adr' hr rfl) ap1
  have gis2 := G2.is
  simp only [Prod.mk.injEq] at gis2
  rw [hlen1] at *
  have hrw2 : (((t.add row).add row2).put 0 { row with ch := row.ch ++ [1] }).rows = [{ row with ch := row.ch ++ [1] }, row2] := by simp [Tr.add, Tr.put, hrows]
  have hT2 : (((t.add row).add row2).put 0 { row with ch := row.ch ++ [1] }).T = t.T := rfl
  clear N3 I1 ap1 G2 h1 h2 N1'
  generalize ((t.add row).add row2).put 0 { row with ch := row.ch ++ [1] } = t2 at *
  rw [← hT2] at dC
  have h1 : (t2.T, instObj 282 t2.dT) ∈ rest2 := I2.inst
  obtain ⟨tk2, h2⟩ := I2.dct
  refine store1 F3 N3' off2 d4 (by assumption) rfl rfl rfl ?_
  intro h3' oT F4 N4 dT
  k_steps
  refine stop ?_
  have hr2 : t2.rows[1]? = some row2 := by rw [hrw2]; rfl
  have hl2 : t2.rows.length = 2 := by rw [hrw2]; rfl
  refine' does_use (add_text_does (I2.four _ _ _ _) rfl (by omega) (k := 1) hr2 (.inr gis2.1) (by rw [gis2.2.2.2.2.2.1]; decide) _ _ _) ?B ?F ?X ?N ?T ?K ?d ?u ?_
  walk_at "MYCTX"
  rintro v3 news3 h3'' tk3' F5 N5 ⟨row3, ⟨u3, rfl⟩, G3⟩
  obtain ⟨rest3, N5', I3, ap3, off3⟩ := G3.front N5 (addput_adr' hr2 rfl) ap2
  have gis3 := G3.is
  simp only [Prod.mk.injEq] at gis3
  rw [hl2] at *
  have hrw3 : ((t2.add row3).put 1 { row2 with ch := row2.ch ++ [2] }).rows = [{ row with ch := row.ch ++ [1] }, { row2 with ch := row2.ch ++ [2] }, row3] := by simp [Tr.add, Tr.put, hrw2]
  have hT3 : ((t2.add row3).put 1 { row2 with ch := row2.ch ++ [2] }).T = t2.T := rfl
  clear N5 I2 ap2 off2 G3 h1 h2 N4 N3'
  generalize (t2.add row3).put 1 { row2 with ch := row2.ch ++ [2] } = t3 at *
  rw [← hT3] at dC
  have h1 : (t3.T, instObj 282 t3.dT) ∈ rest3 := I3.inst
  obtain ⟨tk3, h2⟩ := I3.dct
  k_steps
  refine stop ?_
  have hr3 : t3.rows[1]? = some { row2 with ch := row2.ch ++ [2] } := by rw [hrw3]; rfl
  have hl3 : t3.rows.length = 3 := by rw [hrw3]; rfl
  refine' does_use (set_attribute_does (I3.four _ _ _ _) rfl (by omega) (k := 1) hr3 gis2.1 (by show row2.atr.length < 90; rw [gis2.2.2.2.2.2.2.1]; decide) _ _ _ _ _ _ _ _ _ (by intro j hj; have hj' : j ∈ row2.atr := hj; rw [gis2.2.2.2.2.2.2.1] at hj'; cases hj')) ?B ?F ?X ?N ?T ?K ?d ?u ?_
  walk_at "MYCTX"
  rintro v4 news4 h4'' tk4' F6 N6 ⟨row4, ⟨u4, rfl⟩, G4⟩
  obtain ⟨rest4, N6', I4, ap4, off4⟩ := G4.front N6 (addput_adr' hr3 rfl) ap3
  have gis4 := G4.is
  simp only [Prod.mk.injEq] at gis4
  rw [hl3] at *
  have hrw4 : ((t3.add row4).put 1 { row2 with ch := row2.ch ++ [2], atr := row2.atr ++ [3] }).rows = [{ row with ch := row.ch ++ [1] }, { row2 with ch := row2.ch ++ [2], atr := row2.atr ++ [3] }, row3, row4] := by simp [Tr.add, Tr.put, hrw3]
  have hT4 : ((t3.add row4).put 1 { row2 with ch := row2.ch ++ [2], atr := row2.atr ++ [3] }).T = t3.T := rfl
  clear N6 I3 ap3 off3 G4 h1 h2 N5'
  generalize (t3.add row4).put 1 { row2 with ch := row2.ch ++ [2], atr := row2.atr ++ [3] } = t4 at *
  rw [← hT4] at dC
  have h1 : (t4.T, instObj 282 t4.dT) ∈ rest4 := I4.inst
  obtain ⟨tk4, h2⟩ := I4.dct
  k_steps
  refine stop ?_
  have hr4 : t4.rows[1]? = some { row2 with ch := row2.ch ++ [2], atr := row2.atr ++ [3] } := by rw [hrw4]; rfl
  have hl4 : t4.rows.length = 4 := by rw [hrw4]; rfl
  refine' does_use (add_namespace_does (I4.four _ _ _ _) rfl (by omega) (k := 1) hr4 gis2.1 (by show row2.nsp.length < 90; rw [gis2.2.2.2.2.2.2.2]; decide) _ _ _ _ _ (by intro j hj; have hj' : j ∈ row2.nsp := hj; rw [gis2.2.2.2.2.2.2.2] at hj'; cases hj')) ?B ?F ?X ?N ?T ?K ?d ?u ?_
  walk_at "MYCTX"
  rintro v5 news5 h5'' tk5' F7 N7 ⟨row5, ⟨u5, rfl⟩, G5⟩
  obtain ⟨rest5, N7', I5, ap5, off5⟩ := G5.front N7 (addput_adr' hr4 rfl) ap4
  have gis5 := G5.is
  simp only [Prod.mk.injEq] at gis5
  rw [hl4] at *
  have hrw5 : ((t4.add row5).put 1 { row2 with ch := row2.ch ++ [2], atr := row2.atr ++ [3], nsp := row2.nsp ++ [4] }).rows = [{ row with ch := row.ch ++ [1] }, { row2 with ch := row2.ch ++ [2], atr := row2.atr ++ [3], nsp := row2.nsp ++ [4] }, row3, row4, row5] := by simp [Tr.add, Tr.put, hrw4]
  have hT5 : ((t4.add row5).put 1 { row2 with ch := row2.ch ++ [2], atr := row2.atr ++ [3], nsp := row2.nsp ++ [4] }).T = t4.T := rfl
  clear N7 I4 ap4 off4 G5 h1 h2 N6'
  generalize (t4.add row5).put 1 { row2 with ch := row2.ch ++ [2], atr := row2.atr ++ [3], nsp := row2.nsp ++ [4] } = t5 at *
  rw [← hT5] at dC
  have h1 : (t5.T, instObj 282 t5.dT) ∈ rest5 := I5.inst
  obtain ⟨tk5, h2⟩ := I5.dct
  k_steps
  refine stop ?_
  have hr5 : t5.rows[1]? = some { row2 with ch := row2.ch ++ [2], atr := row2.atr ++ [3], nsp := row2.nsp ++ [4] } := by rw [hrw5]; rfl
  have hr52 : t5.rows[2]? = some row3 := by rw [hrw5]; rfl
  have hr53 : t5.rows[3]? = some row4 := by rw [hrw5]; rfl
  have hr54 : t5.rows[4]? = some row5 := by rw [hrw5]; rfl
  have hj2 : (Row.lst { row2 with ch := row2.ch ++ [2], atr := row2.atr ++ [3], nsp := row2.nsp ++ [4] } (sortOf row3.kind)).idxOf? 2 = some 0 := by
    rw [gis3.1, show sortOf (Str.ofString "text") = 2 by decide]; show (row2.ch ++ [2]).idxOf? 2 = some 0; rw [gis2.2.2.2.2.2.1]; decide
  have hj3 : (Row.lst { row2 with ch := row2.ch ++ [2], atr := row2.atr ++ [3], nsp := row2.nsp ++ [4] } (sortOf row4.kind)).idxOf? 3 = some 0 := by
    rw [gis4.1, show sortOf (Str.ofString "attribute") = 1 by decide]; show (row2.atr ++ [3]).idxOf? 3 = some 0; rw [gis2.2.2.2.2.2.2.1]; decide
  have hj4 : (Row.lst { row2 with ch := row2.ch ++ [2], atr := row2.atr ++ [3], nsp := row2.nsp ++ [4] } (sortOf row5.kind)).idxOf? 4 = some 0 := by
    rw [gis5.1, show sortOf (Str.ofString "namespace") = 0 by decide]; show (row2.nsp ++ [4]).idxOf? 4 = some 0; rw [gis2.2.2.2.2.2.2.2]; decide
  rename Fr _ _ _ _ => F8
  rename News _ _ _ _ => N8
  refine ListComp_U F8 (by with_unfolding_all rfl) (by decide) (by rfl) (by decide) (by rfl) ?_
  k_steps
  refine stop ?_
  rename News _ _ _ _ => N8
  rename Fr _ _ _ _ => F8
  refine CompSrc.ledger rfl F8 N8 (List.Mem.head _) (by show 3 ≤ sizeLine; decide) ?_
  intro g8
  refine CompRest.succ ?_
  intro v I2 oI2 C2 oC2 D2 m₂ h tk E' hv hC hx F2 N2 off dist
  have hv' : v = .int ((2 : Nat) : Int) u3 := (Option.some.inj hv).symm
  subst hv'
  clear hv
  k_steps
  refine stop ?_
  refine' does_use (place_among_does ?i rfl (k := 1) (nd := 2) (j := 0) hr5 hr52 hj2 _ _) ?B ?F ?X ?N ?T ?K ?d ?u ?_
  walk_at "MYCTX"
  (case i => exact I5.mono fun p hp _ => .tail _ (.tail _ (.tail _ (.tail _ (.tail _ (.tail _ (.tail _ (.tail _ (hp)))))))))
  rintro v' news' h' tk' F' N' ⟨l2, vs6, rfl, rfl, hv6, hl6, lt6⟩
  rw [gis3.1, show sortOf (Str.ofString "text") = 2 by decide] at hv6
  obtain ⟨ta2, tb2, rfl⟩ := hv6.two
  k_steps
  refine stop ?_
  refine comp_end1 F' N' lt6 off (.inr ⟨_, by k_mem, rfl, _, rfl⟩) ?_
  clear hl6 hv6 F' N' lt6 off dist F2 N2 hC hx
  refine CompRest.succ ?_
  intro v I3 oI3 C3 oC3 D3 m₂ h tk E' hv hC hx F3 N3 off dist
  have hv' : v = .int ((3 : Nat) : Int) u4 := (Option.some.inj hv).symm
  subst hv'
  clear hv
  k_steps
  refine stop ?_
  refine' does_use (place_among_does ?i rfl (k := 1) (nd := 3) (j := 0) hr5 hr53 hj3 _ _) ?B ?F ?X ?N ?T ?K ?d ?u ?_
  walk_at "MYCTX"
  (case i => exact I5.mono fun p hp _ => .tail _ (.tail _ (.tail _ (.tail _ (.tail _ (.tail _ (.tail _ (.tail _ (.tail _ (hp))))))))))
  rintro v' news' h' tk' F' N' ⟨l3, vs6, rfl, rfl, hv6, hl6, lt6⟩
  rw [gis4.1, show sortOf (Str.ofString "attribute") = 1 by decide] at hv6
  obtain ⟨ta3, tb3, rfl⟩ := hv6.two
  k_steps
  refine stop ?_
  refine comp_end1 F' N' lt6 off (.inr ⟨_, by k_mem, rfl, _, rfl⟩) ?_
  clear hl6 hv6 F' N' lt6 off dist F3 N3 hC hx
  refine CompRest.succ ?_
  intro v I4 oI4 C4 oC4 D4 m₂ h tk E' hv hC hx F4 N4 off dist
  have hv' : v = .int ((4 : Nat) : Int) u5 := (Option.some.inj hv).symm
  subst hv'
  clear hv
  k_steps
  refine stop ?_
  refine' does_use (place_among_does ?i rfl (k := 1) (nd := 4) (j := 0) hr5 hr54 hj4 _ _) ?B ?F ?X ?N ?T ?K ?d ?u ?_
  walk_at "MYCTX"
  (case i => exact I5.mono fun p hp _ => .tail _ (.tail _ (.tail _ (.tail _ (.tail _ (.tail _ (.tail _ (.tail _ (.tail _ (.tail _ (hp)))))))))))
  rintro v' news' h' tk' F' N' ⟨l4, vs6, rfl, rfl, hv6, hl6, lt6⟩
  rw [gis5.1, show sortOf (Str.ofString "namespace") = 0 by decide] at hv6
  obtain ⟨ta4, tb4, rfl⟩ := hv6.two
  k_steps
  refine stop ?_
  refine comp_end1 F' N' lt6 off (.inr ⟨_, by k_mem, rfl, _, rfl⟩) ?_
  clear hl6 hv6 F' N' lt6 off dist F4 N4 hC hx
  refine CompRest.zero ?_
  intro D9 h9 tk9 F9 N9 off9
  k_steps
  refine stop ?_
  rename News _ _ _ _ => N10
  refine my_tlNeF N10 (vs := [.ref l2, .ref l3, .ref l4]) (nss := [[2, 0], [1, 0], [0, 0]]) (.tail _ (.tail _ (.tail _ (.tail _ (.head _))))) (.head _) (.cons (.tail _ (.tail _ (.tail _ (.tail _ (.tail _ (.tail _ (.tail _ (.head _)))))))) (.cons 2 _ (.cons 0 _ .nil)) (.cons (.tail _ (.tail _ (.tail _ (.tail _ (.tail _ (.tail _ (.head _))))))) (.cons 1 _ (.cons 0 _ .nil)) (.cons (.tail _ (.tail _ (.tail _ (.tail _ (.tail _ (.head _)))))) (.cons 0 _ (.cons 0 _ .nil)) .nil))) (.cons (.tail _ (.tail _ (.tail _ (.head _)))) (.cons 2 _ (.cons 0 _ .nil)) (.cons (.tail _ (.tail _ (.head _))) (.cons 1 _ (.cons 0 _ .nil)) (.cons (.tail _ (.head _)) (.cons 0 _ (.cons 0 _ .nil)) .nil))) (by walk_at "MYROOM") ?_
  have N13 := (news_tail (news_tail (news_tail (news_tail (news_tail (news_tail (news_tail (news_tail (news_tail N10)))))))))
  clear N10
  (try clear off9)
  k_steps
  refine stop ?_
  refine' pool_call ?hi ?hl ?hz ?B ?F ?X ?N ?T ?K ?d ?u ?_
  walk_at "MYCTX"
  (case hi => assumption)
  (case hl => assumption)
  (case hz => omega)
  intro S za zb ta tb nS h14 tk14 ha14 hb14 hc14 F14 N14 lt14
  have hS := src_of N14 ha14 hb14 hc14
  k_steps
  refine stop ?_
  refine' does_use (law_built_does hS) ?B ?F ?X ?N ?T ?K ?d ?u ?_
  walk_at "MYCTX"
  rintro v15 news15 h15 tk15 F15 N15 ⟨t, b, D, rowL, tup, tkL, rfl, BT⟩
  obtain ⟨rest, N16, offR, hup, It, Ib⟩ := BT.front N15 lt14
  clear N15 N14 lt14 hS
  (try clear I5 ap5 off5); (try clear h1 h2); (try clear hj2 hj3 hj4); (try clear hr5 hr52 hr53 hr54); (try clear hrw5)
  k_steps
  rename News _ _ _ _ => N17
  rename Fr _ _ _ _ => F17
  refine store3 F17 N17 offR d4 dC rfl rfl rfl ?_
  clear hup N17 F17
  intro h18 oC2 F18 N18 dC2
  k_steps
  rename News _ _ _ _ => N19
  rename Fr _ _ _ _ => F19
  refine store2 F19 N19 offR d4 (by assumption) rfl rfl rfl ?_
  clear N19 F19
  intro h20 oB F20 N20 dB
  have hlen1 := BT.len1
  have hlen2 := BT.len2
  k_steps
  refine stop ?_
  rename News _ _ _ _ => N21
  rename Fr _ _ _ _ => F21
  refine my_sortedB rfl F21 N21 (Ib.four _ _ _ _) rfl ?_
  clear N21 F21
  intro Dl vsl cl hl tkl Fl Nl ltl hna
  rw [BT.blen] at hna
  refine my_forU [Str.ofString "line", Str.ofString "pairs"] rfl Fl Nl (.head _) ?_ ?_
  · intro i v u h tk I io hvi hoff F1 N1
    refine hide ?_
    intro Q9 E9 hQ9 _
    obtain ⟨k, tk', rfl, hkr⟩ := hna.item hvi
    have hki : k < D.length := by simpa using row_mem hkr
    obtain ⟨us, W1⟩ := way BT.wf BT.tm BT.bm (k + 1) k (Nat.lt_succ_self _) hki
    have hul := W1.len
    obtain ⟨wp1, wp2, wp3, wp4⟩ := way_pairs BT.wf BT.tm (k + 1) k (Nat.lt_succ_self _) hki us W1.up
    obtain ⟨l0, hl0⟩ := W1.rev
    k_steps
    refine stop ?_
    refine' does_use (law_line_does ?i rfl W1.upb (by omega) _) ?B ?F ?X ?N ?T ?K ?d ?u ?_
    walk_at "MYCTX"
    (case i => exact Ib.mono fun p hp _ => .tail _ (.tail _ (.tail _ (.tail _ (.tail _ (.tail _ hp))))))
    rintro v2 n2 h2' tk2' F2 N2 ⟨ll, vl, nl, rfl, rfl, hvl, hzl, ltl2⟩
    k_steps
    refine stop ?_
    refine' does_use (lines_down_does ?i rfl W1.up (by omega) _) ?B ?F ?X ?N ?T ?K ?d ?u ?_
    walk_at "MYCTX"
    (case i => exact It.mono fun p hp _ => .tail _ (.tail _ (.tail _ (.tail _ (.tail _ (.tail _ (.tail _ hp)))))))
    rintro v3 n3 h3' tk3' F3 N3 ⟨l3, v3l, n3l, rfl, rfl, hv3, hz3, lt3⟩
    k_steps
    refine stop ?_
    rename News _ _ _ _ => N4
    refine my_neLF N4 (.head _) (.tail _ (.head _)) hv3 hvl (by walk_at "MYROOM") rfl ?_
    k_steps
    refine stop ?_
    rename Fr _ _ _ _ => F5
    refine LCg.Assign_ListComp_U F5 (by rfl) (by with_unfolding_all rfl) (by with_unfolding_all rfl) (by decide) (by rfl) (by decide) (by rfl) (by rfl) (by rfl) ?_
    k_steps
    refine stop ?_
    rename News _ _ _ _ => N6
    rename Fr _ _ _ _ => F6
    rw [pick_from1] at N6
    have hlv := (hvl.drop 1).length
    refine CompSrc.ledger rfl F6 N6 (.head _) (by rw [List.size_toArray, sizeLine_eq]; simp; omega) ?_
    intro g6
    refine comp_tl (nss := (us.reverse.drop 1).map (pairN D)) (by rw [List.length_map]; exact hlv) (.head _) ?_ ?_
    · intro j v ns I2 oI C2 oC3 D2 m₂ h7 tk7 E' nw ys hv hns hsub hC hx F7 N7
      obtain ⟨kk, tkk, rfl, hkk⟩ := (hvl.drop 1).item hv
      have hkk2 := wp2 kk (row_mem hkk)
      obtain ⟨r, rq, q, sn, jn, hr, hpar, hrq, hix, hsn, hpn⟩ := pair_facts BT.wf BT.bm hkk2.1 hkk2.2
      have hns2 : ns = [sn, jn] := by
        rw [List.getElem?_map, hkk] at hns
        rw [← hpn]; exact (Option.some.inj hns).symm
      subst hns2
      have mB := hsub _ (.tail _ (.tail _ (.tail _ (.tail _ (.tail _ (.tail _ (.head _)))))))
      k_steps
      refine stop ?_
      refine' does_use (law_pair_does ?i rfl hr hpar hrq hix hsn _) ?B ?F ?X ?N ?T ?K ?d ?u ?_
      walk_at "MYCTX"
      (case i => exact Ib.mono fun p hp _ => .tail _ (.tail _ (.tail _ (hsub _ (.tail _ (.tail _ (.tail _ (.tail _ (.tail _ (.tail _ (.tail _ (.tail _ (.tail _ (hp))))))))))))))
      rintro v8 n8 h8' tk8' F8 N8 ⟨T8, w8, rfl, rfl, hw8, hz8, lt8⟩
      k_steps
      exact ⟨T8, w8, _, _, rfl, rfl, F8, N8, hw8, lt8⟩
    · intro ys nw hT hsub D9 h9 tk9 F9 N9 off9
      have m3 := hsub _ (.tail _ (.tail _ (.tail _ (.tail _ (.tail _ (.head _))))))
      have m2 := hsub _ (.tail _ (.tail _ (.tail _ (.tail _ (.tail _ (.tail _ (.head _)))))))
      have mI := hsub _ (.tail _ (.tail _ (.tail _ (.head _))))
      have mL := hsub _ (.tail _ (.tail _ (.head _)))
      have Itn : t.In w nw := It.mono fun p hp _ => hsub _ (.tail _ (.tail _ (.tail _ (.tail _ (.tail _ (.tail _ (.tail _ (.tail _ (.tail _ (hp))))))))))
      have Ibn : b.In nw := Ib.mono fun p hp _ => hsub _ (.tail _ (.tail _ (.tail _ (.tail _ (.tail _ (.tail _ (.tail _ (.tail _ (.tail _ (hp))))))))))
      clear off9
      k_steps
      refine stop ?_
      refine' does_use (place_of_does ?i rfl W1.up (by omega) hl0 W1.steps _) ?B ?F ?X ?N ?T ?K ?d ?u ?_
      walk_at "MYCTX"
      (case i => exact Itn.mono fun p hp _ => .tail _ hp)
      rintro v10 n10 h10' tk10' F10 N10 ⟨lp, vp, rfl, rfl, hvp, hzp, ltp⟩
      k_steps
      refine stop ?_
      refine' kms_slice_lit ?zF ?zN ?zl ?zp ?zq ?ze ?_ ?zs ?zt ?zz
      (case zF => exact F10)
      (case zN => exact N10)
      (case zl => exact ⟨_, (N10 _ (.tail _ (.tail _ mL))).1, rfl, nl, rfl⟩)
      (case zp => kmk_part)
      (case zq => kmk_part)
      (case ze => exact kpick1 vl)
      (case zs => with_unfolding_all rfl)
      (case zt => kmk_pure)
      (case zz => rw [List.size_toArray, sizeLine_eq]; omega)
      intro D0 h0s F0s N0s l0s
      clear N10 F10
      k_steps
      refine stop ?_
      rename Fr _ _ _ _ => F11a
      refine' flat_ListCompF F11a ?y1 ?y2 ?y3 ?y4 ?y5 ?y6 ?y7 ?y8 ?y9 ?_
      (case y1 => with_unfolding_all rfl)
      (case y2 => decide)
      (case y3 => rfl)
      (case y4 => decide)
      (case y5 => rfl)
      (case y6 => rfl)
      (case y7 => decide)
      (case y8 => decide)
      (case y9 => (intro _; rfl))
      k_steps
      refine stop ?_
      rename News _ _ _ _ => N11
      rename Fr _ _ _ _ => F11
      have hsl := W1.steps.length
      rw [List.length_reverse] at hsl
      refine ⟨D9, ys, ys.length, (us.reverse.drop 1).map (pairN D), _, rfl, rfl, F11, N11, (.tail _ (.tail _ (.head _))), hT.mono fun p hp => (.tail _ (.tail _ (.tail _ (hp)))), by rw [wp1]; omega, ?_⟩
      intro D10 h10 tk10 ys10 F12 N12 lt12 hna10
      rw [wp1] at hna10
      have hyl := hna10.length
      k_steps
      refine stop ?_
      rename News _ _ _ _ => N13
      rename Fr _ _ _ _ => F13
      refine my_addL F13 N13 (vs := vl.take 1) (ws := ys10) (.tail _ (.head _)) (.head _) (by rw [List.length_take]; omega) ?_
      intro D11 h11 F14 N14 lt14
      k_steps
      refine stop ?_
      rename News _ _ _ _ => N14b
      rename Fr _ _ _ _ => F14b
      refine kde_tupleOf F14b N14b (my_isList N14b (.head _)) (by rw [List.size_toArray, List.length_append, List.length_take]; omega) (zs := vl.take 1 ++ ys10) (by simp) ?_
      intro D12 h12 F15 N15 lt15
      have hna12 : NA (vl.take 1 ++ ys10) (0 :: plN D k) := by
        have e := (hvl.take 1).append hna10
        rw [hl0] at e
        exact e
      k_steps
      refine stop ?_
      rename News _ _ _ _ => N16
      refine my_tupNeF N16 (vs := vp) (ws := vl.take 1 ++ ys10) (.tail _ (.tail _ (.tail _ (.tail _ (.head _))))) (.head _) hvp hna12 (by walk_at "MYROOM") ?_
      have N17 := (news_tail (news_tail (news_tail (news_tail (news_tail N16)))))
      clear N16
      (try clear N15); (try clear N14b); (try clear N14); (try clear N13); (try clear N12); (try clear lt15); (try clear lt14); (try clear lt12); (try clear ltp); (try clear l0s)
      k_steps
      refine stop ?_
      rename News _ _ _ _ => N18
      refine my_tlNeNil N18 (.tail _ (.head _)) (.head _) (hT.mono fun p hp => (.tail _ (.tail _ (hp)))) (by walk_at "MYROOM") ?_
      rcases Nat.eq_zero_or_pos k with h0 | h0
      · rw [wp4 h0]
        simp only [List.map_nil, List.isEmpty_nil, Bool.not_true]
        k_steps
        rename News _ _ _ _ => N30
        rename Fr _ _ _ _ => F30
        refine hQ9 _ _ ?_
        refine upost F30 N30 (fun p hp => ?_) hoff (by intro z h1 h3; first | rfl | ((simp only [List.contains_cons, List.contains_nil, Bool.or_false, Bool.or_eq_false_iff, beq_eq_false_iff_ne, ne_eq] at h3); (simp [h1, h3]; done)))
        have hp2 : p ∈ nw := hsub p (.tail _ (.tail _ (.tail _ (hp))))
        exact .tail _ (.tail _ hp2)
      · obtain ⟨hne, hlast⟩ := wp3 h0
        have he : (!((us.reverse.drop 1).map (pairN D)).isEmpty) = true := by
          cases hq : us.reverse.drop 1 with
          | nil => exact absurd hq hne
          | cons _ _ => rfl
        rw [he]
        obtain ⟨pq, rb, rp, rn, jj, hrb, hpar, hrp, hrn, hjj, hpn⟩ := among_facts BT.wf BT.tm BT.bm h0 hki
        obtain ⟨⟨pv, nb, hpv, hbe⟩, -, -, -⟩ := Ibn.rows rb (row_mem hrb)
        rw [hpar] at hpv
        cases hpv with
        | some _ tpv =>
        k_steps
        refine stop ?_
        refine' does_use (place_among_does ?i rfl hrp hrn hjj _ _) ?B ?F ?X ?N ?T ?K ?d ?u ?_
        walk_at "MYCTX"
        (case i => exact Itn.mono fun p hp _ => .tail _ (.tail _ hp))
        rintro v20 n20 h20' tk20' F20 N20 ⟨lq, vq, rfl, rfl, hvq, hzq, ltq⟩
        rw [← hpn] at hvq
        have hTl := hT.length
        rw [List.length_map] at hTl
        have hl0' : 0 < (us.reverse.drop 1).length := List.length_pos_iff.mpr hne
        have hxl : ys[ys.length - 1]? = some (ys[ys.length - 1]'(by omega)) := List.getElem?_eq_getElem (by omega)
        obtain ⟨Tl, wl, nsl, e1, e2, e3, e4⟩ := hT.item hxl
        rw [e1] at hxl
        have hnsl : nsl = pairN D k := by
          rw [List.getLast?_eq_getElem?, ← hTl] at hlast
          rw [List.getElem?_map, hlast] at e4
          exact (Option.some.inj e4).symm
        rw [hnsl] at e3
        k_steps
        refine stop ?_
        rename News _ _ _ _ => N21
        refine my_last N21 (.tail _ (.tail _ (.head _))) hxl ?_ (by with_unfolding_all rfl)
        k_steps
        refine stop ?_
        rename News _ _ _ _ => N22
        refine my_tupNeF N22 (.head _) (.tail _ (.tail _ (.tail _ (e2)))) hvq e3 (by walk_at "MYROOM") ?_
        k_steps
        rename News _ _ _ _ => N30
        rename Fr _ _ _ _ => F30
        refine hQ9 _ _ ?_
        refine upost F30 N30 (fun p hp => ?_) hoff (by intro z h1 h3; first | rfl | ((simp only [List.contains_cons, List.contains_nil, Bool.or_false, Bool.or_eq_false_iff, beq_eq_false_iff_ne, ne_eq] at h3); (simp [h1, h3]; done)))
        have hp2 : p ∈ nw := hsub p (.tail _ (.tail _ (.tail _ (hp))))
        exact (.tail _ (.tail _ (.tail _ (hp2))))
  · intro u h tk F1 N1
    have N2 := news_tail N1
    clear N1 Nl Fl ltl hna
    k_steps
    refine stop ?_
    have N3 := N2
    refine' kla_eval ?d0 ?_
    (case d0 => exact rfl)
    refine' kla_nest ?zF ?zN ?zT ?zC ?zcd ?zU ?zt ?zn ?zcl ?_
    (case zF => k_asm)
    (case zN => exact N3)
    (case zT => k_asm)
    (case zcd => exact rfl)
    (case zC => kn_code)
    (case zU => exact .tail d4.2.2.1 (.tail d4.2.2.2.2.1 (.tail d4.2.2.2.2.2 (.head fun p hp => (offR p hp).2.2.2))))
    (case zt => kn_triples)
    (case zn => kn_among)
    (case zcl => exact rfl)
    k_whole
    intro f' c' oc' vs' t' ct' h' tk' F' N' d1' d2' l1 l2
    (try dsimp only at N')
    clear N2 N3
    k_steps
    refine stop ?_
    have b4 := (Ib.four _ _ _ _).upTo N' (fun p hp => .tail _ (.tail _ hp))
    refine my_sortedKey rfl F' N' b4 rfl (by rw [BT.blen]; omega) (pl := plN D) (by rw [BT.blen]; exact sord_of BT.wf BT.bm (by omega)) ?_ ?_
    · intro led h2 tk2 i t hi hsub F2 N2
      rw [BT.blen] at hi
      have q1 := hsub _ (.head _)
      have q2 := hsub _ (.tail _ (.head _))
      have q3 := hsub _ (.tail _ (.tail _ (.head _)))
      obtain ⟨us, W1⟩ := way BT.wf BT.tm BT.bm (i + 1) i (Nat.lt_succ_self _) hi
      have hul := W1.len
      obtain ⟨l0, hl0⟩ := W1.rev
      refine wpAny_call ?_
      kla_enter
      k_steps
      refine stop ?_
      refine' does_use (place_of_does ?i rfl W1.up (by omega) hl0 W1.steps _) ?B ?F ?X ?N ?T ?K ?d ?u ?_
      walk_at "MYCTX"
      (case i => exact It.mono fun p hp _ => hsub _ (.tail _ (.tail _ (.tail _ (.tail _ (.tail _ (.tail _ hp)))))))
      rintro v3 n3 h3' tk3' F3 N3 ⟨lp, vp, rfl, rfl, hvp, hzp, ltp⟩
      k_steps
      rename News _ _ _ _ => N4
      rename Fr _ _ _ _ => F4
      exact ⟨_, _, lp, vp, rfl, rfl, F4, N4, hvp, ltp⟩
    · intro Dk vk ck hk tkk out Fk Nk ltk hnk hp ho
      rw [BT.blen] at hp
      obtain ⟨out2, hg, hp2, ho2⟩ := gone_all BT.wf BT.bm (by omega)
      have e := s_uniq (lt := fun i j => lexb (plN D i) (plN D j)) (fun i => lexb_irr _) (fun i j k => lexb_tr _ _ _) (hp.trans hp2.symm) ho ho2
      subst e
      k_steps
      refine stop ?_
      refine' does_use (gone_does (k := 0) ?i rfl hg ?zz _) ?B ?F ?X ?N ?T ?K ?d ?u ?_
      walk_at "MYCTX"
      (case i => exact b4.mono fun p hp _ => .tail _ hp)
      (case zz => rw [hp.length_eq, List.length_range]; omega)
      rintro v5 n5 h5' tk5' F5 N5 ⟨lg, vg, ng, rfl, rfl, hvg, hzg, ltg⟩
      k_steps
      refine stop ?_
      rename News _ _ _ _ => N6
      refine my_neLF N6 (.tail _ (.head _)) (.head _) hnk hvg (by walk_at "MYROOM") rfl ?_
      k_steps
      refine stop ?_
      have hUpL : Up t (some D.length) [D.length] := .cons BT.last (by rw [BT.par]; exact .nil)
      refine' does_use (lines_down_does ?i rfl hUpL (by simp) _) ?B ?F ?X ?N ?T ?K ?d ?u ?_
      walk_at "MYCTX"
      (case i => exact It.mono fun p hp _ => (.tail _ (.tail _ (.tail _ (.tail _ (.tail _ (.tail _ (.tail _ (.tail _ (hp))))))))))
      rintro v7 n7 h7' tk7' F7 N7 ⟨lz, vz, nz, rfl, rfl, hvz, hzz, ltz⟩
      k_steps
      refine stop ?_
      rename News _ _ _ _ => N8
      refine my_eqLT N8 (.tail _ (.head _)) (.head _) (ws := [.int (D.length : Int) tkL]) hvz (.one _ _) (by walk_at "MYROOM") rfl ?_
      k_steps
      refine stop ?_
      refine' does_use (place_of_does (r0 := D.length) (l0 := []) (q := []) ?i rfl hUpL (by simp) rfl (show Steps t [D.length] [] from .one _) _) ?B ?F ?X ?N ?T ?K ?d ?u ?_
      walk_at "MYCTX"
      (case i => exact It.mono fun p hp _ => (.tail _ (.tail _ (.tail _ (.tail _ (.tail _ (.tail _ (.tail _ (.tail _ (.tail _ (.tail _ (hp))))))))))))
      rintro v9 n9 h9' tk9' F9 N9 ⟨lw, vw, rfl, rfl, hvw, hzw, ltw⟩
      k_steps
      refine stop ?_
      rename News _ _ _ _ => N10
      refine my_tupEqT N10 (.tail _ (.head _)) (.head _) (ws := [.int (D.length : Int) tkL]) hvw (.one _ _) (by walk_at "MYROOM") ?_
      k_steps
      refine hQF.go _ _ ?_
      k_steps)

end Mine

theorem PySem.Challenge.cw_xm0667_01_holds : PySem.Challenge.rw_xm0667_01.Holds :=
  Mine.law_holds
