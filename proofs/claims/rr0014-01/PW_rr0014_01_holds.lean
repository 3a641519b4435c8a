import PyProof.Rows.All
import Wide.All
import OpenK.AllK
import Wide.FinOn
import PySem.Challenge.RW_rr0014_01
set_option Elab.async false
set_option compiler.extract_closed false
set_option genInjectivity false
set_option genSizeOf false
set_option genSizeOfSpec false
open PySem PySem.W PyProof.Rows
namespace Mine
set_option maxRecDepth 100000 in
set_option maxHeartbeats 8000000 in
open_top hd for PySem.Challenge.rw_rr0014_01
/-- the head's walk sets the walker's switch: back -/
theorem head_off : True := by
  w_top off
  trivial
open PySem.Calls PySem.Spec
/-! what a walk stops at: each names a shape of goal -/
section
variable {M : Model} {A : Around} {E : Value → Shared → Prop} {s : Shared} {env : Env}
theorem st_while {a b c d} {Q : Flow → Shared → Prop} (h : wpAny M A (exec (.While a b c d) env) Q E s) : wpAny M A (exec (.While a b c d) env) Q E s := h
theorem st_for {a b c d e} {Q : Flow → Shared → Prop} (h : wpAny M A (exec (.For a b c d e) env) Q E s) : wpAny M A (exec (.For a b c d e) env) Q E s := h
theorem st_if {a b c d} {Q : Flow → Shared → Prop} (h : wpAny M A (exec (.If a b c d) env) Q E s) : wpAny M A (exec (.If a b c d) env) Q E s := h
theorem st_iter {v : Value} {Q : Value → Shared → Prop} (h : wpAny M A (pyIter v) Q E s) : wpAny M A (pyIter v) Q E s := h
theorem st_call (f : Addr) {as : List Value} {Q : Value → Shared → Prop} (h : wpAny M A (call (.ref f) as) Q E s) : wpAny M A (call (.ref f) as) Q E s := h
theorem st_len {f : Addr} {Q : Value → Shared → Prop} (h : wpAny M A (call (.builtin "len") [.ref f]) Q E s) : wpAny M A (call (.builtin "len") [.ref f]) Q E s := h
theorem st_append {as : List Value} {Q : Value → Shared → Prop} (h : wpAny M A (call (.builtin "list.append") as) Q E s) : wpAny M A (call (.builtin "list.append") as) Q E s := h
theorem st_fmod {a b : PySem.Expr} {f : Addr} {x y : Int} {t : Tok} {Q : Value → Shared → Prop} (h : wpAny M A (subscriptTail a b (.ref f) (.int (Int.fmod x y) t)) Q E s) : wpAny M A (subscriptTail a b (.ref f) (.int (Int.fmod x y) t)) Q E s := h
theorem st_ne {f g : Addr} {Q : Value → Shared → Prop} (h : wpAny M A (compareOp .NotEq (.ref f) (.ref g)) Q E s) : wpAny M A (compareOp .NotEq (.ref f) (.ref g)) Q E s := h
theorem st_in {f g : Value} {Q : Value → Shared → Prop} (h : wpAny M A (compareOp .In f g) Q E s) : wpAny M A (compareOp .In f g) Q E s := h
theorem st_sub (f : Addr) {a b : PySem.Expr} {i : Value} {Q : Value → Shared → Prop} (h : wpAny M A (subscriptTail a b (.ref f) i) Q E s) : wpAny M A (subscriptTail a b (.ref f) i) Q E s := h
theorem st_rev {as : List Value} {Q : Value → Shared → Prop} (h : wpAny M A (call (.builtin "list.reverse") as) Q E s) : wpAny M A (call (.builtin "list.reverse") as) Q E s := h
theorem st_dget {as : List Value} {Q : Value → Shared → Prop} (h : wpAny M A (call (.builtin "dict.get") as) Q E s) : wpAny M A (call (.builtin "dict.get") as) Q E s := h
theorem st_get {f : Addr} {pl : Sem Bool} {Q : Value × List Value → Shared → Prop} (h : wpAny M A (getMethod (.ref f) "get" pl) Q E s) : wpAny M A (getMethod (.ref f) "get" pl) Q E s := h
theorem st_set {f : Addr} {k : Int} {t : Tok} {v : Value} {Q : Unit → Shared → Prop} (h : wpAny M A (setItem (.ref f) (.int k t) v) Q E s) : wpAny M A (setItem (.ref f) (.int k t) v) Q E s := h
theorem st_gi {f : Addr} {k : Int} {t : Tok} {Q : Value → Shared → Prop} (h : wpAny M A (getItem (.ref f) (.int k t)) Q E s) : wpAny M A (getItem (.ref f) (.int k t)) Q E s := h
theorem st_eq {f g : Addr} {Q : Value → Shared → Prop} (h : wpAny M A (compareOp .Eq (.ref f) (.ref g)) Q E s) : wpAny M A (compareOp .Eq (.ref f) (.ref g)) Q E s := h
theorem st_lc {a b c d} {Q : Value → Shared → Prop} (h : wpAny M A (eval (.ListComp a b c d) env) Q E s) : wpAny M A (eval (.ListComp a b c d) env) Q E s := h
end
local macro_rules | `(tactic| k_ne) => `(tactic| (refine neN ?_; (try dsimp only); first | assumption | (refine Ne.symm ?_; assumption) | exact Nat.ne_of_lt (by assumption) | exact Nat.ne_of_gt (by assumption) | omega))
local macro_rules | `(tactic| k_room) => `(tactic| ((try simp only [depth_mark, depth_under_make, depth_under_kw, depth_in1, depth_deeper, depth_caller]); (try dsimp only [ktrTop]); first | omega | decide))
local macro_rules | `(tactic| k_units) => `(tactic| ((try simp only [units_in1, units_deeper, Around.mark_units, units_caller]); (try dsimp only [ktrTop]); first | omega | decide))
/-- what a call of the def at f does: any caller's frame, any ledger of the caller's that holds led -/
def Spec (w : World) (f : Addr) (args : List Value) (c : Nat) (led : List (Addr × Obj)) (R : Value → List (Addr × Obj) → Prop) : Prop :=
  ∀ (p : Program) (loose : List Str) (mean : ExcName → Option Value) (mg mb : Str → Option Value) (dp un : Nat) (gd : Option (List Code)) (cn : Str) (cs : Scope) (a : Addr) (ccd : Value) (cl : List (Str × Addr)) (outer : List Env) (A₀ : Around) (base h₀ : Heap) (L : Addr) (m : Str → Option Value) (s : Shared) (Q E : Value → Shared → Prop),
    Below A₀ base outer h₀ → Fr h₀ L s.heap m → (hd.heap_39 w.params).In h₀ → News h₀ L s.heap led → Top p loose mean mg mb h₀ → cs.kind = .function → dp + c < recursionLimit → un + 8 * c < cLine →
    (∀ r led' h' tk', R r led' → Fr h₀ L h' m → News h₀ L h' led' → Q r { s with heap := h', toks := tk' }) →
    wpAny (model PySem.Challenge.rw_rr0014_01.row.prog w) (ktrTop dp un gd cn cs L a ccd cl outer) (call (.ref f) args) Q E s

theorem Spec.of {w : World} {f : Addr} {args : List Value} {c c' : Nat} {led led' : List (Addr × Obj)} {R R' : Value → List (Addr × Obj) → Prop} (S : Spec w f args c led R)
    (hsub : ∀ p ∈ led, p ∈ led') (hc : c ≤ c') (hR : ∀ v l, R v l → ∃ l', R' v l' ∧ ∀ p ∈ l', p ∈ l) : Spec w f args c' led' R' := by
  intro p loose mean mg mb dp un gd cn cs a ccd cl outer A₀ base h₀ L m s Q E B F X N T hk hd hu hret
  exact S p loose mean mg mb dp un gd cn cs a ccd cl outer A₀ base h₀ L m s Q E B F X (fun q hq => N q (hsub q hq)) T hk (by omega) (by omega) (fun r l h' tk' hr F' N' => by
    obtain ⟨l', h1, h2⟩ := hR r l hr
    exact hret r l' h' tk' h1 F' fun q hq => N' q (h2 q hq))
/-- the same, with the fact that the ledger stands in some heap -/
theorem Spec.ofN {w : World} {f : Addr} {args : List Value} {c c' : Nat} {led' : List (Addr × Obj)} {R' : Value → List (Addr × Obj) → Prop}
    (S : ∀ h₀ h L, News h₀ L h led' → Spec w f args c led' R') (hc : c ≤ c') : Spec w f args c' led' R' := by
  intro p loose mean mg mb dp un gd cn cs a ccd cl outer A₀ base h₀ L m s Q E B F X N T hk hd hu hret
  exact S _ _ _ N p loose mean mg mb dp un gd cn cs a ccd cl outer A₀ base h₀ L m s Q E B F X N T hk (by omega) (by omega) hret
theorem Spec.use {w : World} {f : Addr} {args : List Value} {c : Nat} {led : List (Addr × Obj)} {R : Value → List (Addr × Obj) → Prop} {p : Program} {loose : List Str} {mean : ExcName → Option Value} {mg mb : Str → Option Value} {dp un : Nat} {gd : Option (List Code)} {cn : Str} {cs : Scope} {a : Addr} {ccd : Value} {cl : List (Str × Addr)} {outer : List Env} {A₀ : Around} {base h₀ : Heap} {L : Addr} {m : Str → Option Value} {s : Shared} {Q E : Value → Shared → Prop}
    (B : Below A₀ base outer h₀) (F : Fr h₀ L s.heap m) (X : (hd.heap_39 w.params).In h₀) {news : List (Addr × Obj)} (N : News h₀ L s.heap news) (T : Top p loose mean mg mb h₀) (hk : cs.kind = .function)
    (S : Spec w f args c led R) (hsub : ∀ p ∈ led, p ∈ news) (hd : dp + c < recursionLimit) (hu : un + 8 * c < cLine)
    (ret : ∀ r led' h' tk', R r led' → Fr h₀ L h' m → News h₀ L h' led' → Q r { s with heap := h', toks := tk' }) :
    wpAny (model PySem.Challenge.rw_rr0014_01.row.prog w) (ktrTop dp un gd cn cs L a ccd cl outer) (call (.ref f) args) Q E s :=
  S p loose mean mg mb dp un gd cn cs a ccd cl outer A₀ base h₀ L m s Q E B F X (fun q hq => N q (hsub q hq)) T hk hd hu ret

theorem Spec.use1 {w : World} {f : Addr} {args : List Value} {c : Nat} {p : Program} {loose : List Str} {mean : ExcName → Option Value} {mg mb : Str → Option Value} {dp un : Nat} {gd : Option (List Code)} {cn : Str} {cs : Scope} {a : Addr} {ccd : Value} {cl : List (Str × Addr)} {outer : List Env} {A₀ : Around} {base h₀ : Heap} {L : Addr} {m : Str → Option Value} {s : Shared} {Q E : Value → Shared → Prop} {news : List (Addr × Obj)} {v₀ : Value}
    (B : Below A₀ base outer h₀) (F : Fr h₀ L s.heap m) (X : (hd.heap_39 w.params).In h₀) (N : News h₀ L s.heap news) (T : Top p loose mean mg mb h₀) (hk : cs.kind = .function)
    (S : Spec w f args c news (fun v l => v = v₀ ∧ l = news)) (hd : dp + c < recursionLimit) (hu : un + 8 * c < cLine)
    (ret : ∀ h' tk', Fr h₀ L h' m → News h₀ L h' news → Q v₀ { s with heap := h', toks := tk' }) :
    wpAny (model PySem.Challenge.rw_rr0014_01.row.prog w) (ktrTop dp un gd cn cs L a ccd cl outer) (call (.ref f) args) Q E s := by
  refine Spec.use B F X N T hk S (fun _ h => h) hd hu ?_
  rintro r led' h' tk' ⟨rfl, rfl⟩ F' N'
  exact ret h' tk' F' N'
theorem Spec.use2 {w : World} {f : Addr} {args : List Value} {c : Nat} {p : Program} {loose : List Str} {mean : ExcName → Option Value} {mg mb : Str → Option Value} {dp un : Nat} {gd : Option (List Code)} {cn : Str} {cs : Scope} {a : Addr} {ccd : Value} {cl : List (Str × Addr)} {outer : List Env} {A₀ : Around} {base h₀ : Heap} {L : Addr} {m : Str → Option Value} {s : Shared} {Q E : Value → Shared → Prop} {news : List (Addr × Obj)} {led : List (Addr × Obj)} {x : Int}
    (B : Below A₀ base outer h₀) (F : Fr h₀ L s.heap m) (X : (hd.heap_39 w.params).In h₀) (N : News h₀ L s.heap news) (T : Top p loose mean mg mb h₀) (hk : cs.kind = .function)
    (S : Spec w f args c led (fun v l => (∃ t, v = .int x t) ∧ l = led)) (hsub : ∀ q ∈ led, q ∈ news) (hd : dp + c < recursionLimit) (hu : un + 8 * c < cLine)
    (ret : ∀ t h' tk', Fr h₀ L h' m → News h₀ L h' led → Q (.int x t) { s with heap := h', toks := tk' }) :
    wpAny (model PySem.Challenge.rw_rr0014_01.row.prog w) (ktrTop dp un gd cn cs L a ccd cl outer) (call (.ref f) args) Q E s := by
  refine Spec.use B F X N T hk S hsub hd hu ?_
  rintro r led' h' tk' ⟨⟨t, rfl⟩, rfl⟩ F' N'
  exact ret t h' tk' F' N'
theorem dat_mono {n n' : List (Addr × Obj)} {v : Value} {d : Dat} (h : DatIn n v d) (hs : ∀ q ∈ n, q ∈ n') : DatIn n' v d := DatIn.mono hs h
theorem fr_eq {h₀ h : Heap} {L : Addr} {m m' : Str → Option Value} (F : Fr h₀ L h m) (e : m = m') : Fr h₀ L h m' := e ▸ F
noncomputable def ar1 (a : Str) (a' : Value) (y : Str) : Option Value := List.lookup y [(a, a')]
noncomputable def ar2 (a : Str) (a' : Value) (b : Str) (b' : Value) (y : Str) : Option Value := List.lookup y [(b, b'), (a, a')]
noncomputable def ar3 (a : Str) (a' : Value) (b : Str) (b' : Value) (c : Str) (c' : Value) (y : Str) : Option Value := List.lookup y [(c, c'), (b, b'), (a, a')]
noncomputable def ar4 (a : Str) (a' : Value) (b : Str) (b' : Value) (c : Str) (c' : Value) (d : Str) (d' : Value) (y : Str) : Option Value := List.lookup y [(d, d'), (c, c'), (b, b'), (a, a')]
noncomputable def ar5 (a : Str) (a' : Value) (b : Str) (b' : Value) (c : Str) (c' : Value) (d : Str) (d' : Value) (e : Str) (e' : Value) (y : Str) : Option Value := List.lookup y [(e, e'), (d, d'), (c, c'), (b, b'), (a, a')]
/-- two entries of one ledger with unlike objects lie apart -/
theorem ne_of_news {h₀ h : Heap} {L : Addr} {led : List (Addr × Obj)} (N : News h₀ L h led) {a b : Addr} {o o' : Obj} (h1 : (a, o) ∈ led) (h2 : (b, o') ∈ led) (hne : o ≠ o') : @Ne Nat a b := by
  intro e
  have e' : a = b := e
  subst e'
  have := (N _ h1).1.symm.trans (N _ h2).1
  exact hne (Option.some.inj this)

def Kept (mods : List Addr) (led led' : List (Addr × Obj)) : Prop := ∀ q ∈ led, q.1 ∉ mods → q ∈ led'
noncomputable def off (mods : List Addr) (led : List (Addr × Obj)) : List (Addr × Obj) := led.filter fun q => decide (q.1 ∉ mods)
theorem mem_off {mods : List Addr} {led : List (Addr × Obj)} {q : Addr × Obj} : q ∈ off mods led ↔ q ∈ led ∧ q.1 ∉ mods := by simp [off]
theorem off_own (mods : List Addr) (led : List (Addr × Obj)) : OwnOff (off mods led) mods := fun p hp b hb e => (mem_off.mp hp).2 (e ▸ hb)

inductive Split (d : Addr) (o : Obj) : List (Addr × Obj) → List (Addr × Obj) → List (Addr × Obj) → Prop
  | head {r} : (∀ p ∈ r, p.1 ≠ d) → Split d o ((d, o) :: r) [] r
  | tail {p r pre post} : p.1 ≠ d → Split d o r pre post → Split d o (p :: r) (p :: pre) post
theorem Split.out {d : Addr} {o : Obj} {l pre post : List (Addr × Obj)} (h : Split d o l pre post) : l = pre ++ (d, o) :: post ∧ (∀ p ∈ pre, p.1 ≠ d) ∧ ∀ p ∈ post, p.1 ≠ d := by
  induction h with
  | head h => exact ⟨rfl, (fun _ h => nomatch h), h⟩
  | tail hp _ ih =>
    obtain ⟨e, h1, h2⟩ := ih
    refine ⟨by rw [e]; rfl, fun q hq => ?_, h2⟩
    rcases List.mem_cons.mp hq with rfl | hq
    · exact hp
    · exact h1 q hq

section
variable {prog : Program} {w : World} {A : Around} {E : Value → Shared → Prop} {s : Shared} {h₀ : Heap} {L d : Addr} {m : Str → Option Value} {news pre post : List (Addr × Obj)} {o : Obj} {kvs : List (Int × Value)}

theorem set_map {k : Int} {t : Tok} {v : Value} {Q : Unit → Shared → Prop} (F : Fr h₀ L s.heap m) (N : News h₀ L s.heap news) (U : Split d o news pre post) (hd : o.IsDictOf (intKind prog w) kvs)
    (hsz : kvs.length ≤ sizeLine)
    (h : ∀ h' o', Fr h₀ L h' m → News h₀ L h' (pre ++ (d, o') :: post) → o'.IsDictOf (intKind prog w) (stored kvs k v) → Q () { s with heap := h', toks := s.toks + 1 }) :
    wpAny (model prog w) A (setItem (.ref d) (.int k t) v) Q E s := by
  obtain ⟨e, h1, h2⟩ := U.out
  subst e
  have hm := N (d, o) (List.mem_append_right _ (.head _))
  refine wpAny_setItem_pairs (hsz := hsz) (intKind_is prog w k t) (Heap.dictOf_iff.mpr ⟨o, hm.1, hd⟩) fun h' hmm hs => ?_
  obtain ⟨o', ho', hd'⟩ := Heap.dictOf_iff.mp hmm
  exact h h' o' (F.change hs hm.2.1 hm.2.2) (N.setIn h1 h2 hs ho') hd'

theorem item_map {value slice : Expr} {i : Int} {t : Tok} {v : Value} {Q : Value → Shared → Prop} (N : News h₀ L s.heap news) (hm : (d, o) ∈ news) (hd : o.IsDictOf (intKind prog w) kvs) (hl : valueAt kvs i = some v)
    (h : Q v { s with toks := s.toks + 1 })
    (hs : subscripted slice false (.ref d) (.int i t) = operate [.ref d, .int i t] (getItem (.ref d) (.int i t)) := by with_unfolding_all rfl) (hg : ∀ r, letTemporaryGo value (.ref d) r = pure () := by intro _; with_unfolding_all rfl) :
    wpAny (model prog w) A (subscriptTail value slice (.ref d) (.int i t)) Q E s := by
  have hD : s.heap.DictOf (intKind prog w) d kvs := Heap.dictOf_iff.mpr ⟨o, (N _ hm).1, hd⟩
  exact subscriptTail_builtin hD.typeIs slot_dict_getitem.lookup (wpAny_getItem_of (intKind_is prog w i t) hD.mapOf hl h) hs hg

theorem getMethod_map {pl : Sem Bool} {Q : Value × List Value → Shared → Prop} (N : News h₀ L s.heap news) (hm : (d, o) ∈ news) (hd : o.IsDictOf (intKind prog w) kvs) (h : Q (.builtin "dict.get", [.ref d]) s) :
    wpAny (model prog w) A (getMethod (.ref d) "get" pl) Q E s := by
  have hD : s.heap.DictOf (intKind prog w) d kvs := Heap.dictOf_iff.mpr ⟨o, (N _ hm).1, hd⟩
  exact getMethod_builtin hD.typeIs PySem.F.plainAttrs_dict PySem.F.slot_dict_get PySem.F.type_dict_get hD.mapOf.noDict h

theorem get_map {i : Int} {t : Tok} {Q : Value → Shared → Prop} (N : News h₀ L s.heap news) (hm : (d, o) ∈ news) (hd : o.IsDictOf (intKind prog w) kvs) (lo : (d == sysModules) = false)
    (h : Q ((valueAt kvs i).getD .none) { s with toks := s.toks + 1 }) :
    wpAny (model prog w) A (call (.builtin "dict.get") [.ref d, .int i t]) Q E s := by
  have hD : s.heap.DictOf (intKind prog w) d kvs := Heap.dictOf_iff.mpr ⟨o, (N _ hm).1, hd⟩
  exact call_meetsIn PySem.F.slot_dict_get hD.typeIs PySem.F.entry_dict_get (PySem.F.args_dict_get_2 _ _) (meets_dict_get (intKind prog w) d (intKind_is prog w i t) lo) ⟨_, hD.mapOf, h⟩
end

/-- an entry of the ledger is no part of the machine's own -/
theorem low_ne {h₀ h : Heap} {L : Addr} {m : Str → Option Value} {led : List (Addr × Obj)} {d : Addr} {o : Obj} (N : News h₀ L h led) (hm : (d, o) ∈ led) (hb : ∃ o', h₀.get? sysModules = some o') : (d == sysModules) = false := by
  obtain ⟨o', ho'⟩ := hb
  have h3 := (N _ hm).2.2
  refine beq_eq_false_iff_ne.mpr fun e => ?_
  rw [e, ho'] at h3
  cases h3
structure Rec where
  a : Addr
  d : Addr
  key : Int
  functor : Int
  term : Addr
  ikey : Addr
  birth : Int
  death : Int
  next : Int
  entry : Int
  tm : Dat
  ik : Dat
  k0 : Tok
  k1 : Tok
  k2 : Tok
  k3 : Tok
  k4 : Tok
  k5 : Tok
  k6 : Tok
  k7 : Tok
  v0 : Tok
  v1 : Tok
  v4 : Tok
  v5 : Tok
  v6 : Tok
  v7 : Tok
noncomputable abbrev Rec.es (P : Params) (r : Rec) : List DictEntry :=
  [⟨PyData.keyHash P "key", .str "key" r.k0, .int r.key r.v0⟩, ⟨PyData.keyHash P "functor", .str "functor" r.k1, .int r.functor r.v1⟩,
   ⟨PyData.keyHash P "term", .str "term" r.k2, .ref r.term⟩, ⟨PyData.keyHash P "index_key", .str "index_key" r.k3, .ref r.ikey⟩,
   ⟨PyData.keyHash P "birth", .str "birth" r.k4, .int r.birth r.v4⟩, ⟨PyData.keyHash P "death", .str "death" r.k5, .int r.death r.v5⟩,
   ⟨PyData.keyHash P "next_key", .str "next_key" r.k6, .int r.next r.v6⟩, ⟨PyData.keyHash P "entry", .str "entry" r.k7, .int r.entry r.v7⟩]
noncomputable def Rec.vis (r : Rec) (g : Int) : Bool := decide (r.birth ≤ g) && (decide (r.death < 0) || decide (g < r.death))

structure Prc where
  a : Addr
  d : Addr
  functor : Int
  codes : Addr
  terms : Addr
  first : Int
  last : Int
  k0 : Tok
  k1 : Tok
  k2 : Tok
  k3 : Tok
  k4 : Tok
  k5 : Tok
  k6 : Tok
  k7 : Tok
  k8 : Tok
  k9 : Tok
  v0 : Tok
  v1 : Tok
  v2 : Tok
  v5 : Tok
  v6 : Tok
noncomputable abbrev Prc.es (P : Params) (p : Prc) : List DictEntry :=
  [⟨PyData.keyHash P "functor", .str "functor" p.k0, .int p.functor p.v0⟩, ⟨PyData.keyHash P "kind", .str "kind" p.k1, .str "dynamic" p.v1⟩,
   ⟨PyData.keyHash P "entry", .str "entry" p.k2, .int (-1) p.v2⟩, ⟨PyData.keyHash P "codes", .str "codes" p.k3, .ref p.codes⟩,
   ⟨PyData.keyHash P "terms", .str "terms" p.k4, .ref p.terms⟩, ⟨PyData.keyHash P "first_key", .str "first_key" p.k5, .int p.first p.v5⟩,
   ⟨PyData.keyHash P "last_key", .str "last_key" p.k6, .int p.last p.v6⟩, ⟨PyData.keyHash P "library", .str "library" p.k7, .bool false⟩,
   ⟨PyData.keyHash P "helper", .str "helper" p.k8, .bool false⟩, ⟨PyData.keyHash P "pending", .str "pending" p.k9, .bool false⟩]

structure Sto where
  a : Addr
  d : Addr
  rd : Addr
  ro : Obj
  gen : Int
  recs : List Rec
  k0 : Tok
  k1 : Tok
  k2 : Tok
  v1 : Tok
  v2 : Tok
noncomputable abbrev Sto.es (P : Params) (S : Sto) : List DictEntry :=
  [⟨PyData.keyHash P "records", .str "records" S.k0, .ref S.rd⟩, ⟨PyData.keyHash P "next_record", .str "next_record" S.k1, .int S.recs.length S.v1⟩,
   ⟨PyData.keyHash P "generation", .str "generation" S.k2, .int S.gen S.v2⟩]
noncomputable def Sto.kvs (S : Sto) : List (Int × Value) := S.recs.map fun r => (r.key, .ref r.a)

abbrev InI (a d : Addr) (C : Addr) (o : Obj) (led : List (Addr × Obj)) : Prop := (a, instObj C d) ∈ led ∧ (d, o) ∈ led
abbrev RecIn (w : World) (led : List (Addr × Obj)) (r : Rec) : Prop := (r.a, instObj 46 r.d) ∈ led ∧ (r.d, dictOf (r.es w.params) 8) ∈ led
abbrev PrcIn (w : World) (led : List (Addr × Obj)) (p : Prc) : Prop := (p.a, instObj 74 p.d) ∈ led ∧ (p.d, dictOf (p.es w.params) 10) ∈ led
abbrev StoIn (w : World) (led : List (Addr × Obj)) (S : Sto) : Prop := (S.a, instObj 165 S.d) ∈ led ∧ (S.d, dictOf (S.es w.params) 3) ∈ led ∧ (S.rd, S.ro) ∈ led
/-- keys are places; the records' dict holds them -/
structure SOk (w : World) (S : Sto) : Prop where
  ro : S.ro.IsDictOf (intKind PySem.Challenge.rw_rr0014_01.row.prog w) S.kvs
  key : ∀ (i : Nat) (r : Rec), S.recs[i]? = some r → r.key = (i : Int)
  len : S.recs.length ≤ 100
  lo : (S.rd == sysModules) = false

theorem SOk.nodup {w : World} {S : Sto} (h : SOk w S) : (S.kvs.map (·.1)).Nodup := by
  have e : S.kvs.map (·.1) = S.recs.map (·.key) := by simp [Sto.kvs, Function.comp_def]
  rw [e, List.Nodup, List.pairwise_iff_getElem]
  intro i j hi hj hij
  rw [List.length_map] at hi hj
  have h1 := h.key i _ (List.getElem?_eq_getElem hi)
  have h2 := h.key j _ (List.getElem?_eq_getElem hj)
  simp only [List.getElem_map, h1, h2]
  omega
theorem SOk.valueAt {w : World} {S : Sto} (h : SOk w S) {i : Nat} {r : Rec} (hr : S.recs[i]? = some r) : valueAt S.kvs (i : Int) = some (.ref r.a) := by
  refine valueAt_of_get h.nodup (i := i) ?_
  simp [Sto.kvs, hr, h.key _ _ hr]
theorem SOk.stored {w : World} {S : Sto} (h : SOk w S) (v : Value) : stored S.kvs (S.recs.length : Int) v = S.kvs ++ [((S.recs.length : Int), v)] := by
  unfold PySem.stored
  rw [if_neg]
  rw [List.any_eq_true]
  rintro ⟨x, hx, he⟩
  obtain ⟨r, hr, rfl⟩ := List.mem_map.mp hx
  obtain ⟨i, hi, e⟩ := List.mem_iff_getElem.mp hr
  have h1 := h.key i r (by simp [hi, e])
  have h2 : r.key = (S.recs.length : Int) := of_decide_eq_true he
  rw [h1] at h2
  have : i = S.recs.length := by exact_mod_cast h2
  omega

theorem ro_ne {w : World} {kvs : List (Int × Value)} {o : Obj} (h : o.IsDictOf (intKind PySem.Challenge.rw_rr0014_01.row.prog w) kvs) {hh : Int} {x : Str} {t : Tok} {v : Value} {es : List DictEntry} {n : Nat} : o ≠ dictOf (⟨hh, .str x t, v⟩ :: es) n := by
  obtain ⟨es', ep, _, hd, hk, _⟩ := h
  rintro rfl
  have e : es' = (⟨hh, .str x t, v⟩ :: es : List DictEntry).toArray := by
    have := hd
    simp only [Data.dict.injEq] at this
    exact this.1.symm
  subst e
  obtain ⟨k, hk1, _⟩ := hk ⟨hh, .str x t, v⟩ (by simp)
  simp [intKind, Value.isInt] at hk1
theorem ro_ne_inst {w : World} {kvs : List (Int × Value)} {o : Obj} (h : o.IsDictOf (intKind PySem.Challenge.rw_rr0014_01.row.prog w) kvs) {C d : Addr} : o ≠ instObj C d := by
  obtain ⟨es', ep, hc, _⟩ := h
  rintro rfl
  cases hc.1
theorem inst_ne_dict {C d : Addr} {es : List DictEntry} {n : Nat} : instObj C d ≠ dictOf es n := fun e => by cases congrArg Obj.cls e
theorem inst_ne {C C' d d' : Addr} (h : C ≠ C') : instObj C d ≠ instObj C' d' := fun e => by
  have := congrArg Obj.cls e
  exact h (Value.ref.inj this)
theorem dict_ne {es es' : List DictEntry} {n n' : Nat} (h : n ≠ n') : dictOf es n ≠ dictOf es' n' := fun e => by
  have := congrArg Obj.data e
  simp only [Data.dict.injEq] at this
  exact h this.2

/-- the chain from a first key: its keys in order -/
def Linked (recs : List Rec) : Int → List Nat → Prop
  | f, [] => f = -1
  | f, k :: C => f = (k : Int) ∧ ∃ r, recs[k]? = some r ∧ Linked recs r.next C

noncomputable def tups (led : List (Addr × Obj)) : List (Addr × Obj) := led.filter fun q => decide (q.2.cls = .type "tuple")
theorem tups_sub {led : List (Addr × Obj)} : ∀ q ∈ tups led, q ∈ led := fun q hq => (List.mem_filter.mp hq).1

noncomputable def varD : Dat := .tuple [.str "var"]
open Classical in
noncomputable def mt (a b : Dat) : Bool := decide (a = varD) || (decide (b = varD) || decide (a = b))

section
variable {prog : Program} {w : World} {A : Around} {E : Value → Shared → Prop} {s : Shared}
open Classical in
theorem eqv_dat {da db : Dat} (ha : kqdOk 8 da = true) (hb : kqdOk 8 db = true) : PyData.eqv (kqdP da) (kqdP db) = decide (da = db) := by
  have q := kqd_eqv 8 da db 8 ha hb
  by_cases hq : da = db
  · rw [decide_eq_true hq]; exact q.mpr hq
  · rw [decide_eq_false hq]; exact Bool.eq_false_iff.mpr fun x => hq (q.mp x)
open Classical in
theorem eq_dat {a b : Value} {da db : Dat} {Q : Value → Shared → Prop} (ra : ∃ as, Reads s.heap a (kqdP da) as) (rb : ∃ as, Reads s.heap b (kqdP db) as) (ha : kqdOk 8 da = true) (hb : kqdOk 8 db = true)
    (hu : A.units + 64 < cLine) (h : Q (.bool (decide (da = db))) s) : wpAny (model prog w) A (compareOp .Eq a b) Q E s := by
  obtain ⟨as, ra⟩ := ra
  obtain ⟨bs, rb⟩ := rb
  have la := kqd_lay 8 da ha
  have lb := kqd_lay 8 db hb
  refine eq_dataH ra rb ?_ ?_ hu (by rw [eqv_dat ha hb]; exact h)
  · unfold SeqAt.shaped; rw [la.1, Bool.true_and]; exact decide_eq_true (Nat.le_trans la.2 (by decide))
  · unfold SeqAt.shaped; rw [lb.1, Bool.true_and]; exact decide_eq_true (Nat.le_trans lb.2 (by decide))
end
set_option maxRecDepth 100000 in
set_option maxHeartbeats 8000000 in
theorem visible_spec (w : World) (self : Addr) (r : Rec) (g : Int) (tg : Tok) (rest : List (Addr × Obj)) (hr : RecIn w rest r) :
    Spec w 120 [.ref self, .ref r.a, .int g tg] 10 rest (fun v led' => v = .bool (r.vis g) ∧ led' = rest) := by
  refine Spec.of (led := (r.a, instObj 46 r.d) :: (r.d, dictOf (r.es w.params) 8) :: rest) (c := 10) (R := fun v led' => v = .bool (r.vis g) ∧ led' = (r.a, instObj 46 r.d) :: (r.d, dictOf (r.es w.params) 8) :: rest) ?_ ?_ (Nat.le_refl _) ?_
  · unfold Spec
    k_fill
    intro p loose mean mg mb dp un gd cn cs a ccd cl outer A₀ base h₀ L m s Q E B F X N T hk hd hu hret
    refine wpAny_call ?_
    k_dflt ktr_enter
    (rename Fr _ _ _ _ => F77)
    replace F77 := fr_eq (m' := ar3 "self" (.ref self) "record" (.ref r.a) "g" (.int g tg)) F77 (by with_unfolding_all rfl)
    (repeat' ((fail_if_success k_data); (first | (k_unfold; (try dsimp only)) | (k_end; kc_close) | walk1 | (dsimp only; walk1) | (leave1; (try dsimp only)) | fail "no step")))
    all_goals (refine hret _ _ _ _ ⟨?_, rfl⟩ (by assumption) (by assumption); first | (simp_all [Rec.vis]; done) | (simp_all [Rec.vis]; omega))
  · intro q hq
    simp only [List.mem_cons] at hq
    rcases hq with rfl | rfl | hq
    · exact hr.1
    · exact hr.2
    · exact hq
  · rintro v l ⟨h1, h2⟩
    subst h2
    exact ⟨rest, ⟨h1, rfl⟩, fun q hq => .tail _ (.tail _ hq)⟩

theorem varOk : kqdOk 8 varD = true := by decide +kernel
theorem varR {w : World} {h : Heap} (X : (hd.heap_39 w.params).In h) : ∃ as, Reads h (.ref 22) (kqdP varD) as := by
  refine ⟨[] ++ [], ?_⟩
  show Reads h (.ref 22) (.tuple [.str "var"]) _
  exact reads_tuple_at (X 22 _ rfl) rfl rfl (ReadsAll.cons (Reads.str _ _) ReadsAll.nil)
section
set_option maxRecDepth 100000 in
set_option maxHeartbeats 8000000 in
theorem matching_spec (w : World) (k c : Addr) (dk dc : Dat) (led : List (Addr × Obj)) (hk : DatIn led (.ref k) dk) (hc : DatIn led (.ref c) dc) (ok : kqdOk 8 dk = true) (oc : kqdOk 8 dc = true) :
    Spec w 29 [.ref k, .ref c] 20 led (fun v led' => v = .bool (mt dk dc) ∧ led' = led) := by
  unfold Spec
  k_fill
  intro p loose mean mg mb dp un gd cn cs a ccd cl outer A₀ base h₀ L m s Q E B F X N T hcs hd hu hret
  refine wpAny_call ?_
  k_dflt ktr_enter
  (rename Fr _ _ _ _ => F77)
  replace F77 := fr_eq (m' := ar2 "key" (.ref k) "cell_key" (.ref c)) F77 (by with_unfolding_all rfl)
  (repeat' ((fail_if_success first | (with_reducible first | refine st_eq ?_) | k_data); (first | (k_unfold; (try dsimp only)) | (k_end; kc_close) | walk1 | (dsimp only; walk1) | (leave1; (try dsimp only)) | fail "no step")))
  ((rename Fr _ _ _ _ => lF); (rename News _ _ _ _ => lN); (rename Frag.In _ _ => lX); k_dflt (refine eq_dat (kqd_in lN 8 (by assumption) (by assumption)) (by first | exact kqd_in lN 8 (by assumption) (by assumption) | exact varR (lX.keeps lF.keep)) (by first | assumption | exact varOk) (by first | assumption | exact varOk) (by k_units) ?_))
  (repeat' ((fail_if_success first | (with_reducible first | refine st_eq ?_) | k_data); (first | (k_unfold; (try dsimp only)) | (k_end; kc_close) | walk1 | (dsimp only; walk1) | (leave1; (try dsimp only)) | fail "no step")))
  all_goals try ((rename Fr _ _ _ _ => lF); (rename News _ _ _ _ => lN); (rename Frag.In _ _ => lX); k_dflt (refine eq_dat (kqd_in lN 8 (by assumption) (by assumption)) (by first | exact kqd_in lN 8 (by assumption) (by assumption) | exact varR (lX.keeps lF.keep)) (by first | assumption | exact varOk) (by first | assumption | exact varOk) (by k_units) ?_); (repeat' ((fail_if_success first | (with_reducible first | refine st_eq ?_) | k_data); (first | (k_unfold; (try dsimp only)) | (k_end; kc_close) | walk1 | (dsimp only; walk1) | (leave1; (try dsimp only)) | fail "no step"))))
  all_goals try ((rename Fr _ _ _ _ => lF); (rename News _ _ _ _ => lN); (rename Frag.In _ _ => lX); k_dflt (refine eq_dat (kqd_in lN 8 (by assumption) (by assumption)) (by first | exact kqd_in lN 8 (by assumption) (by assumption) | exact varR (lX.keeps lF.keep)) (by first | assumption | exact varOk) (by first | assumption | exact varOk) (by k_units) ?_); (repeat' ((fail_if_success first | (with_reducible first | refine st_eq ?_) | k_data); (first | (k_unfold; (try dsimp only)) | (k_end; kc_close) | walk1 | (dsimp only; walk1) | (leave1; (try dsimp only)) | fail "no step"))))
  all_goals first
   | (refine hret _ _ _ _ ⟨?_, rfl⟩ (by assumption) (by assumption); first | (simp_all [mt]; done) | (simp_all [mt]; omega))
end
theorem News.add1 {h₀ h : Heap} {L : Addr} {led : List (Addr × Obj)} {q : Addr × Obj} (N : News h₀ L h led) (hm : q ∈ led) : News h₀ L h (q :: led) := fun p hp => by
  rcases List.mem_cons.mp hp with rfl | hp
  · exact N _ hm
  · exact N _ hp
theorem News.sub {h₀ h : Heap} {L : Addr} {led led' : List (Addr × Obj)} (N : News h₀ L h led) (hs : ∀ q ∈ led', q ∈ led) : News h₀ L h led' := fun p hp => N p (hs p hp)

/-! ## a while loop -/
def WEnd {σ : Type} (h₀ : Heap) (L : Addr) (s : Shared) (J : σ → (Str → Option Value) → List (Addr × Obj) → Prop) (μ : σ → Nat) (c : σ) (s₂ : Shared) : Prop :=
  ∃ (c' : σ) (h' : Heap) (tk : Nat) (m' : Str → Option Value) (news' : List (Addr × Obj)), s₂ = { s with heap := h', toks := tk } ∧ Fr h₀ L h' m' ∧ News h₀ L h' news' ∧ J c' m' news' ∧ μ c' < μ c
def WPost {σ : Type} (h₀ : Heap) (L : Addr) (s : Shared) (J : σ → (Str → Option Value) → List (Addr × Obj) → Prop) (μ : σ → Nat) (Q : Flow → Shared → Prop) (c : σ) (f : Flow) (s₂ : Shared) : Prop :=
  match f with
  | .ret v => Q (.ret v) s₂
  | .brk => Q .next s₂
  | _ => WEnd h₀ L s J μ c s₂

section
variable {prog : Program} {w : World} {A : Around} {E : Value → Shared → Prop} {Q : Flow → Shared → Prop} {s : Shared} {env : Env} {h₀ : Heap} {L : Addr}
theorem wend {σ : Type} {J : σ → (Str → Option Value) → List (Addr × Obj) → Prop} {μ : σ → Nat} {c : σ} (c' : σ) {h' : Heap} {tk : Nat} {m' : Str → Option Value} {led : List (Addr × Obj)} (led' : List (Addr × Obj))
    (F : Fr h₀ L h' m') (N : News h₀ L h' led) (hs : ∀ q ∈ led', q ∈ led) (hj : J c' m' led') (hm : μ c' < μ c) : WEnd h₀ L s J μ c { s with heap := h', toks := tk } :=
  ⟨c', h', tk, m', led', rfl, F, News.sub N hs, hj, hm⟩
theorem my_while {σ : Type} {test : Expr} {body : List Stmt} {pos : Pos} {m₀ : Str → Option Value} {news : List (Addr × Obj)} (J : σ → (Str → Option Value) → List (Addr × Obj) → Prop) (μ : σ → Nat) (c₀ : σ)
    (F : Fr h₀ L s.heap m₀) (N : News h₀ L s.heap news) (hj : J c₀ m₀ news)
    (turn : ∀ (c : σ) m₁ led h tk, J c m₁ led → Fr h₀ L h m₁ → News h₀ L h led →
      wpAny (model prog w) A (isTrue test env (eval test env)) (fun b s₂ =>
        if b = true then wpAny (model prog w) A (execs body env) (WPost h₀ L s J μ Q c) E s₂ else Q .next s₂) E { s with heap := h, toks := tk })
    (hE : PassesOwn (model prog w) A env E := by passes_own) :
    wpAny (model prog w) A (exec (.While test body [] pos) env) Q E s := by
  refine While_inv2 (fun n m nx => ∃ c : σ, μ c = n ∧ J c m nx) F N ⟨c₀, rfl, hj⟩ ?_ hE
  rintro n m₁ nx h tk F₁ N₁ ⟨c, hsz, hc⟩
  rw [← hsz]
  refine wpAny_mono (turn c m₁ nx h tk hc F₁ N₁) (fun b s₂ p => ?_) fun _ _ x => x
  cases b with
  | false => simpa using p
  | true =>
    simp only [if_true] at p ⊢
    refine wpAny_mono p (fun f s₃ q => ?_) fun _ _ x => x
    cases f with
    | ret v => exact q
    | brk => exact q
    | next =>
      obtain ⟨c', h', tk', m', news', rfl, F', N', hj', hm'⟩ := q
      exact ⟨h', tk', m', news', μ c', rfl, F', N', hm', c', rfl, hj'⟩
    | cont =>
      obtain ⟨c', h', tk', m', news', rfl, F', N', hj', hm'⟩ := q
      exact ⟨h', tk', m', news', μ c', rfl, F', N', hm', c', rfl, hj'⟩
end

def J2 {σ : Type} (a b : Str) (m₀ : Str → Option Value) (V : σ → Value) (R : σ → List (Addr × Obj) → Prop) (c : σ) (m : Str → Option Value) (led : List (Addr × Obj)) : Prop :=
  R c led ∧ ∃ u, m = fun z => if z = a then some (V c) else if z = b then u else m₀ z
theorem map_at {a b : Str} {m₀ : Str → Option Value} {v : Value} (h : m₀ a = some v) : m₀ = fun z => if z = a then some v else if z = b then m₀ b else m₀ z := by
  funext z
  by_cases h1 : z = a
  · simp [h1, h]
  · by_cases h2 : z = b
    · subst h2; simp [h1]
    · simp [h1, h2]
theorem map_turn {a b : Str} {m₀ : Str → Option Value} {v v' x u : Option Value} :
    (fun z => if z = a then v' else if z = b then x else if z = a then v else if z = b then u else m₀ z) = fun z => if z = a then v' else if z = b then x else m₀ z := by
  funext z
  by_cases h1 : z = a
  · simp [h1]
  · by_cases h2 : z = b
    · simp [h2]
    · simp [h1, h2]
section
variable {prog : Program} {w : World} {A : Around} {E : Value → Shared → Prop} {Q : Flow → Shared → Prop} {s : Shared} {env : Env} {h₀ : Heap} {L : Addr}
theorem my_while2 {σ : Type} {a b : Str} {test : Expr} {body : List Stmt} {pos : Pos} {m₀ : Str → Option Value} {news : List (Addr × Obj)} (V : σ → Value) (R : σ → List (Addr × Obj) → Prop) (μ : σ → Nat) (c₀ : σ)
    (F : Fr h₀ L s.heap m₀) (N : News h₀ L s.heap news) (ha : m₀ a = some (V c₀)) (hr : R c₀ news)
    (turn : ∀ (c : σ) u led h tk, R c led → Fr h₀ L h (fun z => if z = a then some (V c) else if z = b then u else m₀ z) → News h₀ L h led →
      wpAny (model prog w) A (isTrue test env (eval test env)) (fun t s₂ =>
        if t = true then wpAny (model prog w) A (execs body env) (WPost h₀ L s (J2 a b m₀ V R) μ Q c) E s₂ else Q .next s₂) E { s with heap := h, toks := tk })
    (hE : PassesOwn (model prog w) A env E := by passes_own) :
    wpAny (model prog w) A (exec (.While test body [] pos) env) Q E s := by
  refine my_while (J2 a b m₀ V R) μ c₀ F N ⟨hr, _, map_at ha⟩ ?_ hE
  rintro c m₁ led h tk ⟨hR, u, rfl⟩ F₁ N₁
  exact turn c u led h tk hR F₁ N₁
theorem my_while2c {α β γ : Type} {a b : Str} {test : Expr} {body : List Stmt} {pos : Pos} {m₀ : Str → Option Value} {news : List (Addr × Obj)} (V : α × β × γ → Value) (R : α × β × γ → List (Addr × Obj) → Prop) (μ : α × β × γ → Nat) (c₀ : α × β × γ)
    (F : Fr h₀ L s.heap m₀) (N : News h₀ L s.heap news) (ha : m₀ a = some (V c₀)) (hr : R c₀ news)
    (turn : ∀ x1 x2 x3 u led h tk, R (x1, x2, x3) led → Fr h₀ L h (fun z => if z = a then some (V (x1, x2, x3)) else if z = b then u else m₀ z) → News h₀ L h led →
      wpAny (model prog w) A (isTrue test env (eval test env)) (fun t s₂ =>
        if t = true then wpAny (model prog w) A (execs body env) (WPost h₀ L s (J2 a b m₀ V R) μ Q (x1, x2, x3)) E s₂ else Q .next s₂) E { s with heap := h, toks := tk })
    (hE : PassesOwn (model prog w) A env E := by passes_own) :
    wpAny (model prog w) A (exec (.While test body [] pos) env) Q E s := by
  refine my_while2 (a := a) (b := b) V R μ c₀ F N ha hr ?_ hE
  rintro ⟨x1, x2, x3⟩ u led h tk
  exact turn x1 x2 x3 u led h tk
theorem my_while2d {α β γ δ : Type} {a b : Str} {test : Expr} {body : List Stmt} {pos : Pos} {m₀ : Str → Option Value} {news : List (Addr × Obj)} (V : α × β × γ × δ → Value) (R : α × β × γ × δ → List (Addr × Obj) → Prop) (μ : α × β × γ × δ → Nat) (c₀ : α × β × γ × δ)
    (F : Fr h₀ L s.heap m₀) (N : News h₀ L s.heap news) (ha : m₀ a = some (V c₀)) (hr : R c₀ news)
    (turn : ∀ x1 x2 x3 x4 u led h tk, R (x1, x2, x3, x4) led → Fr h₀ L h (fun z => if z = a then some (V (x1, x2, x3, x4)) else if z = b then u else m₀ z) → News h₀ L h led →
      wpAny (model prog w) A (isTrue test env (eval test env)) (fun t s₂ =>
        if t = true then wpAny (model prog w) A (execs body env) (WPost h₀ L s (J2 a b m₀ V R) μ Q (x1, x2, x3, x4)) E s₂ else Q .next s₂) E { s with heap := h, toks := tk })
    (hE : PassesOwn (model prog w) A env E := by passes_own) :
    wpAny (model prog w) A (exec (.While test body [] pos) env) Q E s := by
  refine my_while2 (a := a) (b := b) V R μ c₀ F N ha hr ?_ hE
  rintro ⟨x1, x2, x3, x4⟩ u led h tk
  exact turn x1 x2 x3 x4 u led h tk
theorem wend2 {σ : Type} {a b : Str} {m₀ : Str → Option Value} {V : σ → Value} {R : σ → List (Addr × Obj) → Prop} {μ : σ → Nat} {c : σ} (c' : σ) {h' : Heap} {tk : Nat} {v x u : Option Value} {led : List (Addr × Obj)} (led' : List (Addr × Obj))
    (F : Fr h₀ L h' (fun z => if z = a then some (V c') else if z = b then x else if z = a then v else if z = b then u else m₀ z)) (N : News h₀ L h' led) (hs : ∀ q ∈ led', q ∈ led) (hj : R c' led') (hm : μ c' < μ c) :
    WEnd h₀ L s (J2 a b m₀ V R) μ c { s with heap := h', toks := tk } :=
  wend c' led' F N hs ⟨hj, _, map_turn⟩ hm
end

/-! ## a for loop over a Name, by anything that walks -/
def FEnd (h₀ : Heap) (L : Addr) (wr : List Addr) (J : (Str → Option Value) → List (Addr × Obj) → Prop) (own : List (Addr × Obj)) (s₁ s₂ : Shared) : Prop :=
  ∃ h' tk m' led', s₂ = { s₁ with heap := h', toks := tk } ∧ Fr h₀ L h' m' ∧ News h₀ L h' led' ∧ (∀ q ∈ own, q ∈ led') ∧ J m' (off wr led')
def FPost (h₀ : Heap) (L : Addr) (wr : List Addr) (J : (Str → Option Value) → List (Addr × Obj) → Prop) (own : List (Addr × Obj)) (s₁ : Shared) (Q : Flow → Shared → Prop) (f : Flow) (s₂ : Shared) : Prop :=
  match f with
  | .ret v => Q (.ret v) s₂
  | .brk => Q .next s₂
  | _ => FEnd h₀ L wr J own s₁ s₂
section
variable {prog : Program} {w : World} {A : Around} {E : Value → Shared → Prop} {s : Shared} {env : Env} {h₀ : Heap} {x : Str} {body : List Stmt} {Q : Flow → Shared → Prop}
theorem fend {L : Addr} {wr : List Addr} {J : (Str → Option Value) → List (Addr × Obj) → Prop} {own led' : List (Addr × Obj)} {s₁ : Shared} {h' : Heap} {tk : Nat} {m' : Str → Option Value}
    (F : Fr h₀ L h' m') (N : News h₀ L h' led') (ho : ∀ q ∈ own, q ∈ led') (hj : J m' (off wr led')) : FEnd h₀ L wr J own s₁ { s₁ with heap := h', toks := tk } := ⟨h', tk, m', led', rfl, F, N, ho, hj⟩
theorem my_loop {I : Addr} {fp wr : List Addr} {n : Nat} {P : Nat → Value → Prop} {St : Nat → Heap → Prop} {m₀ : Str → Option Value} {news : List (Addr × Obj)} (J : Nat → (Str → Option Value) → List (Addr × Obj) → Prop)
    (W : Walks prog w A I fp wr n P St) (hLf : env.locals ∉ fp) (hwr : ∀ b ∈ wr, h₀.get? b = none) (hnw : ∀ p ∈ news, p.1 ∉ wr) (hst : St 0 s.heap) (F : Fr h₀ env.locals s.heap m₀) (N : News h₀ env.locals s.heap news) (hj : J 0 m₀ news)
    (turn : ∀ i v m₁ led h tk own, i < n → P i v → J i m₁ led → (∀ p ∈ led, p.1 ∉ wr) → (∀ p ∈ own, p.1 ∈ fp) → (∀ b ∈ fp, h₀.get? b = none → ∀ o, h.get? b = some o → (b, o) ∈ own) → St (i + 1) h →
      Fr h₀ env.locals h (fun y => if y = x then some v else m₁ y) → News h₀ env.locals h (own ++ led) →
      wpAny (model prog w) A (execs body env) (FPost h₀ env.locals wr (J (i + 1)) own { s with heap := h, toks := tk } Q) E { s with heap := h, toks := tk })
    (done : ∀ m₁ led h tk, J n m₁ led → Fr h₀ env.locals h m₁ → News h₀ env.locals h led → Q .next { s with heap := h, toks := tk }) :
    LoopAtV prog w A h₀ env x body Q E (.ref I) s := by
  refine ⟨I, fp, wr, n, P, St, m₀, news, J, rfl, W, hLf, hwr, hnw, hst, F, N, hj, ?_, ?_⟩
  · rintro i v m₁ led s₁ own ⟨hh', tk', rfl⟩ hin hP hJ hoff hown _ hget hst' F₁ N₁
    refine wpAny_mono (turn i v m₁ led hh' tk' own hin hP hJ hoff hown hget hst' F₁ N₁) (fun f s₂ p => ?_) fun _ _ e => e
    have fin : FEnd h₀ env.locals wr (J (i + 1)) own { s with heap := hh', toks := tk' } s₂ → LoopStepU h₀ env.locals wr own (J (i + 1)) { s with heap := hh', toks := tk' } .next s₂ := by
      rintro ⟨h', tk, m', led', rfl, F', N', ho, hm⟩
      refine LoopStepU.intro (news₂ := off wr led') F' (fun p hp => ?_) (fun p hp => (mem_off.mp hp).2) hm
      rcases List.mem_append.mp hp with hp | hp
      · exact N' p (ho p hp)
      · exact N' p (mem_off.mp hp).1
    cases f with
    | ret v => exact .ret p
    | brk => exact .brk p
    | next => exact .next (fin p)
    | cont => exact .cont (fin p)
  · rintro h' tk m' news' F' N' _ hJ
    exact done m' news' h' tk hJ F' N'

/-- over a list of the call's own -/
theorem my_list {l : Addr} {vs : List Value} {k : Nat} {m₀ : Str → Option Value} {news : List (Addr × Obj)} (J : Nat → (Str → Option Value) → List (Addr × Obj) → Prop)
    (hh : A.handled = none) (F : Fr h₀ env.locals s.heap m₀) (N : News h₀ env.locals s.heap news) (hl : (l, listOf vs.toArray k) ∈ news) (hj : J 0 m₀ news)
    (turn : ∀ i v m₁ led h tk own I o, vs[i]? = some v → J i m₁ led → (I, o) ∈ own → (∀ p ∈ own, p.1 = I ∨ p.1 = l) → (∀ p ∈ led, p.1 ≠ I) →
      Fr h₀ env.locals h (fun y => if y = x then some v else m₁ y) → News h₀ env.locals h (own ++ led) →
      wpAny (model prog w) A (execs body env) (FPost h₀ env.locals [I] (J (i + 1)) own { s with heap := h, toks := tk } Q) E { s with heap := h, toks := tk })
    (done : ∀ m₁ led h tk, J vs.length m₁ led → Fr h₀ env.locals h m₁ → News h₀ env.locals h led → Q .next { s with heap := h, toks := tk }) :
    wpAny (model prog w) A (pyIter (.ref l)) (fun it s₂ => LoopAtV prog w A h₀ env x body Q E it s₂) E s := by
  have hls : s.heap.IsList l vs.toArray := ⟨_, (N _ hl).1, rfl, k, rfl⟩
  have hll := (N _ hl)
  have hlt : l < s.heap.objs.size := Heap.lt_size hll.1
  have hne : l ≠ s.heap.objs.size := Nat.ne_of_lt hlt
  refine wpAny_pyIter_list hls ?_
  have W := Walks.list (prog := prog) (w := w) hh s.heap.objs.size l hne vs.toArray
  have hlen : vs.toArray.size = vs.length := by simp
  rw [hlen] at W
  have nI : h₀.get? s.heap.objs.size = none := next_is_new F
  refine my_loop (news := news) J W ?_ ?_ ?_ ⟨⟨_, Heap.get?_push_size _ rfl, rfl, rfl⟩, hls.at fun o e => Heap.get?_push_of_some _ e⟩ (F.push _) (fun p hp => ⟨Heap.get?_push_of_some _ (N p hp).1, (N p hp).2⟩) hj ?_ ?_
  · intro hm
    rcases List.mem_cons.mp hm with e | hm
    · exact absurd F.ns.lt (e ▸ Nat.lt_irrefl _)
    · have e := List.mem_singleton.mp hm
      exact hll.2.1 e.symm
  · intro b hb
    rw [List.mem_singleton.mp hb]
    exact nI
  · intro p hp hI
    exact absurd (Heap.lt_size (N p hp).1) ((List.mem_singleton.mp hI) ▸ Nat.lt_irrefl _)
  · intro i v m₁ led h tk own hin hP hJ hoff hown hget hst' F₁ N₁
    obtain ⟨⟨oI, hoI, _⟩, _⟩ := id hst'
    have hP' : vs[i]? = some v := by simpa using hP
    have h1 : (s.heap.objs.size, oI) ∈ own := hget _ (.head _) nI _ hoI
    exact turn i v m₁ led h tk own _ oI hP' hJ h1 (fun p hp => (List.mem_cons.mp (hown p hp)).imp id List.mem_singleton.mp) (fun p hp e => hoff p hp (e ▸ .head _)) F₁ N₁
  · exact done

/-- over range(n) -/
theorem my_range {r : Addr} {b₀ : Int} {t₀ u₀ v₀ : Tok} {n : Nat} {m₀ : Str → Option Value} {news : List (Addr × Obj)} (J : Nat → (Str → Option Value) → List (Addr × Obj) → Prop)
    (hh : A.handled = none) (hr : IsRange s.heap r 0 b₀ 1 t₀ u₀ v₀) (hsmall : Builtin.Range.small 0 b₀ 1 = true) (hn : Builtin.Range.rangeSize 0 b₀ 1 = (n : Int)) (F : Fr h₀ env.locals s.heap m₀) (N : News h₀ env.locals s.heap news) (hj : J 0 m₀ news)
    (turn : ∀ (i : Nat) t m₁ led h tk own I o, i < n → J i m₁ led → (I, o) ∈ own → (∀ p ∈ own, p.1 = I) → (∀ p ∈ led, p.1 ≠ I) →
      Fr h₀ env.locals h (fun y => if y = x then some (.int (i : Int) t) else m₁ y) → News h₀ env.locals h (own ++ led) →
      wpAny (model prog w) A (execs body env) (FPost h₀ env.locals [I] (J (i + 1)) own { s with heap := h, toks := tk } Q) E { s with heap := h, toks := tk })
    (done : ∀ m₁ led h tk, J n m₁ led → Fr h₀ env.locals h m₁ → News h₀ env.locals h led → Q .next { s with heap := h, toks := tk }) :
    wpAny (model prog w) A (pyIter (.ref r)) (fun it s₂ => LoopAtV prog w A h₀ env x body Q E it s₂) E s := by
  refine wpAny_pyIter_range hr hsmall ?_
  have W : Walks prog w A s.heap.objs.size [s.heap.objs.size] [s.heap.objs.size] n (fun i v => i < n ∧ ∃ t, v = .int (0 + i * 1) t)
      (fun i h => IsRangeIter h s.heap.objs.size (0 + (i : Nat) * 1) ((n : Int) - (i : Nat)) 1) := (Walks.range hh _ 0 1 n).bound
  have nI : h₀.get? s.heap.objs.size = none := next_is_new F
  refine my_loop (news := news) J W ?_ ?_ ?_ (by show IsRangeIter _ _ _ _ _; rw [hn]; simpa using Heap.get?_push_size _ rfl) (F.push _) (fun p hp => ⟨Heap.get?_push_of_some _ (N p hp).1, (N p hp).2⟩) hj ?_ ?_
  · intro hm
    exact absurd F.ns.lt ((List.mem_singleton.mp hm) ▸ Nat.lt_irrefl _)
  · intro b hb
    rw [List.mem_singleton.mp hb]
    exact nI
  · intro p hp hI
    exact absurd (Heap.lt_size (N p hp).1) ((List.mem_singleton.mp hI) ▸ Nat.lt_irrefl _)
  · rintro i v m₁ led h tk own hin ⟨_, t, rfl⟩ hJ hoff hown hget hst' F₁ N₁
    have e : (0 : Int) + i * 1 = i := by omega
    rw [e] at F₁
    have hst2 : ∃ oI, h.get? s.heap.objs.size = some oI := ⟨_, hst'⟩
    obtain ⟨oI, hoI⟩ := hst2
    exact turn i t m₁ led h tk own _ oI hin hJ (hget _ (.head _) nI _ hoI) (fun p hp => List.mem_singleton.mp (hown p hp)) (fun p hp e => hoff p hp (e ▸ .head _)) F₁ N₁
  · exact done

def JR (x : Str) (m₀ : Str → Option Value) (R : List (Addr × Obj) → Prop) (m : Str → Option Value) (led : List (Addr × Obj)) : Prop := R led ∧ ∃ u, m = fun y => if y = x then u else m₀ y
theorem map_x {x : Str} {m₀ : Str → Option Value} {v u : Option Value} : (fun y => if y = x then v else if y = x then u else m₀ y) = fun y => if y = x then v else m₀ y := by
  funext y
  by_cases h1 : y = x
  · simp [h1]
  · simp [h1]
theorem map_x0 {x : Str} {m₀ : Str → Option Value} : m₀ = fun y => if y = x then m₀ x else m₀ y := by
  funext y
  by_cases h1 : y = x
  · simp [h1]
  · simp [h1]
theorem fendR {L : Addr} {wr : List Addr} {R : List (Addr × Obj) → Prop} {m₀ : Str → Option Value} {u : Option Value} {own led' : List (Addr × Obj)} {s₁ : Shared} {h' : Heap} {tk : Nat}
    (F : Fr h₀ L h' (fun y => if y = x then u else m₀ y)) (N : News h₀ L h' led') (ho : ∀ q ∈ own, q ∈ led') (hr : R (off wr led')) : FEnd h₀ L wr (JR x m₀ R) own s₁ { s₁ with heap := h', toks := tk } :=
  fend F N ho ⟨hr, u, rfl⟩
/-- over a list of the call's own; the turn changes no name but its own -/
theorem my_listR {l : Addr} {vs : List Value} {k : Nat} {m₀ : Str → Option Value} {news : List (Addr × Obj)} (R : Nat → List (Addr × Obj) → Prop)
    (hh : A.handled = none) (F : Fr h₀ env.locals s.heap m₀) (N : News h₀ env.locals s.heap news) (hl : (l, listOf vs.toArray k) ∈ news) (hr : R 0 news)
    (turn : ∀ i v led h tk own I o, vs[i]? = some v → R i led → (I, o) ∈ own → (∀ p ∈ own, p.1 = I ∨ p.1 = l) → (∀ p ∈ led, p.1 ≠ I) →
      Fr h₀ env.locals h (fun y => if y = x then some v else m₀ y) → News h₀ env.locals h (own ++ led) →
      wpAny (model prog w) A (execs body env) (FPost h₀ env.locals [I] (JR x m₀ (R (i + 1))) own { s with heap := h, toks := tk } Q) E { s with heap := h, toks := tk })
    (done : ∀ u led h tk, R vs.length led → Fr h₀ env.locals h (fun y => if y = x then u else m₀ y) → News h₀ env.locals h led → Q .next { s with heap := h, toks := tk }) :
    wpAny (model prog w) A (pyIter (.ref l)) (fun it s₂ => LoopAtV prog w A h₀ env x body Q E it s₂) E s := by
  refine my_list (fun i => JR x m₀ (R i)) hh F N hl ⟨hr, _, map_x0⟩ ?_ ?_
  · rintro i v m₁ led h tk own I o hv ⟨hR, u, rfl⟩ h1 h2 h3 F₁ N₁
    rw [map_x] at F₁
    exact turn i v led h tk own I o hv hR h1 h2 h3 F₁ N₁
  · rintro m₁ led h tk ⟨hR, u, rfl⟩ F₁ N₁
    exact done u led h tk hR F₁ N₁
end
structure RecsIn (w : World) (led : List (Addr × Obj)) (recs : List Rec) : Prop where
  at' : ∀ r ∈ recs, RecIn w led r
  tm : ∀ r ∈ recs, DatIn (tups led) (.ref r.term) r.tm
  ik : ∀ r ∈ recs, DatIn (tups led) (.ref r.ikey) r.ik
  okt : ∀ r ∈ recs, kqdOk 6 r.tm = true
  oki : ∀ r ∈ recs, kqdOk 6 r.ik = true

theorem kqdOk_up : ∀ (n m : Nat) (d : Dat), n ≤ m → kqdOk n d = true → kqdOk m d = true := by
  intro n
  induction n with
  | zero => intro m d h hk; cases d <;> cases m <;> simp_all [kqdOk]
  | succ n ih =>
    intro m d h hk
    cases m with
    | zero => omega
    | succ m =>
      cases d <;> simp_all only [kqdOk, List.all_eq_true]
      · intro x hx; exact ih m x (by omega) (hk x hx)
      · intro x hx; exact ih m x (by omega) (hk x hx)

noncomputable def hit (r : Rec) (g : Int) (cd : Dat) : Bool := r.vis g && mt r.ik cd
noncomputable def live (recs : List Rec) (g : Int) (cd : Dat) : List Nat → Int
  | [] => -1
  | k :: C => match recs[k]? with
    | some r => if hit r g cd = true then (k : Int) else live recs g cd C
    | none => -1

section
set_option maxRecDepth 100000 in
set_option maxHeartbeats 8000000 in
theorem live_from_spec (w : World) (S : Sto) (place : Int) (tp : Tok) (g : Int) (tg : Tok) (cell : Addr) (cd : Dat) (C : List Nat) (led : List (Addr × Obj))
    (hS : StoIn w led S) (ok : SOk w S) (hR : RecsIn w led S.recs) (hl : Linked S.recs place C) (hc : DatIn led (.ref cell) cd) (oc : kqdOk 8 cd = true) :
    Spec w 127 [.ref S.a, .int place tp, .int g tg, .ref cell] 40 led (fun v led' => (∃ t, v = .int (live S.recs g cd C) t) ∧ led' = led) := by
  refine Spec.of (led := (S.a, instObj 165 S.d) :: (S.d, dictOf (S.es w.params) 3) :: (S.rd, S.ro) :: led) (c := 40) (R := fun v led' => (∃ t, v = .int (live S.recs g cd C) t) ∧ led' = (S.a, instObj 165 S.d) :: (S.d, dictOf (S.es w.params) 3) :: (S.rd, S.ro) :: led) ?_ ?_ (Nat.le_refl _) ?_
  · unfold Spec
    k_fill
    intro p loose mean mg mb dp un gd cn cs a ccd cl outer A₀ base h₀ L m s Q E B F X N T hk hd hu hret
    refine wpAny_call ?_
    k_dflt ktr_enter
    (rename Fr _ _ _ _ => F77)
    replace F77 := fr_eq (m' := ar4 "self" (.ref S.a) "place" (.int place tp) "g" (.int g tg) "cell_key" (.ref cell)) F77 (by with_unfolding_all rfl)
    refine wpAny_execs_cons ?_
    (rename Fr _ _ _ _ => F1); (rename News _ _ _ _ => N1)
    k_fold
    refine my_while2c (α := List Nat) (β := Int) (γ := Tok) (a := "place") (b := "record") (fun c => .int c.2.1 c.2.2) (fun c led' => led' = (S.a, instObj 165 S.d) :: (S.d, dictOf (S.es w.params) 3) :: (S.rd, S.ro) :: led ∧ Linked S.recs c.2.1 c.1 ∧ live S.recs g cd c.1 = live S.recs g cd C)
      (fun c => c.1.length) (C, place, tp) F1 N1 rfl ⟨rfl, hl, rfl⟩ ?_
    intro C1 pl tk1 u led1 h1 tk2 hR0 F2 N2
    (try k_fold)
    obtain ⟨rfl, hl1, hlv⟩ := hR0
    clear F1 N1
    dsimp only at hlv hl1 F2
    cases C1 with
    | nil =>
      have e : pl = -1 := hl1
      subst e
      (repeat' ((fail_if_success first | (with_reducible first | refine st_call 29 ?_) | k_data); (first | (k_unfold; (try dsimp only)) | (k_end; kc_close) | (with_reducible refine st_call 120 ?_; (try k_fold); k_dflt (refine Spec.use1 (by k_asm) (by k_asm) (by k_asm) (by k_asm) (by k_asm) (by first | exact rfl | assumption) (visible_spec _ _ _ _ _ _ ⟨by k_mem, by k_mem⟩) (by k_room) (by k_units) ?_); intro h9 tk9 F9 N9; (try dsimp only); (try k_fold)) | (with_reducible refine st_sub _ ?_; k_dflt (refine item_map (by k_asm) (by k_mem) (SOk.ro (by assumption)) (by assumption) ?_)) | (with_reducible show WPost _ _ _ _ _ _ _ _ _; dsimp only [WPost]) | walk1 | (dsimp only; walk1) | (leave1; (try dsimp only)) | fail "no step")))
      all_goals (refine hret _ _ _ _ ⟨?_, rfl⟩ (by assumption) (by assumption); rw [← hlv]; exact ⟨_, rfl⟩)
    | cons k C1 =>
      obtain ⟨rfl, r, hr, hl2⟩ := hl1
      have hv := ok.valueAt hr
      have hmem : r ∈ S.recs := List.mem_of_getElem? hr
      have hrec := hR.at' r hmem
      have hik := DatIn.mono tups_sub (hR.ik r hmem)
      have oik := kqdOk_up 6 8 _ (by omega) (hR.oki r hmem)
      have N3 := News.add1 (News.add1 N2 (.tail _ (.tail _ (.tail _ hrec.2)))) (.tail _ (.tail _ (.tail _ (.tail _ hrec.1))))
      clear N2 hR hrec
      (repeat' ((fail_if_success first | (with_reducible first | refine st_call 29 ?_) | k_data); (first | (k_unfold; (try dsimp only)) | (k_end; kc_close) | (with_reducible refine st_call 120 ?_; (try k_fold); k_dflt (refine Spec.use1 (by k_asm) (by k_asm) (by k_asm) (by k_asm) (by k_asm) (by first | exact rfl | assumption) (visible_spec _ _ _ _ _ _ ⟨by k_mem, by k_mem⟩) (by k_room) (by k_units) ?_); intro h9 tk9 F9 N9; (try dsimp only); (try k_fold)) | (with_reducible refine st_sub _ ?_; k_dflt (refine item_map (by k_asm) (by k_mem) (SOk.ro (by assumption)) (by assumption) ?_)) | (with_reducible show WPost _ _ _ _ _ _ _ _ _; dsimp only [WPost]) | walk1 | (dsimp only; walk1) | (leave1; (try dsimp only)) | fail "no step")))
      all_goals try ((try k_fold); k_dflt (refine Spec.use1 (by k_asm) (by k_asm) (by k_asm) (by k_asm) (by k_asm) (by first | exact rfl | assumption) (matching_spec _ _ _ _ _ _ (dat_mono (by assumption) (by intro q hq; repeat (first | exact hq | apply List.Mem.tail))) (dat_mono (by assumption) (by intro q hq; repeat (first | exact hq | apply List.Mem.tail))) (by assumption) (by assumption)) (by k_room) (by k_units) ?_); intro h9 tk9 F9 N9; (try dsimp only); (try k_fold); (repeat' ((fail_if_success first | (with_reducible first | refine st_call 29 ?_) | k_data); (first | (k_unfold; (try dsimp only)) | (k_end; kc_close) | (with_reducible refine st_call 120 ?_; (try k_fold); k_dflt (refine Spec.use1 (by k_asm) (by k_asm) (by k_asm) (by k_asm) (by k_asm) (by first | exact rfl | assumption) (visible_spec _ _ _ _ _ _ ⟨by k_mem, by k_mem⟩) (by k_room) (by k_units) ?_); intro h9 tk9 F9 N9; (try dsimp only); (try k_fold)) | (with_reducible refine st_sub _ ?_; k_dflt (refine item_map (by k_asm) (by k_mem) (SOk.ro (by assumption)) (by assumption) ?_)) | (with_reducible show WPost _ _ _ _ _ _ _ _ _; dsimp only [WPost]) | walk1 | (dsimp only; walk1) | (leave1; (try dsimp only)) | fail "no step"))))
      all_goals ((rename News _ _ _ _ => N4); (rename Fr _ _ _ _ => F4))
      all_goals first
        | (refine hret _ _ _ _ ⟨⟨tk1, ?_⟩, rfl⟩ (by assumption) (fun q hq => N4 q (.tail _ (.tail _ hq))); rw [← hlv]; simp_all [live, hit]; done)
        | skip
      all_goals (
        refine wend2 (C1, r.next, r.v6) _ F4 N4 (fun q hq => .tail _ (.tail _ hq)) ⟨rfl, hl2, ?_⟩ (Nat.lt_succ_self _)
        rw [← hlv]
        simp_all [live, hit]
        done)
  · intro q hq
    simp only [List.mem_cons] at hq
    rcases hq with rfl | rfl | rfl | hq
    · exact hS.1
    · exact hS.2.1
    · exact hS.2.2
    · exact hq
  · rintro v l ⟨h1, h2⟩
    subst h2
    exact ⟨led, ⟨h1, rfl⟩, fun q hq => .tail _ (.tail _ (.tail _ hq))⟩
end
set_option maxRecDepth 100000 in
set_option maxHeartbeats 8000000 in
theorem first_live_spec (w : World) (S : Sto) (p : Prc) (g : Int) (tg : Tok) (cell : Addr) (cd : Dat) (C : List Nat) (led : List (Addr × Obj))
    (hS : StoIn w led S) (ok : SOk w S) (hP : PrcIn w led p) (hR : RecsIn w led S.recs) (hl : Linked S.recs p.first C) (hc : DatIn led (.ref cell) cd) (oc : kqdOk 8 cd = true) :
    Spec w 134 [.ref S.a, .ref p.a, .int g tg, .ref cell] 50 led (fun v led' => (∃ t, v = .int (live S.recs g cd C) t) ∧ led' = led) := by
  unfold Spec
  k_fill
  intro pp loose mean mg mb dp un gd cn cs a ccd cl outer A₀ base h₀ L m s Q E B F X N T hk hd hu hret
  refine wpAny_call ?_
  have N1 := News.add1 (News.add1 (News.add1 (News.add1 N hP.2) (.tail _ hP.1)) (.tail _ (.tail _ hS.2.1))) (.tail _ (.tail _ (.tail _ hS.1)))
  clear N
  k_dflt ktr_enter
  (rename Fr _ _ _ _ => F77)
  replace F77 := fr_eq (m' := ar4 "self" (.ref S.a) "proc" (.ref p.a) "g" (.int g tg) "key" (.ref cell)) F77 (by with_unfolding_all rfl)
  (repeat' ((fail_if_success k_data); (first | (k_unfold; (try dsimp only)) | (k_end; kc_close) | (with_reducible refine st_call 127 ?_; (try k_fold); k_dflt (refine Spec.use2 (by k_asm) (by k_asm) (by k_asm) (by k_asm) (by k_asm) (by first | exact rfl | assumption) (live_from_spec _ _ _ _ _ _ _ _ _ _ (by assumption) (by assumption) (by assumption) (by assumption) (by assumption) (by assumption)) (by intro q hq; repeat (first | exact hq | apply List.Mem.tail)) (by k_room) (by k_units) ?_); intro t9 h9 tk9 F9 N9; (try dsimp only); (try k_fold)) | walk1 | (dsimp only; walk1) | (leave1; (try dsimp only)) | fail "no step")))
  all_goals (exact hret _ _ _ _ ⟨⟨_, rfl⟩, rfl⟩ (by assumption) (by assumption))

set_option maxRecDepth 100000 in
set_option maxHeartbeats 8000000 in
theorem next_live_spec (w : World) (S : Sto) (k : Nat) (tk : Tok) (r : Rec) (g : Int) (tg : Tok) (cell : Addr) (cd : Dat) (C : List Nat) (led : List (Addr × Obj))
    (hS : StoIn w led S) (ok : SOk w S) (hr : S.recs[k]? = some r) (hR : RecsIn w led S.recs) (hl : Linked S.recs r.next C) (hc : DatIn led (.ref cell) cd) (oc : kqdOk 8 cd = true) :
    Spec w 141 [.ref S.a, .int (k : Int) tk, .int g tg, .ref cell] 50 led (fun v led' => (∃ t, v = .int (live S.recs g cd C) t) ∧ led' = led) := by
  unfold Spec
  k_fill
  intro pp loose mean mg mb dp un gd cn cs a ccd cl outer A₀ base h₀ L m s Q E B F X N T hk hd hu hret
  refine wpAny_call ?_
  have hv := ok.valueAt hr
  have hrec := hR.at' r (List.mem_of_getElem? hr)
  have N1 := News.add1 (News.add1 (News.add1 (News.add1 (News.add1 N hrec.2) (.tail _ hrec.1)) (.tail _ (.tail _ hS.2.2))) (.tail _ (.tail _ (.tail _ hS.2.1)))) (.tail _ (.tail _ (.tail _ (.tail _ hS.1))))
  clear N
  k_dflt ktr_enter
  (rename Fr _ _ _ _ => F77)
  replace F77 := fr_eq (m' := ar4 "self" (.ref S.a) "record_key" (.int (k : Int) tk) "g" (.int g tg) "key" (.ref cell)) F77 (by with_unfolding_all rfl)
  (repeat' ((fail_if_success k_data); (first | (k_unfold; (try dsimp only)) | (k_end; kc_close) | (with_reducible refine st_sub _ ?_; k_dflt (refine item_map (by k_asm) (by k_mem) (SOk.ro (by assumption)) (by assumption) ?_)) | (with_reducible refine st_call 127 ?_; (try k_fold); k_dflt (refine Spec.use2 (by k_asm) (by k_asm) (by k_asm) (by k_asm) (by k_asm) (by first | exact rfl | assumption) (live_from_spec _ _ _ _ _ _ _ _ _ _ (by assumption) (by assumption) (by assumption) (by assumption) (by assumption) (by assumption)) (by intro q hq; repeat (first | exact hq | apply List.Mem.tail)) (by k_room) (by k_units) ?_); intro t9 h9 tk9 F9 N9; (try dsimp only); (try k_fold)) | walk1 | (dsimp only; walk1) | (leave1; (try dsimp only)) | fail "no step")))
  all_goals (exact hret _ _ _ _ ⟨⟨_, rfl⟩, rfl⟩ (by assumption) (by assumption))

local macro_rules | `(tactic| size_fits) => `(tactic| ((simp only [List.size_toArray, PySem.sizeLine_eq]); omega))
section
theorem allLt_out {d : Addr} : ∀ {l : List (Addr × Obj)}, AllLt d l → ∀ p ∈ l, @LT.lt Nat _ p.1 d
  | [], _, _, h => nomatch h
  | q :: r, h, p, hp => by
    rcases List.mem_cons.mp hp with rfl | hp
    · exact h.1
    · exact allLt_out h.2 p hp
theorem ownOff_lt {d : Addr} {l : List (Addr × Obj)} (h : ∀ p ∈ l, @LT.lt Nat _ p.1 d) : OwnOff l [d] := fun p hp b hb e => by
  have e2 := List.mem_singleton.mp hb
  subst e2
  exact absurd (h p hp) (by have : p.1 = b := e; rw [this]; exact Nat.lt_irrefl _)

noncomputable def chainR (recs : List Rec) (g : Int) : List Nat → List Value
  | [] => []
  | k :: C => match recs[k]? with
    | some r => if r.vis g = true then .ref r.a :: chainR recs g C else chainR recs g C
    | none => []
theorem chainR_len (recs : List Rec) (g : Int) : ∀ C, (chainR recs g C).length ≤ C.length
  | [] => Nat.le_refl _
  | k :: C => by
    have ih := chainR_len recs g C
    unfold chainR
    split
    · split
      · simp only [List.length_cons]; omega
      · simp only [List.length_cons]; omega
    · simp

theorem chainR_t {recs : List Rec} {g : Int} {k : Nat} {C : List Nat} {r : Rec} (hr : recs[k]? = some r) (hv : r.vis g = true) : chainR recs g (k :: C) = .ref r.a :: chainR recs g C := by simp [chainR, hr, hv]
theorem chainR_f {recs : List Rec} {g : Int} {k : Nat} {C : List Nat} {r : Rec} (hr : recs[k]? = some r) (hv : r.vis g = false) : chainR recs g (k :: C) = chainR recs g C := by simp [chainR, hr, hv]
set_option maxRecDepth 100000 in
set_option maxHeartbeats 8000000 in
theorem chain_spec (w : World) (S : Sto) (p : Prc) (g : Int) (tg : Tok) (C : List Nat) (led : List (Addr × Obj))
    (hS : StoIn w led S) (ok : SOk w S) (hP : PrcIn w led p) (hR : RecsIn w led S.recs) (hl : Linked S.recs p.first C) (hlen : C.length ≤ 100) :
    Spec w 148 [.ref S.a, .ref p.a, .int g tg] 50 led (fun v led' => ∃ l n, v = .ref l ∧ led' = (l, listOf (chainR S.recs g C).toArray n) :: led ∧ ∀ q ∈ led, @LT.lt Nat _ q.1 l) := by
  unfold Spec
  k_fill
  intro pp loose mean mg mb dp un gd cn cs a ccd cl outer A₀ base h₀ L m s Q E B F X N T hk hd hu hret
  refine wpAny_call ?_
  have N1 := News.add1 (News.add1 (News.add1 (News.add1 (News.add1 N hP.2) (.tail _ hP.1)) (.tail _ (.tail _ hS.2.2))) (.tail _ (.tail _ (.tail _ hS.2.1)))) (.tail _ (.tail _ (.tail _ (.tail _ hS.1))))
  clear N
  k_dflt ktr_enter
  (rename Fr _ _ _ _ => F77)
  replace F77 := fr_eq (m' := ar3 "self" (.ref S.a) "proc" (.ref p.a) "g" (.int g tg)) F77 (by with_unfolding_all rfl)
  (repeat' ((fail_if_success first | (with_reducible first | refine st_while ?_ | refine st_for ?_) | k_data); (first | (k_unfold; (try dsimp only)) | (k_end; kc_close) | (with_reducible refine st_call 120 ?_; (try k_fold); k_dflt (refine Spec.use1 (by k_asm) (by k_asm) (by k_asm) (by k_asm) (by k_asm) (by first | exact rfl | assumption) (visible_spec _ _ _ _ _ _ ⟨by k_mem, by k_mem⟩) (by k_room) (by k_units) ?_); intro h9 tk9 F9 N9; (try dsimp only); (try k_fold)) | (with_reducible refine st_sub _ ?_; k_dflt (refine item_map (by k_asm) (by k_mem) (SOk.ro (by assumption)) (by assumption) ?_)) | (with_reducible show WPost _ _ _ _ _ _ _ _ _; dsimp only [WPost]) | walk1 | (dsimp only; walk1) | (leave1; (try dsimp only)) | fail "no step")))
  (rename Fr _ _ _ _ => F1); (rename News _ _ _ _ => N1)
  (rename _ ∧ _ ∧ _ ∧ _ ∧ _ ∧ AllLt _ _ => lt0)
  rename_i lf ha hb hc
  have ltl := allLt_out lt0.2.2.2.2.2
  have off1 := ownOff_lt ltl
  obtain ⟨lt1, lt2, lt3, lt4, lt5, _⟩ := lt0
  (try k_fold)
  refine my_while2d (α := List Nat) (β := Int) (γ := Tok) (δ := List Value) (a := "place") (b := "record") (fun c => .int c.2.1 c.2.2.1) (fun c led' => (∃ n, led' = (lf, W.listOf c.2.2.2.toArray n) :: (S.a, instObj 165 S.d) :: (S.d, dictOf (S.es w.params) 3) :: (S.rd, S.ro) :: led) ∧ Linked S.recs c.2.1 c.1 ∧ c.2.2.2 ++ chainR S.recs g c.1 = chainR S.recs g C ∧ c.2.2.2.length + c.1.length ≤ C.length)
    (fun c => c.1.length) (C, p.first, p.v5, []) F1 (News.sub (led' := (lf, W.listOf (([] : List Value).toArray) 0) :: (S.a, instObj 165 S.d) :: (S.d, dictOf (S.es w.params) 3) :: (S.rd, S.ro) :: led) N1 ?_) rfl ⟨⟨0, rfl⟩, hl, rfl, by simp⟩ ?_
  · intro q hq
    simp only [List.mem_cons] at hq ⊢
    rcases hq with h | h | h | h | h <;> simp only [h, true_or, or_true]
  intro C1 pl tk1 acc u led1 h1 tk2 hR0 F2 N2
  (try k_fold)
  obtain ⟨⟨n, rfl⟩, hl1, hlv, hle⟩ := hR0
  clear F1 N1
  dsimp only at hlv hl1 F2 N2 hle
  cases C1 with
  | nil =>
    have e : pl = -1 := hl1
    subst e
    (repeat' ((fail_if_success first | (with_reducible first | refine st_while ?_ | refine st_for ?_) | k_data); (first | (k_unfold; (try dsimp only)) | (k_end; kc_close) | (with_reducible refine st_call 120 ?_; (try k_fold); k_dflt (refine Spec.use1 (by k_asm) (by k_asm) (by k_asm) (by k_asm) (by k_asm) (by first | exact rfl | assumption) (visible_spec _ _ _ _ _ _ ⟨by k_mem, by k_mem⟩) (by k_room) (by k_units) ?_); intro h9 tk9 F9 N9; (try dsimp only); (try k_fold)) | (with_reducible refine st_sub _ ?_; k_dflt (refine item_map (by k_asm) (by k_mem) (SOk.ro (by assumption)) (by assumption) ?_)) | (with_reducible show WPost _ _ _ _ _ _ _ _ _; dsimp only [WPost]) | walk1 | (dsimp only; walk1) | (leave1; (try dsimp only)) | fail "no step")))
    all_goals ((rename News _ _ _ _ => N4); (rename Fr _ _ _ _ => F4))
    all_goals (
      have e : acc = chainR S.recs g C := by simpa [chainR] using hlv
      subst e
      refine hret _ ((lf, W.listOf (chainR S.recs g C).toArray n) :: led) _ _ ⟨lf, n, rfl, rfl, ltl⟩ F4 (fun q hq => ?_)
      rcases List.mem_cons.mp hq with rfl | hq
      · exact N4 _ (.head _)
      · exact N4 _ (.tail _ (.tail _ (.tail _ (.tail _ hq)))))
  | cons k C1 =>
    obtain ⟨rfl, r, hr, hl2⟩ := hl1
    have hv := ok.valueAt hr
    have hmem : r ∈ S.recs := List.mem_of_getElem? hr
    have hrec := hR.at' r hmem
    have lt6 := ltl _ hrec.1
    have lt7 := ltl _ hrec.2
    have N3 := News.add1 (News.add1 N2 (.tail _ (.tail _ (.tail _ (.tail _ hrec.2))))) (.tail _ (.tail _ (.tail _ (.tail _ (.tail _ hrec.1)))))
    clear N2 hR hrec
    (repeat' ((fail_if_success first | (with_reducible first | refine st_while ?_ | refine st_for ?_) | k_data); (first | (k_unfold; (try dsimp only)) | (k_end; kc_close) | (with_reducible refine st_call 120 ?_; (try k_fold); k_dflt (refine Spec.use1 (by k_asm) (by k_asm) (by k_asm) (by k_asm) (by k_asm) (by first | exact rfl | assumption) (visible_spec _ _ _ _ _ _ ⟨by k_mem, by k_mem⟩) (by k_room) (by k_units) ?_); intro h9 tk9 F9 N9; (try dsimp only); (try k_fold)) | (with_reducible refine st_sub _ ?_; k_dflt (refine item_map (by k_asm) (by k_mem) (SOk.ro (by assumption)) (by assumption) ?_)) | (with_reducible show WPost _ _ _ _ _ _ _ _ _; dsimp only [WPost]) | walk1 | (dsimp only; walk1) | (leave1; (try dsimp only)) | fail "no step")))
    all_goals ((rename News _ _ _ _ => N4); (rename Fr _ _ _ _ => F4); (try simp only [List.push_toArray] at N4))
    all_goals first
      | (refine wend2 (C1, r.next, r.v6, acc) ((lf, W.listOf acc.toArray n) :: (S.a, instObj 165 S.d) :: (S.d, dictOf (S.es w.params) 3) :: (S.rd, S.ro) :: led) F4 N4 (fun q hq => .tail _ (.tail _ hq)) ⟨⟨_, rfl⟩, hl2, ?_, ?_⟩ (Nat.lt_succ_self _)
         · rw [← hlv, chainR_f hr (by assumption)]
         · simp only [List.length_cons] at *; omega)
      | (refine wend2 (C1, r.next, r.v6, acc ++ [Value.ref r.a]) ((lf, W.listOf (acc ++ [Value.ref r.a]).toArray (n + 1)) :: (S.a, instObj 165 S.d) :: (S.d, dictOf (S.es w.params) 3) :: (S.rd, S.ro) :: led) F4 N4 (fun q hq => .tail _ (.tail _ hq)) ⟨⟨_, rfl⟩, hl2, ?_, ?_⟩ (Nat.lt_succ_self _)
         · rw [← hlv, chainR_t hr (by assumption), List.append_assoc]; rfl
         · simp only [List.length_append, List.length_cons, List.length_nil] at *; omega)
end
theorem get_mapv {prog : Program} {w : World} {A : Around} {E : Value → Shared → Prop} {s : Shared} {h₀ : Heap} {L d : Addr} {news : List (Addr × Obj)} {o : Obj} {kvs : List (Int × Value)}
    {i : Int} {t : Tok} {v : Value} {Q : Value → Shared → Prop} (N : News h₀ L s.heap news) (hm : (d, o) ∈ news) (hd : o.IsDictOf (intKind prog w) kvs) (lo : (d == sysModules) = false) (hl : valueAt kvs i = some v)
    (h : Q v { s with toks := s.toks + 1 }) : wpAny (model prog w) A (call (.builtin "dict.get") [.ref d, .int i t]) Q E s := get_map N hm hd lo (by rw [hl]; exact h)
section
theorem mem_of_off {h₀ h : Heap} {L : Addr} {led LED : List (Addr × Obj)} {mods : List Addr} (N : News h₀ L h led) (hs : ∀ q ∈ off mods led, q ∈ LED) (hm : ∀ d ∈ mods, ∃ o, (d, o) ∈ led ∧ (d, o) ∈ LED) : ∀ q ∈ led, q ∈ LED := by
  intro q hq
  by_cases hd : q.1 ∈ mods
  · obtain ⟨o, h1, h2⟩ := hm _ hd
    have e := (N _ h1).1.symm.trans (N _ hq).1
    have e2 : o = q.2 := Option.some.inj e
    rw [e2] at h2
    exact h2
  · exact hs q (mem_off.mpr ⟨hq, hd⟩)

noncomputable abbrev Sto.withGen (S : Sto) (g : Int) (t : Tok) : Sto := { S with gen := g, v2 := t }
noncomputable abbrev Rec.withDeath (r : Rec) (g : Int) (t : Tok) : Rec := { r with death := g, v5 := t }

set_option maxRecDepth 100000 in
set_option maxHeartbeats 8000000 in
theorem erase_spec (w : World) (S : Sto) (k : Nat) (tk : Tok) (r : Rec) (led : List (Addr × Obj)) (hS : StoIn w led S) (ok : SOk w S) (hr : S.recs[k]? = some r) (hrec : RecIn w led r) :
    Spec w 155 [.ref S.a, .int (k : Int) tk] 50 led (fun v led' => (0 ≤ r.death ∧ v = .bool false ∧ ∀ q ∈ led, q ∈ led') ∨
      (r.death < 0 ∧ v = .bool true ∧ Kept [S.d, r.d] led led' ∧ ∃ t1 t2, (S.d, dictOf ((S.withGen (S.gen + 1) t1).es w.params) 3) ∈ led' ∧ (r.d, dictOf ((r.withDeath (S.gen + 1) t2).es w.params) 8) ∈ led')) := by
  unfold Spec
  k_fill
  intro pp loose mean mg mb dp un gd cn cs a ccd cl outer A₀ base h₀ L m s Q E B F X N T hk hd hu hret
  refine wpAny_call ?_
  have hv := ok.valueAt hr
  have n1 := ne_of_news N hS.2.1 hS.1 inst_ne_dict.symm
  have n2 := ne_of_news N hS.2.1 hS.2.2 (ro_ne ok.ro).symm
  have n3 := ne_of_news N hS.2.1 hrec.1 inst_ne_dict.symm
  have n4 := ne_of_news N hS.2.1 hrec.2 (dict_ne (by decide))
  have n5 := ne_of_news N hrec.2 hS.1 inst_ne_dict.symm
  have n6 := ne_of_news N hrec.2 hS.2.2 (ro_ne ok.ro).symm
  have n7 := ne_of_news N hrec.2 hrec.1 inst_ne_dict.symm
  have hoff := off_own [S.d, r.d] led
  have N1 : News h₀ L s.heap ((S.a, instObj 165 S.d) :: (S.d, dictOf (S.es w.params) 3) :: (S.rd, S.ro) :: (r.a, instObj 46 r.d) :: (r.d, dictOf (r.es w.params) 8) :: off [S.d, r.d] led) :=
    News.sub (News.add1 (News.add1 (News.add1 (News.add1 (News.add1 N hrec.2) (.tail _ hrec.1)) (.tail _ (.tail _ hS.2.2))) (.tail _ (.tail _ (.tail _ hS.2.1)))) (.tail _ (.tail _ (.tail _ (.tail _ hS.1))))) (by
      intro q hq
      simp only [List.mem_cons] at hq ⊢
      rcases hq with h | h | h | h | h | h
      · simp only [h, true_or, or_true]
      · simp only [h, true_or, or_true]
      · simp only [h, true_or, or_true]
      · simp only [h, true_or, or_true]
      · simp only [h, true_or, or_true]
      · simp only [(mem_off.mp h).1, or_true])
  have back := mem_of_off (LED := (S.a, instObj 165 S.d) :: (S.d, dictOf (S.es w.params) 3) :: (S.rd, S.ro) :: (r.a, instObj 46 r.d) :: (r.d, dictOf (r.es w.params) 8) :: off [S.d, r.d] led) (mods := [S.d, r.d]) N
    (fun q hq => .tail _ (.tail _ (.tail _ (.tail _ (.tail _ hq))))) (by
      intro d hd
      rcases List.mem_cons.mp hd with rfl | hd
      · exact ⟨_, hS.2.1, .tail _ (.head _)⟩
      · rw [List.mem_singleton.mp hd]
        exact ⟨_, hrec.2, .tail _ (.tail _ (.tail _ (.tail _ (.head _))))⟩)
  clear N
  k_dflt ktr_enter
  (rename Fr _ _ _ _ => F77)
  replace F77 := fr_eq (m' := ar2 "self" (.ref S.a) "record_key" (.int (k : Int) tk)) F77 (by with_unfolding_all rfl)
  (repeat' ((fail_if_success first | (with_reducible first | refine st_dget ?_ | refine st_get ?_) | k_data); (first | (k_unfold; (try dsimp only)) | (k_end; kc_close) | walk1 | (dsimp only; walk1) | (leave1; (try dsimp only)) | fail "no step")))
  (rename News _ _ _ _ => N4)
  k_dflt (refine getMethod_map N4 (by k_mem) ok.ro ?_)
  (repeat' ((fail_if_success first | (with_reducible first | refine st_dget ?_ | refine st_get ?_) | k_data); (first | (k_unfold; (try dsimp only)) | (k_end; kc_close) | walk1 | (dsimp only; walk1) | (leave1; (try dsimp only)) | fail "no step")))
  (rename News _ _ _ _ => N4)
  k_dflt (refine get_mapv N4 (by k_mem) ok.ro ok.lo (by assumption) ?_)
  (repeat' ((fail_if_success first | (with_reducible first | refine st_dget ?_ | refine st_get ?_) | k_data); (first | (k_unfold; (try dsimp only)) | (k_end; kc_close) | walk1 | (dsimp only; walk1) | (leave1; (try dsimp only)) | fail "no step")))
  all_goals ((rename News _ _ _ _ => N4); (rename Fr _ _ _ _ => F4))
  all_goals first
    | (refine hret _ _ _ _ (.inl ⟨?_, rfl, back⟩) F4 N4; first | assumption | omega)
    | (refine hret _ _ _ _ (.inr ⟨?_, rfl, fun q hq hn => .tail _ (.tail _ (.tail _ (.tail _ (.tail _ (mem_off.mpr ⟨hq, hn⟩))))), _, _, .tail _ (.head _), .tail _ (.tail _ (.tail _ (.tail _ (.head _))))⟩) F4 N4; omega)
end
theorem SOk.sz {w : World} {S : Sto} (h : SOk w S) : S.kvs.length ≤ sizeLine := by
  have := h.len
  simp only [Sto.kvs, List.length_map, PySem.sizeLine_eq]
  omega
section
noncomputable abbrev Sto.push (S : Sto) (r : Rec) (ro : Obj) (t1 t2 : Tok) : Sto := { S with gen := S.gen + 1, recs := S.recs ++ [r], ro := ro, v1 := t1, v2 := t2 }
theorem SOk.push {w : World} {S : Sto} (h : SOk w S) {r : Rec} {ro : Obj} {t1 t2 : Tok} (hk : r.key = (S.recs.length : Int)) (hl : S.recs.length < 100)
    (hro : ro.IsDictOf (intKind PySem.Challenge.rw_rr0014_01.row.prog w) (PySem.stored S.kvs (S.recs.length : Int) (.ref r.a))) : SOk w (S.push r ro t1 t2) where
  ro := by
    rw [h.stored] at hro
    have e : (S.push r ro t1 t2).kvs = S.kvs ++ [((S.recs.length : Int), Value.ref r.a)] := by simp [Sto.kvs, hk]
    rw [e]; exact hro
  key := by
    intro i q hq
    have hq' : (S.recs ++ [r])[i]? = some q := hq
    rw [List.getElem?_append] at hq'
    split at hq'
    · exact h.key i q hq'
    · rename_i hi
      have hlt : i - S.recs.length < 1 := by
        rcases Nat.lt_or_ge (i - S.recs.length) 1 with h1 | h1
        · exact h1
        · rw [List.getElem?_eq_none (by simpa using h1)] at hq'; cases hq'
      have e0 : i = S.recs.length := by omega
      subst e0
      simp at hq'
      rw [← hq', hk]
  len := by show (S.recs ++ [r]).length ≤ 100; simp; omega
  lo := h.lo

theorem push_es (P : Params) (S : Sto) (r : Rec) (ro : Obj) (t1 t2 : Tok) : (S.push r ro t1 t2).es P = [⟨PyData.keyHash P "records", .str "records" S.k0, .ref S.rd⟩, ⟨PyData.keyHash P "next_record", .str "next_record" S.k1, .int (S.recs.length + 1) t1⟩,
   ⟨PyData.keyHash P "generation", .str "generation" S.k2, .int (S.gen + 1) t2⟩] := by simp [Sto.es]
theorem push_mem {P : Params} {S : Sto} {r : Rec} {ro : Obj} {t1 t2 : Tok} {lst : List (Addr × Obj)} (h : (S.d, dictOf [⟨PyData.keyHash P "records", .str "records" S.k0, .ref S.rd⟩, ⟨PyData.keyHash P "next_record", .str "next_record" S.k1, .int (S.recs.length + 1) t1⟩,
   ⟨PyData.keyHash P "generation", .str "generation" S.k2, .int (S.gen + 1) t2⟩] 3) ∈ lst) : ((S.push r ro t1 t2).d, dictOf ((S.push r ro t1 t2).es P) 3) ∈ lst := by rw [push_es]; exact h
set_option maxRecDepth 100000 in
set_option maxHeartbeats 8000000 in
theorem new_record_spec (w : World) (S : Sto) (p : Prc) (term ikey : Addr) (tm ik : Dat) (entry : Int) (te : Tok) (led : List (Addr × Obj)) (hS : StoIn w led S) (ok : SOk w S) (hP : PrcIn w led p) :
    Spec w 99 [.ref S.a, .ref p.a, .ref term, .ref ikey, .int entry te] 50 led
      (fun v led' => ∃ r ro t1 t2, v = .ref r.a ∧ Kept [S.d, S.rd] led led' ∧ RecIn w led' r ∧ StoIn w led' (S.push r ro t1 t2) ∧ ro.IsDictOf (intKind PySem.Challenge.rw_rr0014_01.row.prog w) (PySem.stored S.kvs (S.recs.length : Int) (.ref r.a)) ∧
        (r.key = S.recs.length ∧ r.functor = p.functor ∧ r.term = term ∧ r.ikey = ikey ∧ r.birth = S.gen + 1 ∧ r.death = -1 ∧ r.next = -1 ∧ r.entry = entry ∧ r.tm = tm ∧ r.ik = ik) ∧ ∀ q ∈ led, @LT.lt Nat _ q.1 r.a ∧ @LT.lt Nat _ q.1 r.d) := by
  unfold Spec
  k_fill
  intro pp loose mean mg mb dp un gd cn cs a ccd cl outer A₀ base h₀ L m s Q E B F X N T hk hd hu hret
  refine wpAny_call ?_
  have n1 := ne_of_news N hS.2.1 hS.1 inst_ne_dict.symm
  have n2 := ne_of_news N hS.2.1 hS.2.2 (ro_ne ok.ro).symm
  have n3 := ne_of_news N hS.2.1 hP.1 inst_ne_dict.symm
  have n4 := ne_of_news N hS.2.1 hP.2 (dict_ne (by decide))
  have n5 := ne_of_news N hS.2.2 hS.1 (ro_ne_inst ok.ro)
  have n6 := ne_of_news N hS.2.2 hP.1 (ro_ne_inst ok.ro)
  have n7 := ne_of_news N hS.2.2 hP.2 (ro_ne ok.ro)
  have hoff := off_own [S.d, S.rd] led
  have N1 : News h₀ L s.heap ((S.a, instObj 165 S.d) :: (S.d, dictOf (S.es w.params) 3) :: (S.rd, S.ro) :: (p.a, instObj 74 p.d) :: (p.d, dictOf (p.es w.params) 10) :: off [S.d, S.rd] led) :=
    News.sub (News.add1 (News.add1 (News.add1 (News.add1 (News.add1 N hP.2) (.tail _ hP.1)) (.tail _ (.tail _ hS.2.2))) (.tail _ (.tail _ (.tail _ hS.2.1)))) (.tail _ (.tail _ (.tail _ (.tail _ hS.1))))) (by
      intro q hq
      simp only [List.mem_cons] at hq ⊢
      rcases hq with h | h | h | h | h | h
      · simp only [h, true_or]
      · simp only [h, true_or, or_true]
      · simp only [h, true_or, or_true]
      · simp only [h, true_or, or_true]
      · simp only [h, true_or, or_true]
      · simp only [(mem_off.mp h).1, or_true])
  have back := mem_of_off (LED := (S.a, instObj 165 S.d) :: (S.d, dictOf (S.es w.params) 3) :: (S.rd, S.ro) :: (p.a, instObj 74 p.d) :: (p.d, dictOf (p.es w.params) 10) :: off [S.d, S.rd] led) (mods := [S.d, S.rd]) N
    (fun q hq => .tail _ (.tail _ (.tail _ (.tail _ (.tail _ hq))))) (by
      intro d hd
      rcases List.mem_cons.mp hd with rfl | hd
      · exact ⟨_, hS.2.1, .tail _ (.head _)⟩
      · rw [List.mem_singleton.mp hd]
        exact ⟨_, hS.2.2, .tail _ (.tail _ (.head _))⟩)
  clear N
  k_dflt ktr_enter
  (rename Fr _ _ _ _ => F77)
  replace F77 := fr_eq (m' := ar5 "self" (.ref S.a) "proc" (.ref p.a) "term" (.ref term) "index_key" (.ref ikey) "entry" (.int entry te)) F77 (by with_unfolding_all rfl)
  (repeat' ((fail_if_success first | (with_reducible first | refine st_set ?_) | k_data); (first | (k_unfold; (try dsimp only)) | (k_end; kc_close) | walk1 | (dsimp only; walk1) | (leave1; (try dsimp only)) | fail "no step")))
  (rename News _ _ _ _ => N4); (rename Fr _ _ _ _ => F4)
  k_dflt (refine set_map F4 N4 (Split.tail (by k_ne) (Split.tail (by k_ne) (Split.tail (by k_ne) (Split.tail (by k_ne) (Split.head (by k_all)))))) ok.ro (SOk.sz ok) ?_)
  intro h9 o9 F9 N9 d9
  (try simp only [List.nil_append, List.cons_append] at N9)
  (try k_sweep)
  (repeat' ((fail_if_success first | (with_reducible first | refine st_set ?_) | k_data); (first | (k_unfold; (try dsimp only)) | (k_end; kc_close) | walk1 | (dsimp only; walk1) | (leave1; (try dsimp only)) | fail "no step")))
  (rename News _ _ _ _ => N4); (rename Fr _ _ _ _ => F4); (rename Obj.IsDictOf _ _ _ => d4)
  (rename _ ∧ _ ∧ _ ∧ _ ∧ _ ∧ AllLt _ _ => lt0); (rename @LT.lt Nat _ _ _ => lt1)
  refine hret _ _ _ _ ⟨⟨_, _, _, _, _, _, _, _, _, _, tm, ik, _, _, _, _, _, _, _, _, _, _, _, _, _, _⟩, _, _, _, rfl, fun q hq hn => .tail _ (.tail _ (.tail _ (.tail _ (.tail _ (.tail _ (.tail _ (mem_off.mpr ⟨hq, hn⟩))))))), ⟨.head _, .tail _ (.head _)⟩,
    ⟨.tail _ (.tail _ (.head _)), push_mem (.tail _ (.tail _ (.tail _ (.head _)))), .tail _ (.tail _ (.tail _ (.tail _ (.head _))))⟩, d4, ⟨rfl, rfl, rfl, rfl, rfl, rfl, rfl, rfl, rfl, rfl⟩, fun q hq => ?fr⟩ F4 N4
  case fr =>
    have h1 := allLt_out (l := (S.a, instObj 165 S.d) :: (S.d, dictOf (S.es w.params) 3) :: (S.rd, S.ro) :: (p.a, instObj 74 p.d) :: (p.d, dictOf (p.es w.params) 10) :: off [S.d, S.rd] led) lt0 q (back q hq)
    exact ⟨Nat.lt_trans h1 lt1, h1⟩
end
section
theorem off1 {d : Addr} {a : Addr} {o : Obj} {l : List (Addr × Obj)} (h : (a, o) ∈ l) (hne : @Ne Nat a d) : (a, o) ∈ off [d] l := mem_off.mpr ⟨h, fun e => hne (List.mem_singleton.mp e)⟩
theorem off2 {d e : Addr} {a : Addr} {o : Obj} {l : List (Addr × Obj)} (h : (a, o) ∈ l) (hne : @Ne Nat a d) (hne' : @Ne Nat a e) : (a, o) ∈ off [d, e] l := mem_off.mpr ⟨h, fun x => by
  rcases List.mem_cons.mp x with x | x
  · exact hne x
  · exact hne' (List.mem_singleton.mp x)⟩
theorem kept2 {d e : Addr} {a : Addr} {o : Obj} {l l' : List (Addr × Obj)} (k : Kept [d, e] l l') (h : (a, o) ∈ l) (hne : @Ne Nat a d) (hne' : @Ne Nat a e) : (a, o) ∈ l' := k _ h fun x => by
  rcases List.mem_cons.mp x with x | x
  · exact hne x
  · exact hne' (List.mem_singleton.mp x)

noncomputable abbrev Prc.withKeys (p : Prc) (F La : Int) (t3 t4 : Tok) : Prc := { p with first := F, last := La, v5 := t3, v6 := t4 }
noncomputable abbrev Rec.withNext (r : Rec) (n : Int) (t : Tok) : Rec := { r with next := n, v6 := t }

theorem prc_mem {P : Params} {p : Prc} {F F' La La' : Int} {t3 t4 : Tok} {lst : List (Addr × Obj)} (h : (p.d, dictOf ((p.withKeys F' La' t3 t4).es P) 10) ∈ lst) (e1 : F' = F) (e2 : La' = La) : ((p.withKeys F La t3 t4).d, dictOf ((p.withKeys F La t3 t4).es P) 10) ∈ lst := by
  subst e1; subst e2; exact h
/-- what entering a clause does: one record more, the chain's ends told -/
def Pushed (w : World) (S : Sto) (p : Prc) (term ikey : Addr) (tm ik : Dat) (entry nx F La : Int) (mods : List Addr) (led : List (Addr × Obj)) (v : Value) (led' : List (Addr × Obj)) : Prop :=
  ∃ r ro t1 t2 t3 t4, v = .ref r.a ∧ Kept mods led led' ∧ RecIn w led' r ∧ StoIn w led' (S.push r ro t1 t2) ∧ ro.IsDictOf (intKind PySem.Challenge.rw_rr0014_01.row.prog w) (PySem.stored S.kvs (S.recs.length : Int) (.ref r.a)) ∧
    PrcIn w led' (p.withKeys F La t3 t4) ∧
    (r.key = S.recs.length ∧ r.functor = p.functor ∧ r.term = term ∧ r.ikey = ikey ∧ r.birth = S.gen + 1 ∧ r.death = -1 ∧ r.next = nx ∧ r.entry = entry ∧ r.tm = tm ∧ r.ik = ik) ∧ ∀ q ∈ led, @LT.lt Nat _ q.1 r.a ∧ @LT.lt Nat _ q.1 r.d

set_option maxRecDepth 100000 in
set_option maxHeartbeats 8000000 in
theorem append_empty_spec (w : World) (S : Sto) (p : Prc) (term ikey : Addr) (tm ik : Dat) (entry : Int) (te : Tok) (led : List (Addr × Obj)) (hS : StoIn w led S) (ok : SOk w S) (hP : PrcIn w led p) (hf : p.first = -1) :
    Spec w 106 [.ref S.a, .ref p.a, .ref term, .ref ikey, .int entry te] 70 led (Pushed w S p term ikey tm ik entry (-1) S.recs.length S.recs.length [S.d, S.rd, p.d] led) := by
  unfold Spec
  k_fill
  intro pp loose mean mg mb dp un gd cn cs a ccd cl outer A₀ base h₀ L m s Q E B F X N T hk hd hu hret
  refine wpAny_call ?_
  have n1 := ne_of_news N hP.1 hS.2.1 inst_ne_dict
  have n2 := ne_of_news N hP.1 hS.2.2 (ro_ne_inst ok.ro).symm
  have n3 := ne_of_news N hP.2 hS.2.1 (dict_ne (by decide))
  have n4 := ne_of_news N hP.2 hS.2.2 (ro_ne ok.ro).symm
  have N1 := News.add1 (News.add1 (News.add1 (News.add1 N hP.2) (.tail _ hP.1)) (.tail _ (.tail _ hS.2.1))) (.tail _ (.tail _ (.tail _ hS.1)))
  clear N
  k_dflt ktr_enter
  (rename Fr _ _ _ _ => F77)
  replace F77 := fr_eq (m' := ar5 "self" (.ref S.a) "proc" (.ref p.a) "term" (.ref term) "index_key" (.ref ikey) "entry" (.int entry te)) F77 (by with_unfolding_all rfl)
  (repeat' ((fail_if_success first | (with_reducible first | refine st_while ?_ | refine st_for ?_ | refine st_call 99 ?_) | k_data); (first | (k_unfold; (try dsimp only)) | (k_end; kc_close) | walk1 | (dsimp only; walk1) | (leave1; (try dsimp only)) | fail "no step")))
  (rename News _ _ _ _ => N4); (rename Fr _ _ _ _ => F4); (rename Below _ _ _ _ => B4); (rename Frag.In _ _ => X4); (rename Top _ _ _ _ _ _ => T4)
  (try k_fold)
  k_dflt (refine Spec.use B4 F4 X4 N4 T4 (by first | exact rfl | assumption) (new_record_spec w S p term ikey tm ik entry te led hS ok hP) (by (intro q hq; repeat (first | exact hq | apply List.Mem.tail))) (by k_room) (by k_units) ?_)
  intro r9 l9 h9 tk9 hR9 F9 N9
  obtain ⟨r, ro, t1, t2, rfl, hkept, hrec, hsto, hro, hfl, hfr⟩ := hR9
  clear N4 F4
  have hP' : PrcIn w l9 p := ⟨kept2 hkept hP.1 n1 n2, kept2 hkept hP.2 n3 n4⟩
  have m1 := ne_of_news N9 hP'.2 hrec.1 inst_ne_dict.symm
  have m2 := ne_of_news N9 hP'.2 hrec.2 (dict_ne (by decide))
  have m3 := ne_of_news N9 hP'.2 hP'.1 inst_ne_dict.symm
  have m4 := ne_of_news N9 hsto.1 hP'.2 inst_ne_dict
  have m5 := ne_of_news N9 hsto.2.1 hP'.2 (dict_ne (by decide))
  have m6 := ne_of_news N9 hsto.2.2 hP'.2 (ro_ne hro)
  have hoff := off_own [p.d] l9
  have N10 : News _ _ _ ((r.a, instObj 46 r.d) :: (r.d, dictOf (r.es w.params) 8) :: (p.a, instObj 74 p.d) :: (p.d, dictOf (p.es w.params) 10) :: off [p.d] l9) :=
    News.sub (News.add1 (News.add1 (News.add1 (News.add1 N9 hP'.2) (.tail _ hP'.1)) (.tail _ (.tail _ hrec.2))) (.tail _ (.tail _ (.tail _ hrec.1)))) (by
      intro q hq
      simp only [List.mem_cons] at hq ⊢
      rcases hq with h | h | h | h | h
      · simp only [h, true_or]
      · simp only [h, true_or, or_true]
      · simp only [h, true_or, or_true]
      · simp only [h, true_or, or_true]
      · simp only [(mem_off.mp h).1, or_true])
  clear N9
  try dsimp only
  try k_fold
  (repeat' ((fail_if_success first | (with_reducible first | refine st_while ?_ | refine st_for ?_ | refine st_call 99 ?_) | k_data); (first | (k_unfold; (try dsimp only)) | (k_end; kc_close) | walk1 | (dsimp only; walk1) | (leave1; (try dsimp only)) | fail "no step")))
  (rename News _ _ _ _ => N4); (rename Fr _ _ _ _ => F4)
  obtain ⟨hk1, hfl⟩ := hfl
  refine hret _ _ _ _ ⟨r, ro, t1, t2, _, _, rfl, fun q hq hn => ?_, ⟨.head _, .tail _ (.head _)⟩, ⟨.tail _ (.tail _ (.tail _ (.tail _ (off1 hsto.1 m4)))), .tail _ (.tail _ (.tail _ (.tail _ (off1 hsto.2.1 m5)))), .tail _ (.tail _ (.tail _ (.tail _ (off1 hsto.2.2 m6))))⟩, hro,
    ⟨.tail _ (.tail _ (.head _)), prc_mem (F' := r.key) (La' := r.key) (.tail _ (.tail _ (.tail _ (.head _)))) hk1 hk1⟩, ⟨hk1, hfl⟩, hfr⟩ F4 N4
  simp only [List.mem_cons, List.not_mem_nil, or_false, not_or] at hn
  exact .tail _ (.tail _ (.tail _ (.tail _ (off1 (hkept q hq (by simp only [List.mem_cons, List.not_mem_nil, or_false, not_or]; exact ⟨hn.1, hn.2.1⟩)) hn.2.2))))
end
section
theorem getItem_map {prog : Program} {w : World} {A : Around} {E : Value → Shared → Prop} {s : Shared} {h₀ : Heap} {L d : Addr} {news : List (Addr × Obj)} {o : Obj} {kvs : List (Int × Value)}
    {i : Int} {t : Tok} {v : Value} {Q : Value → Shared → Prop} (N : News h₀ L s.heap news) (hm : (d, o) ∈ news) (hd : o.IsDictOf (intKind prog w) kvs) (hl : valueAt kvs i = some v)
    (h : Q v { s with toks := s.toks + 1 }) : wpAny (model prog w) A (getItem (.ref d) (.int i t)) Q E s := by
  have hD : s.heap.DictOf (intKind prog w) d kvs := Heap.dictOf_iff.mpr ⟨o, (N _ hm).1, hd⟩
  exact wpAny_getItem_of (intKind_is prog w i t) hD.mapOf hl h

theorem next_mem {P : Params} {r : Rec} {n n' : Int} {t : Tok} {lst : List (Addr × Obj)} (h : (r.d, dictOf ((r.withNext n' t).es P) 8) ∈ lst) (e : n' = n) : (r.d, dictOf ((r.withNext n t).es P) 8) ∈ lst := by
  subst e; exact h
set_option maxRecDepth 100000 in
set_option maxHeartbeats 8000000 in
theorem append_spec (w : World) (S : Sto) (p : Prc) (kl : Nat) (rl : Rec) (term ikey : Addr) (tm ik : Dat) (entry : Int) (te : Tok) (led : List (Addr × Obj)) (hS : StoIn w led S) (ok : SOk w S) (hP : PrcIn w led p) (hf : 0 ≤ p.first)
    (hla : p.last = (kl : Int)) (hrl : S.recs[kl]? = some rl) (hR : RecIn w led rl) (hlen : S.recs.length < 100) :
    Spec w 106 [.ref S.a, .ref p.a, .ref term, .ref ikey, .int entry te] 70 led (fun v led' => Pushed w S p term ikey tm ik entry (-1) p.first S.recs.length [S.d, S.rd, p.d, rl.d] led v led' ∧
      ∃ t, (rl.d, dictOf ((rl.withNext S.recs.length t).es w.params) 8) ∈ led') := by
  unfold Spec
  k_fill
  intro pp loose mean mg mb dp un gd cn cs a ccd cl outer A₀ base h₀ L m s Q E B F X N T hk hd hu hret
  refine wpAny_call ?_
  have n1 := ne_of_news N hP.1 hS.2.1 inst_ne_dict
  have n2 := ne_of_news N hP.1 hS.2.2 (ro_ne_inst ok.ro).symm
  have n3 := ne_of_news N hP.2 hS.2.1 (dict_ne (by decide))
  have n4 := ne_of_news N hP.2 hS.2.2 (ro_ne ok.ro).symm
  have n5 := ne_of_news N hR.1 hS.2.1 inst_ne_dict
  have n6 := ne_of_news N hR.1 hS.2.2 (ro_ne_inst ok.ro).symm
  have n7 := ne_of_news N hR.2 hS.2.1 (dict_ne (by decide))
  have n8 := ne_of_news N hR.2 hS.2.2 (ro_ne ok.ro).symm
  have N1 := News.add1 (News.add1 (News.add1 (News.add1 N hP.2) (.tail _ hP.1)) (.tail _ (.tail _ hS.2.1))) (.tail _ (.tail _ (.tail _ hS.1)))
  clear N
  k_dflt ktr_enter
  (rename Fr _ _ _ _ => F77)
  replace F77 := fr_eq (m' := ar5 "self" (.ref S.a) "proc" (.ref p.a) "term" (.ref term) "index_key" (.ref ikey) "entry" (.int entry te)) F77 (by with_unfolding_all rfl)
  (repeat' ((fail_if_success first | (with_reducible first | refine st_while ?_ | refine st_for ?_ | refine st_gi ?_ | refine st_call 99 ?_) | k_data); (first | (k_unfold; (try dsimp only)) | (k_end; kc_close) | walk1 | (dsimp only; walk1) | (leave1; (try dsimp only)) | fail "no step")))
  (rename News _ _ _ _ => N4); (rename Fr _ _ _ _ => F4); (rename Below _ _ _ _ => B4); (rename Frag.In _ _ => X4); (rename Top _ _ _ _ _ _ => T4)
  (try k_fold)
  k_dflt (refine Spec.use B4 F4 X4 N4 T4 (by first | exact rfl | assumption) (new_record_spec w S p term ikey tm ik entry te led hS ok hP) (by (intro q hq; repeat (first | exact hq | apply List.Mem.tail))) (by k_room) (by k_units) ?_)
  intro r9 l9 h9 tk9 hR9 F9 N9
  obtain ⟨r, ro, t1, t2, rfl, hkept, hrec, hsto, hro, hfl, hfr⟩ := hR9
  clear N4 F4
  have ok' : SOk w (S.push r ro t1 t2) := ok.push hfl.1 hlen hro
  have hv : valueAt (S.push r ro t1 t2).kvs p.last = some (.ref rl.a) := by
    rw [hla]
    exact ok'.valueAt (by show (S.recs ++ [r])[kl]? = some rl; rw [List.getElem?_append_left (List.getElem?_eq_some_iff.mp hrl).1]; exact hrl)
  clear ok
  have hP' : PrcIn w l9 p := ⟨kept2 hkept hP.1 n1 n2, kept2 hkept hP.2 n3 n4⟩
  have hR' : RecIn w l9 rl := ⟨kept2 hkept hR.1 n5 n6, kept2 hkept hR.2 n7 n8⟩
  have m1 := ne_of_news N9 hP'.2 hrec.1 inst_ne_dict.symm
  have m2 := ne_of_news N9 hP'.2 hrec.2 (dict_ne (by decide))
  have m3 := ne_of_news N9 hP'.2 hP'.1 inst_ne_dict.symm
  have m4 := ne_of_news N9 hsto.1 hP'.2 inst_ne_dict
  have m5 := ne_of_news N9 hsto.2.1 hP'.2 (dict_ne (by decide))
  have m6 := ne_of_news N9 hsto.2.2 hP'.2 (ro_ne hro)
  have m7 := ne_of_news N9 hP'.2 hR'.1 inst_ne_dict.symm
  have m8 := ne_of_news N9 hP'.2 hR'.2 (dict_ne (by decide))
  have o1 := ne_of_news N9 hR'.2 hrec.1 inst_ne_dict.symm
  have o2 : @Ne Nat rl.d r.d := Nat.ne_of_lt (hfr _ hR.2).2
  have o3 := ne_of_news N9 hR'.2 hP'.1 inst_ne_dict.symm
  have o4 := ne_of_news N9 hsto.1 hR'.2 inst_ne_dict
  have o5 := ne_of_news N9 hsto.2.1 hR'.2 (dict_ne (by decide))
  have o6 := ne_of_news N9 hsto.2.2 hR'.2 (ro_ne hro)
  have o7 := ne_of_news N9 hR'.2 hR'.1 inst_ne_dict.symm
  have hoff := off_own [p.d, rl.d] l9
  have N10 : News _ _ _ ((r.a, instObj 46 r.d) :: (r.d, dictOf (r.es w.params) 8) :: (p.a, instObj 74 p.d) :: (p.d, dictOf (p.es w.params) 10) :: (S.a, instObj 165 S.d) :: (S.d, dictOf ((S.push r ro t1 t2).es w.params) 3) :: (S.rd, ro) ::
      (rl.a, instObj 46 rl.d) :: (rl.d, dictOf (rl.es w.params) 8) :: off [p.d, rl.d] l9) :=
    News.sub (News.add1 (News.add1 (News.add1 (News.add1 (News.add1 (News.add1 (News.add1 (News.add1 (News.add1 N9 hR'.2) (.tail _ hR'.1)) (.tail _ (.tail _ hsto.2.2))) (.tail _ (.tail _ (.tail _ hsto.2.1)))) (.tail _ (.tail _ (.tail _ (.tail _ hsto.1)))))
      (.tail _ (.tail _ (.tail _ (.tail _ (.tail _ hP'.2)))))) (.tail _ (.tail _ (.tail _ (.tail _ (.tail _ (.tail _ hP'.1))))))) (.tail _ (.tail _ (.tail _ (.tail _ (.tail _ (.tail _ (.tail _ hrec.2)))))))) (.tail _ (.tail _ (.tail _ (.tail _ (.tail _ (.tail _ (.tail _ (.tail _ hrec.1))))))))) (by
      intro q hq
      simp only [List.mem_cons] at hq ⊢
      rcases hq with h | h | h | h | h | h | h | h | h | h
      · simp only [h, true_or]
      · simp only [h, true_or, or_true]
      · simp only [h, true_or, or_true]
      · simp only [h, true_or, or_true]
      · simp only [h, true_or, or_true]
      · simp only [h, true_or, or_true]
      · simp only [h, true_or, or_true]
      · simp only [h, true_or, or_true]
      · simp only [h, true_or, or_true]
      · simp only [(mem_off.mp h).1, or_true])
  clear N9
  try dsimp only
  try k_fold
  (repeat' ((fail_if_success first | (with_reducible first | refine st_while ?_ | refine st_for ?_ | refine st_gi ?_ | refine st_call 99 ?_) | k_data); (first | (k_unfold; (try dsimp only)) | (k_end; kc_close) | walk1 | (dsimp only; walk1) | (leave1; (try dsimp only)) | fail "no step")))
  (rename News _ _ _ _ => N4)
  k_dflt (refine getItem_map N4 (by k_mem) ok'.ro hv ?_)
  (repeat' ((fail_if_success first | (with_reducible first | refine st_while ?_ | refine st_for ?_ | refine st_gi ?_ | refine st_call 99 ?_) | k_data); (first | (k_unfold; (try dsimp only)) | (k_end; kc_close) | walk1 | (dsimp only; walk1) | (leave1; (try dsimp only)) | fail "no step")))
  (rename News _ _ _ _ => N4); (rename Fr _ _ _ _ => F4)
  obtain ⟨hk1, hfl⟩ := hfl
  refine hret _ _ _ _ ⟨⟨r, ro, t1, t2, p.v5, _, rfl, fun q hq hn => ?_, ⟨.head _, .tail _ (.head _)⟩, ⟨.tail _ (.tail _ (.tail _ (.tail _ (.head _)))), .tail _ (.tail _ (.tail _ (.tail _ (.tail _ (.head _))))), .tail _ (.tail _ (.tail _ (.tail _ (.tail _ (.tail _ (.head _))))))⟩, hro,
    ⟨.tail _ (.tail _ (.head _)), prc_mem (F' := p.first) (La' := r.key) (.tail _ (.tail _ (.tail _ (.head _)))) rfl hk1⟩, ⟨hk1, hfl⟩, hfr⟩, _, next_mem (n' := r.key) (.tail _ (.tail _ (.tail _ (.tail _ (.tail _ (.tail _ (.tail _ (.tail _ (.head _))))))))) hk1⟩ F4 N4
  simp only [List.mem_cons, List.not_mem_nil, or_false, not_or] at hn
  exact .tail _ (.tail _ (.tail _ (.tail _ (.tail _ (.tail _ (.tail _ (.tail _ (.tail _ (off2 (hkept q hq (by simp only [List.mem_cons, List.not_mem_nil, or_false, not_or]; exact ⟨hn.1, hn.2.1⟩)) hn.2.2.1 hn.2.2.2)))))))))
end
section
theorem push_swap {P : Params} {S : Sto} {r r' : Rec} {ro : Obj} {t1 t2 : Tok} {lst : List (Addr × Obj)} (h : (S.d, dictOf ((S.push r ro t1 t2).es P) 3) ∈ lst) : (S.d, dictOf ((S.push r' ro t1 t2).es P) 3) ∈ lst := by
  rw [push_es] at h ⊢; exact h

set_option maxRecDepth 100000 in
set_option maxHeartbeats 8000000 in
theorem prepend_empty_spec (w : World) (S : Sto) (p : Prc) (term ikey : Addr) (tm ik : Dat) (entry : Int) (te : Tok) (led : List (Addr × Obj)) (hS : StoIn w led S) (ok : SOk w S) (hP : PrcIn w led p) (hf : p.first = -1) :
    Spec w 113 [.ref S.a, .ref p.a, .ref term, .ref ikey, .int entry te] 70 led (Pushed w S p term ikey tm ik entry p.first S.recs.length S.recs.length [S.d, S.rd, p.d] led) := by
  unfold Spec
  k_fill
  intro pp loose mean mg mb dp un gd cn cs a ccd cl outer A₀ base h₀ L m s Q E B F X N T hk hd hu hret
  refine wpAny_call ?_
  have n1 := ne_of_news N hP.1 hS.2.1 inst_ne_dict
  have n2 := ne_of_news N hP.1 hS.2.2 (ro_ne_inst ok.ro).symm
  have n3 := ne_of_news N hP.2 hS.2.1 (dict_ne (by decide))
  have n4 := ne_of_news N hP.2 hS.2.2 (ro_ne ok.ro).symm
  have N1 := News.add1 (News.add1 (News.add1 (News.add1 N hP.2) (.tail _ hP.1)) (.tail _ (.tail _ hS.2.1))) (.tail _ (.tail _ (.tail _ hS.1)))
  clear N
  k_dflt ktr_enter
  (rename Fr _ _ _ _ => F77)
  replace F77 := fr_eq (m' := ar5 "self" (.ref S.a) "proc" (.ref p.a) "term" (.ref term) "index_key" (.ref ikey) "entry" (.int entry te)) F77 (by with_unfolding_all rfl)
  (repeat' ((fail_if_success first | (with_reducible first | refine st_while ?_ | refine st_for ?_ | refine st_call 99 ?_) | k_data); (first | (k_unfold; (try dsimp only)) | (k_end; kc_close) | walk1 | (dsimp only; walk1) | (leave1; (try dsimp only)) | fail "no step")))
  (rename News _ _ _ _ => N4); (rename Fr _ _ _ _ => F4); (rename Below _ _ _ _ => B4); (rename Frag.In _ _ => X4); (rename Top _ _ _ _ _ _ => T4)
  (try k_fold)
  k_dflt (refine Spec.use B4 F4 X4 N4 T4 (by first | exact rfl | assumption) (new_record_spec w S p term ikey tm ik entry te led hS ok hP) (by (intro q hq; repeat (first | exact hq | apply List.Mem.tail))) (by k_room) (by k_units) ?_)
  intro r9 l9 h9 tk9 hR9 F9 N9
  obtain ⟨r, ro, t1, t2, rfl, hkept, hrec, hsto, hro, hfl, hfr⟩ := hR9
  clear N4 F4
  have hP' : PrcIn w l9 p := ⟨kept2 hkept hP.1 n1 n2, kept2 hkept hP.2 n3 n4⟩
  have m1 := ne_of_news N9 hP'.2 hrec.1 inst_ne_dict.symm
  have m2 := ne_of_news N9 hP'.2 hrec.2 (dict_ne (by decide))
  have m3 := ne_of_news N9 hP'.2 hP'.1 inst_ne_dict.symm
  have m4 := ne_of_news N9 hsto.1 hP'.2 inst_ne_dict
  have m5 := ne_of_news N9 hsto.2.1 hP'.2 (dict_ne (by decide))
  have m6 := ne_of_news N9 hsto.2.2 hP'.2 (ro_ne hro)
  have o1 := ne_of_news N9 hrec.2 hrec.1 inst_ne_dict.symm
  have o2 := ne_of_news N9 hrec.2 hP'.1 inst_ne_dict.symm
  have o4 := ne_of_news N9 hsto.1 hrec.2 inst_ne_dict
  have o5 := ne_of_news N9 hsto.2.1 hrec.2 (dict_ne (by decide))
  have o6 := ne_of_news N9 hsto.2.2 hrec.2 (ro_ne hro)
  have hoff := off_own [p.d, r.d] l9
  have N10 : News _ _ _ ((r.a, instObj 46 r.d) :: (r.d, dictOf (r.es w.params) 8) :: (p.a, instObj 74 p.d) :: (p.d, dictOf (p.es w.params) 10) :: off [p.d, r.d] l9) :=
    News.sub (News.add1 (News.add1 (News.add1 (News.add1 N9 hP'.2) (.tail _ hP'.1)) (.tail _ (.tail _ hrec.2))) (.tail _ (.tail _ (.tail _ hrec.1)))) (by
      intro q hq
      simp only [List.mem_cons] at hq ⊢
      rcases hq with h | h | h | h | h
      · simp only [h, true_or]
      · simp only [h, true_or, or_true]
      · simp only [h, true_or, or_true]
      · simp only [h, true_or, or_true]
      · simp only [(mem_off.mp h).1, or_true])
  clear N9
  try dsimp only
  try k_fold
  (repeat' ((fail_if_success first | (with_reducible first | refine st_while ?_ | refine st_for ?_ | refine st_call 99 ?_) | k_data); (first | (k_unfold; (try dsimp only)) | (k_end; kc_close) | walk1 | (dsimp only; walk1) | (leave1; (try dsimp only)) | fail "no step")))
  (rename News _ _ _ _ => N4); (rename Fr _ _ _ _ => F4)
  obtain ⟨hk1, hk2, hk3, hk4, hk5, hk6, hk7, hk8, hk9, hk10⟩ := hfl
  refine hret _ _ _ _ ⟨r.withNext p.first p.v5, ro, t1, t2, _, _, rfl, fun q hq hn => ?_, ⟨.head _, .tail _ (.head _)⟩, ⟨.tail _ (.tail _ (.tail _ (.tail _ (off2 hsto.1 m4 o4)))), .tail _ (.tail _ (.tail _ (.tail _ (push_swap (S := S) (r := r) (off2 hsto.2.1 m5 o5))))), .tail _ (.tail _ (.tail _ (.tail _ (off2 hsto.2.2 m6 o6))))⟩, hro,
    ⟨.tail _ (.tail _ (.head _)), prc_mem (F' := r.key) (La' := r.key) (.tail _ (.tail _ (.tail _ (.head _)))) hk1 hk1⟩, ⟨hk1, hk2, hk3, hk4, hk5, hk6, rfl, hk8, hk9, hk10⟩, hfr⟩ F4 N4
  simp only [List.mem_cons, List.not_mem_nil, or_false, not_or] at hn
  have hq9 := hkept q hq (by simp only [List.mem_cons, List.not_mem_nil, or_false, not_or]; exact ⟨hn.1, hn.2.1⟩)
  have hlt := (hfr q hq).2
  exact .tail _ (.tail _ (.tail _ (.tail _ (off2 hq9 hn.2.2 (Nat.ne_of_lt hlt)))))

set_option maxRecDepth 100000 in
set_option maxHeartbeats 8000000 in
theorem prepend_spec (w : World) (S : Sto) (p : Prc) (term ikey : Addr) (tm ik : Dat) (entry : Int) (te : Tok) (led : List (Addr × Obj)) (hS : StoIn w led S) (ok : SOk w S) (hP : PrcIn w led p) (hf : 0 ≤ p.first) :
    Spec w 113 [.ref S.a, .ref p.a, .ref term, .ref ikey, .int entry te] 70 led (Pushed w S p term ikey tm ik entry p.first S.recs.length p.last [S.d, S.rd, p.d] led) := by
  unfold Spec
  k_fill
  intro pp loose mean mg mb dp un gd cn cs a ccd cl outer A₀ base h₀ L m s Q E B F X N T hk hd hu hret
  refine wpAny_call ?_
  have n1 := ne_of_news N hP.1 hS.2.1 inst_ne_dict
  have n2 := ne_of_news N hP.1 hS.2.2 (ro_ne_inst ok.ro).symm
  have n3 := ne_of_news N hP.2 hS.2.1 (dict_ne (by decide))
  have n4 := ne_of_news N hP.2 hS.2.2 (ro_ne ok.ro).symm
  have N1 := News.add1 (News.add1 (News.add1 (News.add1 N hP.2) (.tail _ hP.1)) (.tail _ (.tail _ hS.2.1))) (.tail _ (.tail _ (.tail _ hS.1)))
  clear N
  k_dflt ktr_enter
  (rename Fr _ _ _ _ => F77)
  replace F77 := fr_eq (m' := ar5 "self" (.ref S.a) "proc" (.ref p.a) "term" (.ref term) "index_key" (.ref ikey) "entry" (.int entry te)) F77 (by with_unfolding_all rfl)
  (repeat' ((fail_if_success first | (with_reducible first | refine st_while ?_ | refine st_for ?_ | refine st_call 99 ?_) | k_data); (first | (k_unfold; (try dsimp only)) | (k_end; kc_close) | walk1 | (dsimp only; walk1) | (leave1; (try dsimp only)) | fail "no step")))
  (rename News _ _ _ _ => N4); (rename Fr _ _ _ _ => F4); (rename Below _ _ _ _ => B4); (rename Frag.In _ _ => X4); (rename Top _ _ _ _ _ _ => T4)
  (try k_fold)
  k_dflt (refine Spec.use B4 F4 X4 N4 T4 (by first | exact rfl | assumption) (new_record_spec w S p term ikey tm ik entry te led hS ok hP) (by (intro q hq; repeat (first | exact hq | apply List.Mem.tail))) (by k_room) (by k_units) ?_)
  intro r9 l9 h9 tk9 hR9 F9 N9
  obtain ⟨r, ro, t1, t2, rfl, hkept, hrec, hsto, hro, hfl, hfr⟩ := hR9
  clear N4 F4
  have hP' : PrcIn w l9 p := ⟨kept2 hkept hP.1 n1 n2, kept2 hkept hP.2 n3 n4⟩
  have m1 := ne_of_news N9 hP'.2 hrec.1 inst_ne_dict.symm
  have m2 := ne_of_news N9 hP'.2 hrec.2 (dict_ne (by decide))
  have m3 := ne_of_news N9 hP'.2 hP'.1 inst_ne_dict.symm
  have m4 := ne_of_news N9 hsto.1 hP'.2 inst_ne_dict
  have m5 := ne_of_news N9 hsto.2.1 hP'.2 (dict_ne (by decide))
  have m6 := ne_of_news N9 hsto.2.2 hP'.2 (ro_ne hro)
  have o1 := ne_of_news N9 hrec.2 hrec.1 inst_ne_dict.symm
  have o2 := ne_of_news N9 hrec.2 hP'.1 inst_ne_dict.symm
  have o4 := ne_of_news N9 hsto.1 hrec.2 inst_ne_dict
  have o5 := ne_of_news N9 hsto.2.1 hrec.2 (dict_ne (by decide))
  have o6 := ne_of_news N9 hsto.2.2 hrec.2 (ro_ne hro)
  have hoff := off_own [p.d, r.d] l9
  have N10 : News _ _ _ ((r.a, instObj 46 r.d) :: (r.d, dictOf (r.es w.params) 8) :: (p.a, instObj 74 p.d) :: (p.d, dictOf (p.es w.params) 10) :: off [p.d, r.d] l9) :=
    News.sub (News.add1 (News.add1 (News.add1 (News.add1 N9 hP'.2) (.tail _ hP'.1)) (.tail _ (.tail _ hrec.2))) (.tail _ (.tail _ (.tail _ hrec.1)))) (by
      intro q hq
      simp only [List.mem_cons] at hq ⊢
      rcases hq with h | h | h | h | h
      · simp only [h, true_or]
      · simp only [h, true_or, or_true]
      · simp only [h, true_or, or_true]
      · simp only [h, true_or, or_true]
      · simp only [(mem_off.mp h).1, or_true])
  clear N9
  try dsimp only
  try k_fold
  (repeat' ((fail_if_success first | (with_reducible first | refine st_while ?_ | refine st_for ?_ | refine st_call 99 ?_) | k_data); (first | (k_unfold; (try dsimp only)) | (k_end; kc_close) | walk1 | (dsimp only; walk1) | (leave1; (try dsimp only)) | fail "no step")))
  (rename News _ _ _ _ => N4); (rename Fr _ _ _ _ => F4)
  obtain ⟨hk1, hk2, hk3, hk4, hk5, hk6, hk7, hk8, hk9, hk10⟩ := hfl
  refine hret _ _ _ _ ⟨r.withNext p.first p.v5, ro, t1, t2, _, p.v6, rfl, fun q hq hn => ?_, ⟨.head _, .tail _ (.head _)⟩, ⟨.tail _ (.tail _ (.tail _ (.tail _ (off2 hsto.1 m4 o4)))), .tail _ (.tail _ (.tail _ (.tail _ (push_swap (S := S) (r := r) (off2 hsto.2.1 m5 o5))))), .tail _ (.tail _ (.tail _ (.tail _ (off2 hsto.2.2 m6 o6))))⟩, hro,
    ⟨.tail _ (.tail _ (.head _)), prc_mem (F' := r.key) (La' := p.last) (.tail _ (.tail _ (.tail _ (.head _)))) hk1 rfl⟩, ⟨hk1, hk2, hk3, hk4, hk5, hk6, rfl, hk8, hk9, hk10⟩, hfr⟩ F4 N4
  simp only [List.mem_cons, List.not_mem_nil, or_false, not_or] at hn
  have hq9 := hkept q hq (by simp only [List.mem_cons, List.not_mem_nil, or_false, not_or]; exact ⟨hn.1, hn.2.1⟩)
  have hlt := (hfr q hq).2
  exact .tail _ (.tail _ (.tail _ (.tail _ (off2 hq9 hn.2.2 (Nat.ne_of_lt hlt)))))
end
theorem len_led {prog : Program} {w : World} {A : Around} {E : Value → Shared → Prop} {s : Shared} {h₀ : Heap} {L l : Addr} {news : List (Addr × Obj)} {its : Array Value} {n : Nat} {Q : Value → Shared → Prop}
    (N : News h₀ L s.heap news) (hm : (l, W.listOf its n) ∈ news) (hsz : its.size ≤ 1000000) (h : ∀ t tk, Q (.int its.size t) { s with toks := tk }) : wpAny (model prog w) A (call (.builtin "len") [.ref l]) Q E s :=
  len_list ⟨_, (N _ hm).1, rfl, n, rfl⟩ (by omega) (h _ _)
section
/-- the keys of a chain that are seen at g -/
noncomputable def seen (recs : List Rec) (g : Int) (C : List Nat) : List Nat := C.filter fun k => match recs[k]? with
  | some r => r.vis g
  | none => false
theorem linked_lt {recs : List Rec} : ∀ {f : Int} {C : List Nat}, Linked recs f C → ∀ k ∈ C, k < recs.length
  | _, [], _, _, h => nomatch h
  | _, k :: C, ⟨_, r, hr, hl⟩, j, hj => by
    rcases List.mem_cons.mp hj with rfl | hj
    · exact (List.getElem?_eq_some_iff.mp hr).1
    · exact linked_lt hl j hj
theorem chainR_seen {recs : List Rec} {g : Int} : ∀ {f : Int} {C : List Nat}, Linked recs f C → chainR recs g C = (seen recs g C).map fun k => Value.ref ((recs[k]?.map (·.a)).getD 0)
  | _, [], _ => rfl
  | _, k :: C, ⟨_, r, hr, hl⟩ => by
    have ih := chainR_seen (g := g) hl
    unfold chainR seen
    rw [hr, List.filter_cons]
    simp only [hr]
    cases hv : r.vis g
    · simpa [seen] using ih
    · simp only [if_true, List.map_cons, hr]
      rw [ih]; rfl

noncomputable def dsOf (recs : List Rec) (V : List Nat) : List Addr := V.map fun k => (recs[k]?.map (·.d)).getD 0
theorem rec_ne {w : World} {h₀ h : Heap} {L : Addr} {led : List (Addr × Obj)} (N : News h₀ L h led) {r r' : Rec} (h1 : RecIn w led r) (h2 : RecIn w led r') (hk : r.key ≠ r'.key) : @Ne Nat r.d r'.d := by
  refine ne_of_news N h1.2 h2.2 fun e => ?_
  have e3 := (Data.dict.inj (congrArg Obj.data e)).1
  have e4 : r.es w.params = r'.es w.params := congrArg Array.toList e3
  have e5 := (List.cons.inj e4).1
  have e6 := (DictEntry.mk.inj e5).2.2
  exact hk (Value.int.inj e6).1
theorem dsOf_succ {recs : List Rec} {V : List Nat} {i k : Nat} {r : Rec} (hk : V[i]? = some k) (hr : recs[k]? = some r) : dsOf recs (V.take (i + 1)) = dsOf recs (V.take i) ++ [r.d] := by
  simp [dsOf, List.take_add_one, hk, hr]
theorem mem_dsOf {recs : List Rec} {V : List Nat} {d : Addr} (h : d ∈ dsOf recs V) (hV : ∀ k ∈ V, k < recs.length) : ∃ k ∈ V, ∃ r, recs[k]? = some r ∧ r.d = d := by
  obtain ⟨k, hk, e⟩ := List.mem_map.mp h
  refine ⟨k, hk, recs[k]'(hV k hk), List.getElem?_eq_getElem _, ?_⟩
  rw [← e, List.getElem?_eq_getElem (hV k hk)]
  rfl
theorem seen_sub {recs : List Rec} {g : Int} {C : List Nat} : ∀ k ∈ seen recs g C, k ∈ C := fun _ h => (List.mem_filter.mp h).1
theorem seen_nodup {recs : List Rec} {g : Int} {C : List Nat} (h : C.Nodup) : (seen recs g C).Nodup := h.filter _

set_option maxRecDepth 100000 in
set_option maxHeartbeats 8000000 in
theorem kill_spec (w : World) (S : Sto) (p : Prc) (C : List Nat) (led : List (Addr × Obj))
    (hS : StoIn w led S) (ok : SOk w S) (hP : PrcIn w led p) (hR : RecsIn w led S.recs) (hl : Linked S.recs p.first C) (hnd : C.Nodup) (hlen : C.length ≤ 100) :
    Spec w 162 [.ref S.a, .ref p.a] 70 led (fun _ led' => ∃ G t1, (G = if seen S.recs S.gen C = [] then S.gen else S.gen + 1) ∧ Kept (S.d :: dsOf S.recs (seen S.recs S.gen C)) led led' ∧ (S.d, dictOf ((S.withGen G t1).es w.params) 3) ∈ led' ∧
      ∀ k ∈ seen S.recs S.gen C, ∀ r, S.recs[k]? = some r → ∃ t, (r.d, dictOf ((r.withDeath G t).es w.params) 8) ∈ led') := by
  unfold Spec
  k_fill
  intro pp loose mean mg mb dp un gd cn cs a ccd cl outer A₀ base h₀ L m s Q E B F X N T hk hd hu hret
  refine wpAny_call ?_
  have N1 := News.add1 (News.add1 (News.add1 (News.add1 N hP.2) (.tail _ hP.1)) (.tail _ (.tail _ hS.2.1))) (.tail _ (.tail _ (.tail _ hS.1)))
  have hne := ne_of_news N hS.2.1 hS.1 inst_ne_dict.symm
  have hA : ∀ r ∈ S.recs, @Ne Nat r.a S.d ∧ @Ne Nat r.d S.d := fun r hr => ⟨ne_of_news N (hR.at' r hr).1 hS.2.1 inst_ne_dict, ne_of_news N (hR.at' r hr).2 hS.2.1 (dict_ne (by decide))⟩
  have hB : ∀ r ∈ S.recs, ∀ r' ∈ S.recs, @Ne Nat r.a r'.d := fun r hr r' hr' => ne_of_news N (hR.at' r hr).1 (hR.at' r' hr').2 inst_ne_dict
  have hC : ∀ r ∈ S.recs, ∀ r' ∈ S.recs, r.key ≠ r'.key → @Ne Nat r.d r'.d := fun r hr r' hr' hk => rec_ne N (hR.at' r hr) (hR.at' r' hr') hk
  have hD : ∀ r ∈ S.recs, @Ne Nat r.d S.a := fun r hr => ne_of_news N (hR.at' r hr).2 hS.1 inst_ne_dict.symm
  have hV := seen_nodup (recs := S.recs) (g := S.gen) hnd
  have hVl : ∀ k ∈ seen S.recs S.gen C, k < S.recs.length := fun k hk => linked_lt hl k (seen_sub k hk)
  have hch := chainR_seen (g := S.gen) hl
  clear N
  k_dflt ktr_enter
  (rename Fr _ _ _ _ => F77)
  replace F77 := fr_eq (m' := ar2 "self" (.ref S.a) "proc" (.ref p.a)) F77 (by with_unfolding_all rfl)
  (repeat' ((fail_if_success first | (with_reducible first | refine st_while ?_ | refine st_for ?_ | refine st_call 148 ?_) | k_data); (first | (k_unfold; (try dsimp only)) | (k_end; kc_close) | (with_reducible refine st_len ?_; k_dflt (refine len_led (by k_asm) (by k_mem) (by simp only [List.size_toArray]; omega) ?_); intro t9 tk9) | walk1 | (dsimp only; walk1) | (leave1; (try dsimp only)) | fail "no step")))
  (rename News _ _ _ _ => N4); (rename Fr _ _ _ _ => F4); (rename Below _ _ _ _ => B4); (rename Frag.In _ _ => X4); (rename Top _ _ _ _ _ _ => T4)
  (try k_fold)
  k_dflt (refine Spec.use B4 F4 X4 N4 T4 (by first | exact rfl | assumption) (chain_spec w S p S.gen S.v2 C led hS ok hP hR hl hlen) (by (intro q hq; repeat (first | exact hq | apply List.Mem.tail))) (by k_room) (by k_units) ?_)
  intro r9 l9 h9 tk9 hR9 F9 N9
  obtain ⟨l, n, rfl, rfl, hfr⟩ := hR9
  clear N4 F4
  have hld : @Ne Nat S.d l := Nat.ne_of_lt (hfr _ hS.2.1)
  have hoff := off_own [S.d] led
  have N10 : News _ _ _ ((l, W.listOf (chainR S.recs S.gen C).toArray n) :: (S.a, instObj 165 S.d) :: (S.d, dictOf (S.es w.params) 3) :: off [S.d] led) :=
    News.sub (News.add1 (News.add1 N9 (.tail _ hS.2.1)) (.tail _ (.tail _ hS.1))) (by
      intro q hq
      simp only [List.mem_cons] at hq ⊢
      rcases hq with h | h | h | h
      · simp only [h, true_or, or_true]
      · simp only [h, true_or]
      · simp only [h, true_or, or_true]
      · simp only [(mem_off.mp h).1, or_true])
  clear N9
  have hsn : (chainR S.recs S.gen C).length = (seen S.recs S.gen C).length := by rw [chainR_seen hl, List.length_map]
  have hsn0 : seen S.recs S.gen C = [] ↔ (seen S.recs S.gen C).length = 0 := List.length_eq_zero_iff.symm
  have hcl := chainR_len S.recs S.gen C
  try dsimp only
  try k_fold
  (repeat' ((fail_if_success first | (with_reducible first | refine st_while ?_ | refine st_for ?_ | refine st_call 148 ?_) | k_data); (first | (k_unfold; (try dsimp only)) | (k_end; kc_close) | (with_reducible refine st_len ?_; k_dflt (refine len_led (by k_asm) (by k_mem) (by simp only [List.size_toArray]; omega) ?_); intro t9 tk9) | walk1 | (dsimp only; walk1) | (leave1; (try dsimp only)) | fail "no step")))
  all_goals (rename News _ _ _ _ => N4)
  all_goals (
    obtain ⟨G, t1, hG, N5⟩ : ∃ G t1, (G = if seen S.recs S.gen C = [] then S.gen else S.gen + 1) ∧ News _ _ _ ((l, W.listOf (chainR S.recs S.gen C).toArray n) :: (S.a, instObj 165 S.d) :: (S.d, dictOf ((S.withGen G t1).es w.params) 3) :: off [S.d] led) := by
      first
        | exact ⟨S.gen + 1, _, (by have h0 := (by assumption : 0 < ((chainR S.recs S.gen C).toArray.size : Int)); rw [if_neg]; intro e; rw [List.size_toArray, hsn, e] at h0; simp at h0), N4⟩
        | exact ⟨S.gen, S.v2, (by have h0 := (by assumption : ¬ 0 < ((chainR S.recs S.gen C).toArray.size : Int)); rw [if_pos]; rw [List.size_toArray, hsn] at h0; exact hsn0.mpr (by omega)), N4⟩)
  all_goals clear N4
  all_goals (rename Fr _ _ _ _ => F4)
  all_goals with_unfolding_all refine For_invVF F4 (by exact rfl) (by exact rfl) ?_
  all_goals walk1
  all_goals (
    refine my_listR (k := n) (fun i led' => (∀ q ∈ off [S.d] led, q.1 ∉ dsOf S.recs ((seen S.recs S.gen C).take i) → q ∈ led') ∧ (S.a, instObj 165 S.d) ∈ led' ∧ (S.d, dictOf ((S.withGen G t1).es w.params) 3) ∈ led' ∧
      ∀ k ∈ (seen S.recs S.gen C).take i, ∀ r, S.recs[k]? = some r → ∃ t, (r.d, dictOf ((r.withDeath G t).es w.params) 8) ∈ led') (by exact rfl) F4 N5 (.head _) ⟨fun q hq _ => .tail _ (.tail _ (.tail _ hq)), .tail _ (.head _), .tail _ (.tail _ (.head _)), fun k hk => nomatch hk⟩ ?_ ?_
    · intro i v led1 h1 tk1 own I o hv hR0 hI hown hnI F6 N6
      (try k_fold)
      obtain ⟨hq1, hq2, hq3, hq4⟩ := hR0
      clear N5 F4
      rw [hch, List.getElem?_map] at hv
      obtain ⟨k, hk, ek⟩ := Option.map_eq_some_iff.mp hv
      have hkm := List.mem_of_getElem? hk
      have hkl := hVl k hkm
      have hr : S.recs[k]? = some (S.recs[k]'hkl) := List.getElem?_eq_getElem hkl
      generalize S.recs[k]'hkl = r at hr
      rw [hr] at ek
      have ek' : Value.ref r.a = v := ek
      subst ek'
      have hmem : r ∈ S.recs := List.mem_of_getElem? hr
      have hnot : r.d ∉ dsOf S.recs ((seen S.recs S.gen C).take i) := by
        intro hd9
        obtain ⟨k', hk', r', hr', e'⟩ := mem_dsOf hd9 (fun k' hk' => hVl k' (List.mem_of_mem_take hk'))
        have hkk : k' ≠ k := by
          rintro rfl
          obtain ⟨j, hj, ej⟩ := List.mem_iff_getElem.mp hk'
          rw [List.length_take] at hj
          rw [List.getElem_take] at ej
          have hi := (List.getElem?_eq_some_iff.mp hk)
          obtain ⟨hi1, hi2⟩ := hi
          have := (List.getElem_inj hV).mp (ej.trans hi2.symm)
          omega
        refine hC r' (List.mem_of_getElem? hr') r hmem ?_ e'
        rw [ok.key _ _ hr', ok.key _ _ hr]
        omega
      have hra : (r.a, instObj 46 r.d) ∈ led1 := hq1 _ (off1 (hR.at' r hmem).1 (hA r hmem).1) (by
        intro hd9
        obtain ⟨k', hk', r', hr', e'⟩ := mem_dsOf hd9 (fun k' hk' => hVl k' (List.mem_of_mem_take hk'))
        exact hB r hmem r' (List.mem_of_getElem? hr') e'.symm)
      have hrd : (r.d, dictOf (r.es w.params) 8) ∈ led1 := hq1 _ (off1 (hR.at' r hmem).2 (hA r hmem).2) hnot
      have x1 := hD r hmem
      have x2 := (hA r hmem).2
      have x3 := hB r hmem r hmem
      have hoff9 := off_own [r.d] (own ++ led1)
      have N7 : News _ _ _ ((S.a, instObj 165 S.d) :: (S.d, dictOf ((S.withGen G t1).es w.params) 3) :: (r.a, instObj 46 r.d) :: (r.d, dictOf (r.es w.params) 8) :: off [r.d] (own ++ led1)) :=
        News.sub N6 (by
          intro q hq
          simp only [List.mem_cons] at hq
          rcases hq with h | h | h | h | h
          · rw [h]; exact List.mem_append_right _ hq2
          · rw [h]; exact List.mem_append_right _ hq3
          · rw [h]; exact List.mem_append_right _ hra
          · rw [h]; exact List.mem_append_right _ hrd
          · exact (mem_off.mp h).1)
      have hown2 : ∀ q ∈ own, q.1 ≠ r.d := by
        intro q hq e
        rcases hown q hq with e2 | e2
        · exact hnI _ hrd (e ▸ e2)
        · have := (hfr _ (hR.at' r hmem).2)
          rw [← e2, e] at this
          exact Nat.lt_irrefl _ this
      clear N6
      (repeat' ((fail_if_success first | (with_reducible first | refine st_while ?_ | refine st_for ?_ | refine st_call 148 ?_) | k_data); (first | (k_unfold; (try dsimp only)) | (k_end; kc_close) | (with_reducible refine st_len ?_; k_dflt (refine len_led (by k_asm) (by k_mem) (by simp only [List.size_toArray]; omega) ?_); intro t9 tk9) | walk1 | (dsimp only; walk1) | (leave1; (try dsimp only)) | fail "no step")))
      (rename News _ _ _ _ => N8); (rename Fr _ _ _ _ => F8)
      dsimp only [FPost]
      have hmemd : r.d ∈ dsOf S.recs ((seen S.recs S.gen C).take (i + 1)) := by rw [dsOf_succ hk hr]; simp
      refine fendR F8 N8 (fun q hq => .tail _ (.tail _ (.tail _ (.tail _ (mem_off.mpr ⟨List.mem_append_left _ hq, fun e => hown2 q hq (List.mem_singleton.mp e)⟩))))) ⟨fun q hq hn => ?_, off1 (.head _) (fun e => hnI _ hq2 e), off1 (.tail _ (.head _)) (fun e => hnI _ hq3 e), fun k' hk' r' hr' => ?_⟩
      · rw [dsOf_succ hk hr] at hn
        have hn1 : q.1 ∉ dsOf S.recs ((seen S.recs S.gen C).take i) := fun e => hn (List.mem_append_left _ e)
        have hn2 : q.1 ≠ r.d := fun e => hn (List.mem_append_right _ (List.mem_singleton.mpr e))
        have hq9 := hq1 q hq hn1
        exact off1 (.tail _ (.tail _ (.tail _ (.tail _ (off1 (List.mem_append_right _ hq9) hn2))))) (fun e => hnI _ hq9 e)
      · have hsplit : (seen S.recs S.gen C).take (i + 1) = (seen S.recs S.gen C).take i ++ [k] := by simp [List.take_add_one, hk]
        rw [hsplit] at hk'
        rcases List.mem_append.mp hk' with hk9 | hk9
        · obtain ⟨t, ht⟩ := hq4 k' hk9 r' hr'
          refine ⟨t, off1 (.tail _ (.tail _ (.tail _ (.tail _ (off1 (List.mem_append_right _ ht) ?_))))) (fun e => hnI _ ht e)⟩
          intro e
          refine hnot (e ▸ List.mem_map.mpr ⟨k', hk9, by rw [hr']; rfl⟩)
        · have e9 := List.mem_singleton.mp hk9
          subst e9
          rw [hr] at hr'
          have e10 := Option.some.inj hr'
          subst e10
          exact ⟨_, off1 (.tail _ (.tail _ (.tail _ (.head _)))) (fun e => hnI _ hrd e)⟩
    · intro u led1 h1 tk1 hR0 F6 N6
      (try dsimp only)
      (try k_fold)
      obtain ⟨hq1, hq2, hq3, hq4⟩ := hR0
      (repeat' ((fail_if_success first | (with_reducible first | refine st_while ?_ | refine st_for ?_ | refine st_call 148 ?_) | k_data); (first | (k_unfold; (try dsimp only)) | (k_end; kc_close) | (with_reducible refine st_len ?_; k_dflt (refine len_led (by k_asm) (by k_mem) (by simp only [List.size_toArray]; omega) ?_); intro t9 tk9) | walk1 | (dsimp only; walk1) | (leave1; (try dsimp only)) | fail "no step")))
      (rename News _ _ _ _ => N8); (rename Fr _ _ _ _ => F8)
      have htk : (seen S.recs S.gen C).take (chainR S.recs S.gen C).length = seen S.recs S.gen C := List.take_of_length_le (Nat.le_of_eq hsn.symm)
      rw [htk] at hq1 hq4
      refine hret _ _ _ _ ⟨G, t1, hG, fun q hq hn => ?_, hq3, hq4⟩ F8 N8
      simp only [List.mem_cons, not_or] at hn
      exact hq1 q (mem_off.mpr ⟨hq, fun e => hn.1 (List.mem_singleton.mp e)⟩) hn.2)
end
set_option maxRecDepth 100000 in
set_option maxHeartbeats 8000000 in
theorem draw_spec (w : World) (fg : Addr) (vs : List Value) (ns : List Int) (n : Nat) (k : Int) (t : Tok) (led : List (Addr × Obj)) (hfg : (fg, W.listOf vs.toArray n) ∈ led) (hi : IntsAre vs ns) (hk0 : 0 < k) (hlen : vs.length ≤ 1000) :
    Spec w 183 [.ref fg, .int k t] 50 led (fun v led' => ∃ r tr vs' ns' n', v = .int r tr ∧ 0 ≤ r ∧ r < k ∧ Kept [fg] led led' ∧ (fg, W.listOf vs'.toArray n') ∈ led' ∧ IntsAre vs' ns' ∧ vs'.length ≤ vs.length) := by
  unfold Spec
  k_fill
  intro pp loose mean mg mb dp un gd cn cs a ccd cl outer A₀ base h₀ L m s Q E B F X N T hk hd hu hret
  refine wpAny_call ?_
  have hoff := off_own [fg] led
  have N1 : News h₀ L s.heap ((fg, W.listOf vs.toArray n) :: off [fg] led) := News.sub (News.add1 N hfg) (by
      intro q hq
      simp only [List.mem_cons] at hq ⊢
      rcases hq with h | h
      · simp only [h, true_or]
      · simp only [(mem_off.mp h).1, or_true])
  clear N
  rcases Nat.eq_zero_or_pos vs.length with h0 | hpos
  · have e0 := List.eq_nil_of_length_eq_zero h0
    subst e0
    cases hi
    k_dflt ktr_enter
    (rename Fr _ _ _ _ => F77)
    replace F77 := fr_eq (m' := ar2 "figures" (.ref fg) "many" (.int k t)) F77 (by with_unfolding_all rfl)
    (repeat' ((fail_if_success k_data); (first | (k_unfold; (try dsimp only)) | (k_end; kc_close) | walk1 | (dsimp only; walk1) | (leave1; (try dsimp only)) | fail "no step")))
    all_goals ((rename News _ _ _ _ => N8); (rename Fr _ _ _ _ => F8))
    all_goals (
      refine hret _ ((fg, W.listOf [].toArray n) :: off [fg] led) _ _ ⟨0, _, [], [], n, rfl, by omega, hk0, fun q hq hn => .tail _ (mem_off.mpr ⟨hq, hn⟩), .head _, .nil, Nat.le_refl _⟩ F8 (News.sub N8 fun q hq => ?_)
      first | exact hq | exact .tail _ hq)
  · k_dflt ktr_enter
    (rename Fr _ _ _ _ => F77)
    replace F77 := fr_eq (m' := ar2 "figures" (.ref fg) "many" (.int k t)) F77 (by with_unfolding_all rfl)
    (repeat' ((fail_if_success k_data); (first | (k_unfold; (try dsimp only)) | (k_end; kc_close) | walk1 | (dsimp only; walk1) | (leave1; (try dsimp only)) | fail "no step")))
    all_goals ((rename News _ _ _ _ => N8); (rename Fr _ _ _ _ => F8))
    all_goals first
      | (refine hret _ ((fg, W.listOf vs.toArray n) :: off [fg] led) _ _ ⟨0, _, vs, ns, n, rfl, by omega, hk0, fun q hq hn => .tail _ (mem_off.mpr ⟨hq, hn⟩), .head _, hi, Nat.le_refl _⟩ F8 (News.sub N8 fun q hq => ?_)
         first | exact hq | exact .tail _ hq)
      | (refine hret _ ((fg, W.listOf vs.dropLast.toArray (n + 1)) :: off [fg] led) _ _ ⟨_, _, vs.dropLast, ns.dropLast, n + 1, rfl, Int.fmod_nonneg_of_pos _ hk0, Int.fmod_lt_of_pos _ hk0, fun q hq hn => .tail _ (mem_off.mpr ⟨hq, hn⟩), .head _, by assumption, by simp⟩ F8 (News.sub N8 fun q hq => ?_)
         first | exact hq | exact .tail _ hq)
structure Full (w : World) (led : List (Addr × Obj)) (S : Sto) : Prop where
  sto : StoIn w led S
  ok : SOk w S
  recs : RecsIn w led S.recs

noncomputable abbrev Rec.core (r : Rec) : Rec := { r with next := 0, v6 := 0 }
def LastIs (la : Int) (C : List Nat) : Prop := ∀ k, C.getLast? = some k → la = (k : Int)

theorem tups_kept {h₀ h : Heap} {L : Addr} {led led' : List (Addr × Obj)} {mods : List Addr} (N : News h₀ L h led) (k : Kept mods led led') (hm : ∀ d ∈ mods, ∃ o, (d, o) ∈ led ∧ o.cls ≠ .type "tuple") : ∀ q ∈ tups led, q ∈ tups led' := by
  intro q hq
  obtain ⟨h1, h2⟩ := List.mem_filter.mp hq
  refine List.mem_filter.mpr ⟨k q h1 fun hd => ?_, h2⟩
  obtain ⟨o, ho, hc⟩ := hm _ hd
  have e := (N _ ho).1.symm.trans (N _ h1).1
  have e2 : o = q.2 := Option.some.inj e
  rw [e2] at hc
  exact hc (of_decide_eq_true h2)

theorem linked_congr {recs recs' : List Rec} : ∀ {f : Int} {C : List Nat}, (∀ k ∈ C, ∀ r, recs[k]? = some r → ∃ r', recs'[k]? = some r' ∧ r'.next = r.next) → Linked recs f C → Linked recs' f C
  | _, [], _, h => h
  | _, k :: C, hc, ⟨e, r, hr, hl⟩ => by
    obtain ⟨r', h1, h2⟩ := hc k (.head _) r hr
    exact ⟨e, r', h1, by rw [h2]; exact linked_congr (fun j hj => hc j (.tail _ hj)) hl⟩
theorem linked_first {recs : List Rec} {f : Int} {C : List Nat} (h : Linked recs f C) : C = [] ∧ f = -1 ∨ ∃ k C', C = k :: C' ∧ f = (k : Int) := by
  cases C with
  | nil => exact .inl ⟨rfl, h⟩
  | cons k C => exact .inr ⟨k, C, rfl, h.1⟩
theorem linked_snoc {recs recs' : List Rec} {n kl : Nat} {r : Rec} (hn : recs'[n]? = some r) (hr : r.next = -1) : ∀ {f : Int} {C : List Nat}, Linked recs f C → C.Nodup → C.getLast? = some kl →
    (∀ k ∈ C, k ≠ kl → ∀ q, recs[k]? = some q → ∃ q', recs'[k]? = some q' ∧ q'.next = q.next) → (∃ q', recs'[kl]? = some q' ∧ q'.next = (n : Int)) → Linked recs' f (C ++ [n])
  | _, [], _, _, hlast, _, _ => by cases hlast
  | _, [k], ⟨e, q, hq, _⟩, _, hlast, _, ⟨q', h1, h2⟩ => by
    have ek : k = kl := by simpa using hlast
    subst ek
    exact ⟨e, q', h1, by rw [h2]; exact ⟨rfl, r, hn, hr⟩⟩
  | _, k :: j :: C, ⟨e, q, hq, hl⟩, hnd, hlast, hc, hk => by
    have hne : k ≠ kl := by
      rintro rfl
      have hm : k ∈ j :: C := List.mem_of_getLast? (by simpa using hlast)
      exact (List.nodup_cons.mp hnd).1 hm
    obtain ⟨q', h1, h2⟩ := hc k (.head _) hne q hq
    refine ⟨e, q', h1, ?_⟩
    rw [h2]
    exact linked_snoc hn hr hl (List.nodup_cons.mp hnd).2 (by simpa using hlast) (fun i hi => hc i (.tail _ hi)) hk

structure EnterOut (w : World) (led led' : List (Addr × Obj)) (S : Sto) (p : Prc) (S' : Sto) (p' : Prc) (front : Bool) (tm ik : Dat) (entry : Int) (C : List Nat) : Prop where
  full : Full w led' S'
  prc : PrcIn w led' p'
  kept : Kept (S.d :: S.rd :: p.d :: S.recs.map (·.d)) led led'
  sa : S'.a = S.a
  sd : S'.d = S.d
  srd : S'.rd = S.rd
  gen : S'.gen = S.gen + 1
  len : S'.recs.length = S.recs.length + 1
  old : ∀ (k : Nat) (r : Rec), S.recs[k]? = some r → ∃ r', S'.recs[k]? = some r' ∧ r'.core = r.core
  new : ∃ r : Rec, S'.recs[S.recs.length]? = some r ∧ r.functor = p.functor ∧ r.birth = S.gen + 1 ∧ r.death = -1 ∧ r.entry = entry ∧ r.tm = tm ∧ r.ik = ik ∧ ∀ q ∈ led, @LT.lt Nat _ q.1 r.d
  pa : p'.a = p.a
  pd : p'.d = p.d
  pf : p'.functor = p.functor
  link : Linked S'.recs p'.first (if front = true then S.recs.length :: C else C ++ [S.recs.length])
  last : LastIs p'.last (if front = true then S.recs.length :: C else C ++ [S.recs.length])
  other : ∀ f C2, Linked S.recs f C2 → (∀ k ∈ C2, k ∉ C) → Linked S'.recs f C2

theorem SOk.congr {w : World} {S S' : Sto} (h : SOk w S) (ro : S'.ro = S.ro) (rd : S'.rd = S.rd) (hlen : S'.recs.length = S.recs.length)
    (hk : ∀ (k : Nat) (r' : Rec), S'.recs[k]? = some r' → ∃ r : Rec, S.recs[k]? = some r ∧ r'.key = r.key ∧ r'.a = r.a) : SOk w S' where
  ro := by
    have e : S'.kvs = S.kvs := by
      refine List.ext_getElem? fun k => ?_
      simp only [Sto.kvs, List.getElem?_map]
      cases h1 : S'.recs[k]? with
      | none =>
        have h2 : S.recs[k]? = none := by rw [List.getElem?_eq_none_iff] at h1 ⊢; omega
        rw [h2]
      | some r' =>
        obtain ⟨r, h2, h3, h4⟩ := hk k r' h1
        rw [h2]
        simp [h3, h4]
    rw [e, ro]; exact h.ro
  key := fun i r' hr => by
    obtain ⟨r, h2, h3, _⟩ := hk i r' hr
    rw [h3, h.key i r h2]
  len := by rw [hlen]; exact h.len
  lo := by rw [rd]; exact h.lo

theorem recs_ne {w : World} {h₀ h : Heap} {L : Addr} {led : List (Addr × Obj)} (N : News h₀ L h led) {S : Sto} (F : Full w led S) {r : Rec} (hr : RecIn w led r) : @Ne Nat r.a S.d ∧ @Ne Nat r.a S.rd ∧ @Ne Nat r.d S.d ∧ @Ne Nat r.d S.rd :=
  ⟨ne_of_news N hr.1 F.sto.2.1 inst_ne_dict, ne_of_news N hr.1 F.sto.2.2 (ro_ne_inst F.ok.ro).symm, ne_of_news N hr.2 F.sto.2.1 (dict_ne (by decide)), ne_of_news N hr.2 F.sto.2.2 (ro_ne F.ok.ro).symm⟩
theorem recp_ne {w : World} {h₀ h : Heap} {L : Addr} {led : List (Addr × Obj)} (N : News h₀ L h led) {p : Prc} (P : PrcIn w led p) {r : Rec} (hr : RecIn w led r) : @Ne Nat r.a p.d ∧ @Ne Nat r.d p.d :=
  ⟨ne_of_news N hr.1 P.2 inst_ne_dict, ne_of_news N hr.2 P.2 (dict_ne (by decide))⟩

/-- the store's, the procedure's and the records' dicts are no tuples -/
theorem mods_dict {w : World} {led : List (Addr × Obj)} {S : Sto} (F : Full w led S) {p : Prc} (P : PrcIn w led p) : ∀ d ∈ S.d :: S.rd :: p.d :: S.recs.map (·.d), ∃ o, (d, o) ∈ led ∧ o.cls ≠ .type "tuple" := by
  intro d hd
  simp only [List.mem_cons, List.mem_map] at hd
  rcases hd with rfl | rfl | rfl | ⟨r, hr, rfl⟩
  · exact ⟨_, F.sto.2.1, by show Value.type "dict" ≠ Value.type "tuple"; decide⟩
  · obtain ⟨_, _, hc, _⟩ := F.ok.ro
    exact ⟨_, F.sto.2.2, by rw [hc.1]; decide⟩
  · exact ⟨_, P.2, by show Value.type "dict" ≠ Value.type "tuple"; decide⟩
  · exact ⟨_, (F.recs.at' r hr).2, by show Value.type "dict" ≠ Value.type "tuple"; decide⟩

theorem Kept.more {m m' : List Addr} {l l' : List (Addr × Obj)} (k : Kept m l l') (h : ∀ d ∈ m, d ∈ m') : Kept m' l l' := fun q hq hn => k q hq fun hd => hn (h _ hd)

/-- the records behind an entering: the old ones as they lay, save the last one's link; the new one -/
theorem recs_after {w : World} {h₀ h : Heap} {L : Addr} {led led' : List (Addr × Obj)} (N : News h₀ L h led) {S : Sto} (F : Full w led S) {p : Prc} (P : PrcIn w led p) {r : Rec} {recs' : List Rec} (k : Kept (S.d :: S.rd :: p.d :: S.recs.map (·.d)) led led')
    (hrec : RecIn w led' r) (htm : DatIn (tups led) (.ref r.term) r.tm) (hik : DatIn (tups led) (.ref r.ikey) r.ik) (ot : kqdOk 6 r.tm = true) (oi : kqdOk 6 r.ik = true)
    (hrs : ∀ q ∈ recs', q = r ∨ (RecIn w led' q ∧ ∃ q₀ ∈ S.recs, q.term = q₀.term ∧ q.tm = q₀.tm ∧ q.ikey = q₀.ikey ∧ q.ik = q₀.ik)) : RecsIn w led' recs' := by
  have tk := tups_kept N k (mods_dict F P)
  refine ⟨fun q hq => ?_, fun q hq => ?_, fun q hq => ?_, fun q hq => ?_, fun q hq => ?_⟩
  · rcases hrs q hq with rfl | ⟨h1, _⟩
    · exact hrec
    · exact h1
  · rcases hrs q hq with rfl | ⟨_, q₀, h2, h3, h4, h5, h6⟩
    · exact htm.mono tk
    · rw [h3, h4]; exact (F.recs.tm q₀ h2).mono tk
  · rcases hrs q hq with rfl | ⟨_, q₀, h2, h3, h4, h5, h6⟩
    · exact hik.mono tk
    · rw [h5, h6]; exact (F.recs.ik q₀ h2).mono tk
  · rcases hrs q hq with rfl | ⟨_, q₀, h2, h3, h4, h5, h6⟩
    · exact ot
    · rw [h4]; exact F.recs.okt q₀ h2
  · rcases hrs q hq with rfl | ⟨_, q₀, h2, h3, h4, h5, h6⟩
    · exact oi
    · rw [h6]; exact F.recs.oki q₀ h2

/-- where no record's link was turned -/
theorem enter_plain {w : World} {h₀ h : Heap} {L : Addr} {led led' : List (Addr × Obj)} (N : News h₀ L h led) {S : Sto} (F : Full w led S) {p : Prc} (P : PrcIn w led p) {term ikey : Addr} {tm ik : Dat} {entry nx Fi La : Int} {front : Bool} {C : List Nat} {v : Value}
    (hp : Pushed w S p term ikey tm ik entry nx Fi La [S.d, S.rd, p.d] led v led') (hlen : S.recs.length < 100)
    (htm : DatIn (tups led) (.ref term) tm) (hik : DatIn (tups led) (.ref ikey) ik) (ot : kqdOk 6 tm = true) (oi : kqdOk 6 ik = true)
    (hlink : ∀ recs', (∀ (k : Nat) (r : Rec), S.recs[k]? = some r → recs'[k]? = some r) → (∃ r : Rec, recs'[S.recs.length]? = some r ∧ r.next = nx) → Linked recs' Fi (if front = true then S.recs.length :: C else C ++ [S.recs.length]))
    (hlast : LastIs La (if front = true then S.recs.length :: C else C ++ [S.recs.length])) :
    ∃ S' p' r, v = .ref r.a ∧ RecIn w led' r ∧ r.key = (S.recs.length : Int) ∧ EnterOut w led led' S p S' p' front tm ik entry C := by
  obtain ⟨r, ro, t1, t2, t3, t4, rfl, hk, hrec, hsto, hro, hprc, ⟨f1, f2, f3, f4, f5, f6, f7, f8, f9, f10⟩, hfr⟩ := hp
  subst f3 f4 f9 f10
  have k' : Kept (S.d :: S.rd :: p.d :: S.recs.map (·.d)) led led' := hk.more (by intro d hd; simp only [List.mem_cons, List.not_mem_nil, or_false] at hd ⊢; rcases hd with h | h | h <;> simp [h])
  have ho : ∀ q ∈ S.recs, RecIn w led' q := fun q hq => by
    have n1 := recs_ne N F (F.recs.at' q hq)
    have n2 := recp_ne N P (F.recs.at' q hq)
    refine ⟨hk _ (F.recs.at' q hq).1 ?_, hk _ (F.recs.at' q hq).2 ?_⟩
    · simp only [List.mem_cons, List.not_mem_nil, or_false, not_or]; exact ⟨n1.1, n1.2.1, n2.1⟩
    · simp only [List.mem_cons, List.not_mem_nil, or_false, not_or]; exact ⟨n1.2.2.1, n1.2.2.2, n2.2⟩
  have hold : ∀ (k : Nat) (q : Rec), S.recs[k]? = some q → (S.recs ++ [r])[k]? = some q := fun k q hq => by
    rw [List.getElem?_append_left (List.getElem?_eq_some_iff.mp hq).1]; exact hq
  have hnew : (S.recs ++ [r])[S.recs.length]? = some r := by simp
  refine ⟨S.push r ro t1 t2, p.withKeys Fi La t3 t4, r, rfl, hrec, f1, ⟨hsto, F.ok.push f1 hlen hro, ?_⟩, hprc, k', rfl, rfl, rfl, rfl, by simp, fun k q hq => ⟨q, hold k q hq, rfl⟩, ⟨r, hnew, f2, f5, f6, f8, rfl, rfl, fun q hq => (hfr q hq).2⟩, rfl, rfl, rfl, ?_, hlast, ?_⟩
  · refine recs_after N F P (r := r) k' hrec htm hik ot oi fun q hq => ?_
    have hq' : q ∈ S.recs ++ [r] := hq
    rcases List.mem_append.mp hq' with h1 | h1
    · exact .inr ⟨ho q h1, q, h1, rfl, rfl, rfl, rfl⟩
    · exact .inl (List.mem_singleton.mp h1)
  · exact hlink _ hold ⟨r, hnew, f7⟩
  · intro f C2 hl _
    exact linked_congr (fun k _ q hq => ⟨q, hold k q hq, rfl⟩) hl
theorem lastIs_cons {la : Int} {n k : Nat} {C : List Nat} (h : LastIs la (k :: C)) : LastIs la (n :: k :: C) := fun j hj => h j (by simpa using hj)
theorem lastIs_snoc {n : Nat} {C : List Nat} : LastIs (n : Int) (C ++ [n]) := fun j hj => by
  have : n = j := by simpa using hj
  rw [this]

def Entering (w : World) (led : List (Addr × Obj)) (S : Sto) (p : Prc) (front : Bool) (tm ik : Dat) (entry : Int) (C : List Nat) (v : Value) (led' : List (Addr × Obj)) : Prop :=
  ∃ S' p' r, v = .ref r.a ∧ RecIn w led' r ∧ r.key = (S.recs.length : Int) ∧ EnterOut w led led' S p S' p' front tm ik entry C

theorem prepend_full (w : World) (S : Sto) (p : Prc) (term ikey : Addr) (tm ik : Dat) (entry : Int) (te : Tok) (C : List Nat) (led : List (Addr × Obj)) (F : Full w led S) (P : PrcIn w led p)
    (hl : Linked S.recs p.first C) (hla : LastIs p.last C) (hlen : S.recs.length < 100)
    (htm : DatIn (tups led) (.ref term) tm) (hik : DatIn (tups led) (.ref ikey) ik) (ot : kqdOk 6 tm = true) (oi : kqdOk 6 ik = true) :
    Spec w 113 [.ref S.a, .ref p.a, .ref term, .ref ikey, .int entry te] 80 led (Entering w led S p true tm ik entry C) := by
  refine Spec.ofN (fun h₀ h L N => ?_) (Nat.le_refl _)
  rcases linked_first hl with ⟨rfl, hf⟩ | ⟨k, C', rfl, hf⟩
  · refine Spec.of (prepend_empty_spec w S p term ikey tm ik entry te led F.sto F.ok P hf) (fun _ h => h) (by decide) fun v l hp => ⟨l, enter_plain N F P hp hlen htm hik ot oi ?_ ?_, fun _ h => h⟩
    · rintro recs' _ ⟨r, hr, hn⟩
      exact ⟨rfl, r, hr, by rw [hn]; exact hf⟩
    · exact fun j hj => by
        have : S.recs.length = j := by simpa using hj
        rw [this]
  · refine Spec.of (prepend_spec w S p term ikey tm ik entry te led F.sto F.ok P (by rw [hf]; omega)) (fun _ h => h) (by decide) fun v l hp => ⟨l, enter_plain N F P hp hlen htm hik ot oi ?_ ?_, fun _ h => h⟩
    · rintro recs' ho ⟨r, hr, hn⟩
      exact ⟨rfl, r, hr, by rw [hn]; exact linked_congr (fun k _ q hq => ⟨q, ho k q hq, rfl⟩) hl⟩
    · exact lastIs_cons hla

theorem append_full (w : World) (S : Sto) (p : Prc) (term ikey : Addr) (tm ik : Dat) (entry : Int) (te : Tok) (C : List Nat) (led : List (Addr × Obj)) (F : Full w led S) (P : PrcIn w led p)
    (hl : Linked S.recs p.first C) (hla : LastIs p.last C) (hnd : C.Nodup) (hlen : S.recs.length < 100)
    (htm : DatIn (tups led) (.ref term) tm) (hik : DatIn (tups led) (.ref ikey) ik) (ot : kqdOk 6 tm = true) (oi : kqdOk 6 ik = true) :
    Spec w 106 [.ref S.a, .ref p.a, .ref term, .ref ikey, .int entry te] 80 led (Entering w led S p false tm ik entry C) := by
  refine Spec.ofN (fun h₀ h L N => ?_) (Nat.le_refl _)
  rcases linked_first hl with ⟨rfl, hf⟩ | ⟨k, C', hC, hf⟩
  · refine Spec.of (append_empty_spec w S p term ikey tm ik entry te led F.sto F.ok P hf) (fun _ h => h) (by decide) fun v l hp => ⟨l, enter_plain N F P hp hlen htm hik ot oi ?_ ?_, fun _ h => h⟩
    · rintro recs' _ ⟨r, hr, hn⟩
      exact ⟨rfl, r, hr, hn⟩
    · exact lastIs_snoc
  · obtain ⟨kl, hkl⟩ : ∃ kl, C.getLast? = some kl := by
      rw [hC]; exact ⟨_, List.getLast?_eq_some_getLast (by simp)⟩
    have hklC : kl ∈ C := List.mem_of_getLast? hkl
    have hkll := linked_lt hl kl hklC
    obtain ⟨rl, hrl⟩ : ∃ rl : Rec, S.recs[kl]? = some rl := ⟨_, List.getElem?_eq_getElem hkll⟩
    have hrlm := List.mem_of_getElem? hrl
    refine Spec.of (append_spec w S p kl rl term ikey tm ik entry te led F.sto F.ok P (by rw [hf]; omega) (hla kl hkl) hrl (F.recs.at' rl hrlm) hlen) (fun _ h => h) (by decide) ?_
    rintro v l ⟨⟨r, ro, t1, t2, t3, t4, rfl, hk, hrec, hsto, hro, hprc, ⟨f1, f2, f3, f4, f5, f6, f7, f8, f9, f10⟩, hfr⟩, t, hrld⟩
    subst f3 f4 f9 f10
    refine ⟨l, ?_, fun _ h => h⟩
    have k' : Kept (S.d :: S.rd :: p.d :: S.recs.map (·.d)) led l := hk.more (by
      intro d hd
      simp only [List.mem_cons, List.not_mem_nil, or_false] at hd
      simp only [List.mem_cons, List.mem_map]
      rcases hd with h | h | h | h
      · exact .inl h
      · exact .inr (.inl h)
      · exact .inr (.inr (.inl h))
      · exact .inr (.inr (.inr ⟨rl, hrlm, h.symm⟩)))
    have ho : ∀ j q, S.recs[j]? = some q → j ≠ kl → RecIn w l q := fun j q hq hj => by
      have hqm := List.mem_of_getElem? hq
      have n1 := recs_ne N F (F.recs.at' q hqm)
      have n2 := recp_ne N P (F.recs.at' q hqm)
      refine ⟨hk _ (F.recs.at' q hqm).1 ?_, hk _ (F.recs.at' q hqm).2 ?_⟩
      · simp only [List.mem_cons, List.not_mem_nil, or_false, not_or]
        exact ⟨n1.1, n1.2.1, n2.1, ne_of_news N (F.recs.at' q hqm).1 (F.recs.at' rl hrlm).2 inst_ne_dict⟩
      · simp only [List.mem_cons, List.not_mem_nil, or_false, not_or]
        exact ⟨n1.2.2.1, n1.2.2.2, n2.2, rec_ne N (F.recs.at' q hqm) (F.recs.at' rl hrlm) (by rw [F.ok.key j q hq, F.ok.key kl rl hrl]; exact fun e => hj (Int.ofNat.inj e))⟩
    have hrla : (rl.a, instObj 46 rl.d) ∈ l := by
      have n1 := recs_ne N F (F.recs.at' rl hrlm)
      have n2 := recp_ne N P (F.recs.at' rl hrlm)
      refine hk _ (F.recs.at' rl hrlm).1 ?_
      simp only [List.mem_cons, List.not_mem_nil, or_false, not_or]
      exact ⟨n1.1, n1.2.1, n2.1, ne_of_news N (F.recs.at' rl hrlm).1 (F.recs.at' rl hrlm).2 inst_ne_dict⟩
    let recs' := S.recs.set kl (rl.withNext S.recs.length t) ++ [r]
    have hlen' : recs'.length = S.recs.length + 1 := by simp [recs']
    have hold : ∀ (j : Nat) (q : Rec), S.recs[j]? = some q → j ≠ kl → recs'[j]? = some q := fun j q hq hj => by
      have hjl := (List.getElem?_eq_some_iff.mp hq).1
      show (S.recs.set kl (rl.withNext S.recs.length t) ++ [r])[j]? = some q
      rw [List.getElem?_append_left (by simpa using hjl), List.getElem?_set_ne (Ne.symm hj)]
      exact hq
    have hat : recs'[kl]? = some (rl.withNext S.recs.length t) := by
      show (S.recs.set kl (rl.withNext S.recs.length t) ++ [r])[kl]? = _
      rw [List.getElem?_append_left (by simpa using hkll), List.getElem?_set_self hkll]
    have hnew : recs'[S.recs.length]? = some r := by
      show (S.recs.set kl (rl.withNext S.recs.length t) ++ [r])[S.recs.length]? = some r
      rw [List.getElem?_append_right (by simp)]
      simp
    let S' : Sto := { S.push r ro t1 t2 with recs := recs' }
    have ok1 : SOk w (S.push r ro t1 t2) := F.ok.push f1 hlen hro
    have hback : ∀ (j : Nat) (q : Rec), recs'[j]? = some q → (j = kl ∧ q = rl.withNext S.recs.length t) ∨ (S.recs[j]? = some q ∧ j ≠ kl) ∨ (j = S.recs.length ∧ q = r) := fun j q hq => by
      have hjl := (List.getElem?_eq_some_iff.mp hq).1
      rw [hlen'] at hjl
      by_cases h1 : j = kl
      · subst h1; rw [hat] at hq; exact .inl ⟨rfl, (Option.some.inj hq).symm⟩
      · by_cases h2 : j = S.recs.length
        · subst h2; rw [hnew] at hq; exact .inr (.inr ⟨rfl, (Option.some.inj hq).symm⟩)
        · have h3 : S.recs[j]? = some (S.recs[j]'(by omega)) := List.getElem?_eq_getElem _
          rw [hold j _ h3 h1] at hq
          exact .inr (.inl ⟨by rw [h3]; exact hq, h1⟩)
    have ok2 : SOk w S' := ok1.congr rfl rfl (by show recs'.length = (S.recs ++ [r]).length; rw [hlen']; simp) fun j q hq => by
      rcases hback j q hq with ⟨rfl, rfl⟩ | ⟨h1, _⟩ | ⟨rfl, rfl⟩
      · exact ⟨rl, by show (S.recs ++ [r])[_]? = _; rw [List.getElem?_append_left hkll]; exact hrl, rfl, rfl⟩
      · exact ⟨q, by show (S.recs ++ [r])[_]? = _; rw [List.getElem?_append_left (List.getElem?_eq_some_iff.mp h1).1]; exact h1, rfl, rfl⟩
      · exact ⟨q, by show (S.recs ++ [q])[_]? = _; simp, rfl, rfl⟩
    have hes : S'.es w.params = (S.push r ro t1 t2).es w.params := by
      have hL : recs'.length = (S.recs ++ [r]).length := by rw [hlen']; simp
      simp only [Sto.es]
      show [_, DictEntry.mk _ _ (Value.int (recs'.length : Int) t1), _] = _
      rw [hL]
    refine ⟨S', p.withKeys p.first S.recs.length t3 t4, r, rfl, hrec, f1, ⟨⟨hsto.1, by rw [hes]; exact hsto.2.1, hsto.2.2⟩, ok2, ?_⟩, hprc, k', rfl, rfl, rfl, rfl, hlen', ?_, ⟨r, hnew, f2, f5, f6, f8, rfl, rfl, fun q hq => (hfr q hq).2⟩, rfl, rfl, rfl, ?_, lastIs_snoc, ?_⟩
    · refine recs_after N F P (r := r) k' hrec htm hik ot oi fun q hq => ?_
      obtain ⟨j, hj, ej⟩ := List.mem_iff_getElem.mp hq
      have hq2 : recs'[j]? = some q := by rw [← ej]; exact List.getElem?_eq_getElem hj
      rcases hback j q hq2 with ⟨rfl, rfl⟩ | ⟨h1, h2⟩ | ⟨rfl, rfl⟩
      · exact .inr ⟨⟨hrla, hrld⟩, rl, hrlm, rfl, rfl, rfl, rfl⟩
      · exact .inr ⟨ho j q h1 h2, q, List.mem_of_getElem? h1, rfl, rfl, rfl, rfl⟩
      · exact .inl rfl
    · intro j q hq
      by_cases h1 : j = kl
      · subst h1
        rw [hrl] at hq
        have e := Option.some.inj hq
        subst e
        exact ⟨_, hat, rfl⟩
      · exact ⟨q, hold j q hq h1, rfl⟩
    · exact linked_snoc hnew f7 hl hnd hkl (fun j _ hj q hq => ⟨q, hold j q hq hj, rfl⟩) ⟨_, hat, rfl⟩
    · intro f C2 hl2 hdis
      exact linked_congr (fun j hj q hq => ⟨q, hold j q hq (fun e => hdis j hj (e ▸ hklC)), rfl⟩) hl2
structure KillOut (w : World) (led led' : List (Addr × Obj)) (S S' : Sto) (V : List Nat) (G : Int) : Prop where
  full : Full w led' S'
  kept : Kept (S.d :: S.recs.map (·.d)) led led'
  sa : S'.a = S.a
  sd : S'.d = S.d
  srd : S'.rd = S.rd
  gen : S'.gen = G
  len : S'.recs.length = S.recs.length
  recs : ∀ (k : Nat) (r : Rec), S.recs[k]? = some r → ∃ r', S'.recs[k]? = some r' ∧ ((k ∈ V ∧ ∃ t, r' = r.withDeath G t) ∨ (k ∉ V ∧ r' = r))

theorem killed {w : World} {h₀ h : Heap} {L : Addr} {led led' : List (Addr × Obj)} (N : News h₀ L h led) {S : Sto} (F : Full w led S) {V : List Nat} {G : Int} {t1 : Tok} (hV : ∀ k ∈ V, k < S.recs.length)
    (hk : Kept (S.d :: dsOf S.recs V) led led') (hd : (S.d, dictOf ((S.withGen G t1).es w.params) 3) ∈ led')
    (hr : ∀ k ∈ V, ∀ r, S.recs[k]? = some r → ∃ t, (r.d, dictOf ((r.withDeath G t).es w.params) 8) ∈ led') : ∃ S', KillOut w led led' S S' V G := by
  have hτ : ∀ k : Nat, ∃ t : Tok, k ∈ V → ∀ r, S.recs[k]? = some r → (r.d, dictOf ((r.withDeath G t).es w.params) 8) ∈ led' := by
    intro k
    by_cases hk : k ∈ V
    · have h1 : S.recs[k]? = some (S.recs[k]'(hV k hk)) := List.getElem?_eq_getElem _
      obtain ⟨t, ht⟩ := hr k hk _ h1
      refine ⟨t, fun _ r hr => ?_⟩
      rw [h1] at hr
      have e := Option.some.inj hr
      subst e
      exact ht
    · exact ⟨0, fun h => absurd h hk⟩
  let τ := fun k => Classical.choose (hτ k)
  have hτ' : ∀ k, k ∈ V → ∀ r, S.recs[k]? = some r → (r.d, dictOf ((r.withDeath G (τ k)).es w.params) 8) ∈ led' := fun k => Classical.choose_spec (hτ k)
  let recs' := S.recs.mapIdx fun k r => if k ∈ V then r.withDeath G (τ k) else r
  have hget : ∀ (k : Nat) (r : Rec), S.recs[k]? = some r → recs'[k]? = some (if k ∈ V then r.withDeath G (τ k) else r) := fun k r hkr => by
    show (S.recs.mapIdx _)[k]? = _
    rw [List.getElem?_mapIdx, hkr]; rfl
  have hlen : recs'.length = S.recs.length := by simp [recs']
  have hback : ∀ (k : Nat) (q : Rec), recs'[k]? = some q → ∃ r, S.recs[k]? = some r ∧ q = if k ∈ V then r.withDeath G (τ k) else r := fun k q hq => by
    have hkl := (List.getElem?_eq_some_iff.mp hq).1
    rw [hlen] at hkl
    have h1 : S.recs[k]? = some (S.recs[k]'hkl) := List.getElem?_eq_getElem _
    rw [hget k _ h1] at hq
    exact ⟨_, h1, (Option.some.inj hq).symm⟩
  have hmodd : ∀ d ∈ S.d :: dsOf S.recs V, d ∈ S.d :: S.recs.map (·.d) := by
    intro d hd
    rcases List.mem_cons.mp hd with rfl | hd
    · exact .head _
    · obtain ⟨k, _, r, hr, e⟩ := mem_dsOf hd hV
      exact .tail _ (List.mem_map.mpr ⟨r, List.mem_of_getElem? hr, e⟩)
  have k' := hk.more hmodd
  have hdict : ∀ d ∈ S.d :: S.recs.map (·.d), ∃ o, (d, o) ∈ led ∧ o.cls ≠ .type "tuple" := by
    intro d hd
    simp only [List.mem_cons, List.mem_map] at hd
    rcases hd with rfl | ⟨r, hr, rfl⟩
    · exact ⟨_, F.sto.2.1, by show Value.type "dict" ≠ Value.type "tuple"; decide⟩
    · exact ⟨_, (F.recs.at' r hr).2, by show Value.type "dict" ≠ Value.type "tuple"; decide⟩
  have tk := tups_kept N k' hdict
  let S' : Sto := { S.withGen G t1 with recs := recs' }
  have hnot : ∀ (a : Addr) (o : Obj), (a, o) ∈ led → @Ne Nat a S.d → (∀ r ∈ S.recs, @Ne Nat a r.d) → (a, o) ∈ led' := by
    intro a o hm h1 h2
    refine hk _ hm fun hd => ?_
    rcases List.mem_cons.mp hd with e | hd
    · exact h1 e
    · obtain ⟨k, _, r, hr, e⟩ := mem_dsOf hd hV
      exact h2 r (List.mem_of_getElem? hr) e.symm
  have hes : S'.es w.params = (S.withGen G t1).es w.params := by
    simp only [Sto.es]
    show [_, DictEntry.mk _ _ (Value.int (recs'.length : Int) _), _] = _
    rw [hlen]
  have n1 := ne_of_news N F.sto.1 F.sto.2.1 inst_ne_dict
  have n2 := ne_of_news N F.sto.2.2 F.sto.2.1 (ro_ne F.ok.ro)
  have hsto : StoIn w led' S' := ⟨hnot _ _ F.sto.1 n1 fun r hr => ne_of_news N F.sto.1 (F.recs.at' r hr).2 inst_ne_dict, by rw [hes]; exact hd, hnot _ _ F.sto.2.2 n2 fun r hr => ne_of_news N F.sto.2.2 (F.recs.at' r hr).2 (ro_ne F.ok.ro)⟩
  have hrec : ∀ q ∈ recs', RecIn w led' q ∧ ∃ q₀ ∈ S.recs, q.term = q₀.term ∧ q.tm = q₀.tm ∧ q.ikey = q₀.ikey ∧ q.ik = q₀.ik := by
    intro q hq
    obtain ⟨j, hj, ej⟩ := List.mem_iff_getElem.mp hq
    obtain ⟨r, hr, e⟩ := hback j q (by rw [← ej]; exact List.getElem?_eq_getElem hj)
    have hm := List.mem_of_getElem? hr
    have ha : (r.a, instObj 46 r.d) ∈ led' := hnot _ _ (F.recs.at' r hm).1 (ne_of_news N (F.recs.at' r hm).1 F.sto.2.1 inst_ne_dict) fun r' hr' => ne_of_news N (F.recs.at' r hm).1 (F.recs.at' r' hr').2 inst_ne_dict
    by_cases hjV : j ∈ V
    · rw [if_pos hjV] at e
      subst e
      exact ⟨⟨ha, hτ' j hjV r hr⟩, r, hm, rfl, rfl, rfl, rfl⟩
    · rw [if_neg hjV] at e
      subst e
      refine ⟨⟨ha, hk _ (F.recs.at' q hm).2 fun hd => ?_⟩, q, hm, rfl, rfl, rfl, rfl⟩
      rcases List.mem_cons.mp hd with e | hd
      · exact ne_of_news N (F.recs.at' q hm).2 F.sto.2.1 (dict_ne (by decide)) e
      · obtain ⟨i, hi, r', hr', e⟩ := mem_dsOf hd hV
        exact rec_ne N (F.recs.at' q hm) (F.recs.at' r' (List.mem_of_getElem? hr')) (by rw [F.ok.key _ _ hr, F.ok.key _ _ hr']; intro e2; exact hjV (by have : j = i := by exact_mod_cast e2
                                                                                                                                                        rw [this]; exact hi)) e.symm
  refine ⟨S', ⟨hsto, ?_, ?_⟩, k', rfl, rfl, rfl, rfl, hlen, fun k r hkr => ⟨_, hget k r hkr, ?_⟩⟩
  · exact F.ok.congr rfl rfl hlen fun k q hq => by
      obtain ⟨r, hr, e⟩ := hback k q hq
      refine ⟨r, hr, ?_⟩
      rw [e]
      split <;> exact ⟨rfl, rfl⟩
  · refine ⟨fun q hq => (hrec q hq).1, fun q hq => ?_, fun q hq => ?_, fun q hq => ?_, fun q hq => ?_⟩
    · obtain ⟨_, q₀, h2, h3, h4, h5, h6⟩ := hrec q hq
      rw [h3, h4]; exact (F.recs.tm q₀ h2).mono tk
    · obtain ⟨_, q₀, h2, h3, h4, h5, h6⟩ := hrec q hq
      rw [h5, h6]; exact (F.recs.ik q₀ h2).mono tk
    · obtain ⟨_, q₀, h2, h3, h4, h5, h6⟩ := hrec q hq
      rw [h4]; exact F.recs.okt q₀ h2
    · obtain ⟨_, q₀, h2, h3, h4, h5, h6⟩ := hrec q hq
      rw [h6]; exact F.recs.oki q₀ h2
  · by_cases hkV : k ∈ V
    · rw [if_pos hkV]; exact .inl ⟨hkV, _, rfl⟩
    · rw [if_neg hkV]; exact .inr ⟨hkV, rfl⟩

theorem kill_full (w : World) (S : Sto) (p : Prc) (C : List Nat) (led : List (Addr × Obj)) (F : Full w led S) (P : PrcIn w led p) (hl : Linked S.recs p.first C) (hnd : C.Nodup) (hlen : C.length ≤ 100) :
    Spec w 162 [.ref S.a, .ref p.a] 80 led (fun _ led' => ∃ S', KillOut w led led' S S' (seen S.recs S.gen C) (if seen S.recs S.gen C = [] then S.gen else S.gen + 1)) := by
  refine Spec.ofN (fun h₀ h L N => ?_) (Nat.le_refl _)
  refine Spec.of (kill_spec w S p C led F.sto F.ok P F.recs hl hnd hlen) (fun _ h => h) (by decide) ?_
  rintro v l ⟨G, t1, rfl, hk, hd, hr⟩
  exact ⟨l, killed N F (fun k hk => linked_lt hl k (seen_sub k hk)) hk hd hr, fun _ h => h⟩

theorem erase_full (w : World) (S : Sto) (k : Nat) (tk : Tok) (r : Rec) (led : List (Addr × Obj)) (F : Full w led S) (hr : S.recs[k]? = some r) :
    Spec w 155 [.ref S.a, .int (k : Int) tk] 80 led (fun v led' => v = .bool (decide (r.death < 0)) ∧ ∃ S', KillOut w led led' S S' (if r.death < 0 then [k] else []) (if r.death < 0 then S.gen + 1 else S.gen)) := by
  refine Spec.ofN (fun h₀ h L N => ?_) (Nat.le_refl _)
  have hm := List.mem_of_getElem? hr
  refine Spec.of (erase_spec w S k tk r led F.sto F.ok hr (F.recs.at' r hm)) (fun _ h => h) (by decide) ?_
  rintro v l (⟨h1, rfl, h2⟩ | ⟨h1, rfl, hk, t1, t2, h3, h4⟩)
  · have hn : ¬ r.death < 0 := by omega
    refine ⟨l, ⟨by simp [hn], ?_⟩, fun _ h => h⟩
    rw [if_neg hn, if_neg hn]
    exact killed N F (t1 := S.v2) (fun _ h => nomatch h) (fun q hq _ => h2 q hq) (h2 _ F.sto.2.1) fun _ h => nomatch h
  · refine ⟨l, ⟨by simp [h1], ?_⟩, fun _ h => h⟩
    rw [if_pos h1, if_pos h1]
    refine killed N F (V := [k]) (G := S.gen + 1) (t1 := t1) (fun j hj => ?_) ?_ h3 fun j hj r' hr' => ?_
    · rw [List.mem_singleton.mp hj]; exact (List.getElem?_eq_some_iff.mp hr).1
    · refine hk.more ?_
      intro d hd
      simp only [List.mem_cons, List.not_mem_nil, or_false] at hd
      rcases hd with h | h
      · rw [h]; exact .head _
      · refine .tail _ (List.mem_map.mpr ⟨k, .head _, ?_⟩)
        rw [hr, h]; rfl
    · have e := List.mem_singleton.mp hj
      subst e
      rw [hr] at hr'
      have e2 := Option.some.inj hr'
      subst e2
      exact ⟨t2, h4⟩
section
theorem EnterOut.sub {w : World} {led led1 led' : List (Addr × Obj)} {S S' : Sto} {p p' : Prc} {front : Bool} {tm ik : Dat} {entry : Int} {C : List Nat} (o : EnterOut w led1 led' S p S' p' front tm ik entry C) (hs : ∀ q ∈ led, q ∈ led1) :
    EnterOut w led led' S p S' p' front tm ik entry C :=
  ⟨o.full, o.prc, fun q hq hn => o.kept q (hs q hq) hn, o.sa, o.sd, o.srd, o.gen, o.len, o.old, by
    obtain ⟨r, h1, h2, h3, h4, h5, h6, h7, h8⟩ := o.new
    exact ⟨r, h1, h2, h3, h4, h5, h6, h7, fun q hq => h8 q (hs q hq)⟩, o.pa, o.pd, o.pf, o.link, o.last, o.other⟩
theorem tups_sub' {led led' : List (Addr × Obj)} (h : ∀ q ∈ led, q ∈ led') : ∀ q ∈ tups led, q ∈ tups led' := fun q hq => by
  obtain ⟨h1, h2⟩ := List.mem_filter.mp hq
  exact List.mem_filter.mpr ⟨h q h1, h2⟩
theorem RecsIn.sub {w : World} {led led' : List (Addr × Obj)} {recs : List Rec} (h : RecsIn w led recs) (hs : ∀ q ∈ led, q ∈ led') : RecsIn w led' recs :=
  ⟨fun r hr => ⟨hs _ (h.at' r hr).1, hs _ (h.at' r hr).2⟩, fun r hr => (h.tm r hr).mono (tups_sub' hs), fun r hr => (h.ik r hr).mono (tups_sub' hs), h.okt, h.oki⟩
theorem Full.sub {w : World} {led led' : List (Addr × Obj)} {S : Sto} (h : Full w led S) (hs : ∀ q ∈ led, q ∈ led') : Full w led' S :=
  ⟨⟨hs _ h.sto.1, hs _ h.sto.2.1, hs _ h.sto.2.2⟩, h.ok, h.recs.sub hs⟩

noncomputable abbrev termD (num : Int) : Dat := .tuple [.str "i", .int num]
theorem termD_ok (num : Int) : kqdOk 6 (termD num) = true := by
  show (([.str "i", .int num] : List Dat).all (kqdOk 5)) = true
  simp only [List.all_cons, List.all_nil, Bool.and_true, Bool.and_eq_true]
  exact ⟨(by decide +kernel : kqdOk 5 (.str "i") = true), rfl⟩

set_option maxRecDepth 100000 in
set_option maxHeartbeats 8000000 in
theorem entered_front (w : World) (S : Sto) (p : Prc) (num : Int) (tn : Tok) (ikey : Addr) (ik : Dat) (C : List Nat) (led : List (Addr × Obj)) (F : Full w led S) (P : PrcIn w led p)
    (hl : Linked S.recs p.first C) (hla : LastIs p.last C) (hlen : S.recs.length < 100) (hik : DatIn (tups led) (.ref ikey) ik) (oi : kqdOk 6 ik = true) :
    Spec w 190 [.ref S.a, .ref p.a, .bool true, .int num tn, .ref ikey] 120 led (fun v led' => ∃ t S' p', v = .int S.recs.length t ∧ EnterOut w led led' S p S' p' true (termD num) ik (60 - num) C) := by
  unfold Spec
  k_fill
  intro pp loose mean mg mb dp un gd cn cs a ccd cl outer A₀ base h₀ L m s Q E B F0 X N T hk hd hu hret
  refine wpAny_call ?_
  have N1 := News.add1 (News.add1 (News.add1 (News.add1 N P.2) (.tail _ P.1)) (.tail _ (.tail _ F.sto.2.1))) (.tail _ (.tail _ (.tail _ F.sto.1)))
  clear N
  k_dflt ktr_enter
  (rename Fr _ _ _ _ => F77)
  replace F77 := fr_eq (m' := ar5 "store" (.ref S.a) "proc" (.ref p.a) "front" (.bool true) "number" (.int num tn) "word" (.ref ikey)) F77 (by with_unfolding_all rfl)
  (repeat' ((fail_if_success first | (with_reducible first | refine st_call 106 ?_ | refine st_call 113 ?_) | k_data); (first | (k_unfold; (try dsimp only)) | (k_end; kc_close) | walk1 | (dsimp only; walk1) | (leave1; (try dsimp only)) | fail "no step")))
  (rename News _ _ _ _ => N4); (rename Fr _ _ _ _ => F4); (rename Below _ _ _ _ => B4); (rename Frag.In _ _ => X4); (rename Top _ _ _ _ _ _ => T4)
  rename_i D hx lt0
  have htm : DatIn (tups ((D, { cls := Value.type "tuple", data := Data.seq #[Value.str (Str.ofString "i") tk, Value.int num tn] }) :: led)) (.ref D) (termD num) :=
    DatIn.tuple (n := 0) (vs := [Value.str (Str.ofString "i") tk, Value.int num tn]) (List.mem_filter.mpr ⟨.head _, rfl⟩) (.cons (.str _ _) (.cons (.int _ _) .nil))
  k_dflt (refine Spec.use B4 F4 X4 N4 T4 (by first | exact rfl | assumption) (prepend_full w S p D ikey (termD num) ik (60 - num) _ C _ (F.sub fun q hq => .tail _ hq) ⟨.tail _ P.1, .tail _ P.2⟩ hl hla hlen htm (hik.mono (tups_sub' fun q hq => .tail _ hq)) (termD_ok num) oi) (fun q hq => ?_) (by k_room) (by k_units) ?_)
  · rcases List.mem_cons.mp hq with rfl | hq
    · exact .head _
    · exact .tail _ (.tail _ (.tail _ (.tail _ (.tail _ hq))))
  rintro r9 l9 h9 tk9 ⟨S', p', r, rfl, hrec, hkey, ho⟩ F9 N9
  clear N4 F4
  have ho' := ho.sub (led := led) (fun q hq => .tail _ hq)
  clear ho
  have N10 := News.add1 (News.add1 N9 hrec.2) (.tail _ hrec.1)
  clear N9
  try dsimp only
  try k_fold
  (repeat' ((fail_if_success first | (with_reducible first | refine st_call 106 ?_ | refine st_call 113 ?_) | k_data); (first | (k_unfold; (try dsimp only)) | (k_end; kc_close) | walk1 | (dsimp only; walk1) | (leave1; (try dsimp only)) | fail "no step")))
  (rename News _ _ _ _ => N8); (rename Fr _ _ _ _ => F8)
  exact hret _ _ _ _ ⟨_, S', p', by rw [hkey], ho'⟩ F8 (News.sub N8 fun q hq => .tail _ (.tail _ hq))

set_option maxRecDepth 100000 in
set_option maxHeartbeats 8000000 in
theorem entered_back (w : World) (S : Sto) (p : Prc) (num : Int) (tn : Tok) (ikey : Addr) (ik : Dat) (C : List Nat) (led : List (Addr × Obj)) (F : Full w led S) (P : PrcIn w led p)
    (hl : Linked S.recs p.first C) (hla : LastIs p.last C) (hnd : C.Nodup) (hlen : S.recs.length < 100) (hik : DatIn (tups led) (.ref ikey) ik) (oi : kqdOk 6 ik = true) :
    Spec w 190 [.ref S.a, .ref p.a, .bool false, .int num tn, .ref ikey] 120 led (fun v led' => ∃ t S' p', v = .int S.recs.length t ∧ EnterOut w led led' S p S' p' false (termD num) ik (60 - num) C) := by
  unfold Spec
  k_fill
  intro pp loose mean mg mb dp un gd cn cs a ccd cl outer A₀ base h₀ L m s Q E B F0 X N T hk hd hu hret
  refine wpAny_call ?_
  have N1 := News.add1 (News.add1 (News.add1 (News.add1 N P.2) (.tail _ P.1)) (.tail _ (.tail _ F.sto.2.1))) (.tail _ (.tail _ (.tail _ F.sto.1)))
  clear N
  k_dflt ktr_enter
  (rename Fr _ _ _ _ => F77)
  replace F77 := fr_eq (m' := ar5 "store" (.ref S.a) "proc" (.ref p.a) "front" (.bool false) "number" (.int num tn) "word" (.ref ikey)) F77 (by with_unfolding_all rfl)
  (repeat' ((fail_if_success first | (with_reducible first | refine st_call 106 ?_ | refine st_call 113 ?_) | k_data); (first | (k_unfold; (try dsimp only)) | (k_end; kc_close) | walk1 | (dsimp only; walk1) | (leave1; (try dsimp only)) | fail "no step")))
  (rename News _ _ _ _ => N4); (rename Fr _ _ _ _ => F4); (rename Below _ _ _ _ => B4); (rename Frag.In _ _ => X4); (rename Top _ _ _ _ _ _ => T4)
  rename_i D hx lt0
  have htm : DatIn (tups ((D, { cls := Value.type "tuple", data := Data.seq #[Value.str (Str.ofString "i") tk, Value.int num tn] }) :: led)) (.ref D) (termD num) :=
    DatIn.tuple (n := 0) (vs := [Value.str (Str.ofString "i") tk, Value.int num tn]) (List.mem_filter.mpr ⟨.head _, rfl⟩) (.cons (.str _ _) (.cons (.int _ _) .nil))
  k_dflt (refine Spec.use B4 F4 X4 N4 T4 (by first | exact rfl | assumption) (append_full w S p D ikey (termD num) ik (60 - num) _ C _ (F.sub fun q hq => .tail _ hq) ⟨.tail _ P.1, .tail _ P.2⟩ hl hla hnd hlen htm (hik.mono (tups_sub' fun q hq => .tail _ hq)) (termD_ok num) oi) (fun q hq => ?_) (by k_room) (by k_units) ?_)
  · rcases List.mem_cons.mp hq with rfl | hq
    · exact .head _
    · exact .tail _ (.tail _ (.tail _ (.tail _ (.tail _ hq))))
  rintro r9 l9 h9 tk9 ⟨S', p', r, rfl, hrec, hkey, ho⟩ F9 N9
  clear N4 F4
  have ho' := ho.sub (led := led) (fun q hq => .tail _ hq)
  clear ho
  have N10 := News.add1 (News.add1 N9 hrec.2) (.tail _ hrec.1)
  clear N9
  try dsimp only
  try k_fold
  (repeat' ((fail_if_success first | (with_reducible first | refine st_call 106 ?_ | refine st_call 113 ?_) | k_data); (first | (k_unfold; (try dsimp only)) | (k_end; kc_close) | walk1 | (dsimp only; walk1) | (leave1; (try dsimp only)) | fail "no step")))
  (rename News _ _ _ _ => N8); (rename Fr _ _ _ _ => F8)
  exact hret _ _ _ _ ⟨_, S', p', by rw [hkey], ho'⟩ F8 (News.sub N8 fun q hq => .tail _ (.tail _ hq))
end
section
variable {prog : Program} {w : World} {A : Around} {E : Value → Shared → Prop} {s : Shared} {h₀ : Heap} {L : Addr} {m : Str → Option Value} {env : Env}
theorem compEnd_mono {s₁ : Shared} {I C D : Addr} {oI oC oD : Obj} {S : List (Addr × Obj) → Prop} {rest rest' : Value → List (Addr × Obj) → Prop} {y : Value} {s₂ : Shared} (h : LCg.CompEnd h₀ L m s₁ I oI C oC D oD S rest y s₂) (hr : ∀ l, rest y l → rest' y l) :
    LCg.CompEnd h₀ L m s₁ I oI C oC D oD S rest' y s₂ := by
  obtain ⟨h', tk, news', e, F, N, o, hS, r⟩ := h
  exact ⟨h', tk, news', e, F, N, o, hS, hr _ r⟩
theorem comp_all {elt : Expr} {x : Str} {scope : Scope} {cl : List (Str × Addr)} {S : List (Addr × Obj) → Prop} {P : Nat → Value → Prop} {Fin : List Value → List (Addr × Obj) → Prop} {n : Nat} (Inv : Nat → List Value → List (Addr × Obj) → Prop)
    (step : ∀ i ys news v I oI C oC D m₂ h tk (E' : Value → Shared → Prop), i < n → Inv i ys news → P i v → LCg.NsObj oC m₂ → m₂ x = some v → Fr h₀ L h m → News h₀ L h ((I, oI) :: (C, oC) :: (D, W.listOf ys.toArray ys.length) :: news) → (∀ p ∈ news, p.1 ≠ I ∧ p.1 ≠ C ∧ p.1 ≠ D) → ((@Ne Nat I C) ∧ (@Ne Nat I D) ∧ (@Ne Nat C D)) →
      wpAny (model prog w) A (eval elt (compEnvC scope cl C env)) (LCg.CompEnd h₀ L m { s with heap := h, toks := tk } I oI C oC D (W.listOf ys.toArray ys.length) S (fun y news' => Inv (i + 1) (ys ++ [y]) news')) E' { s with heap := h, toks := tk })
    (fin : ∀ ys news, Inv n ys news → Fin ys news) : ∀ k i ys news, i + k = n → Inv i ys news → LCg.CompRest prog w A h₀ L m env elt x scope cl s S P Fin k i ys news := by
  intro k
  induction k with
  | zero =>
    intro i ys news hi hI
    have : i = n := by omega
    subst this
    exact fin ys news hI
  | succ k ih =>
    intro i ys news hi hI
    refine LCg.CompRest.succ fun v I oI C oC D m₂ h tk E' hP hC hx F N off ne => ?_
    refine wpAny_mono (step i ys news v I oI C oC D m₂ h tk E' (by omega) hI hP hC hx F N off.mem ne) (fun y s₂ q => compEnd_mono q fun l hl => ih (i + 1) (ys ++ [y]) l (by omega) hl) fun _ _ e => e
end
section
noncomputable abbrev shownD (r : Rec) : Dat := .tuple [r.tm, r.ik, .int r.entry, .int r.functor]
noncomputable def shown (recs : List Rec) (g : Int) (C : List Nat) : List Dat := (seen recs g C).map fun k => match recs[k]? with
  | some r => shownD r
  | none => .none

set_option maxRecDepth 100000 in
set_option maxHeartbeats 8000000 in
theorem shown_spec (w : World) (S : Sto) (p : Prc) (g : Int) (tg : Tok) (C : List Nat) (led : List (Addr × Obj)) (F : Full w led S) (P : PrcIn w led p) (hl : Linked S.recs p.first C) (hlen : C.length ≤ 100) :
    Spec w 195 [.ref S.a, .ref p.a, .int g tg] 80 led (fun v led' => ∃ l n vs, v = .ref l ∧ (∀ q ∈ led, q ∈ led') ∧ (l, W.listOf vs.toArray n) ∈ led' ∧ DatAll led' vs (shown S.recs g C)) := by
  unfold Spec
  k_fill
  intro pp loose mean mg mb dp un gd cn cs a ccd cl outer A₀ base h₀ L m s Q E B F0 X N T hk hd hu hret
  refine wpAny_call ?_
  have N1 := News.add1 (News.add1 (News.add1 (News.add1 N P.2) (.tail _ P.1)) (.tail _ (.tail _ F.sto.2.1))) (.tail _ (.tail _ (.tail _ F.sto.1)))
  clear N
  k_dflt ktr_enter
  (rename Fr _ _ _ _ => F77)
  replace F77 := fr_eq (m' := ar3 "store" (.ref S.a) "proc" (.ref p.a) "when" (.int g tg)) F77 (by with_unfolding_all rfl)
  (repeat' ((fail_if_success first | (with_reducible first | refine st_call 148 ?_ | refine st_lc ?_ | show LCg.CompSrc _ _ _ _ _ _ _ _ _ _ _ _ _ _ | show LCg.CompEnd _ _ _ _ _ _ _ _ _ _ _ _ _ _) | k_data); (first | (k_unfold; (try dsimp only)) | (k_end; kc_close) | walk1 | (dsimp only; walk1) | (leave1; (try dsimp only)) | fail "no step")))
  (rename News _ _ _ _ => N4); (rename Fr _ _ _ _ => F4); (rename Below _ _ _ _ => B4); (rename Frag.In _ _ => X4); (rename Top _ _ _ _ _ _ => T4)
  k_dflt (refine LCg.ListComp_U (F₀ := by k_asm) (by rfl) (by decide) (by rfl) (by decide) (by rfl) ?_)
  (repeat' ((fail_if_success first | (with_reducible first | refine st_call 148 ?_ | refine st_lc ?_ | show LCg.CompSrc _ _ _ _ _ _ _ _ _ _ _ _ _ _ | show LCg.CompEnd _ _ _ _ _ _ _ _ _ _ _ _ _ _) | k_data); (first | (k_unfold; (try dsimp only)) | (k_end; kc_close) | walk1 | (dsimp only; walk1) | (leave1; (try dsimp only)) | fail "no step")))
  (try k_fold)
  k_dflt (refine Spec.use B4 F4 X4 N4 T4 (by first | exact rfl | assumption) (chain_spec w S p g tg C led F.sto F.ok P F.recs hl hlen) (by (intro q hq; repeat (first | exact hq | apply List.Mem.tail))) (by k_room) (by k_units) ?_)
  intro r9 l9 h9 tk9 hR9 F9 N9
  obtain ⟨l, n, rfl, rfl, hfr⟩ := hR9
  clear N4 F4
  try dsimp only
  try k_fold
  (repeat' ((fail_if_success first | (with_reducible first | refine st_call 148 ?_ | refine st_lc ?_ | show LCg.CompSrc _ _ _ _ _ _ _ _ _ _ _ _ _ _ | show LCg.CompEnd _ _ _ _ _ _ _ _ _ _ _ _ _ _) | k_data); (first | (k_unfold; (try dsimp only)) | (k_end; kc_close) | walk1 | (dsimp only; walk1) | (leave1; (try dsimp only)) | fail "no step")))
  have hcl := chainR_len S.recs g C
  have hch := chainR_seen (g := g) hl
  have hsn : (chainR S.recs g C).length = (seen S.recs g C).length := by rw [hch, List.length_map]
  have hVl : ∀ k ∈ seen S.recs g C, k < S.recs.length := fun k hk => linked_lt hl k (seen_sub k hk)
  k_dflt (refine LCg.CompSrc.ledger (by rfl) F9 N9 (.head _) (by simp only [List.size_toArray, PySem.sizeLine_eq]; omega) ?_)
  intro gg
  refine comp_all (n := (chainR S.recs g C).toArray.size) (fun i ys news => (∀ q ∈ (l, W.listOf (chainR S.recs g C).toArray n) :: led, q ∈ news) ∧ DatAll news ys (shown S.recs g C |>.take i)) ?_ ?_ _ 0 [] _ (Nat.zero_add _) ⟨fun q hq => hq, .nil⟩
  · intro i ys news v I oI C' oC D m₂ h tk E' hi hI hP hC hx F6 N6 hoff hne
    obtain ⟨hsub, hdat⟩ := hI
    have hv : (chainR S.recs g C)[i]? = some v := by simpa using hP
    rw [hch, List.getElem?_map] at hv
    obtain ⟨k, hk, ek⟩ := Option.map_eq_some_iff.mp hv
    have hkm := List.mem_of_getElem? hk
    have hkl := hVl k hkm
    have hr : S.recs[k]? = some (S.recs[k]'hkl) := List.getElem?_eq_getElem hkl
    generalize S.recs[k]'hkl = r at hr
    rw [hr] at ek
    have ek' : Value.ref r.a = v := ek
    subst ek'
    have hmem : r ∈ S.recs := List.mem_of_getElem? hr
    have hrec := F.recs.at' r hmem
    have N7 := News.add1 (News.add1 N6 (.tail _ (.tail _ (.tail _ (hsub _ (.tail _ hrec.2)))))) (.tail _ (.tail _ (.tail _ (.tail _ (hsub _ (.tail _ hrec.1))))))
    clear N6 F9 N9
    (repeat' ((fail_if_success first | (with_reducible first | refine st_call 148 ?_ | refine st_lc ?_ | show LCg.CompSrc _ _ _ _ _ _ _ _ _ _ _ _ _ _ | show LCg.CompEnd _ _ _ _ _ _ _ _ _ _ _ _ _ _) | k_data); (first | (k_unfold; (try dsimp only)) | (k_end; kc_close) | walk1 | (dsimp only; walk1) | (leave1; (try dsimp only)) | fail "no step")))
    (rename News _ _ _ _ => N8); (rename Fr _ _ _ _ => F8)
    rename_i T9 hx9 lt0
    have hsh : (shown S.recs g C)[i]? = some (shownD r) := by
      simp only [shown, List.getElem?_map, hk, Option.map_some, hr]
    have hsplit : (shown S.recs g C).take (i + 1) = (shown S.recs g C).take i ++ [shownD r] := by simp [List.take_add_one, hsh]
    refine LCg.CompEnd.intro F8 N8 ((T9, ({ cls := Value.type "tuple", data := Data.seq [Value.ref r.term, Value.ref r.ikey, Value.int r.entry r.v7, Value.int r.functor r.v1].toArray 0 } : Obj)) :: news) (fun q hq => ?_) (LCg.Off3.of fun q hq => ?_) (.inr ⟨_, .tail _ (hsub _ (.head _)), rfl, _, rfl⟩) ⟨fun q hq => .tail _ (hsub q hq), ?_⟩
    rotate_left 2
    · rw [hsplit]
      refine DatAll.append (hdat.mono fun q hq => .tail _ hq) (.one ?_)
      have up : ∀ q ∈ tups led, q ∈ news := fun q hq => hsub q (.tail _ (tups_sub q hq))
      exact DatIn.tuple (n := 0) (vs := [Value.ref r.term, Value.ref r.ikey, Value.int r.entry r.v7, Value.int r.functor r.v1]) (.head _) (.cons ((F.recs.tm r hmem).mono fun q hq => .tail _ (up q hq)) (.cons ((F.recs.ik r hmem).mono fun q hq => .tail _ (up q hq)) (.cons (.int _ _) (.cons (.int _ _) .nil))))
    · simp only [List.mem_cons] at hq ⊢
      rcases hq with h | h | h | h | h
      · simp only [h, true_or, or_true]
      · simp only [h, true_or, or_true]
      · simp only [h, true_or, or_true]
      · simp only [h, true_or, or_true]
      · simp only [h, true_or, or_true]
    · obtain ⟨_, _, l3, l4, l5, _⟩ := lt0
      rcases List.mem_cons.mp hq with rfl | hq
      · exact ⟨Nat.ne_of_gt l3, Nat.ne_of_gt l4, Nat.ne_of_gt l5⟩
      · exact hoff q hq
  · intro ys news hI
    (repeat' ((fail_if_success first | (with_reducible first | refine st_call 148 ?_ | refine st_lc ?_ | show LCg.CompSrc _ _ _ _ _ _ _ _ _ _ _ _ _ _ | show LCg.CompEnd _ _ _ _ _ _ _ _ _ _ _ _ _ _) | k_data); (first | (k_unfold; (try dsimp only)) | (k_end; kc_close) | walk1 | (dsimp only; walk1) | (leave1; (try dsimp only)) | fail "no step")))
    (rename News _ _ _ _ => N8); (rename Fr _ _ _ _ => F8)
    have htk : (shown S.recs g C).take (chainR S.recs g C).toArray.size = shown S.recs g C := List.take_of_length_le (by simp [shown, hsn])
    rw [htk] at hI
    exact hret _ _ _ _ ⟨_, _, ys, rfl, fun q hq => .tail _ (hI.1 q (.tail _ hq)), .head _, hI.2.mono fun q hq => .tail _ hq⟩ F8 N8
end
section
section
variable {prog : Program} {w : World} {A : Around} {E : Value → Shared → Prop} {Q : Flow → Shared → Prop} {s : Shared} {env : Env} {h₀ : Heap} {L : Addr}
theorem map_self {x : Str} {m₀ : Str → Option Value} {v : Value} (h : m₀ x = some v) : m₀ = fun y => if y = x then some v else m₀ y := by
  funext y
  by_cases h1 : y = x
  · rw [if_pos h1, h1, h]
  · rw [if_neg h1]
def J1 {σ : Type} (a : Str) (m₀ : Str → Option Value) (V : σ → Value) (R : σ → List (Addr × Obj) → Prop) (c : σ) (m : Str → Option Value) (led : List (Addr × Obj)) : Prop :=
  R c led ∧ m = fun z => if z = a then some (V c) else m₀ z
theorem my_while1 {σ : Type} {a : Str} {test : Expr} {body : List Stmt} {pos : Pos} {m₀ : Str → Option Value} {news : List (Addr × Obj)} (V : σ → Value) (R : σ → List (Addr × Obj) → Prop) (μ : σ → Nat) (c₀ : σ)
    (F : Fr h₀ L s.heap m₀) (N : News h₀ L s.heap news) (ha : m₀ a = some (V c₀)) (hr : R c₀ news)
    (turn : ∀ (c : σ) led h tk, R c led → Fr h₀ L h (fun z => if z = a then some (V c) else m₀ z) → News h₀ L h led →
      wpAny (model prog w) A (isTrue test env (eval test env)) (fun t s₂ =>
        if t = true then wpAny (model prog w) A (execs body env) (WPost h₀ L s (J1 a m₀ V R) μ Q c) E s₂ else Q .next s₂) E { s with heap := h, toks := tk })
    (hE : PassesOwn (model prog w) A env E := by passes_own) :
    wpAny (model prog w) A (exec (.While test body [] pos) env) Q E s := by
  refine my_while (J1 a m₀ V R) μ c₀ F N ⟨hr, map_self ha⟩ ?_ hE
  rintro c m₁ led h tk ⟨hR, rfl⟩ F₁ N₁
  exact turn c led h tk hR F₁ N₁
theorem my_while1c {α β γ : Type} {a : Str} {test : Expr} {body : List Stmt} {pos : Pos} {m₀ : Str → Option Value} {news : List (Addr × Obj)} (V : α × β × γ → Value) (R : α × β × γ → List (Addr × Obj) → Prop) (μ : α × β × γ → Nat) (c₀ : α × β × γ)
    (F : Fr h₀ L s.heap m₀) (N : News h₀ L s.heap news) (ha : m₀ a = some (V c₀)) (hr : R c₀ news)
    (turn : ∀ x1 x2 x3 led h tk, R (x1, x2, x3) led → Fr h₀ L h (fun z => if z = a then some (V (x1, x2, x3)) else m₀ z) → News h₀ L h led →
      wpAny (model prog w) A (isTrue test env (eval test env)) (fun t s₂ =>
        if t = true then wpAny (model prog w) A (execs body env) (WPost h₀ L s (J1 a m₀ V R) μ Q (x1, x2, x3)) E s₂ else Q .next s₂) E { s with heap := h, toks := tk })
    (hE : PassesOwn (model prog w) A env E := by passes_own) :
    wpAny (model prog w) A (exec (.While test body [] pos) env) Q E s := by
  refine my_while1 (a := a) V R μ c₀ F N ha hr ?_ hE
  rintro ⟨x1, x2, x3⟩ led h tk
  exact turn x1 x2 x3 led h tk
theorem wend1 {σ : Type} {a : Str} {m₀ : Str → Option Value} {V : σ → Value} {R : σ → List (Addr × Obj) → Prop} {μ : σ → Nat} {c : σ} (c' : σ) {h' : Heap} {tk : Nat} {v : Option Value} {led : List (Addr × Obj)} (led' : List (Addr × Obj))
    (F : Fr h₀ L h' (fun z => if z = a then some (V c') else if z = a then v else m₀ z)) (N : News h₀ L h' led) (hs : ∀ q ∈ led', q ∈ led) (hj : R c' led') (hm : μ c' < μ c) :
    WEnd h₀ L s (J1 a m₀ V R) μ c { s with heap := h', toks := tk } := wend c' led' F N hs ⟨hj, map_x⟩ hm
end

noncomputable def hits (recs : List Rec) (g : Int) (cd : Dat) (C : List Nat) : List Nat := C.filter fun k => match recs[k]? with
  | some r => hit r g cd
  | none => false
theorem live_hits {recs : List Rec} {g : Int} {cd : Dat} : ∀ {f : Int} {C : List Nat}, Linked recs f C → (live recs g cd C = -1 ∧ hits recs g cd C = []) ∨
    ∃ (k : Nat) (C2 : List Nat) (r : Rec), live recs g cd C = (k : Int) ∧ recs[k]? = some r ∧ Linked recs r.next C2 ∧ hits recs g cd C = k :: hits recs g cd C2 ∧ C2.length < C.length
  | _, [], _ => .inl ⟨rfl, rfl⟩
  | _, k :: C, ⟨_, r, hr, hl⟩ => by
    cases hh : hit r g cd with
    | true => exact .inr ⟨k, C, r, by simp [live, hr, hh], hr, hl, by simp [hits, hr, hh], by simp⟩
    | false =>
      have e1 : live recs g cd (k :: C) = live recs g cd C := by simp [live, hr, hh]
      have e2 : hits recs g cd (k :: C) = hits recs g cd C := by simp [hits, hr, hh]
      rw [e1, e2]
      rcases live_hits hl with h | ⟨k', C2, r', h1, h2, h3, h4, h5⟩
      · exact .inl h
      · exact .inr ⟨k', C2, r', h1, h2, h3, h4, by simp only [List.length_cons]; omega⟩
noncomputable def ledD (recs : List Rec) (g : Int) (cd : Dat) (C : List Nat) : List Dat := (hits recs g cd C).map fun k => match recs[k]? with
  | some r => r.tm
  | none => .none

set_option maxRecDepth 100000 in
set_option maxHeartbeats 8000000 in
theorem led_spec (w : World) (S : Sto) (p : Prc) (g : Int) (tg : Tok) (cell : Addr) (cd : Dat) (C : List Nat) (led : List (Addr × Obj)) (F : Full w led S) (P : PrcIn w led p) (hl : Linked S.recs p.first C) (hlen : C.length < 20)
    (hc : DatIn led (.ref cell) cd) (oc : kqdOk 8 cd = true) :
    Spec w 202 [.ref S.a, .ref p.a, .int g tg, .ref cell] 80 led (fun v led' => ∃ l n vs, v = .ref l ∧ (∀ q ∈ led, q ∈ led') ∧ (l, W.listOf vs.toArray n) ∈ led' ∧ DatAll led' vs (ledD S.recs g cd C)) := by
  unfold Spec
  k_fill
  intro pp loose mean mg mb dp un gd cn cs a ccd cl outer A₀ base h₀ L m s Q E B F0 X N T hk hd hu hret
  refine wpAny_call ?_
  have N1 := News.add1 (News.add1 (News.add1 (News.add1 (News.add1 N P.2) (.tail _ P.1)) (.tail _ (.tail _ F.sto.2.2))) (.tail _ (.tail _ (.tail _ F.sto.2.1)))) (.tail _ (.tail _ (.tail _ (.tail _ F.sto.1))))
  clear N
  k_dflt ktr_enter
  (rename Fr _ _ _ _ => F77)
  replace F77 := fr_eq (m' := ar4 "store" (.ref S.a) "proc" (.ref p.a) "when" (.int g tg) "wanted" (.ref cell)) F77 (by with_unfolding_all rfl)
  (repeat' ((fail_if_success first | (with_reducible first | refine st_call 134 ?_ | refine st_call 141 ?_ | refine st_while ?_) | k_data); (first | (k_unfold; (try dsimp only)) | (k_end; kc_close) | (with_reducible refine st_len ?_; k_dflt (refine len_led (by k_asm) (by k_mem) (by simp only [List.size_toArray]; omega) ?_); intro t9 tk9) | (with_reducible refine st_sub _ ?_; k_dflt (refine item_map (by k_asm) (by k_mem) (SOk.ro (by assumption)) (by assumption) ?_)) | (with_reducible show WPost _ _ _ _ _ _ _ _ _; dsimp only [WPost]) | walk1 | (dsimp only; walk1) | (leave1; (try dsimp only)) | fail "no step")))
  (rename News _ _ _ _ => N4); (rename Fr _ _ _ _ => F4); (rename Below _ _ _ _ => B4); (rename Frag.In _ _ => X4); (rename Top _ _ _ _ _ _ => T4)
  rename_i lf ha lt0 hx
  have ltl := allLt_out lt0.2.2.2.2.2
  have off1 := ownOff_lt ltl
  obtain ⟨lt1, lt2, lt3, lt4, lt5, _⟩ := lt0
  have hsub : ∀ q ∈ led, q ∈ (lf, W.listOf #[] 0) :: (S.a, instObj 165 S.d) :: (S.d, dictOf (S.es w.params) 3) :: (S.rd, S.ro) :: (p.a, instObj 74 p.d) :: (p.d, dictOf (p.es w.params) 10) :: led := fun q hq => .tail _ (.tail _ (.tail _ (.tail _ (.tail _ (.tail _ hq)))))
  have F5 := F.sub hsub
  (try k_fold)
  k_dflt (refine Spec.use B4 F4 X4 N4 T4 (by first | exact rfl | assumption) (first_live_spec w S p g tg cell cd C _ F5.sto F5.ok ⟨hsub _ P.1, hsub _ P.2⟩ F5.recs hl (hc.mono hsub) oc) (fun q hq => hq) (by k_room) (by k_units) ?_)
  intro r9 l9 h9 tk9 hR9 F9 N9
  obtain ⟨⟨t9, rfl⟩, rfl⟩ := hR9
  clear N4 F4 F5 hsub
  try dsimp only
  try k_fold
  (repeat' ((fail_if_success first | (with_reducible first | refine st_call 134 ?_ | refine st_call 141 ?_ | refine st_while ?_) | k_data); (first | (k_unfold; (try dsimp only)) | (k_end; kc_close) | (with_reducible refine st_len ?_; k_dflt (refine len_led (by k_asm) (by k_mem) (by simp only [List.size_toArray]; omega) ?_); intro t9 tk9) | (with_reducible refine st_sub _ ?_; k_dflt (refine item_map (by k_asm) (by k_mem) (SOk.ro (by assumption)) (by assumption) ?_)) | (with_reducible show WPost _ _ _ _ _ _ _ _ _; dsimp only [WPost]) | walk1 | (dsimp only; walk1) | (leave1; (try dsimp only)) | fail "no step")))
  (rename News _ _ _ _ => N4); (rename Fr _ _ _ _ => F4)
  have ok := F.ok
  (try k_fold)
  refine my_while1c (α := List Nat) (β := Tok) (γ := List Value) (a := "spot") (fun c => .int (live S.recs g cd c.1) c.2.1) (fun c led' => (∃ n, led' = (lf, W.listOf c.2.2.toArray n) :: (S.a, instObj 165 S.d) :: (S.d, dictOf (S.es w.params) 3) :: (S.rd, S.ro) :: led) ∧ (∃ f, Linked S.recs f c.1) ∧
    (∃ ds, DatAll led c.2.2 ds ∧ ds ++ ledD S.recs g cd c.1 = ledD S.recs g cd C) ∧ c.2.2.length + c.1.length ≤ C.length) (fun c => c.1.length) (C, t9, []) F4
    (News.sub (led' := (lf, W.listOf (([] : List Value).toArray) 0) :: (S.a, instObj 165 S.d) :: (S.d, dictOf (S.es w.params) 3) :: (S.rd, S.ro) :: led) N4 ?_) rfl ⟨⟨0, rfl⟩, ⟨_, hl⟩, ⟨[], .nil, rfl⟩, by simp⟩ ?_
  · intro q hq
    simp only [List.mem_cons] at hq ⊢
    rcases hq with h | h | h | h | h <;> simp only [h, true_or, or_true]
  intro C1 t1 acc led1 h1 tk2 hR0 F2 N2
  (try k_fold)
  obtain ⟨⟨n, rfl⟩, ⟨f1, hl1⟩, ⟨ds, hds, hdl⟩, hle⟩ := hR0
  clear F4 N4
  dsimp only at hl1 F2 N2 hle hds hdl
  rcases live_hits (g := g) (cd := cd) hl1 with ⟨e1, e2⟩ | ⟨k, C2, r, e1, hr, hl2, e2, hlt⟩
  · rw [e1] at F2
    (repeat' ((fail_if_success first | (with_reducible first | refine st_call 134 ?_ | refine st_call 141 ?_ | refine st_while ?_) | k_data); (first | (k_unfold; (try dsimp only)) | (k_end; kc_close) | (with_reducible refine st_len ?_; k_dflt (refine len_led (by k_asm) (by k_mem) (by simp only [List.size_toArray]; omega) ?_); intro t9 tk9) | (with_reducible refine st_sub _ ?_; k_dflt (refine item_map (by k_asm) (by k_mem) (SOk.ro (by assumption)) (by assumption) ?_)) | (with_reducible show WPost _ _ _ _ _ _ _ _ _; dsimp only [WPost]) | walk1 | (dsimp only; walk1) | (leave1; (try dsimp only)) | fail "no step")))
    (rename News _ _ _ _ => N8); (rename Fr _ _ _ _ => F8)
    have e3 : ds = ledD S.recs g cd C := by
      have : ledD S.recs g cd C1 = [] := by simp [ledD, e2]
      rw [this, List.append_nil] at hdl
      exact hdl
    rw [e3] at hds
    refine hret _ ((lf, W.listOf acc.toArray n) :: led) _ _ ⟨lf, n, acc, rfl, fun q hq => .tail _ hq, .head _, hds.mono fun q hq => .tail _ hq⟩ F8 (News.sub N8 fun q hq => ?_)
    rcases List.mem_cons.mp hq with rfl | hq
    · exact .head _
    · exact .tail _ (.tail _ (.tail _ (.tail _ hq)))
  · rw [e1] at F2
    have hv := F.ok.valueAt hr
    have hmem : r ∈ S.recs := List.mem_of_getElem? hr
    have hrec := F.recs.at' r hmem
    have lt6 := ltl _ hrec.1
    have lt7 := ltl _ hrec.2
    have N3 := News.add1 (News.add1 N2 (.tail _ (.tail _ (.tail _ (.tail _ hrec.2))))) (.tail _ (.tail _ (.tail _ (.tail _ (.tail _ hrec.1)))))
    clear N2
    (repeat' ((fail_if_success first | (with_reducible first | refine st_call 134 ?_ | refine st_call 141 ?_ | refine st_while ?_) | k_data); (first | (k_unfold; (try dsimp only)) | (k_end; kc_close) | (with_reducible refine st_len ?_; k_dflt (refine len_led (by k_asm) (by k_mem) (by simp only [List.size_toArray]; omega) ?_); intro t9 tk9) | (with_reducible refine st_sub _ ?_; k_dflt (refine item_map (by k_asm) (by k_mem) (SOk.ro (by assumption)) (by assumption) ?_)) | (with_reducible show WPost _ _ _ _ _ _ _ _ _; dsimp only [WPost]) | walk1 | (dsimp only; walk1) | (leave1; (try dsimp only)) | fail "no step")))
    (rename News _ _ _ _ => N8); (rename Fr _ _ _ _ => F8); (rename Below _ _ _ _ => B8); (rename Frag.In _ _ => X8); (rename Top _ _ _ _ _ _ => T8)
    (try simp only [List.push_toArray] at N8)
    have hsub : ∀ q ∈ led, q ∈ (lf, W.listOf (acc ++ [Value.ref r.term]).toArray (n + 1)) :: (S.a, instObj 165 S.d) :: (S.d, dictOf (S.es w.params) 3) :: (S.rd, S.ro) :: led := fun q hq => .tail _ (.tail _ (.tail _ (.tail _ hq)))
    have F5 := F.sub hsub
    (try k_fold)
    k_dflt (refine Spec.use B8 F8 X8 N8 T8 (by first | exact rfl | assumption) (next_live_spec w S k t1 r g tg cell cd C2 _ F5.sto F5.ok hr F5.recs hl2 (hc.mono hsub) oc) (fun q hq => .tail _ (.tail _ hq)) (by k_room) (by k_units) ?_)
    intro r9 l9 h9 tk9 hR9 F9 N9
    obtain ⟨⟨t9, rfl⟩, rfl⟩ := hR9
    clear N8 F8 F5
    try dsimp only
    try k_fold
    (repeat' ((fail_if_success first | (with_reducible first | refine st_call 134 ?_ | refine st_call 141 ?_ | refine st_while ?_) | k_data); (first | (k_unfold; (try dsimp only)) | (k_end; kc_close) | (with_reducible refine st_len ?_; k_dflt (refine len_led (by k_asm) (by k_mem) (by simp only [List.size_toArray]; omega) ?_); intro t9 tk9) | (with_reducible refine st_sub _ ?_; k_dflt (refine item_map (by k_asm) (by k_mem) (SOk.ro (by assumption)) (by assumption) ?_)) | (with_reducible show WPost _ _ _ _ _ _ _ _ _; dsimp only [WPost]) | walk1 | (dsimp only; walk1) | (leave1; (try dsimp only)) | fail "no step")))
    (rename News _ _ _ _ => N8); (rename Fr _ _ _ _ => F8)
    refine wend1 (C2, t9, acc ++ [Value.ref r.term]) _ F8 N8 (fun q hq => hq) ⟨⟨_, rfl⟩, ⟨_, hl2⟩, ⟨ds ++ [r.tm], DatAll.append hds (.one ((F.recs.tm r hmem).mono tups_sub)), ?_⟩, ?_⟩ hlt
    · rw [← hdl, List.append_assoc]
      simp only [ledD, e2, List.map_cons, hr]
      rfl
    · simp only [List.length_append, List.length_cons, List.length_nil]
      omega
end
def WhP (h₀ : Heap) (L : Addr) (s : Shared) (led : List (Addr × Obj)) (y : Str) (m₀ : Str → Option Value) (f : Flow) (s₂ : Shared) : Prop :=
  f = .next ∧ ∃ h' tk v t, s₂ = { s with heap := h', toks := tk } ∧ Fr h₀ L h' (fun z => if z = y then some (.int v t) else m₀ z) ∧ News h₀ L h' led
section
variable {M : Model} {A : Around} {E : Value → Shared → Prop} {s : Shared} {h₀ : Heap} {L : Addr} {m₀ : Str → Option Value} {led : List (Addr × Obj)}
theorem whp {y : Str} {h' : Heap} {tk : Nat} {v : Int} {t : Tok} {led' : List (Addr × Obj)} (F : Fr h₀ L h' (fun z => if z = y then some (.int v t) else m₀ z)) (N : News h₀ L h' led') (hs : ∀ q ∈ led, q ∈ led') : WhP h₀ L s led y m₀ .next { s with heap := h', toks := tk } :=
  ⟨rfl, h', tk, v, t, rfl, F, News.sub N hs⟩
theorem cut_w {x : Sem Flow} {Q : Flow → Shared → Prop} (y : Str) (_F : Fr h₀ L s.heap m₀) (_N : News h₀ L s.heap led) (h : wpAny M A x (WhP h₀ L s led y m₀) E s)
    (k : ∀ h' tk v t, Fr h₀ L h' (fun z => if z = y then some (.int v t) else m₀ z) → News h₀ L h' led → Q .next { s with heap := h', toks := tk }) : wpAny M A x Q E s := by
  refine wpAny_mono h ?_ fun _ _ x => x
  rintro f s₂ ⟨rfl, h', tk, v, t, rfl, F', N'⟩
  exact k h' tk v t F' N'
end
noncomputable def map3 (a b c : Str) (u1 u2 u3 : Option Value) (m₀ : Str → Option Value) (y : Str) : Option Value := if y = a then u1 else if y = b then u2 else if y = c then u3 else m₀ y
theorem map3_0 {a b c : Str} {m₀ : Str → Option Value} : m₀ = map3 a b c (m₀ a) (m₀ b) (m₀ c) m₀ := by
  funext y
  unfold map3
  by_cases h1 : y = a
  · rw [if_pos h1, h1]
  · by_cases h2 : y = b
    · rw [if_neg h1, if_pos h2, h2]
    · by_cases h3 : y = c
      · rw [if_neg h1, if_neg h2, if_pos h3, h3]
      · rw [if_neg h1, if_neg h2, if_neg h3]
noncomputable def map2 (a b : Str) (u v : Option Value) (m₀ : Str → Option Value) (y : Str) : Option Value := if y = a then u else if y = b then v else m₀ y
theorem map2_0 {a b : Str} {m₀ : Str → Option Value} {v : Option Value} (h : m₀ b = v) : m₀ = map2 a b (m₀ a) v m₀ := by
  funext y
  unfold map2
  by_cases h1 : y = a
  · rw [if_pos h1, h1]
  · by_cases h2 : y = b
    · rw [if_neg h1, if_pos h2, h2, h]
    · rw [if_neg h1, if_neg h2]
theorem map2_turn {a b : Str} {m₀ : Str → Option Value} {u v u' v' : Option Value} (hab : b ≠ a) : (fun y => if y = b then v' else if y = a then u' else map2 a b u v m₀ y) = map2 a b u' v' m₀ := by
  funext y
  unfold map2
  by_cases h1 : y = a
  · subst h1; simp [Ne.symm hab]
  · by_cases h2 : y = b
    · simp [h2, hab]
    · simp [h1, h2]
theorem map3_of {a b c : Str} {m₀ m : Str → Option Value} (h : ∀ y, y ≠ a → y ≠ b → y ≠ c → m y = m₀ y) : m = map3 a b c (m a) (m b) (m c) m₀ := by
  funext y
  unfold map3
  by_cases h1 : y = a
  · rw [if_pos h1, h1]
  · by_cases h2 : y = b
    · rw [if_neg h1, if_pos h2, h2]
    · by_cases h3 : y = c
      · rw [if_neg h1, if_neg h2, if_pos h3, h3]
      · rw [if_neg h1, if_neg h2, if_neg h3]; exact h y h1 h2 h3
theorem allLt_ne {d : Addr} {l : List (Addr × Obj)} (h : AllLt d l) : ∀ p ∈ l, p.1 ≠ d := fun p hp => Nat.ne_of_lt (allLt_out h p hp)
local macro_rules | `(tactic| k_all) => `(tactic| ((rename _ ∧ AllLt _ _ => l9); exact allLt_ne l9))
section
variable {prog : Program} {w : World} {A : Around} {E : Value → Shared → Prop} {s : Shared} {h₀ : Heap} {L D : Addr} {m : Str → Option Value} {news news' : List (Addr × Obj)} {n : Nat}
theorem rev_led {ws : List Value} {Q : Value → Shared → Prop} (F : Fr h₀ L s.heap m) (N : News h₀ L s.heap news) (U : Upd D (W.listOf ws.toArray n) (W.listOf ws.reverse.toArray n) news news') (hz : ws.length ≤ sizeLine)
    (h : ∀ h', Fr h₀ L h' m → News h₀ L h' news' → Q .none { s with heap := h' }) : wpAny (model prog w) A (call (.builtin "list.reverse") [.ref D]) Q E s := kl_reverse F N (by simp) U (by simpa using hz) h
end
section
set_option maxRecDepth 100000 in
set_option maxHeartbeats 8000000 in
theorem figures_spec (w : World) (sc : Addr) (vs : List Value) (ns : List Int) (hi : IntsAre vs ns) (hlay : (PyData.list (ns.map PyData.int)).layable0 = true) (led : List (Addr × Obj))
    (p : Program) (loose : List Str) (mean : ExcName → Option Value) (mg mb : Str → Option Value) (dp un : Nat) (gd : Option (List Code)) (cn : Str) (cs : Scope) (a : Addr) (ccd : Value) (cl : List (Str × Addr)) (outer : List Env) (A₀ : Around) (base h₀ : Heap) (L : Addr) (m : Str → Option Value) (s : Shared) (Q E : Value → Shared → Prop)
    (B : Below A₀ base outer h₀) (F : Fr h₀ L s.heap m) (X : (hd.heap_39 w.params).In h₀) (N : News h₀ L s.heap led) (T : Top p loose mean mg mb h₀) (hk : cs.kind = .function) (hd : dp + 40 < recursionLimit) (hu : un + 8 * 40 < cLine) (hsc : h₀.IsList sc vs.toArray)
    (hret : ∀ r led' h' tk', (∃ fg vs' ns' n, r = .ref fg ∧ (fg, W.listOf vs'.toArray n) ∈ led' ∧ IntsAre vs' ns' ∧ vs'.length ≤ 1000 ∧ (∀ q ∈ led, q ∈ led')) → Fr h₀ L h' m → News h₀ L h' led' → Q r { s with heap := h', toks := tk' }) :
    wpAny (model PySem.Challenge.rw_rr0014_01.row.prog w) (ktrTop dp un gd cn cs L a ccd cl outer) (call (.ref 176) [.ref sc]) Q E s := by
  revert X
  k_fill
  intro X
  refine wpAny_call ?_
  k_dflt ktr_enter
  (rename Fr _ _ _ _ => F77)
  replace F77 := fr_eq (m' := ar1 "script" (.ref sc)) F77 (by with_unfolding_all rfl)
  (rename Fr h₀ _ _ _ => FG)
  have hsc' := Heap.IsList.at hsc (fun o e => FG.keep _ o e)
  clear hsc
  (repeat' ((fail_if_success first | (with_reducible first | refine st_for ?_ | refine st_iter ?_ | refine st_rev ?_) | k_data); (first | (k_unfold; (try dsimp only)) | (k_end; kc_close) | (with_reducible show FPost _ _ _ _ _ _ _ _ _; dsimp only [FPost]) | walk1 | (dsimp only; walk1) | (leave1; (try dsimp only)) | fail "no step")))
  (rename Fr _ _ _ _ => F4)
  (try k_fold)
  with_unfolding_all refine For_invVF F4 (by exact rfl) (by exact rfl) ?_
  (repeat' ((fail_if_success first | (with_reducible first | refine st_for ?_ | refine st_iter ?_ | refine st_rev ?_) | k_data); (first | (k_unfold; (try dsimp only)) | (k_end; kc_close) | (with_reducible show FPost _ _ _ _ _ _ _ _ _; dsimp only [FPost]) | walk1 | (dsimp only; walk1) | (leave1; (try dsimp only)) | fail "no step")))
  rename_i lf x0 x1 x2 Df ws x3 F5 N5 hI hC hL lt0
  have ltl := allLt_out lt0.2
  have lt1 := lt0.1
  refine my_list (k := 0) (fun i m' led' => (∃ us ks n, (lf, W.listOf us.toArray n) ∈ led' ∧ IntsAre us ks ∧ us.length ≤ 24 * i) ∧ (∀ q ∈ led, q ∈ led') ∧ ∃ u1 u2 u3, m' = map3 "cell" "whole" "turn" u1 u2 u3 _) (by exact rfl) F5 N5 (.head _)
    ⟨⟨[], [], 0, .tail _ (.head _), .nil, Nat.le_refl _⟩, fun q hq => .tail _ (.tail _ hq), _, _, _, map3_0⟩ ?_ ?_
  · intro i v m₁ led1 h tk own I o hv hJ0 hIo hown hnI F6 N6
    (try k_fold)
    obtain ⟨⟨us, ks, n, hus, hks, hle⟩, hsub, u1, u2, u3, rfl⟩ := hJ0
    obtain ⟨c, t, hc, rfl⟩ : ∃ c t, (ns.take 30)[i]? = some c ∧ v = .int c t := by
      have hlt : i < ws.length := (List.getElem?_eq_some_iff.mp hv).1
      rw [hI.length] at hlt
      obtain ⟨t, ht⟩ := hI.get i _ (List.getElem?_eq_getElem hlt)
      rw [hv] at ht
      exact ⟨_, t, List.getElem?_eq_getElem hlt, Option.some.inj ht⟩
    have hoff := off_own [lf] (own ++ led1)
    have N7 := News.sub (led' := (lf, W.listOf us.toArray n) :: off [lf] (own ++ led1)) N6 (by
      intro q hq
      rcases List.mem_cons.mp hq with rfl | hq
      · exact List.mem_append_right _ hus
      · exact (mem_off.mp hq).1)
    have hi30 : i < 30 := by
      have h1 := (List.getElem?_eq_some_iff.mp hc).1
      rw [List.length_take] at h1
      omega
    have hlo : ∀ q ∈ own, @Ne Nat q.1 lf := fun q hq e => by
      rcases hown q hq with e2 | e2
      · exact hnI _ hus (e ▸ e2)
      · have e3 : lf = Df := e ▸ e2
        exact Nat.ne_of_lt lt1 e3
    clear N6 F5 N5
    refine wpAny_execs_cons ?_
    refine cut_w "whole" F6 N7 ?_ ?_
    · (repeat' ((fail_if_success first | (with_reducible first | refine st_for ?_ | refine st_iter ?_ | refine st_rev ?_) | k_data); (first | (k_unfold; (try dsimp only)) | (k_end; kc_close) | (with_reducible show FPost _ _ _ _ _ _ _ _ _; dsimp only [FPost]) | walk1 | (dsimp only; walk1) | (leave1; (try dsimp only)) | fail "no step")))
      all_goals ((rename News _ _ _ _ => N8); (rename Fr _ _ _ _ => F8))
      all_goals exact whp F8 N8 fun q hq => hq
    intro hx tkx x0 tx0 F6x N7x
    clear F6 N7
    (repeat' ((fail_if_success first | (with_reducible first | refine st_for ?_ | refine st_iter ?_ | refine st_rev ?_) | k_data); (first | (k_unfold; (try dsimp only)) | (k_end; kc_close) | (with_reducible show FPost _ _ _ _ _ _ _ _ _; dsimp only [FPost]) | walk1 | (dsimp only; walk1) | (leave1; (try dsimp only)) | fail "no step")))
    (rename Fr _ _ _ _ => F8)
    with_unfolding_all refine For_invVF F8 (by exact rfl) (by exact rfl) ?_
    (repeat' ((fail_if_success first | (with_reducible first | refine st_for ?_ | refine st_iter ?_ | refine st_rev ?_) | k_data); (first | (k_unfold; (try dsimp only)) | (k_end; kc_close) | (with_reducible show FPost _ _ _ _ _ _ _ _ _; dsimp only [FPost]) | walk1 | (dsimp only; walk1) | (leave1; (try dsimp only)) | fail "no step")))
    (rename Fr _ _ _ _ => F9); (rename News _ _ _ _ => N9); (rename IsRange _ _ _ _ _ _ _ _ => rg)
    refine my_range (n := 24) (fun j m' led' => (∃ us' ks' n', (lf, W.listOf us'.toArray n') ∈ led' ∧ IntsAre us' ks' ∧ us'.length ≤ 24 * i + j) ∧ (∀ q ∈ off [lf] (own ++ led1), q ∈ led') ∧ ∃ x tx u, m' = map2 "turn" "whole" u (some (.int x tx)) _) (by exact rfl) rg (by decide) (by rfl) F9 N9
      ⟨⟨us, ks, n, ?_, hks, by omega⟩, fun q hq => ?_, _, _, _, map2_0 rfl⟩ ?_ ?_
    · first | exact .head _ | exact .tail _ (.head _)
    · first | exact .tail _ hq | exact .tail _ (.tail _ hq)
    · intro j tj m₂ led2 h2 tk2 own2 I2 o2 hj hJ1 hIo2 hown2 hnI2 F10 N10
      (try k_fold)
      obtain ⟨⟨us', ks', n', hus', hks', hle'⟩, hsub', x, tx, u, rfl⟩ := hJ1
      have hlfI2 := hnI2 _ hus'
      have hoff2 := off_own [lf] (own2 ++ led2)
      have N11 := News.sub (led' := (lf, W.listOf us'.toArray n') :: off [lf] (own2 ++ led2)) N10 (by
        intro q hq
        rcases List.mem_cons.mp hq with rfl | hq
        · exact List.mem_append_right _ hus'
        · exact (mem_off.mp hq).1)
      clear N10 N9 F9
      (repeat' ((fail_if_success first | (with_reducible first | refine st_for ?_ | refine st_iter ?_ | refine st_rev ?_) | k_data); (first | (k_unfold; (try dsimp only)) | (k_end; kc_close) | (with_reducible show FPost _ _ _ _ _ _ _ _ _; dsimp only [FPost]) | walk1 | (dsimp only; walk1) | (leave1; (try dsimp only)) | fail "no step")))
      all_goals ((rename News _ _ _ _ => N8); (rename Fr _ _ _ _ => F12); (try simp only [List.push_toArray] at N8))
      all_goals first
        | (refine fend F12 N8 (fun q hq => .tail _ (mem_off.mpr ⟨List.mem_append_left _ hq, fun e => hlfI2 ((List.mem_singleton.mp e).symm.trans (hown2 q hq))⟩)) ⟨⟨_, _, _, off1 (.head _) hlfI2, PyProof.Rows.IntsAre.append hks' (.cons _ _ .nil), ?_⟩, fun q hq => ?_, _, _, _, map2_turn (by decide)⟩
           · simp only [List.length_append, List.length_cons, List.length_nil]; omega
           · exact off1 (.tail _ (off1 (List.mem_append_right _ (hsub' q hq)) (fun e => (mem_off.mp hq).2 (List.mem_singleton.mpr e)))) (fun e => hnI2 _ (hsub' q hq) e))
        | (refine fend F12 N8 (fun q hq => ?_) ⟨⟨_, _, _, off1 (.head _) (fun e => hnI _ hus e), PyProof.Rows.IntsAre.append hks' (.cons _ _ .nil), ?_⟩, fun q hq => ?_, _, _, _, map3_of fun y h1 h2 h3 => ?_⟩
           · have e1 := hlo q hq
             exact .tail _ (off1 (List.mem_append_right _ (hsub' q (off1 (List.mem_append_left _ hq) e1))) e1)
           · simp only [List.length_append, List.length_cons, List.length_nil]; omega
           · have e1 : @Ne Nat q.1 lf := Nat.ne_of_lt (x1 q hq)
             exact off1 (.tail _ (off1 (List.mem_append_right _ (hsub' q (off1 (List.mem_append_right _ (hsub q hq)) e1))) e1)) (fun e => hnI _ (hsub q hq) e)
           · simp [map2, map3, h1, h2, h3])
    · intro m₂ led2 h2 tk2 hJ1 F10 N10
      (try dsimp only)
      (try k_fold)
      obtain ⟨⟨us', ks', n', hus', hks', hle'⟩, hsub', x, tx, u, rfl⟩ := hJ1
      (repeat' ((fail_if_success first | (with_reducible first | refine st_for ?_ | refine st_iter ?_ | refine st_rev ?_) | k_data); (first | (k_unfold; (try dsimp only)) | (k_end; kc_close) | (with_reducible show FPost _ _ _ _ _ _ _ _ _; dsimp only [FPost]) | walk1 | (dsimp only; walk1) | (leave1; (try dsimp only)) | fail "no step")))
      refine fend F10 N10 (fun q hq => hsub' q (off1 (List.mem_append_left _ hq) (hlo q hq))) ⟨⟨_, _, _, off1 hus' (fun e => hnI _ hus e), hks', by omega⟩, fun q hq => ?_, _, _, _, map3_of fun y h1 h2 h3 => ?_⟩
      · exact off1 (hsub' q (off1 (List.mem_append_right _ (hsub q hq)) (Nat.ne_of_lt (x1 q hq)))) (fun e => hnI _ (hsub q hq) e)
      · simp [map2, map3, h1, h2, h3]
  · intro m₁ led1 h tk hJ0 F6 N6
    (try dsimp only)
    (try k_fold)
    obtain ⟨⟨us, ks, n, hus, hks, hle⟩, hsub, u1, u2, u3, rfl⟩ := hJ0
    have hws : ws.length ≤ 30 := by rw [hI.length, hC]; omega
    have N7 := News.add1 N6 hus
    have hkl := hks.length
    clear N6 F5 N5
    (repeat' ((fail_if_success first | (with_reducible first | refine st_for ?_ | refine st_iter ?_ | refine st_rev ?_) | k_data); (first | (k_unfold; (try dsimp only)) | (k_end; kc_close) | (with_reducible show FPost _ _ _ _ _ _ _ _ _; dsimp only [FPost]) | walk1 | (dsimp only; walk1) | (leave1; (try dsimp only)) | fail "no step")))
    (rename News _ _ _ _ => N8); (rename Fr _ _ _ _ => F8); (rename IntsAre _ _ => i9)
    have q9 := PyProof.Rows.IntsAre.length i9
    k_dflt (refine rev_led F8 N8 (by k_upd) (by simp only [PySem.sizeLine_eq, List.length_take] at *; omega) ?_)
    intro h9 F9 N9
    (try dsimp only)
    (repeat' ((fail_if_success first | (with_reducible first | refine st_for ?_ | refine st_iter ?_ | refine st_rev ?_) | k_data); (first | (k_unfold; (try dsimp only)) | (k_end; kc_close) | (with_reducible show FPost _ _ _ _ _ _ _ _ _; dsimp only [FPost]) | walk1 | (dsimp only; walk1) | (leave1; (try dsimp only)) | fail "no step")))
    (rename News _ _ _ _ => N8); (rename Fr _ _ _ _ => F8); (rename IntsAre _ _ => i9)
    refine hret _ _ _ _ ⟨_, _, _, 0, rfl, .head _, i9.reverse, ?_, fun q hq => .tail _ (.tail _ (hsub q hq))⟩ F8 N8
    rw [List.length_reverse, i9.length, List.length_take]
    omega
end
theorem sok_nil {w : World} {S : Sto} (h : S.ro.IsDictOf (intKind PySem.Challenge.rw_rr0014_01.row.prog w) []) (lo : (S.rd == sysModules) = false) (e : S.recs = [] := by rfl) : SOk w S where
  ro := by have e2 : S.kvs = [] := by rw [Sto.kvs, e]; rfl
           rw [e2]; exact h
  key := fun i r hr => by rw [e] at hr; simp at hr
  len := by rw [e]; exact Nat.zero_le _
  lo := lo
theorem recsIn_nil {w : World} {led : List (Addr × Obj)} : RecsIn w led [] :=
  ⟨fun _ h => absurd h (by simp), fun _ h => absurd h (by simp), fun _ h => absurd h (by simp), fun _ h => absurd h (by simp), fun _ h => absurd h (by simp)⟩
set_option maxRecDepth 100000 in
set_option maxHeartbeats 8000000 in
theorem store_new (w : World) (led : List (Addr × Obj)) :
    Spec w 165 [] 40 led (fun v led' => ∃ S, v = .ref S.a ∧ Full w led' S ∧ S.recs = [] ∧ S.gen = 0 ∧ (∀ q ∈ led, q ∈ led') ∧ ∀ q ∈ led, @LT.lt Nat _ q.1 S.a ∧ @LT.lt Nat _ q.1 S.d ∧ @LT.lt Nat _ q.1 S.rd) := by
  unfold Spec
  k_fill
  intro pp loose mean mg mb dp un gd cn cs a ccd cl outer A₀ base h₀ L m s Q E B F0 X N T hk hd hu hret
  k_dflt (refine' call_cls ?k1 ?k2 ?k3 ?k4 ?k5 ?k6 ?_)
  (case k1 => k_asm)
  (case k2 => k_asm)
  (case k3 => k_asm)
  (case k4 => k_dflt k_is)
  (case k5 => k_dflt k_is)
  (case k6 => k_dflt k_is)
  intro xn dn hn F' N' l1 l2
  have lt0 := l1
  have lt2 : @LT.lt Nat _ dn xn := l2
  have hoff := ownOff_lt (d := dn) lt0
  clear l1
  (try k_sweep)
  k_dflt ktr_enter
  (repeat' ((fail_if_success k_data); (first | (k_unfold; (try dsimp only)) | (k_end; kc_close) | walk1 | (dsimp only; walk1) | (leave1; (try dsimp only)) | fail "no step")))
  (rename News _ _ _ _ => N8); (rename Fr _ _ _ _ => F8); (rename (_ == sysModules) = false => lo9); (rename Obj.IsDictOf (intKind _ _) _ _ => hi9); (rename _ ∧ _ ∧ AllLt _ _ => l9)
  refine hret _ _ _ _ ⟨⟨_, _, _, _, 0, [], _, _, _, _, _⟩, rfl, ⟨⟨.tail _ (.head _), .tail _ (.tail _ (.head _)), .head _⟩, sok_nil hi9 lo9, recsIn_nil⟩, rfl, rfl,
    fun q hq => .tail _ (.tail _ (.tail _ hq)), fun q hq => ⟨Nat.lt_trans (lt0 q hq) lt2, lt0 q hq, allLt_out l9.2.2 q hq⟩⟩ F8 N8

set_option maxRecDepth 100000 in
set_option maxHeartbeats 8000000 in
theorem proc_new (w : World) (led : List (Addr × Obj)) (f : Int) (tf ts : Tok) :
    Spec w 74 [.int f tf, .str "dynamic" ts] 40 led (fun v led' => ∃ p, v = .ref p.a ∧ PrcIn w led' p ∧ p.functor = f ∧ p.first = -1 ∧ p.last = -1 ∧ (∀ q ∈ led, q ∈ led') ∧ ∀ q ∈ led, @LT.lt Nat _ q.1 p.a ∧ @LT.lt Nat _ q.1 p.d) := by
  unfold Spec
  k_fill
  intro pp loose mean mg mb dp un gd cn cs a ccd cl outer A₀ base h₀ L m s Q E B F0 X N T hk hd hu hret
  k_dflt (refine' call_cls ?k1 ?k2 ?k3 ?k4 ?k5 ?k6 ?_)
  (case k1 => k_asm)
  (case k2 => k_asm)
  (case k3 => k_asm)
  (case k4 => k_dflt k_is)
  (case k5 => k_dflt k_is)
  (case k6 => k_dflt k_is)
  intro xn dn hn F' N' l1 l2
  have lt0 := l1
  have lt2 : @LT.lt Nat _ dn xn := l2
  have hoff := ownOff_lt (d := dn) lt0
  clear l1
  (try k_sweep)
  k_dflt ktr_enter
  (repeat' ((fail_if_success k_data); (first | (k_unfold; (try dsimp only)) | (k_end; kc_close) | walk1 | (dsimp only; walk1) | (leave1; (try dsimp only)) | fail "no step")))
  (rename News _ _ _ _ => N8); (rename Fr _ _ _ _ => F8)
  refine hret _ _ _ _ ⟨⟨_, _, f, _, _, -1, -1, _, _, _, _, _, _, _, _, _, _, _, _, _, _, _⟩, rfl, ⟨.tail _ (.tail _ (.head _)), .tail _ (.tail _ (.tail _ (.head _)))⟩, rfl, rfl, rfl, fun q hq => .tail _ (.tail _ (.tail _ (.tail _ hq))), fun q hq => ⟨Nat.lt_trans (lt0 q hq) lt2, lt0 q hq⟩⟩ F8 N8
structure Side where
  pj : Prc
  A : Sto
  q : Prc
  C : List (Nat × Nat)
  T : List (Nat × Nat)

def Twin (times : List (Int × Int)) (r r' : Rec) : Prop :=
  r.tm = r'.tm ∧ r.ik = r'.ik ∧ r.entry = r'.entry ∧ r.functor = r'.functor ∧ (r.death < 0 ↔ r'.death < 0) ∧ ∀ t ∈ times, r.vis t.1 = r'.vis t.2

structure PS (J : Sto) (X : Side) (times : List (Int × Int)) : Prop where
  fct : X.pj.functor = X.q.functor
  lJ : Linked J.recs X.pj.first (X.C.map (·.1))
  laJ : LastIs X.pj.last (X.C.map (·.1))
  lA : Linked X.A.recs X.q.first (X.C.map (·.2))
  laA : LastIs X.q.last (X.C.map (·.2))
  nd : (X.C.map (·.2)).Nodup
  twin : ∀ c ∈ X.C, ∃ r r' : Rec, J.recs[c.1]? = some r ∧ X.A.recs[c.2]? = some r' ∧ Twin times r r'
  bnd : ∀ r ∈ X.A.recs, r.birth ≤ X.A.gen ∧ r.death ≤ X.A.gen
  tim : ∀ t ∈ times, t.1 ≤ J.gen ∧ t.2 ≤ X.A.gen
  sub : ∀ x ∈ X.T, x ∈ X.C
  g0 : 0 ≤ X.A.gen
structure PInv (J : Sto) (X Y : Side) (tX tY : List (Int × Int)) : Prop where
  x : PS J X tX
  y : PS J Y tY
  nd : (X.C.map (·.1) ++ Y.C.map (·.1)).Nodup
  gen : J.gen = X.A.gen + Y.A.gen
  bJ : ∀ r ∈ J.recs, r.birth ≤ J.gen ∧ r.death ≤ J.gen

theorem PInv.swap {J : Sto} {X Y : Side} {tX tY : List (Int × Int)} (h : PInv J X Y tX tY) : PInv J Y X tY tX :=
  ⟨h.y, h.x, (List.perm_append_comm.nodup_iff).mp h.nd, by rw [h.gen, Int.add_comm], h.bJ⟩

theorem core_eq {r r' : Rec} (h : r'.core = r.core) : r'.functor = r.functor ∧ r'.birth = r.birth ∧ r'.death = r.death ∧ r'.entry = r.entry ∧ r'.tm = r.tm ∧ r'.ik = r.ik ∧ r'.d = r.d ∧ r'.key = r.key := by
  have h1 := congrArg Rec.functor h
  have h2 := congrArg Rec.birth h
  have h3 := congrArg Rec.death h
  have h4 := congrArg Rec.entry h
  have h5 := congrArg Rec.tm h
  have h6 := congrArg Rec.ik h
  have h7 := congrArg Rec.d h
  have h8 := congrArg Rec.key h
  exact ⟨h1, h2, h3, h4, h5, h6, h7, h8⟩
theorem Twin.core {times : List (Int × Int)} {r r' s s' : Rec} (h : Twin times r r') (e : s.core = r.core) (e' : s'.core = r'.core) : Twin times s s' := by
  obtain ⟨a1, a2, a3, a4, a5, a6, _⟩ := core_eq e
  obtain ⟨b1, b2, b3, b4, b5, b6, _⟩ := core_eq e'
  obtain ⟨h1, h2, h3, h4, h5, h6⟩ := h
  refine ⟨by rw [a5, b5, h1], by rw [a6, b6, h2], by rw [a4, b4, h3], by rw [a1, b1, h4], by rw [a3, b3]; exact h5, fun t ht => ?_⟩
  have := h6 t ht
  unfold Rec.vis at this ⊢
  rw [a2, a3, b2, b3]
  exact this

/-- what an entering did, without the heap -/
structure PEnter (S : Sto) (p : Prc) (S' : Sto) (p' : Prc) (front : Bool) (tm ik : Dat) (entry : Int) (C : List Nat) : Prop where
  gen : S'.gen = S.gen + 1
  len : S'.recs.length = S.recs.length + 1
  old : ∀ (k : Nat) (r : Rec), S.recs[k]? = some r → ∃ r', S'.recs[k]? = some r' ∧ r'.core = r.core
  new : ∃ r : Rec, S'.recs[S.recs.length]? = some r ∧ r.functor = p.functor ∧ r.birth = S.gen + 1 ∧ r.death = -1 ∧ r.entry = entry ∧ r.tm = tm ∧ r.ik = ik
  pf : p'.functor = p.functor
  link : Linked S'.recs p'.first (if front = true then S.recs.length :: C else C ++ [S.recs.length])
  last : LastIs p'.last (if front = true then S.recs.length :: C else C ++ [S.recs.length])
  other : ∀ f C2, Linked S.recs f C2 → (∀ k ∈ C2, k ∉ C) → Linked S'.recs f C2
theorem EnterOut.pure {w : World} {led led' : List (Addr × Obj)} {S S' : Sto} {p p' : Prc} {front : Bool} {tm ik : Dat} {entry : Int} {C : List Nat} (o : EnterOut w led led' S p S' p' front tm ik entry C) : PEnter S p S' p' front tm ik entry C :=
  ⟨o.gen, o.len, o.old, by obtain ⟨r, h1, h2, h3, h4, h5, h6, h7, _⟩ := o.new; exact ⟨r, h1, h2, h3, h4, h5, h6, h7⟩, o.pf, o.link, o.last, o.other⟩

theorem PEnter.back {S S' : Sto} {p p' : Prc} {front : Bool} {tm ik : Dat} {entry : Int} {C : List Nat} (o : PEnter S p S' p' front tm ik entry C) : ∀ r ∈ S'.recs, (∃ r₀ ∈ S.recs, r.core = r₀.core) ∨ (r.birth = S.gen + 1 ∧ r.death = -1) := by
  intro r hr
  obtain ⟨j, hj, ej⟩ := List.mem_iff_getElem.mp hr
  have hj2 : S'.recs[j]? = some r := by rw [← ej]; exact List.getElem?_eq_getElem hj
  rw [o.len] at hj
  by_cases h : j = S.recs.length
  · subst h
    obtain ⟨r', h1, _, h2, h3, _⟩ := o.new
    rw [h1] at hj2
    have e := Option.some.inj hj2
    subst e
    exact .inr ⟨h2, h3⟩
  · have h1 : S.recs[j]? = some (S.recs[j]'(by omega)) := List.getElem?_eq_getElem _
    obtain ⟨r', h2, h3⟩ := o.old j _ h1
    rw [hj2] at h2
    have e := Option.some.inj h2
    subst e
    exact .inl ⟨_, List.mem_of_getElem? h1, h3⟩

noncomputable def ins (front : Bool) (C : List (Nat × Nat)) (c : Nat × Nat) : List (Nat × Nat) := if front = true then c :: C else C ++ [c]
theorem ins_map (front : Bool) (C : List (Nat × Nat)) (c : Nat × Nat) (f : Nat × Nat → Nat) : (ins front C c).map f = if front = true then f c :: C.map f else C.map f ++ [f c] := by
  unfold ins; split <;> simp
theorem mem_ins {front : Bool} {C : List (Nat × Nat)} {c x : Nat × Nat} : x ∈ ins front C c ↔ x ∈ C ∨ x = c := by
  unfold ins; split
  · rw [List.mem_cons]; exact Or.comm
  · simp
theorem nodup_ins {front : Bool} {l : List Nat} {n : Nat} (h : l.Nodup) (hn : n ∉ l) : (if front = true then n :: l else l ++ [n]).Nodup := by
  split
  · exact List.nodup_cons.mpr ⟨hn, h⟩
  · rw [List.nodup_append]
    exact ⟨h, by simp, fun a ha b hb e => hn (by rw [List.mem_singleton.mp hb] at e; exact e ▸ ha)⟩

theorem nle1 {a t : Int} (h : t ≤ a) : ¬ a + 1 ≤ t := by omega
theorem neg1 {a : Int} (h : 0 ≤ a) : -1 ≤ a + 1 := by omega
theorem pinv_enter {J J' A' : Sto} {X Y : Side} {pj' q' : Prc} {tX tY : List (Int × Int)} {front : Bool} {tm ik : Dat} {entry : Int} (h : PInv J X Y tX tY)
    (oJ : PEnter J X.pj J' pj' front tm ik entry (X.C.map (·.1))) (oA : PEnter X.A X.q A' q' front tm ik entry (X.C.map (·.2))) :
    PInv J' ⟨pj', A', q', ins front X.C (J.recs.length, X.A.recs.length), X.T ++ [(J.recs.length, X.A.recs.length)]⟩ Y tX tY := by
  have hJlt : ∀ k ∈ X.C.map (·.1), k < J.recs.length := linked_lt h.x.lJ
  have hAlt : ∀ k ∈ X.C.map (·.2), k < X.A.recs.length := linked_lt h.x.lA
  have hYlt : ∀ k ∈ Y.C.map (·.1), k < J.recs.length := linked_lt h.y.lJ
  have hdis : ∀ k ∈ Y.C.map (·.1), k ∉ X.C.map (·.1) := fun k hk hk2 => (List.nodup_append.mp h.nd).2.2 k hk2 k hk rfl
  have g0x := h.x.g0
  have g0y := h.y.g0
  have hgen := h.gen
  refine ⟨⟨?_, ?_, ?_, ?_, ?_, ?_, ?_, ?_, ?_, ?_, ?_⟩, ⟨h.y.fct, oJ.other _ _ h.y.lJ hdis, h.y.laJ, h.y.lA, h.y.laA, h.y.nd, ?_, h.y.bnd, ?_, h.y.sub, h.y.g0⟩, ?_, ?_, ?_⟩
  · show pj'.functor = q'.functor
    rw [oJ.pf, oA.pf, h.x.fct]
  · show Linked J'.recs pj'.first ((ins front X.C _).map _)
    rw [ins_map]; exact oJ.link
  · show LastIs pj'.last ((ins front X.C _).map _)
    rw [ins_map]; exact oJ.last
  · show Linked A'.recs q'.first ((ins front X.C _).map _)
    rw [ins_map]; exact oA.link
  · show LastIs q'.last ((ins front X.C _).map _)
    rw [ins_map]; exact oA.last
  · show ((ins front X.C _).map _).Nodup
    rw [ins_map]
    exact nodup_ins h.x.nd fun hm => Nat.lt_irrefl _ (hAlt _ hm)
  · intro c hc
    rcases mem_ins.mp hc with hc | rfl
    · obtain ⟨r, r', h1, h2, h3⟩ := h.x.twin c hc
      obtain ⟨s, a1, a2⟩ := oJ.old _ _ h1
      obtain ⟨s', b1, b2⟩ := oA.old _ _ h2
      exact ⟨s, s', a1, b1, h3.core a2 b2⟩
    · obtain ⟨r, a1, a2, a3, a4, a5, a6, a7⟩ := oJ.new
      obtain ⟨r', b1, b2, b3, b4, b5, b6, b7⟩ := oA.new
      refine ⟨r, r', a1, b1, by rw [a6, b6], by rw [a7, b7], by rw [a5, b5], by rw [a2, b2, h.x.fct], by rw [a4, b4], fun t ht => ?_⟩
      have := h.x.tim t ht
      unfold Rec.vis
      rw [a3, b3, decide_eq_false (nle1 this.1 : ¬ J.gen + 1 ≤ t.1), decide_eq_false (nle1 this.2 : ¬ X.A.gen + 1 ≤ t.2)]
      rfl
  · intro r hr
    show r.birth ≤ A'.gen ∧ r.death ≤ A'.gen
    rw [oA.gen]
    have hgA : ∀ r ∈ X.A.recs, r.birth ≤ X.A.gen ∧ r.death ≤ X.A.gen := h.x.bnd
    rcases oA.back r hr with ⟨r₀, h1, h2⟩ | ⟨h1, h2⟩
    · obtain ⟨_, b2, b3, _⟩ := core_eq h2
      have := hgA r₀ h1
      rw [b2, b3]
      exact ⟨Int.le_add_one this.1, Int.le_add_one this.2⟩
    · exact ⟨Int.le_of_eq h1, h2 ▸ neg1 g0x⟩
  · intro t ht
    have := h.x.tim t ht
    show t.1 ≤ J'.gen ∧ t.2 ≤ A'.gen
    rw [oJ.gen, oA.gen]
    exact ⟨Int.le_add_one this.1, Int.le_add_one this.2⟩
  · intro x hx
    rcases List.mem_append.mp hx with hx | hx
    · exact mem_ins.mpr (.inl (h.x.sub x hx))
    · exact mem_ins.mpr (.inr (List.mem_singleton.mp hx))
  · show 0 ≤ A'.gen
    rw [oA.gen]; exact Int.le_add_one g0x
  · intro c hc
    obtain ⟨r, r', h1, h2, h3⟩ := h.y.twin c hc
    obtain ⟨s, a1, a2⟩ := oJ.old _ _ h1
    exact ⟨s, r', a1, h2, h3.core a2 rfl⟩
  · intro t ht
    have := h.y.tim t ht
    rw [oJ.gen]
    exact ⟨Int.le_add_one this.1, this.2⟩
  · show ((ins front X.C _).map _ ++ _).Nodup
    rw [ins_map]
    rw [List.nodup_append]
    have hnd := List.nodup_append.mp h.nd
    refine ⟨nodup_ins hnd.1 fun hm => Nat.lt_irrefl _ (hJlt _ hm), hnd.2.1, fun a ha b hb e => ?_⟩
    subst e
    have ha' : a = J.recs.length ∨ a ∈ X.C.map (·.1) := by
      split at ha
      · exact List.mem_cons.mp ha
      · exact (List.mem_append.mp ha).symm.imp List.mem_singleton.mp id
    rcases ha' with rfl | ha'
    · exact Nat.lt_irrefl _ (hYlt _ hb)
    · exact hdis _ hb ha'
  · show J'.gen = A'.gen + Y.A.gen
    rw [oJ.gen, oA.gen, h.gen]; exact Int.add_right_comm _ _ _
  · intro r hr
    rw [oJ.gen]
    rcases oJ.back r hr with ⟨r₀, h1, h2⟩ | ⟨h1, h2⟩
    · obtain ⟨_, b2, b3, _⟩ := core_eq h2
      have := h.bJ r₀ h1
      rw [b2, b3]
      exact ⟨Int.le_add_one this.1, Int.le_add_one this.2⟩
    · exact ⟨Int.le_of_eq h1, h2 ▸ neg1 (by rw [h.gen]; exact Int.add_nonneg g0x g0y)⟩

structure PKill (S S' : Sto) (V : List Nat) (G : Int) : Prop where
  gen : S'.gen = G
  len : S'.recs.length = S.recs.length
  recs : ∀ (k : Nat) (r : Rec), S.recs[k]? = some r → ∃ r', S'.recs[k]? = some r' ∧ ((k ∈ V ∧ ∃ t, r' = r.withDeath G t) ∨ (k ∉ V ∧ r' = r))
theorem KillOut.pure {w : World} {led led' : List (Addr × Obj)} {S S' : Sto} {V : List Nat} {G : Int} (o : KillOut w led led' S S' V G) : PKill S S' V G := ⟨o.gen, o.len, o.recs⟩
theorem PKill.linked {S S' : Sto} {V : List Nat} {G : Int} (o : PKill S S' V G) {f : Int} {C : List Nat} (h : Linked S.recs f C) : Linked S'.recs f C :=
  linked_congr (fun k _ r hr => by
    obtain ⟨r', h1, h2⟩ := o.recs k r hr
    refine ⟨r', h1, ?_⟩
    rcases h2 with ⟨_, t, rfl⟩ | ⟨_, rfl⟩ <;> rfl) h
theorem PKill.bnd {S S' : Sto} {V : List Nat} {G : Int} (o : PKill S S' V G) (hG : S.gen ≤ G) (h : ∀ r ∈ S.recs, r.birth ≤ S.gen ∧ r.death ≤ S.gen) : ∀ r ∈ S'.recs, r.birth ≤ S'.gen ∧ r.death ≤ S'.gen := by
  intro r hr
  rw [o.gen]
  obtain ⟨j, hj, ej⟩ := List.mem_iff_getElem.mp hr
  have hj2 : S'.recs[j]? = some r := by rw [← ej]; exact List.getElem?_eq_getElem hj
  rw [o.len] at hj
  have h1 : S.recs[j]? = some (S.recs[j]'hj) := List.getElem?_eq_getElem _
  have hb := h _ (List.mem_of_getElem? h1)
  obtain ⟨r', h2, h3⟩ := o.recs j _ h1
  rw [hj2] at h2
  have e := Option.some.inj h2
  subst e
  rcases h3 with ⟨_, t, e⟩ | ⟨_, e⟩
  · rw [e]
    show (S.recs[j]'hj).birth ≤ G ∧ G ≤ G
    omega
  · rw [e]; omega

theorem pinv_kill {J J' A' : Sto} {X Y : Side} {tX tY : List (Int × Int)} {VJ VA : List Nat} {δ : Int} (h : PInv J X Y tX tY) (hδ : (δ = 0 ∧ VJ = [] ∧ VA = []) ∨ δ = 1)
    (oJ : PKill J J' VJ (J.gen + δ)) (oA : PKill X.A A' VA (X.A.gen + δ))
    (hiff : ∀ c ∈ X.C, (c.1 ∈ VJ ↔ c.2 ∈ VA)) (hlow : ∀ c ∈ X.C, c.1 ∈ VJ → ∀ r, J.recs[c.1]? = some r → r.death < 0) (hVJ : ∀ k ∈ VJ, k ∈ X.C.map (·.1)) :
    PInv J' ⟨X.pj, A', X.q, X.C, X.T⟩ Y tX tY := by
  have g0x := h.x.g0
  have g0y := h.y.g0
  have hgen := h.gen
  have hδ0 : 0 ≤ δ := by rcases hδ with ⟨h1, _⟩ | h1 <;> omega
  have hJ0 : 0 ≤ J.gen + δ := Int.add_nonneg (hgen ▸ Int.add_nonneg g0x g0y) hδ0
  have hdis : ∀ k ∈ Y.C.map (·.1), k ∉ VJ := fun k hk hk2 => (List.nodup_append.mp h.nd).2.2 k (hVJ k hk2) k hk rfl
  refine ⟨⟨h.x.fct, oJ.linked h.x.lJ, h.x.laJ, oA.linked h.x.lA, h.x.laA, h.x.nd, ?_, oA.bnd (Int.le_add_of_nonneg_right hδ0) h.x.bnd, ?_, h.x.sub, ?_⟩, ⟨h.y.fct, oJ.linked h.y.lJ, h.y.laJ, h.y.lA, h.y.laA, h.y.nd, ?_, h.y.bnd, ?_, h.y.sub, h.y.g0⟩, h.nd, ?_, oJ.bnd (Int.le_add_of_nonneg_right hδ0) h.bJ⟩
  · intro c hc
    obtain ⟨r, s, h1, h2, h3⟩ := h.x.twin c hc
    obtain ⟨r', a1, a2⟩ := oJ.recs _ _ h1
    obtain ⟨s', b1, b2⟩ := oA.recs _ _ h2
    refine ⟨r', s', a1, b1, ?_⟩
    rcases a2 with ⟨a2, t, rfl⟩ | ⟨a2, rfl⟩
    · rcases b2 with ⟨b2, t', rfl⟩ | ⟨b2, rfl⟩
      · have hl := hlow c hc a2 r h1
        have hδ1 : δ = 1 := by
          rcases hδ with ⟨_, e, _⟩ | e
          · rw [e] at a2; exact absurd a2 (by simp)
          · exact e
        obtain ⟨d1, d2, d3, d4, d5, d6⟩ := h3
        refine ⟨d1, d2, d3, d4, ?_, fun t ht => ?_⟩
        · show J.gen + δ < 0 ↔ X.A.gen + δ < 0
          exact ⟨fun q => absurd q (Int.not_lt.mpr hJ0), fun q => absurd q (Int.not_lt.mpr (Int.add_nonneg g0x hδ0))⟩
        · have ht2 := h.x.tim t ht
          have hv := d6 t ht
          have hl2 := d5.mp hl
          unfold Rec.vis at hv ⊢
          rw [decide_eq_true hl, decide_eq_true hl2] at hv
          show (decide (r.birth ≤ t.1) && (decide (J.gen + δ < 0) || decide (t.1 < J.gen + δ))) = (decide (s.birth ≤ t.2) && (decide (X.A.gen + δ < 0) || decide (t.2 < X.A.gen + δ)))
          rw [decide_eq_true (hδ1 ▸ Int.lt_add_one_of_le ht2.1 : t.1 < J.gen + δ), decide_eq_true (hδ1 ▸ Int.lt_add_one_of_le ht2.2 : t.2 < X.A.gen + δ)]
          simpa using hv
      · exact absurd ((hiff c hc).mp a2) b2
    · rcases b2 with ⟨b2, t', rfl⟩ | ⟨b2, rfl⟩
      · exact absurd ((hiff c hc).mpr b2) a2
      · exact h3
  · intro t ht
    have := h.x.tim t ht
    show t.1 ≤ J'.gen ∧ t.2 ≤ A'.gen
    rw [oJ.gen, oA.gen]; exact ⟨Int.le_trans this.1 (Int.le_add_of_nonneg_right hδ0), Int.le_trans this.2 (Int.le_add_of_nonneg_right hδ0)⟩
  · show 0 ≤ A'.gen
    rw [oA.gen]; exact Int.add_nonneg g0x hδ0
  · intro c hc
    obtain ⟨r, s, h1, h2, h3⟩ := h.y.twin c hc
    obtain ⟨r', a1, a2⟩ := oJ.recs _ _ h1
    rcases a2 with ⟨a2, _⟩ | ⟨_, rfl⟩
    · exact absurd a2 (hdis _ (List.mem_map_of_mem hc))
    · exact ⟨r', s, a1, h2, h3⟩
  · intro t ht
    have := h.y.tim t ht
    rw [oJ.gen]; exact ⟨Int.le_trans this.1 (Int.le_add_of_nonneg_right hδ0), this.2⟩
  · show J'.gen = A'.gen + Y.A.gen
    rw [oJ.gen, oA.gen, hgen]; exact Int.add_right_comm _ _ _

theorem mem_seen {recs : List Rec} {g : Int} {C : List Nat} {k : Nat} {r : Rec} (hr : recs[k]? = some r) : k ∈ seen recs g C ↔ k ∈ C ∧ r.vis g = true := by
  simp [seen, List.mem_filter, hr]
theorem vis_now {r : Rec} {g : Int} (h : r.birth ≤ g ∧ r.death ≤ g) : r.vis g = true ↔ r.death < 0 := by
  unfold Rec.vis
  rw [decide_eq_true h.1, decide_eq_false (by omega : ¬ g < r.death)]
  simp

theorem seen_iff {J : Sto} {X : Side} {times : List (Int × Int)} (h : PS J X times) (bJ : ∀ r ∈ J.recs, r.birth ≤ J.gen ∧ r.death ≤ J.gen) : ∀ c ∈ X.C, (c.1 ∈ seen J.recs J.gen (X.C.map (·.1)) ↔ c.2 ∈ seen X.A.recs X.A.gen (X.C.map (·.2))) := by
  intro c hc
  obtain ⟨r, s, h1, h2, h3⟩ := h.twin c hc
  rw [mem_seen h1, mem_seen h2, vis_now (bJ r (List.mem_of_getElem? h1)), vis_now (h.bnd s (List.mem_of_getElem? h2)), h3.2.2.2.2.1]
  simp only [List.mem_map_of_mem hc, true_and]
theorem seen_nil_iff {J : Sto} {X : Side} {times : List (Int × Int)} (h : PS J X times) (bJ : ∀ r ∈ J.recs, r.birth ≤ J.gen ∧ r.death ≤ J.gen) : seen J.recs J.gen (X.C.map (·.1)) = [] ↔ seen X.A.recs X.A.gen (X.C.map (·.2)) = [] := by
  have hs := seen_iff h bJ
  constructor
  · intro e
    refine List.eq_nil_iff_forall_not_mem.mpr fun k hk => ?_
    obtain ⟨c, hc, rfl⟩ := List.mem_map.mp (seen_sub k hk)
    have := (hs c hc).mpr hk
    rw [e] at this
    exact absurd this (by simp)
  · intro e
    refine List.eq_nil_iff_forall_not_mem.mpr fun k hk => ?_
    obtain ⟨c, hc, rfl⟩ := List.mem_map.mp (seen_sub k hk)
    have := (hs c hc).mp hk
    rw [e] at this
    exact absurd this (by simp)

theorem pinv_killall {J J' A' : Sto} {X Y : Side} {tX tY : List (Int × Int)} (h : PInv J X Y tX tY)
    (oJ : PKill J J' (seen J.recs J.gen (X.C.map (·.1))) (if seen J.recs J.gen (X.C.map (·.1)) = [] then J.gen else J.gen + 1))
    (oA : PKill X.A A' (seen X.A.recs X.A.gen (X.C.map (·.2))) (if seen X.A.recs X.A.gen (X.C.map (·.2)) = [] then X.A.gen else X.A.gen + 1)) :
    PInv J' ⟨X.pj, A', X.q, X.C, X.T⟩ Y tX tY := by
  have hn := seen_nil_iff h.x h.bJ
  have hi := seen_iff h.x h.bJ
  have hlow : ∀ c ∈ X.C, c.1 ∈ seen J.recs J.gen (X.C.map (·.1)) → ∀ r, J.recs[c.1]? = some r → r.death < 0 := fun c _ hs r hr => (vis_now (h.bJ r (List.mem_of_getElem? hr))).mp ((mem_seen hr).mp hs).2
  by_cases e : seen J.recs J.gen (X.C.map (·.1)) = []
  · have e2 := hn.mp e
    rw [if_pos e] at oJ
    rw [if_pos e2] at oA
    exact pinv_kill h (δ := 0) (.inl ⟨rfl, e, e2⟩) (by simpa using oJ) (by simpa using oA) hi hlow fun k hk => seen_sub k hk
  · have e2 : ¬ seen X.A.recs X.A.gen (X.C.map (·.2)) = [] := fun e2 => e (hn.mpr e2)
    rw [if_neg e] at oJ
    rw [if_neg e2] at oA
    exact pinv_kill h (δ := 1) (.inr rfl) oJ oA hi hlow fun k hk => seen_sub k hk

theorem fst_inj {C : List (Nat × Nat)} (h : (C.map (·.1)).Nodup) {c d : Nat × Nat} (hc : c ∈ C) (hd : d ∈ C) (e : c.1 = d.1) : c = d := by
  obtain ⟨i, hi, ei⟩ := List.mem_iff_getElem.mp hc
  obtain ⟨j, hj, ej⟩ := List.mem_iff_getElem.mp hd
  have := (List.getElem_inj (h₀ := by simpa using hi) (h₁ := by simpa using hj) h).mp (by simp only [List.getElem_map, ei, ej, e])
  subst this
  rw [← ei, ← ej]
theorem snd_inj {C : List (Nat × Nat)} (h : (C.map (·.2)).Nodup) {c d : Nat × Nat} (hc : c ∈ C) (hd : d ∈ C) (e : c.2 = d.2) : c = d := by
  obtain ⟨i, hi, ei⟩ := List.mem_iff_getElem.mp hc
  obtain ⟨j, hj, ej⟩ := List.mem_iff_getElem.mp hd
  have := (List.getElem_inj (h₀ := by simpa using hi) (h₁ := by simpa using hj) h).mp (by simp only [List.getElem_map, ei, ej, e])
  subst this
  rw [← ei, ← ej]

theorem pinv_erase {J J' A' : Sto} {X Y : Side} {tX tY : List (Int × Int)} (h : PInv J X Y tX tY) {c₀ : Nat × Nat} (hc₀ : c₀ ∈ X.C) {r s : Rec} (hr : J.recs[c₀.1]? = some r) (hs : X.A.recs[c₀.2]? = some s)
    (oJ : PKill J J' (if r.death < 0 then [c₀.1] else []) (if r.death < 0 then J.gen + 1 else J.gen)) (oA : PKill X.A A' (if s.death < 0 then [c₀.2] else []) (if s.death < 0 then X.A.gen + 1 else X.A.gen)) :
    (decide (r.death < 0) = decide (s.death < 0)) ∧ PInv J' ⟨X.pj, A', X.q, X.C, X.T⟩ Y tX tY := by
  obtain ⟨r', s', h1, h2, h3⟩ := h.x.twin c₀ hc₀
  rw [hr] at h1
  rw [hs] at h2
  have e1 := Option.some.inj h1
  have e2 := Option.some.inj h2
  subst e1 e2
  have hi := h3.2.2.2.2.1
  have hnd := (List.nodup_append.mp h.nd).1
  by_cases hd : r.death < 0
  · have hd2 := hi.mp hd
    rw [if_pos hd, if_pos hd] at oJ
    rw [if_pos hd2, if_pos hd2] at oA
    refine ⟨by rw [decide_eq_true hd, decide_eq_true hd2], pinv_kill h (δ := 1) (.inr rfl) oJ oA (fun c hc => ?_) (fun c hc hm q hq => ?_) fun k hk => ?_⟩
    · rw [List.mem_singleton, List.mem_singleton]
      exact ⟨fun e => by rw [fst_inj hnd hc hc₀ e], fun e => by rw [snd_inj h.x.nd hc hc₀ e]⟩
    · rw [List.mem_singleton.mp hm, hr] at hq
      have e := Option.some.inj hq
      subst e
      exact hd
    · rw [List.mem_singleton.mp hk]; exact List.mem_map_of_mem hc₀
  · have hd2 : ¬ s.death < 0 := fun x => hd (hi.mpr x)
    rw [if_neg hd, if_neg hd] at oJ
    rw [if_neg hd2, if_neg hd2] at oA
    exact ⟨by rw [decide_eq_false hd, decide_eq_false hd2], pinv_kill h (δ := 0) (.inl ⟨rfl, rfl, rfl⟩) (by simpa using oJ) (by simpa using oA) (fun c _ => by simp) (fun c _ hm => absurd hm (by simp)) fun k hk => absurd hk (by simp)⟩

/-- a moment is noted -/
theorem ps_note {J : Sto} {X : Side} {times : List (Int × Int)} (h : PS J X times) (bJ : ∀ r ∈ J.recs, r.birth ≤ J.gen ∧ r.death ≤ J.gen) : PS J X (times ++ [(J.gen, X.A.gen)]) := by
  refine ⟨h.fct, h.lJ, h.laJ, h.lA, h.laA, h.nd, fun c hc => ?_, h.bnd, fun t ht => ?_, h.sub, h.g0⟩
  · obtain ⟨r, s, h1, h2, d1, d2, d3, d4, d5, d6⟩ := h.twin c hc
    refine ⟨r, s, h1, h2, d1, d2, d3, d4, d5, fun t ht => ?_⟩
    rcases List.mem_append.mp ht with ht | ht
    · exact d6 t ht
    · rw [List.mem_singleton.mp ht]
      have e1 := vis_now (bJ r (List.mem_of_getElem? h1))
      have e2 := vis_now (h.bnd s (List.mem_of_getElem? h2))
      show r.vis J.gen = s.vis X.A.gen
      rw [Bool.eq_iff_iff, e1, e2]; exact d5
  · rcases List.mem_append.mp ht with ht | ht
    · exact h.tim t ht
    · rw [List.mem_singleton.mp ht]; exact ⟨Int.le_refl _, Int.le_refl _⟩
theorem pinv_note {J : Sto} {X Y : Side} {tX tY : List (Int × Int)} (h : PInv J X Y tX tY) : PInv J X Y (tX ++ [(J.gen, X.A.gen)]) (tY ++ [(J.gen, Y.A.gen)]) := ⟨ps_note h.x h.bJ, ps_note h.y h.bJ, h.nd, h.gen, h.bJ⟩

theorem shown_twin {R R' : List Rec} {times : List (Int × Int)} {t : Int × Int} (ht : t ∈ times) : ∀ C : List (Nat × Nat), (∀ c ∈ C, ∃ r r' : Rec, R[c.1]? = some r ∧ R'[c.2]? = some r' ∧ Twin times r r') → shown R t.1 (C.map (·.1)) = shown R' t.2 (C.map (·.2))
  | [], _ => rfl
  | c :: C, h => by
    have ih := shown_twin ht C fun c' hc' => h c' (.tail _ hc')
    obtain ⟨r, s, h1, h2, d1, d2, d3, d4, _, d6⟩ := h c (.head _)
    have hv := d6 t ht
    unfold shown seen at ih ⊢
    simp only [List.map_cons, List.filter_cons, h1, h2]
    rw [hv]
    split
    · simp only [List.map_cons, h1, h2]
      rw [ih]
      simp only [shownD, d1, d2, d3, d4]
    · exact ih
theorem led_twin {R R' : List Rec} {times : List (Int × Int)} {t : Int × Int} (ht : t ∈ times) (cd : Dat) : ∀ C : List (Nat × Nat), (∀ c ∈ C, ∃ r r' : Rec, R[c.1]? = some r ∧ R'[c.2]? = some r' ∧ Twin times r r') → ledD R t.1 cd (C.map (·.1)) = ledD R' t.2 cd (C.map (·.2))
  | [], _ => rfl
  | c :: C, h => by
    have ih := led_twin ht cd C fun c' hc' => h c' (.tail _ hc')
    obtain ⟨r, s, h1, h2, d1, d2, d3, d4, _, d6⟩ := h c (.head _)
    have hv := d6 t ht
    have hh : hit r t.1 cd = hit s t.2 cd := by unfold hit; rw [hv, d2]
    unfold ledD hits at ih ⊢
    simp only [List.map_cons, List.filter_cons, h1, h2]
    rw [hh]
    split
    · simp only [List.map_cons, h1, h2]
      rw [ih, d1]
    · exact ih
theorem kept_cls {h₀ h : Heap} {L : Addr} {led led' : List (Addr × Obj)} {mods : List Addr} {c : Value} (N : News h₀ L h led) (k : Kept mods led led') (hm : ∀ d ∈ mods, ∃ o, (d, o) ∈ led ∧ o.cls = c) {q : Addr × Obj} (hq : q ∈ led) (hc : q.2.cls ≠ c) : q ∈ led' := by
  refine k q hq fun hd => ?_
  obtain ⟨o, ho, hoc⟩ := hm _ hd
  have e := (N _ ho).1.symm.trans (N _ hq).1
  have e2 : o = q.2 := Option.some.inj e
  rw [e2] at hoc
  exact hc hoc
theorem tups_cls {h₀ h : Heap} {L : Addr} {led led' : List (Addr × Obj)} {mods : List Addr} {c : Value} (N : News h₀ L h led) (k : Kept mods led led') (hm : ∀ d ∈ mods, ∃ o, (d, o) ∈ led ∧ o.cls = c) (hc : Value.type "tuple" ≠ c) : ∀ q ∈ tups led, q ∈ tups led' := by
  intro q hq
  obtain ⟨h1, h2⟩ := List.mem_filter.mp hq
  exact List.mem_filter.mpr ⟨kept_cls N k hm h1 (by rw [of_decide_eq_true h2]; exact hc), h2⟩

noncomputable def grp (S : Sto) : List Addr := S.d :: S.rd :: S.recs.map (·.d)
theorem ro_cls {w : World} {S : Sto} (ok : SOk w S) : S.ro.cls = .type "dict" := by
  obtain ⟨_, _, hc, _⟩ := ok.ro
  exact hc.1

theorem Full.keepD {w : World} {h₀ h : Heap} {L : Addr} {led led' : List (Addr × Obj)} {mods : List Addr} (N : News h₀ L h led) {S : Sto} (F : Full w led S) (k : Kept mods led led') (hm : ∀ d ∈ mods, ∃ o, (d, o) ∈ led ∧ o.cls = .type "dict") (hg : ∀ a ∈ grp S, a ∉ mods) : Full w led' S := by
  have tk := tups_cls N k hm (by decide)
  refine ⟨⟨kept_cls N k hm F.sto.1 (fun e => by cases e), k _ F.sto.2.1 (hg _ (.head _)), k _ F.sto.2.2 (hg _ (.tail _ (.head _)))⟩, F.ok, ⟨fun r hr => ⟨kept_cls N k hm (F.recs.at' r hr).1 (fun e => by cases e), k _ (F.recs.at' r hr).2 (hg _ (.tail _ (.tail _ (List.mem_map.mpr ⟨r, hr, rfl⟩))))⟩,
    fun r hr => (F.recs.tm r hr).mono tk, fun r hr => (F.recs.ik r hr).mono tk, F.recs.okt, F.recs.oki⟩⟩
theorem PrcIn.keepD {w : World} {h₀ h : Heap} {L : Addr} {led led' : List (Addr × Obj)} {mods : List Addr} (N : News h₀ L h led) {p : Prc} (P : PrcIn w led p) (k : Kept mods led led') (hm : ∀ d ∈ mods, ∃ o, (d, o) ∈ led ∧ o.cls = .type "dict") (hg : p.d ∉ mods) : PrcIn w led' p :=
  ⟨kept_cls N k hm P.1 (fun e => by cases e), k _ P.2 hg⟩
theorem Full.keepL {w : World} {h₀ h : Heap} {L : Addr} {led led' : List (Addr × Obj)} {mods : List Addr} (N : News h₀ L h led) {S : Sto} (F : Full w led S) (k : Kept mods led led') (hm : ∀ d ∈ mods, ∃ o, (d, o) ∈ led ∧ o.cls = .type "list") : Full w led' S := by
  have tk := tups_cls N k hm (by decide)
  have hd : ∀ {a : Addr} {es : List DictEntry} {n : Nat}, (a, dictOf es n) ∈ led → (a, dictOf es n) ∈ led' := fun h => kept_cls N k hm h (by show Value.type "dict" ≠ Value.type "list"; decide)
  refine ⟨⟨kept_cls N k hm F.sto.1 (fun e => by cases e), hd F.sto.2.1, kept_cls N k hm F.sto.2.2 (by show S.ro.cls ≠ _; rw [ro_cls F.ok]; decide)⟩, F.ok, ⟨fun r hr => ⟨kept_cls N k hm (F.recs.at' r hr).1 (fun e => by cases e), hd (F.recs.at' r hr).2⟩,
    fun r hr => (F.recs.tm r hr).mono tk, fun r hr => (F.recs.ik r hr).mono tk, F.recs.okt, F.recs.oki⟩⟩
theorem PrcIn.keepL {w : World} {h₀ h : Heap} {L : Addr} {led led' : List (Addr × Obj)} {mods : List Addr} (N : News h₀ L h led) {p : Prc} (P : PrcIn w led p) (k : Kept mods led led') (hm : ∀ d ∈ mods, ∃ o, (d, o) ∈ led ∧ o.cls = .type "list") : PrcIn w led' p :=
  ⟨kept_cls N k hm P.1 (fun e => by cases e), kept_cls N k hm P.2 (by show Value.type "dict" ≠ Value.type "list"; decide)⟩

theorem grp_in {w : World} {led : List (Addr × Obj)} {S : Sto} (F : Full w led S) : ∀ a ∈ grp S, ∃ o, (a, o) ∈ led ∧ o.cls = .type "dict" := by
  intro a ha
  simp only [grp, List.mem_cons, List.mem_map] at ha
  rcases ha with rfl | rfl | ⟨r, hr, rfl⟩
  · exact ⟨_, F.sto.2.1, rfl⟩
  · exact ⟨_, F.sto.2.2, ro_cls F.ok⟩
  · exact ⟨_, (F.recs.at' r hr).2, rfl⟩
theorem grp_prc {w : World} {h₀ h : Heap} {L : Addr} {led : List (Addr × Obj)} (N : News h₀ L h led) {S : Sto} (F : Full w led S) {p : Prc} (P : PrcIn w led p) : ∀ a ∈ grp S, @Ne Nat a p.d := by
  intro a ha
  simp only [grp, List.mem_cons, List.mem_map] at ha
  rcases ha with rfl | rfl | ⟨r, hr, rfl⟩
  · exact ne_of_news N F.sto.2.1 P.2 (dict_ne (by decide))
  · exact ne_of_news N F.sto.2.2 P.2 (ro_ne F.ok.ro)
  · exact ne_of_news N (F.recs.at' r hr).2 P.2 (dict_ne (by decide))

structure HInv (w : World) (led : List (Addr × Obj)) (J : Sto) (pj : Prc) (A : Sto) (q : Prc) (pj2 : Prc) (A2 : Sto) (q2 : Prc) : Prop where
  fj : Full w led J
  hp : PrcIn w led pj
  fa : Full w led A
  hq : PrcIn w led q
  hp2 : PrcIn w led pj2
  fa2 : Full w led A2
  hq2 : PrcIn w led q2
  ja : ∀ x ∈ grp J, x ∉ grp A
  ja2 : ∀ x ∈ grp J, x ∉ grp A2
  aa2 : ∀ x ∈ grp A, x ∉ grp A2
  p1 : @Ne Nat pj.d pj2.d
  p2 : @Ne Nat pj.d q.d
  p3 : @Ne Nat pj.d q2.d
  p4 : @Ne Nat pj2.d q.d
  p5 : @Ne Nat pj2.d q2.d
  p6 : @Ne Nat q.d q2.d

theorem HInv.swap {w : World} {led : List (Addr × Obj)} {J : Sto} {pj : Prc} {A : Sto} {q : Prc} {pj2 : Prc} {A2 : Sto} {q2 : Prc} (h : HInv w led J pj A q pj2 A2 q2) : HInv w led J pj2 A2 q2 pj A q :=
  ⟨h.fj, h.hp2, h.fa2, h.hq2, h.hp, h.fa, h.hq, h.ja2, h.ja, fun x h1 h2 => h.aa2 x h2 h1, Ne.symm h.p1, h.p5, h.p4, h.p3, h.p2, Ne.symm h.p6⟩
theorem HInv.sub {w : World} {led led' : List (Addr × Obj)} {J : Sto} {pj : Prc} {A : Sto} {q : Prc} {pj2 : Prc} {A2 : Sto} {q2 : Prc} (h : HInv w led J pj A q pj2 A2 q2) (hs : ∀ x ∈ led, x ∈ led') : HInv w led' J pj A q pj2 A2 q2 :=
  ⟨h.fj.sub hs, ⟨hs _ h.hp.1, hs _ h.hp.2⟩, h.fa.sub hs, ⟨hs _ h.hq.1, hs _ h.hq.2⟩, ⟨hs _ h.hp2.1, hs _ h.hp2.2⟩, h.fa2.sub hs, ⟨hs _ h.hq2.1, hs _ h.hq2.2⟩, h.ja, h.ja2, h.aa2, h.p1, h.p2, h.p3, h.p4, h.p5, h.p6⟩
theorem HInv.lists {w : World} {h₀ h : Heap} {L : Addr} {led led' : List (Addr × Obj)} {mods : List Addr} {J : Sto} {pj : Prc} {A : Sto} {q : Prc} {pj2 : Prc} {A2 : Sto} {q2 : Prc} (N : News h₀ L h led) (i : HInv w led J pj A q pj2 A2 q2) (k : Kept mods led led')
    (hm : ∀ d ∈ mods, ∃ o, (d, o) ∈ led ∧ o.cls = .type "list") : HInv w led' J pj A q pj2 A2 q2 :=
  ⟨i.fj.keepL N k hm, i.hp.keepL N k hm, i.fa.keepL N k hm, i.hq.keepL N k hm, i.hp2.keepL N k hm, i.fa2.keepL N k hm, i.hq2.keepL N k hm, i.ja, i.ja2, i.aa2, i.p1, i.p2, i.p3, i.p4, i.p5, i.p6⟩

theorem EnterOut.grp {w : World} {led led' : List (Addr × Obj)} {S S' : Sto} {p p' : Prc} {front : Bool} {tm ik : Dat} {entry : Int} {C : List Nat} (o : EnterOut w led led' S p S' p' front tm ik entry C) : ∀ x ∈ grp S', x ∈ grp S ∨ ∀ q ∈ led, @LT.lt Nat _ q.1 x := by
  intro x hx
  simp only [Mine.grp, List.mem_cons, List.mem_map] at hx ⊢
  rcases hx with rfl | rfl | ⟨r, hr, rfl⟩
  · exact .inl (.inl o.sd)
  · exact .inl (.inr (.inl o.srd))
  · obtain ⟨j, hj, ej⟩ := List.mem_iff_getElem.mp hr
    have hj2 : S'.recs[j]? = some r := by rw [← ej]; exact List.getElem?_eq_getElem hj
    rw [o.len] at hj
    by_cases h : j = S.recs.length
    · subst h
      obtain ⟨r', h1, _, _, _, _, _, _, h8⟩ := o.new
      rw [h1] at hj2
      have e := Option.some.inj hj2
      subst e
      exact .inr h8
    · have h1 : S.recs[j]? = some (S.recs[j]'(by omega)) := List.getElem?_eq_getElem _
      obtain ⟨r', h2, h3⟩ := o.old j _ h1
      rw [hj2] at h2
      have e := Option.some.inj h2
      subst e
      exact .inl (.inr (.inr ⟨_, List.mem_of_getElem? h1, (core_eq h3).2.2.2.2.2.2.1.symm⟩))
theorem KillOut.grp {w : World} {led led' : List (Addr × Obj)} {S S' : Sto} {V : List Nat} {G : Int} (o : KillOut w led led' S S' V G) : ∀ x ∈ grp S', x ∈ grp S := by
  intro x hx
  simp only [Mine.grp, List.mem_cons, List.mem_map] at hx ⊢
  rcases hx with rfl | rfl | ⟨r, hr, rfl⟩
  · exact .inl o.sd
  · exact .inr (.inl o.srd)
  · obtain ⟨j, hj, ej⟩ := List.mem_iff_getElem.mp hr
    have hj2 : S'.recs[j]? = some r := by rw [← ej]; exact List.getElem?_eq_getElem hj
    rw [o.len] at hj
    have h1 : S.recs[j]? = some (S.recs[j]'hj) := List.getElem?_eq_getElem _
    obtain ⟨r', h2, h3⟩ := o.recs j _ h1
    rw [hj2] at h2
    have e := Option.some.inj h2
    subst e
    refine .inr (.inr ⟨_, List.mem_of_getElem? h1, ?_⟩)
    rcases h3 with ⟨_, t, e⟩ | ⟨_, e⟩ <;> rw [e]

theorem fresh_off {w : World} {led : List (Addr × Obj)} {S : Sto} (F : Full w led S) {x : Addr} (h : ∀ q ∈ led, @LT.lt Nat _ q.1 x) : x ∉ grp S := fun hx => by
  obtain ⟨o, ho, _⟩ := grp_in F x hx
  exact Nat.lt_irrefl _ (h _ ho)

/-- what may change under an entering, seen from one store and one procedure -/
theorem enter_mods {w : World} {led : List (Addr × Obj)} {S : Sto} (F : Full w led S) {p : Prc} (P : PrcIn w led p) : ∀ d ∈ S.d :: S.rd :: p.d :: S.recs.map (·.d), ∃ o, (d, o) ∈ led ∧ o.cls = .type "dict" := by
  intro d hd
  simp only [List.mem_cons, List.mem_map] at hd
  rcases hd with rfl | rfl | rfl | ⟨r, hr, rfl⟩
  · exact ⟨_, F.sto.2.1, rfl⟩
  · exact ⟨_, F.sto.2.2, ro_cls F.ok⟩
  · exact ⟨_, P.2, rfl⟩
  · exact ⟨_, (F.recs.at' r hr).2, rfl⟩
theorem kill_mods {w : World} {led : List (Addr × Obj)} {S : Sto} (F : Full w led S) : ∀ d ∈ S.d :: S.recs.map (·.d), ∃ o, (d, o) ∈ led ∧ o.cls = .type "dict" := by
  intro d hd
  simp only [List.mem_cons, List.mem_map] at hd
  rcases hd with rfl | ⟨r, hr, rfl⟩
  · exact ⟨_, F.sto.2.1, rfl⟩
  · exact ⟨_, (F.recs.at' r hr).2, rfl⟩
theorem in_enter {S : Sto} {p : Prc} {x : Addr} (h : x ∈ S.d :: S.rd :: p.d :: S.recs.map (·.d)) : x ∈ grp S ∨ x = p.d := by
  simp only [grp, List.mem_cons, List.mem_map] at h ⊢
  rcases h with h | h | h | h
  · exact .inl (.inl h)
  · exact .inl (.inr (.inl h))
  · exact .inr h
  · exact .inl (.inr (.inr h))
theorem in_kill {S : Sto} {x : Addr} (h : x ∈ S.d :: S.recs.map (·.d)) : x ∈ grp S := by
  simp only [grp, List.mem_cons, List.mem_map] at h ⊢
  rcases h with h | h
  · exact .inl h
  · exact .inr (.inr h)

section
variable {w : World} {h₀ h : Heap} {L : Addr} {led led' : List (Addr × Obj)} {J : Sto} {pj : Prc} {A : Sto} {q : Prc} {pj2 : Prc} {A2 : Sto} {q2 : Prc}
theorem HInv.enterJ (N : News h₀ L h led) (i : HInv w led J pj A q pj2 A2 q2) {J' : Sto} {pj' : Prc} {front : Bool} {tm ik : Dat} {entry : Int} {C : List Nat} (o : EnterOut w led led' J pj J' pj' front tm ik entry C) : HInv w led' J' pj' A q pj2 A2 q2 := by
  have hm := enter_mods i.fj i.hp
  have offp : ∀ {r : Prc}, PrcIn w led r → @Ne Nat pj.d r.d → r.d ∉ J.d :: J.rd :: pj.d :: J.recs.map (·.d) := fun {r} hr hne hx => by
    rcases in_enter hx with h1 | h1
    · exact grp_prc N i.fj hr _ h1 rfl
    · exact hne h1.symm
  have offs : ∀ {S : Sto}, Full w led S → (∀ x ∈ Mine.grp J, x ∉ Mine.grp S) → ∀ x ∈ Mine.grp S, x ∉ J.d :: J.rd :: pj.d :: J.recs.map (·.d) := fun {S} hS hd x hx hx2 => by
    rcases in_enter hx2 with h1 | h1
    · exact hd x h1 hx
    · exact grp_prc N hS i.hp _ hx h1
  have hg : ∀ {S : Sto}, Full w led S → (∀ x ∈ Mine.grp J, x ∉ Mine.grp S) → ∀ x ∈ Mine.grp J', x ∉ Mine.grp S := fun {S} hS hd x hx => by
    rcases o.grp x hx with h1 | h1
    · exact hd x h1
    · exact fresh_off hS h1
  have hpd : pj'.d = pj.d := o.pd
  exact ⟨o.full, o.prc, i.fa.keepD N o.kept hm (offs i.fa i.ja), i.hq.keepD N o.kept hm (offp i.hq i.p2), i.hp2.keepD N o.kept hm (offp i.hp2 i.p1), i.fa2.keepD N o.kept hm (offs i.fa2 i.ja2), i.hq2.keepD N o.kept hm (offp i.hq2 i.p3),
    hg i.fa i.ja, hg i.fa2 i.ja2, i.aa2, by rw [hpd]; exact i.p1, by rw [hpd]; exact i.p2, by rw [hpd]; exact i.p3, i.p4, i.p5, i.p6⟩
theorem HInv.enterA (N : News h₀ L h led) (i : HInv w led J pj A q pj2 A2 q2) {A' : Sto} {q' : Prc} {front : Bool} {tm ik : Dat} {entry : Int} {C : List Nat} (o : EnterOut w led led' A q A' q' front tm ik entry C) : HInv w led' J pj A' q' pj2 A2 q2 := by
  have hm := enter_mods i.fa i.hq
  have offp : ∀ {r : Prc}, PrcIn w led r → @Ne Nat q.d r.d → r.d ∉ A.d :: A.rd :: q.d :: A.recs.map (·.d) := fun {r} hr hne hx => by
    rcases in_enter hx with h1 | h1
    · exact grp_prc N i.fa hr _ h1 rfl
    · exact hne h1.symm
  have offs : ∀ {S : Sto}, Full w led S → (∀ x ∈ Mine.grp A, x ∉ Mine.grp S) → ∀ x ∈ Mine.grp S, x ∉ A.d :: A.rd :: q.d :: A.recs.map (·.d) := fun {S} hS hd x hx hx2 => by
    rcases in_enter hx2 with h1 | h1
    · exact hd x h1 hx
    · exact grp_prc N hS i.hq _ hx h1
  have hg : ∀ {S : Sto}, Full w led S → (∀ x ∈ Mine.grp A, x ∉ Mine.grp S) → ∀ x ∈ Mine.grp A', x ∉ Mine.grp S := fun {S} hS hd x hx => by
    rcases o.grp x hx with h1 | h1
    · exact hd x h1
    · exact fresh_off hS h1
  have hpd : q'.d = q.d := o.pd
  have haj : ∀ x ∈ Mine.grp A, x ∉ Mine.grp J := fun x h1 h2 => i.ja x h2 h1
  exact ⟨i.fj.keepD N o.kept hm (offs i.fj haj), i.hp.keepD N o.kept hm (offp i.hp (Ne.symm i.p2)), o.full, o.prc, i.hp2.keepD N o.kept hm (offp i.hp2 (Ne.symm i.p4)), i.fa2.keepD N o.kept hm (offs i.fa2 i.aa2), i.hq2.keepD N o.kept hm (offp i.hq2 i.p6),
    fun x h1 h2 => hg i.fj haj x h2 h1, i.ja2, hg i.fa2 i.aa2, i.p1, by rw [hpd]; exact i.p2, i.p3, by rw [hpd]; exact i.p4, i.p5, by rw [hpd]; exact i.p6⟩
theorem HInv.killJ (N : News h₀ L h led) (i : HInv w led J pj A q pj2 A2 q2) {J' : Sto} {V : List Nat} {G : Int} (o : KillOut w led led' J J' V G) : HInv w led' J' pj A q pj2 A2 q2 := by
  have hm := kill_mods i.fj
  have offp : ∀ {r : Prc}, PrcIn w led r → r.d ∉ J.d :: J.recs.map (·.d) := fun {r} hr hx => grp_prc N i.fj hr _ (in_kill hx) rfl
  have offs : ∀ {S : Sto}, (∀ x ∈ Mine.grp J, x ∉ Mine.grp S) → ∀ x ∈ Mine.grp S, x ∉ J.d :: J.recs.map (·.d) := fun {S} hd x hx hx2 => hd x (in_kill hx2) hx
  exact ⟨o.full, i.hp.keepD N o.kept hm (offp i.hp), i.fa.keepD N o.kept hm (offs i.ja), i.hq.keepD N o.kept hm (offp i.hq), i.hp2.keepD N o.kept hm (offp i.hp2), i.fa2.keepD N o.kept hm (offs i.ja2), i.hq2.keepD N o.kept hm (offp i.hq2),
    fun x hx => i.ja x (o.grp x hx), fun x hx => i.ja2 x (o.grp x hx), i.aa2, i.p1, i.p2, i.p3, i.p4, i.p5, i.p6⟩
theorem HInv.killA (N : News h₀ L h led) (i : HInv w led J pj A q pj2 A2 q2) {A' : Sto} {V : List Nat} {G : Int} (o : KillOut w led led' A A' V G) : HInv w led' J pj A' q pj2 A2 q2 := by
  have hm := kill_mods i.fa
  have offp : ∀ {r : Prc}, PrcIn w led r → r.d ∉ A.d :: A.recs.map (·.d) := fun {r} hr hx => grp_prc N i.fa hr _ (in_kill hx) rfl
  have offs : ∀ {S : Sto}, (∀ x ∈ Mine.grp A, x ∉ Mine.grp S) → ∀ x ∈ Mine.grp S, x ∉ A.d :: A.recs.map (·.d) := fun {S} hd x hx hx2 => hd x (in_kill hx2) hx
  exact ⟨i.fj.keepD N o.kept hm (offs fun x h1 h2 => i.ja x h2 h1), i.hp.keepD N o.kept hm (offp i.hp), o.full, i.hq.keepD N o.kept hm (offp i.hq), i.hp2.keepD N o.kept hm (offp i.hp2), i.fa2.keepD N o.kept hm (offs i.aa2), i.hq2.keepD N o.kept hm (offp i.hq2),
    fun x h1 h2 => i.ja x h1 (o.grp x h2), i.ja2, fun x hx => i.aa2 x (o.grp x hx), i.p1, i.p2, i.p3, i.p4, i.p5, i.p6⟩
end
noncomputable abbrev tupO (vs : List Value) (n : Nat) : Obj := { cls := .type "tuple", data := .seq vs.toArray n }

structure Ads where
  fg : Addr
  wl : Addr
  w0 : Addr
  w1 : Addr
  w2 : Addr
  pl : Addr
  al : Addr
  nl : Addr
  tw : Addr
  t0 : Addr
  t1 : Addr
  nt : Addr
  p0 : Addr
  p1 : Addr
  s0 : Addr
  s1 : Addr
  q0 : Addr
  q1 : Addr
  d0 : Dat
  d1 : Dat
  d2 : Dat
noncomputable abbrev Ads.lists (ad : Ads) : List Addr := [ad.fg, ad.wl, ad.pl, ad.al, ad.nl, ad.tw, ad.t0, ad.t1, ad.nt]

def TwinsAre (tl : List (Addr × Obj)) (vs : List Value) (T : List (Nat × Nat)) : Prop :=
  vs.length = T.length ∧ ∀ (i : Nat) (c : Nat × Nat), T[i]? = some c → ∃ t ti tj n, vs[i]? = some (.ref t) ∧ (t, tupO [.int (c.1 : Int) ti, .int (c.2 : Int) tj] n) ∈ tl
theorem TwinsAre.mono {tl tl' : List (Addr × Obj)} {vs : List Value} {T : List (Nat × Nat)} (h : TwinsAre tl vs T) (hs : ∀ q ∈ tl, q ∈ tl') : TwinsAre tl' vs T :=
  ⟨h.1, fun i c hc => by obtain ⟨t, ti, tj, n, h1, h2⟩ := h.2 i c hc; exact ⟨t, ti, tj, n, h1, hs _ h2⟩⟩
theorem TwinsAre.snoc {tl : List (Addr × Obj)} {vs : List Value} {T : List (Nat × Nat)} (h : TwinsAre tl vs T) {c : Nat × Nat} {t : Addr} {ti tj : Tok} {n : Nat} (hm : (t, tupO [.int (c.1 : Int) ti, .int (c.2 : Int) tj] n) ∈ tl) : TwinsAre tl (vs ++ [.ref t]) (T ++ [c]) := by
  refine ⟨by simp [h.1], fun i d hd => ?_⟩
  rw [List.getElem?_append] at hd
  split at hd
  · obtain ⟨t', ti', tj', n', h1, h2⟩ := h.2 i d hd
    exact ⟨t', ti', tj', n', by rw [List.getElem?_append_left (by rw [h.1]; assumption)]; exact h1, h2⟩
  · rename_i hi
    have e : i - T.length = 0 := by
      rcases Nat.eq_zero_or_pos (i - T.length) with e | e
      · exact e
      · rw [List.getElem?_eq_none (by rw [List.length_singleton]; exact e)] at hd; cases hd
    rw [e] at hd
    have e2 : c = d := by simpa using hd
    subst e2
    have e3 : i = T.length := by omega
    refine ⟨t, ti, tj, n, ?_, hm⟩
    rw [e3, ← h.1]
    simp

def NotedAre (led : List (Addr × Obj)) (lo : Addr) (vs : List Value) (TT : List (Int × Int × Int)) : Prop :=
  vs.length = TT.length ∧ ∀ (i : Nat) (e : Int × Int × Int), TT[i]? = some e → ∃ t li tg k0 k1 n m, vs[i]? = some (.ref t) ∧ (t, tupO [.int e.1 tg, .ref li] n) ∈ led ∧ (li, W.listOf [Value.int e.2.1 k0, Value.int e.2.2 k1].toArray m) ∈ led ∧ @LT.lt Nat _ lo li
theorem NotedAre.mono {led led' : List (Addr × Obj)} {lo : Addr} {vs : List Value} {TT : List (Int × Int × Int)} (h : NotedAre led lo vs TT) (ht : ∀ q ∈ led, q.2.cls = .type "tuple" → q ∈ led') (hl : ∀ q ∈ led, q.2.cls = .type "list" → @LT.lt Nat _ lo q.1 → q ∈ led') : NotedAre led' lo vs TT :=
  ⟨h.1, fun i e he => by
    obtain ⟨t, li, tg, k0, k1, n, m, h1, h2, h3, h4⟩ := h.2 i e he
    exact ⟨t, li, tg, k0, k1, n, m, h1, ht _ h2 rfl, hl _ h3 rfl h4, h4⟩⟩
theorem NotedAre.snoc {led : List (Addr × Obj)} {lo : Addr} {vs : List Value} {TT : List (Int × Int × Int)} (h : NotedAre led lo vs TT) {e : Int × Int × Int} {t li : Addr} {tg k0 k1 : Tok} {n m : Nat} (h1 : (t, tupO [.int e.1 tg, .ref li] n) ∈ led)
    (h2 : (li, W.listOf [Value.int e.2.1 k0, Value.int e.2.2 k1].toArray m) ∈ led) (h3 : @LT.lt Nat _ lo li) : NotedAre led lo (vs ++ [.ref t]) (TT ++ [e]) := by
  refine ⟨by simp [h.1], fun i d hd => ?_⟩
  rw [List.getElem?_append] at hd
  split at hd
  · obtain ⟨t', li', tg', k0', k1', n', m', a1, a2⟩ := h.2 i d hd
    exact ⟨t', li', tg', k0', k1', n', m', by rw [List.getElem?_append_left (by rw [h.1]; assumption)]; exact a1, a2⟩
  · rename_i hi
    have e1 : i - TT.length = 0 := by
      rcases Nat.eq_zero_or_pos (i - TT.length) with e1 | e1
      · exact e1
      · rw [List.getElem?_eq_none (by rw [List.length_singleton]; exact e1)] at hd; cases hd
    rw [e1] at hd
    have e2 : e = d := by simpa using hd
    subst e2
    have e3 : i = TT.length := by omega
    refine ⟨t, li, tg, k0, k1, n, m, ?_, h1, h2, h3⟩
    rw [e3, ← h.1]
    simp

structure LInv (led : List (Addr × Obj)) (ad : Ads) (T0 T1 : List (Nat × Nat)) (TT : List (Int × Int × Int)) : Prop where
  fg : ∃ vs ns n, (ad.fg, W.listOf vs.toArray n) ∈ led ∧ IntsAre vs ns ∧ vs.length ≤ 1000
  wl : (ad.wl, W.listOf [Value.ref ad.w0, Value.ref ad.w1, Value.ref ad.w2].toArray 0) ∈ led
  dw0 : DatIn (tups led) (.ref ad.w0) ad.d0
  dw1 : DatIn (tups led) (.ref ad.w1) ad.d1
  dw2 : DatIn (tups led) (.ref ad.w2) ad.d2
  ok0 : kqdOk 6 ad.d0 = true
  ok1 : kqdOk 6 ad.d1 = true
  ok2 : kqdOk 6 ad.d2 = true
  pl : (ad.pl, W.listOf [Value.ref ad.p0, Value.ref ad.p1].toArray 0) ∈ led
  al : (ad.al, W.listOf [Value.ref ad.s0, Value.ref ad.s1].toArray 0) ∈ led
  nl : (ad.nl, W.listOf [Value.ref ad.q0, Value.ref ad.q1].toArray 0) ∈ led
  tw : (ad.tw, W.listOf [Value.ref ad.t0, Value.ref ad.t1].toArray 0) ∈ led
  t0 : ∃ vs n, (ad.t0, W.listOf vs.toArray n) ∈ led ∧ TwinsAre (tups led) vs T0
  t1 : ∃ vs n, (ad.t1, W.listOf vs.toArray n) ∈ led ∧ TwinsAre (tups led) vs T1
  nt : ∃ vs n, (ad.nt, W.listOf vs.toArray n) ∈ led ∧ NotedAre led ad.nt vs TT
  nd : ad.lists.Nodup
  le : ∀ x ∈ ad.lists, @LE.le Nat _ x ad.nt

section
variable {h₀ h : Heap} {L : Addr} {led led' : List (Addr × Obj)} {ad : Ads} {T0 T1 : List (Nat × Nat)} {TT : List (Int × Int × Int)} {mods : List Addr}
theorem LInv.dicts (N : News h₀ L h led) (i : LInv led ad T0 T1 TT) (k : Kept mods led led') (hm : ∀ d ∈ mods, ∃ o, (d, o) ∈ led ∧ o.cls = .type "dict") : LInv led' ad T0 T1 TT := by
  have tk := tups_cls N k hm (by decide)
  have kl : ∀ q ∈ led, q.2.cls = .type "list" → q ∈ led' := fun q hq hc => kept_cls N k hm hq (by rw [hc]; decide)
  have kt : ∀ q ∈ led, q.2.cls = .type "tuple" → q ∈ led' := fun q hq hc => kept_cls N k hm hq (by rw [hc]; decide)
  obtain ⟨vs, ns, n, a1, a2, a3⟩ := i.fg
  obtain ⟨v0, n0, b1, b2⟩ := i.t0
  obtain ⟨v1, n1, c1, c2⟩ := i.t1
  obtain ⟨vn, nn, d1, d2⟩ := i.nt
  exact ⟨⟨vs, ns, n, kl _ a1 rfl, a2, a3⟩, kl _ i.wl rfl, i.dw0.mono tk, i.dw1.mono tk, i.dw2.mono tk, i.ok0, i.ok1, i.ok2, kl _ i.pl rfl, kl _ i.al rfl, kl _ i.nl rfl, kl _ i.tw rfl, ⟨v0, n0, kl _ b1 rfl, b2.mono tk⟩, ⟨v1, n1, kl _ c1 rfl, c2.mono tk⟩,
    ⟨vn, nn, kl _ d1 rfl, d2.mono kt fun q hq hc _ => kl q hq hc⟩, i.nd, i.le⟩
theorem LInv.sub (i : LInv led ad T0 T1 TT) (hs : ∀ q ∈ led, q ∈ led') : LInv led' ad T0 T1 TT := by
  have tk := tups_sub' hs
  obtain ⟨vs, ns, n, a1, a2, a3⟩ := i.fg
  obtain ⟨v0, n0, b1, b2⟩ := i.t0
  obtain ⟨v1, n1, c1, c2⟩ := i.t1
  obtain ⟨vn, nn, d1, d2⟩ := i.nt
  exact ⟨⟨vs, ns, n, hs _ a1, a2, a3⟩, hs _ i.wl, i.dw0.mono tk, i.dw1.mono tk, i.dw2.mono tk, i.ok0, i.ok1, i.ok2, hs _ i.pl, hs _ i.al, hs _ i.nl, hs _ i.tw, ⟨v0, n0, hs _ b1, b2.mono tk⟩, ⟨v1, n1, hs _ c1, c2.mono tk⟩,
    ⟨vn, nn, hs _ d1, d2.mono (fun q hq _ => hs q hq) fun q hq _ _ => hs q hq⟩, i.nd, i.le⟩
theorem ne_of_nd {ad : Ads} (h : ad.lists.Nodup) {i j : Nat} {a b : Addr} (hi : ad.lists[i]? = some a) (hj : ad.lists[j]? = some b) (hne : i ≠ j) : @Ne Nat a b := by
  intro e
  have e' : a = b := e
  subst e'
  obtain ⟨h1, h2⟩ := List.getElem?_eq_some_iff.mp hi
  obtain ⟨h3, h4⟩ := List.getElem?_eq_some_iff.mp hj
  exact hne ((List.getElem_inj h).mp (h2.trans h4.symm))

/-- one list of the frame's is turned: all else stands -/
structure LRest (led led' : List (Addr × Obj)) (ad : Ads) (d : Addr) : Prop where
  t : ∀ q ∈ led, q.2.cls = .type "tuple" → q ∈ led'
  l : ∀ q ∈ led, q.1 ≠ d → q ∈ led'
theorem lrest (N : News h₀ L h led) {d : Addr} (k : Kept [d] led led') (hd : ∃ o, (d, o) ∈ led ∧ o.cls = .type "list") : LRest led led' ad d :=
  ⟨fun q hq hc => kept_cls N k (c := .type "list") (fun d' hd' => by rw [List.mem_singleton.mp hd']; exact hd) hq (by rw [hc]; decide), fun q hq hne => k q hq fun hm => hne (List.mem_singleton.mp hm)⟩
theorem LRest.tk {d : Addr} (r : LRest led led' ad d) : ∀ q ∈ tups led, q ∈ tups led' := fun q hq => by
  obtain ⟨h1, h2⟩ := List.mem_filter.mp hq
  exact List.mem_filter.mpr ⟨r.t q h1 (of_decide_eq_true h2), h2⟩
theorem LRest.nt {d : Addr} (r : LRest led led' ad d) (hd : @LE.le Nat _ d ad.nt) {vs : List Value} (h : NotedAre led ad.nt vs TT) : NotedAre led' ad.nt vs TT :=
  h.mono r.t fun q hq _ hlt => r.l q hq fun e => by
    have e' : (q.1 : Nat) = d := e
    have h1 : ad.nt < (q.1 : Nat) := hlt
    rw [e'] at h1
    exact Nat.lt_irrefl _ (Nat.lt_of_lt_of_le h1 hd)

theorem LInv.draw (N : News h₀ L h led) (i : LInv led ad T0 T1 TT) (k : Kept [ad.fg] led led') (hf : ∃ vs ns n, (ad.fg, W.listOf vs.toArray n) ∈ led' ∧ IntsAre vs ns ∧ vs.length ≤ 1000) : LInv led' ad T0 T1 TT := by
  obtain ⟨vs, ns, n, a1, a2, a3⟩ := i.fg
  have r := lrest (ad := ad) N k ⟨_, a1, rfl⟩
  obtain ⟨v0, n0, b1, b2⟩ := i.t0
  obtain ⟨v1, n1, c1, c2⟩ := i.t1
  obtain ⟨vn, nn, d1, d2⟩ := i.nt
  have ne : ∀ {j : Nat} {a : Addr}, ad.lists[j]? = some a → j ≠ 0 → @Ne Nat a ad.fg := fun hj hne => ne_of_nd i.nd hj rfl hne
  exact ⟨hf, r.l _ i.wl (ne (j := 1) rfl (by decide)), i.dw0.mono r.tk, i.dw1.mono r.tk, i.dw2.mono r.tk, i.ok0, i.ok1, i.ok2, r.l _ i.pl (ne (j := 2) rfl (by decide)), r.l _ i.al (ne (j := 3) rfl (by decide)), r.l _ i.nl (ne (j := 4) rfl (by decide)), r.l _ i.tw (ne (j := 5) rfl (by decide)),
    ⟨v0, n0, r.l _ b1 (ne (j := 6) rfl (by decide)), b2.mono r.tk⟩, ⟨v1, n1, r.l _ c1 (ne (j := 7) rfl (by decide)), c2.mono r.tk⟩, ⟨vn, nn, r.l _ d1 (ne (j := 8) rfl (by decide)), r.nt (i.le _ (by simp)) d2⟩, i.nd, i.le⟩
theorem LInv.app0 (N : News h₀ L h led) (i : LInv led ad T0 T1 TT) (k : Kept [ad.t0] led led') {T' : List (Nat × Nat)} (hf : ∃ vs n, (ad.t0, W.listOf vs.toArray n) ∈ led' ∧ TwinsAre (tups led') vs T') : LInv led' ad T' T1 TT := by
  obtain ⟨vs, ns, n, a1, a2, a3⟩ := i.fg
  obtain ⟨v0, n0, b1, b2⟩ := i.t0
  have r := lrest (ad := ad) N k ⟨_, b1, rfl⟩
  obtain ⟨v1, n1, c1, c2⟩ := i.t1
  obtain ⟨vn, nn, d1, d2⟩ := i.nt
  have ne : ∀ {j : Nat} {a : Addr}, ad.lists[j]? = some a → j ≠ 6 → @Ne Nat a ad.t0 := fun hj hne => ne_of_nd i.nd hj rfl hne
  exact ⟨⟨vs, ns, n, r.l _ a1 (ne (j := 0) rfl (by decide)), a2, a3⟩, r.l _ i.wl (ne (j := 1) rfl (by decide)), i.dw0.mono r.tk, i.dw1.mono r.tk, i.dw2.mono r.tk, i.ok0, i.ok1, i.ok2, r.l _ i.pl (ne (j := 2) rfl (by decide)), r.l _ i.al (ne (j := 3) rfl (by decide)), r.l _ i.nl (ne (j := 4) rfl (by decide)), r.l _ i.tw (ne (j := 5) rfl (by decide)),
    hf, ⟨v1, n1, r.l _ c1 (ne (j := 7) rfl (by decide)), c2.mono r.tk⟩, ⟨vn, nn, r.l _ d1 (ne (j := 8) rfl (by decide)), r.nt (i.le _ (by simp)) d2⟩, i.nd, i.le⟩
theorem LInv.app1 (N : News h₀ L h led) (i : LInv led ad T0 T1 TT) (k : Kept [ad.t1] led led') {T' : List (Nat × Nat)} (hf : ∃ vs n, (ad.t1, W.listOf vs.toArray n) ∈ led' ∧ TwinsAre (tups led') vs T') : LInv led' ad T0 T' TT := by
  obtain ⟨vs, ns, n, a1, a2, a3⟩ := i.fg
  obtain ⟨v0, n0, b1, b2⟩ := i.t0
  obtain ⟨v1, n1, c1, c2⟩ := i.t1
  have r := lrest (ad := ad) N k ⟨_, c1, rfl⟩
  obtain ⟨vn, nn, d1, d2⟩ := i.nt
  have ne : ∀ {j : Nat} {a : Addr}, ad.lists[j]? = some a → j ≠ 7 → @Ne Nat a ad.t1 := fun hj hne => ne_of_nd i.nd hj rfl hne
  exact ⟨⟨vs, ns, n, r.l _ a1 (ne (j := 0) rfl (by decide)), a2, a3⟩, r.l _ i.wl (ne (j := 1) rfl (by decide)), i.dw0.mono r.tk, i.dw1.mono r.tk, i.dw2.mono r.tk, i.ok0, i.ok1, i.ok2, r.l _ i.pl (ne (j := 2) rfl (by decide)), r.l _ i.al (ne (j := 3) rfl (by decide)), r.l _ i.nl (ne (j := 4) rfl (by decide)), r.l _ i.tw (ne (j := 5) rfl (by decide)),
    ⟨v0, n0, r.l _ b1 (ne (j := 6) rfl (by decide)), b2.mono r.tk⟩, hf, ⟨vn, nn, r.l _ d1 (ne (j := 8) rfl (by decide)), r.nt (i.le _ (by simp)) d2⟩, i.nd, i.le⟩
theorem LInv.note (N : News h₀ L h led) (i : LInv led ad T0 T1 TT) (k : Kept [ad.nt] led led') {TT' : List (Int × Int × Int)} (hf : ∃ vs n, (ad.nt, W.listOf vs.toArray n) ∈ led' ∧ NotedAre led' ad.nt vs TT') : LInv led' ad T0 T1 TT' := by
  obtain ⟨vs, ns, n, a1, a2, a3⟩ := i.fg
  obtain ⟨v0, n0, b1, b2⟩ := i.t0
  obtain ⟨v1, n1, c1, c2⟩ := i.t1
  obtain ⟨vn, nn, d1, d2⟩ := i.nt
  have r := lrest (ad := ad) N k ⟨_, d1, rfl⟩
  have ne : ∀ {j : Nat} {a : Addr}, ad.lists[j]? = some a → j ≠ 8 → @Ne Nat a ad.nt := fun hj hne => ne_of_nd i.nd hj rfl hne
  exact ⟨⟨vs, ns, n, r.l _ a1 (ne (j := 0) rfl (by decide)), a2, a3⟩, r.l _ i.wl (ne (j := 1) rfl (by decide)), i.dw0.mono r.tk, i.dw1.mono r.tk, i.dw2.mono r.tk, i.ok0, i.ok1, i.ok2, r.l _ i.pl (ne (j := 2) rfl (by decide)), r.l _ i.al (ne (j := 3) rfl (by decide)), r.l _ i.nl (ne (j := 4) rfl (by decide)), r.l _ i.tw (ne (j := 5) rfl (by decide)),
    ⟨v0, n0, r.l _ b1 (ne (j := 6) rfl (by decide)), b2.mono r.tk⟩, ⟨v1, n1, r.l _ c1 (ne (j := 7) rfl (by decide)), c2.mono r.tk⟩, hf, i.nd, i.le⟩
end
noncomputable def map6 (a b c d e f : Str) (u1 u2 u3 u4 u5 u6 : Option Value) (m₀ : Str → Option Value) (y : Str) : Option Value :=
  if y = a then u1 else if y = b then u2 else if y = c then u3 else if y = d then u4 else if y = e then u5 else if y = f then u6 else m₀ y
theorem map6_of {a b c d e f : Str} {m₀ m : Str → Option Value} (h : ∀ y, y ≠ a → y ≠ b → y ≠ c → y ≠ d → y ≠ e → y ≠ f → m y = m₀ y) : m = map6 a b c d e f (m a) (m b) (m c) (m d) (m e) (m f) m₀ := by
  funext y
  unfold map6
  by_cases h1 : y = a
  · rw [if_pos h1, h1]
  by_cases h2 : y = b
  · rw [if_neg h1, if_pos h2, h2]
  by_cases h3 : y = c
  · rw [if_neg h1, if_neg h2, if_pos h3, h3]
  by_cases h4 : y = d
  · rw [if_neg h1, if_neg h2, if_neg h3, if_pos h4, h4]
  by_cases h5 : y = e
  · rw [if_neg h1, if_neg h2, if_neg h3, if_neg h4, if_pos h5, h5]
  by_cases h6 : y = f
  · rw [if_neg h1, if_neg h2, if_neg h3, if_neg h4, if_neg h5, if_pos h6, h6]
  · rw [if_neg h1, if_neg h2, if_neg h3, if_neg h4, if_neg h5, if_neg h6]; exact h y h1 h2 h3 h4 h5 h6

/-! ## the call's own iterators change: all else stands -/
section
variable {w : World} {h₀ h : Heap} {L : Addr} {led led' : List (Addr × Obj)} {mods : List Addr}
structure ItMods (led : List (Addr × Obj)) (mods : List Addr) (c : Value) : Prop where
  hm : ∀ d ∈ mods, ∃ o, (d, o) ∈ led ∧ o.cls = c
  nd : Value.type "dict" ≠ c
  nl : Value.type "list" ≠ c
  nt : Value.type "tuple" ≠ c
  nr : ∀ a, Value.ref a ≠ c
theorem Full.keepI {c : Value} (N : News h₀ L h led) {S : Sto} (F : Full w led S) (k : Kept mods led led') (m : ItMods led mods c) : Full w led' S := by
  have tk := tups_cls N k m.hm m.nt
  have hd : ∀ {a : Addr} {es : List DictEntry} {n : Nat}, (a, dictOf es n) ∈ led → (a, dictOf es n) ∈ led' := fun h => kept_cls N k m.hm h m.nd
  refine ⟨⟨kept_cls N k m.hm F.sto.1 (m.nr _), hd F.sto.2.1, kept_cls N k m.hm F.sto.2.2 (by show S.ro.cls ≠ _; rw [ro_cls F.ok]; exact m.nd)⟩, F.ok, ⟨fun r hr => ⟨kept_cls N k m.hm (F.recs.at' r hr).1 (m.nr _), hd (F.recs.at' r hr).2⟩,
    fun r hr => (F.recs.tm r hr).mono tk, fun r hr => (F.recs.ik r hr).mono tk, F.recs.okt, F.recs.oki⟩⟩
theorem PrcIn.keepI {c : Value} (N : News h₀ L h led) {p : Prc} (P : PrcIn w led p) (k : Kept mods led led') (m : ItMods led mods c) : PrcIn w led' p :=
  ⟨kept_cls N k m.hm P.1 (m.nr _), kept_cls N k m.hm P.2 m.nd⟩
theorem HInv.its {c : Value} {J : Sto} {pj : Prc} {A : Sto} {q : Prc} {pj2 : Prc} {A2 : Sto} {q2 : Prc} (N : News h₀ L h led) (i : HInv w led J pj A q pj2 A2 q2) (k : Kept mods led led')
    (m : ItMods led mods c) : HInv w led' J pj A q pj2 A2 q2 :=
  ⟨i.fj.keepI N k m, i.hp.keepI N k m, i.fa.keepI N k m, i.hq.keepI N k m, i.hp2.keepI N k m, i.fa2.keepI N k m, i.hq2.keepI N k m, i.ja, i.ja2, i.aa2, i.p1, i.p2, i.p3, i.p4, i.p5, i.p6⟩
theorem LInv.its {c : Value} {ad : Ads} {T0 T1 : List (Nat × Nat)} {TT : List (Int × Int × Int)} (N : News h₀ L h led) (i : LInv led ad T0 T1 TT) (k : Kept mods led led') (m : ItMods led mods c) : LInv led' ad T0 T1 TT := by
  have tk := tups_cls N k m.hm m.nt
  have kl : ∀ q ∈ led, q.2.cls = .type "list" → q ∈ led' := fun q hq hc => kept_cls N k m.hm hq (by rw [hc]; exact m.nl)
  have kt : ∀ q ∈ led, q.2.cls = .type "tuple" → q ∈ led' := fun q hq hc => kept_cls N k m.hm hq (by rw [hc]; exact m.nt)
  obtain ⟨vs, ns, n, a1, a2, a3⟩ := i.fg
  obtain ⟨v0, n0, b1, b2⟩ := i.t0
  obtain ⟨v1, n1, c1, c2⟩ := i.t1
  obtain ⟨vn, nn, d1, d2⟩ := i.nt
  exact ⟨⟨vs, ns, n, kl _ a1 rfl, a2, a3⟩, kl _ i.wl rfl, i.dw0.mono tk, i.dw1.mono tk, i.dw2.mono tk, i.ok0, i.ok1, i.ok2, kl _ i.pl rfl, kl _ i.al rfl, kl _ i.nl rfl, kl _ i.tw rfl, ⟨v0, n0, kl _ b1 rfl, b2.mono tk⟩, ⟨v1, n1, kl _ c1 rfl, c2.mono tk⟩,
    ⟨vn, nn, kl _ d1 rfl, d2.mono kt fun q hq hc _ => kl q hq hc⟩, i.nd, i.le⟩
def IsIt (c : Value) : Prop := c = .type "range_iterator" ∨ c = .type "list_iterator"
theorem isIt_mods {c : Value} (h : IsIt c) {I : Addr} {o : Obj} (hI : (I, o) ∈ led) (ho : o.cls = c) : ItMods led [I] c := by
  refine ⟨fun d hd => by rw [List.mem_singleton.mp hd]; exact ⟨o, hI, ho⟩, ?_, ?_, ?_, fun a => ?_⟩ <;> rcases h with rfl | rfl <;> first | decide | (intro e; cases e)
theorem kept_off {mods : List Addr} : Kept mods led (off mods led) := fun q hq hn => mem_off.mpr ⟨hq, hn⟩
/-- iterators stand -/
def Its (led led' : List (Addr × Obj)) : Prop := ∀ q ∈ led, IsIt q.2.cls → q ∈ led'
theorem Its.trans {led'' : List (Addr × Obj)} (a : Its led led') (b : Its led' led'') : Its led led'' := fun q hq hc => b q (a q hq hc) hc
theorem its_of {c : Value} (N : News h₀ L h led) (k : Kept mods led led') (hm : ∀ d ∈ mods, ∃ o, (d, o) ∈ led ∧ o.cls = c) (hc : ¬ IsIt c) : Its led led' := fun q hq hi => kept_cls N k hm hq (fun e => hc (e ▸ hi))
theorem not_it_dict : ¬ IsIt (.type "dict") := by rintro (h | h) <;> revert h <;> decide
theorem not_it_list : ¬ IsIt (.type "list") := by rintro (h | h) <;> revert h <;> decide
end

/-! ## the state of the law's frame -/
structure Core (w : World) (led : List (Addr × Obj)) (ad : Ads) (aj : Addr) (b : Bool) (J : Sto) (X Y : Side) (TT : List (Int × Int × Int)) : Prop where
  H : HInv w led J X.pj X.A X.q Y.pj Y.A Y.q
  L : LInv led ad (bif b then Y.T else X.T) (bif b then X.T else Y.T) TT
  P : PInv J X Y (TT.map fun e => (e.1, bif b then e.2.2 else e.2.1)) (TT.map fun e => (e.1, bif b then e.2.1 else e.2.2))
  aJ : J.a = aj
  aXp : X.pj.a = bif b then ad.p1 else ad.p0
  aXs : X.A.a = bif b then ad.s1 else ad.s0
  aXq : X.q.a = bif b then ad.q1 else ad.q0
  aYp : Y.pj.a = bif b then ad.p0 else ad.p1
  aYs : Y.A.a = bif b then ad.s0 else ad.s1
  aYq : Y.q.a = bif b then ad.q0 else ad.q1
section
variable {w : World} {h₀ h : Heap} {L : Addr} {led led' : List (Addr × Obj)} {ad : Ads} {aj : Addr} {b : Bool} {J : Sto} {X Y : Side} {TT : List (Int × Int × Int)}
theorem Core.swap (c : Core w led ad aj false J X Y TT) : Core w led ad aj true J Y X TT := ⟨c.H.swap, c.L, c.P.swap, c.aJ, c.aYp, c.aYs, c.aYq, c.aXp, c.aXs, c.aXq⟩
theorem Core.swap' (c : Core w led ad aj true J X Y TT) : Core w led ad aj false J Y X TT := ⟨c.H.swap, c.L, c.P.swap, c.aJ, c.aYp, c.aYs, c.aYq, c.aXp, c.aXs, c.aXq⟩
theorem Core.sub (c : Core w led ad aj b J X Y TT) (hs : ∀ q ∈ led, q ∈ led') : Core w led' ad aj b J X Y TT := ⟨c.H.sub hs, c.L.sub hs, c.P, c.aJ, c.aXp, c.aXs, c.aXq, c.aYp, c.aYs, c.aYq⟩
theorem Core.its {cl : Value} {mods : List Addr} (N : News h₀ L h led) (c : Core w led ad aj b J X Y TT) (k : Kept mods led led') (m : ItMods led mods cl) : Core w led' ad aj b J X Y TT :=
  ⟨c.H.its N k m, c.L.its N k m, c.P, c.aJ, c.aXp, c.aXs, c.aXq, c.aYp, c.aYs, c.aYq⟩
end

/-! ## the contracts, on that state -/
section
variable {w : World} {led : List (Addr × Obj)} {ad : Ads} {aj : Addr} {b : Bool} {J : Sto} {X Y : Side} {TT : List (Int × Int × Int)}
noncomputable def Ix (x : Int) : Int := x
theorem cDraw (c : Core w led ad aj b J X Y TT) {k : Int} (t : Tok) (hk : 0 < k) : Spec w 183 [.ref ad.fg, .int k t] 50 led (fun v led' => ∃ r tr, v = .int (Ix r) tr ∧ 0 ≤ Ix r ∧ Ix r < k ∧ Core w led' ad aj b J X Y TT ∧ Its led led' ∧ Kept [ad.fg] led led') := by
  obtain ⟨vs, ns, n, a1, a2, a3⟩ := c.L.fg
  refine Spec.ofN (fun h₀ h L N => ?_) (Nat.le_refl _)
  refine Spec.of (draw_spec w ad.fg vs ns n k t led a1 a2 hk a3) (fun _ h => h) (Nat.le_refl _) ?_
  rintro v l ⟨r, tr, vs', ns', n', rfl, h1, h2, h3, h4, h5, h6⟩
  have hm : ∀ d ∈ [ad.fg], ∃ o, (d, o) ∈ led ∧ o.cls = .type "list" := fun d hd => by rw [List.mem_singleton.mp hd]; exact ⟨_, a1, rfl⟩
  exact ⟨l, ⟨r, tr, rfl, h1, h2, ⟨c.H.lists N h3 hm, c.L.draw N h3 ⟨vs', ns', n', h4, h5, by omega⟩, c.P, c.aJ, c.aXp, c.aXs, c.aXq, c.aYp, c.aYs, c.aYq⟩, its_of N h3 hm not_it_list, h3⟩, fun _ h => h⟩

theorem entered_any (w : World) (S : Sto) (p : Prc) (front : Bool) (num : Int) (tn : Tok) (ikey : Addr) (ik : Dat) (C : List Nat) (led : List (Addr × Obj)) (F : Full w led S) (P : PrcIn w led p)
    (hl : Linked S.recs p.first C) (hla : LastIs p.last C) (hnd : C.Nodup) (hlen : S.recs.length < 100) (hik : DatIn (tups led) (.ref ikey) ik) (oi : kqdOk 6 ik = true) :
    Spec w 190 [.ref S.a, .ref p.a, .bool front, .int num tn, .ref ikey] 120 led (fun v led' => ∃ t S' p', v = .int S.recs.length t ∧ EnterOut w led led' S p S' p' front (termD num) ik (60 - num) C) := by
  cases front
  · exact entered_back w S p num tn ikey ik C led F P hl hla hnd hlen hik oi
  · exact entered_front w S p num tn ikey ik C led F P hl hla hlen hik oi

/-- joined has taken the word in, apart[who] not yet -/
structure MidE (w : World) (led : List (Addr × Obj)) (ad : Ads) (aj : Addr) (b : Bool) (J : Sto) (X Y : Side) (TT : List (Int × Int × Int)) (J' : Sto) (pj' : Prc) (front : Bool) (num : Int) (ik : Dat) : Prop where
  H : HInv w led J' pj' X.A X.q Y.pj Y.A Y.q
  L : LInv led ad (bif b then Y.T else X.T) (bif b then X.T else Y.T) TT
  P : PInv J X Y (TT.map fun e => (e.1, bif b then e.2.2 else e.2.1)) (TT.map fun e => (e.1, bif b then e.2.1 else e.2.2))
  o : PEnter J X.pj J' pj' front (termD num) ik (60 - num) (X.C.map (·.1))
  aJ : J'.a = aj
  aXp : pj'.a = bif b then ad.p1 else ad.p0
  aXs : X.A.a = bif b then ad.s1 else ad.s0
  aXq : X.q.a = bif b then ad.q1 else ad.q0
  aYp : Y.pj.a = bif b then ad.p0 else ad.p1
  aYs : Y.A.a = bif b then ad.s0 else ad.s1
  aYq : Y.q.a = bif b then ad.q0 else ad.q1
theorem MidE.sub {led' : List (Addr × Obj)} {J' : Sto} {pj' : Prc} {front : Bool} {num : Int} {ik : Dat} (c : MidE w led ad aj b J X Y TT J' pj' front num ik) (hs : ∀ q ∈ led, q ∈ led') : MidE w led' ad aj b J X Y TT J' pj' front num ik :=
  ⟨c.H.sub hs, c.L.sub hs, c.P, c.o, c.aJ, c.aXp, c.aXs, c.aXq, c.aYp, c.aYs, c.aYq⟩
theorem cEnterJ (c : Core w led ad aj b J X Y TT) (front : Bool) (num : Int) (tn : Tok) (ikey : Addr) (ik : Dat) (hlen : J.recs.length < 100) (hik : DatIn (tups led) (.ref ikey) ik) (oi : kqdOk 6 ik = true) :
    Spec w 190 [.ref aj, .ref (bif b then ad.p1 else ad.p0), .bool front, .int num tn, .ref ikey] 120 led (fun v led' => ∃ t J' pj', v = .int J.recs.length t ∧ MidE w led' ad aj b J X Y TT J' pj' front num ik ∧ DatIn (tups led') (.ref ikey) ik ∧ Its led led') := by
  rw [← c.aJ, ← c.aXp]
  refine Spec.ofN (fun h₀ h L N => ?_) (Nat.le_refl _)
  refine Spec.of (entered_any w J X.pj front num tn ikey ik (X.C.map (·.1)) led c.H.fj c.H.hp c.P.x.lJ c.P.x.laJ (List.nodup_append.mp c.P.nd).1 hlen hik oi) (fun _ h => h) (Nat.le_refl _) ?_
  rintro v l ⟨t, J', pj', rfl, o⟩
  have hm := enter_mods c.H.fj c.H.hp
  exact ⟨l, ⟨t, J', pj', rfl, ⟨c.H.enterJ N o, c.L.dicts N o.kept hm, c.P, o.pure, o.sa, o.pa.trans c.aXp, c.aXs, c.aXq, c.aYp, c.aYs, c.aYq⟩, hik.mono (tups_cls N o.kept hm (by decide)), its_of N o.kept hm not_it_dict⟩, fun _ h => h⟩

/-- both have taken it in; the pair is not yet noted -/
structure EndE (w : World) (led : List (Addr × Obj)) (ad : Ads) (aj : Addr) (b : Bool) (J' : Sto) (X' Y : Side) (TT : List (Int × Int × Int)) (T : List (Nat × Nat)) : Prop where
  H : HInv w led J' X'.pj X'.A X'.q Y.pj Y.A Y.q
  L : LInv led ad (bif b then Y.T else T) (bif b then T else Y.T) TT
  P : PInv J' X' Y (TT.map fun e => (e.1, bif b then e.2.2 else e.2.1)) (TT.map fun e => (e.1, bif b then e.2.1 else e.2.2))
  aJ : J'.a = aj
  aXp : X'.pj.a = bif b then ad.p1 else ad.p0
  aXs : X'.A.a = bif b then ad.s1 else ad.s0
  aXq : X'.q.a = bif b then ad.q1 else ad.q0
  aYp : Y.pj.a = bif b then ad.p0 else ad.p1
  aYs : Y.A.a = bif b then ad.s0 else ad.s1
  aYq : Y.q.a = bif b then ad.q0 else ad.q1
theorem cEnterA {J' : Sto} {pj' : Prc} {front : Bool} {num : Int} {ik : Dat} (c : MidE w led ad aj b J X Y TT J' pj' front num ik) (tn : Tok) (ikey : Addr) (hlen : X.A.recs.length < 100) (hik : DatIn (tups led) (.ref ikey) ik) (oi : kqdOk 6 ik = true) :
    Spec w 190 [.ref (bif b then ad.s1 else ad.s0), .ref (bif b then ad.q1 else ad.q0), .bool front, .int num tn, .ref ikey] 120 led (fun v led' => ∃ t X', v = .int X.A.recs.length t ∧ EndE w led' ad aj b J' X' Y TT X.T ∧
      X'.T = X.T ++ [(J.recs.length, X.A.recs.length)] ∧ J'.recs.length = J.recs.length + 1 ∧ X'.A.recs.length = X.A.recs.length + 1 ∧ X'.C.length = X.C.length + 1 ∧ Its led led') := by
  rw [← c.aXs, ← c.aXq]
  refine Spec.ofN (fun h₀ h L N => ?_) (Nat.le_refl _)
  refine Spec.of (entered_any w X.A X.q front num tn ikey ik (X.C.map (·.2)) led c.H.fa c.H.hq c.P.x.lA c.P.x.laA c.P.x.nd hlen hik oi) (fun _ h => h) (Nat.le_refl _) ?_
  rintro v l ⟨t, A', q', rfl, o⟩
  have hm := enter_mods c.H.fa c.H.hq
  refine ⟨l, ⟨t, ⟨pj', A', q', ins front X.C (J.recs.length, X.A.recs.length), X.T ++ [(J.recs.length, X.A.recs.length)]⟩, rfl, ⟨c.H.enterA N o, c.L.dicts N o.kept hm, pinv_enter c.P c.o o.pure, c.aJ, c.aXp, o.sa.trans c.aXs, o.pa.trans c.aXq, c.aYp, c.aYs, c.aYq⟩, rfl, c.o.len, o.len, ?_, its_of N o.kept hm not_it_dict⟩, fun _ h => h⟩
  cases front <;> simp [ins]
theorem EndE.core {h₀ h : Heap} {L : Addr} {led' : List (Addr × Obj)} {T : List (Nat × Nat)} (N : News h₀ L h led) (c : EndE w led ad aj b J X Y TT T) (k : Kept [bif b then ad.t1 else ad.t0] led led')
    (hf : ∃ vs n, ((bif b then ad.t1 else ad.t0), W.listOf vs.toArray n) ∈ led' ∧ TwinsAre (tups led') vs X.T) : Core w led' ad aj b J X Y TT := by
  cases b
  · obtain ⟨v0, n0, b1, b2⟩ := c.L.t0
    exact ⟨c.H.lists N k fun d hd => by rw [List.mem_singleton.mp hd]; exact ⟨_, b1, rfl⟩, c.L.app0 N k hf, c.P, c.aJ, c.aXp, c.aXs, c.aXq, c.aYp, c.aYs, c.aYq⟩
  · obtain ⟨v0, n0, b1, b2⟩ := c.L.t1
    exact ⟨c.H.lists N k fun d hd => by rw [List.mem_singleton.mp hd]; exact ⟨_, b1, rfl⟩, c.L.app1 N k hf, c.P, c.aJ, c.aXp, c.aXs, c.aXq, c.aYp, c.aYs, c.aYq⟩
theorem Core.tw (c : Core w led ad aj b J X Y TT) : ∃ vs n, ((bif b then ad.t1 else ad.t0), W.listOf vs.toArray n) ∈ led ∧ TwinsAre (tups led) vs X.T := by
  cases b
  · exact c.L.t0
  · exact c.L.t1
theorem EndE.tw {T : List (Nat × Nat)} (c : EndE w led ad aj b J X Y TT T) : ∃ vs n, ((bif b then ad.t1 else ad.t0), W.listOf vs.toArray n) ∈ led ∧ TwinsAre (tups led) vs T := by
  cases b
  · exact c.L.t0
  · exact c.L.t1

/-- joined has killed, apart[who] not yet -/
structure MidK (w : World) (led : List (Addr × Obj)) (ad : Ads) (aj : Addr) (b : Bool) (J : Sto) (X Y : Side) (TT : List (Int × Int × Int)) (J' : Sto) (V : List Nat) (G : Int) : Prop where
  H : HInv w led J' X.pj X.A X.q Y.pj Y.A Y.q
  L : LInv led ad (bif b then Y.T else X.T) (bif b then X.T else Y.T) TT
  P : PInv J X Y (TT.map fun e => (e.1, bif b then e.2.2 else e.2.1)) (TT.map fun e => (e.1, bif b then e.2.1 else e.2.2))
  o : PKill J J' V G
  aJ : J'.a = aj
  aXp : X.pj.a = bif b then ad.p1 else ad.p0
  aXs : X.A.a = bif b then ad.s1 else ad.s0
  aXq : X.q.a = bif b then ad.q1 else ad.q0
  aYp : Y.pj.a = bif b then ad.p0 else ad.p1
  aYs : Y.A.a = bif b then ad.s0 else ad.s1
  aYq : Y.q.a = bif b then ad.q0 else ad.q1
theorem MidK.sub {led' : List (Addr × Obj)} {J' : Sto} {V : List Nat} {G : Int} (c : MidK w led ad aj b J X Y TT J' V G) (hs : ∀ q ∈ led, q ∈ led') : MidK w led' ad aj b J X Y TT J' V G :=
  ⟨c.H.sub hs, c.L.sub hs, c.P, c.o, c.aJ, c.aXp, c.aXs, c.aXq, c.aYp, c.aYs, c.aYq⟩
theorem mid_of {h₀ h : Heap} {L : Addr} {led' : List (Addr × Obj)} {J' : Sto} {V : List Nat} {G : Int} (N : News h₀ L h led) (c : Core w led ad aj b J X Y TT) (o : KillOut w led led' J J' V G) : MidK w led' ad aj b J X Y TT J' V G ∧ Its led led' :=
  ⟨⟨c.H.killJ N o, c.L.dicts N o.kept (kill_mods c.H.fj), c.P, o.pure, o.sa.trans c.aJ, c.aXp, c.aXs, c.aXq, c.aYp, c.aYs, c.aYq⟩, its_of N o.kept (kill_mods c.H.fj) not_it_dict⟩
theorem core_of {h₀ h : Heap} {L : Addr} {led' : List (Addr × Obj)} {J' A' : Sto} {V V2 : List Nat} {G G2 : Int} (N : News h₀ L h led) (c : MidK w led ad aj b J X Y TT J' V G) (o : KillOut w led led' X.A A' V2 G2)
    (P : PInv J' ⟨X.pj, A', X.q, X.C, X.T⟩ Y (TT.map fun e => (e.1, bif b then e.2.2 else e.2.1)) (TT.map fun e => (e.1, bif b then e.2.1 else e.2.2))) : Core w led' ad aj b J' ⟨X.pj, A', X.q, X.C, X.T⟩ Y TT ∧ Its led led' :=
  ⟨⟨c.H.killA N o, c.L.dicts N o.kept (kill_mods c.H.fa), P, c.aJ, c.aXp, o.sa.trans c.aXs, c.aXq, c.aYp, c.aYs, c.aYq⟩, its_of N o.kept (kill_mods c.H.fa) not_it_dict⟩

theorem cEraseJ (c : Core w led ad aj b J X Y TT) {p : Nat × Nat} (hp : p ∈ X.T) (tk : Tok) : Spec w 155 [.ref aj, .int (p.1 : Int) tk] 80 led (fun v led' => ∃ r J', v = .bool (decide (r.death < 0)) ∧ J.recs[p.1]? = some r ∧
    MidK w led' ad aj b J X Y TT J' (if r.death < 0 then [p.1] else []) (if r.death < 0 then J.gen + 1 else J.gen) ∧ Its led led' ∧ ∀ q ∈ tups led, q ∈ tups led') := by
  rw [← c.aJ]
  refine Spec.ofN (fun h₀ h L N => ?_) (Nat.le_refl _)
  obtain ⟨r, r', h1, h2, h3⟩ := c.P.x.twin p (c.P.x.sub p hp)
  refine Spec.of (erase_full w J p.1 tk r led c.H.fj h1) (fun _ h => h) (Nat.le_refl _) ?_
  rintro v l ⟨rfl, J', o⟩
  have m := mid_of N c o
  rw [c.aJ]
  exact ⟨l, ⟨r, J', rfl, h1, m.1, m.2, tups_cls N o.kept (kill_mods c.H.fj) (by decide)⟩, fun _ h => h⟩
theorem cEraseA {J' : Sto} {p : Nat × Nat} (hp : p ∈ X.T) {r : Rec} (hr : J.recs[p.1]? = some r) (c : MidK w led ad aj b J X Y TT J' (if r.death < 0 then [p.1] else []) (if r.death < 0 then J.gen + 1 else J.gen)) (tk : Tok) :
    Spec w 155 [.ref (bif b then ad.s1 else ad.s0), .int (p.2 : Int) tk] 80 led (fun v led' => v = .bool (decide (r.death < 0)) ∧ ∃ A', Core w led' ad aj b J' ⟨X.pj, A', X.q, X.C, X.T⟩ Y TT ∧ J'.recs.length = J.recs.length ∧ A'.recs.length = X.A.recs.length ∧ Its led led') := by
  rw [← c.aXs]
  refine Spec.ofN (fun h₀ h L N => ?_) (Nat.le_refl _)
  obtain ⟨r1, s, h1, h2, h3⟩ := c.P.x.twin p (c.P.x.sub p hp)
  refine Spec.of (erase_full w X.A p.2 tk s led c.H.fa h2) (fun _ h => h) (Nat.le_refl _) ?_
  rintro v l ⟨rfl, A', o⟩
  obtain ⟨e, P⟩ := pinv_erase c.P (c.P.x.sub p hp) hr h2 c.o o.pure
  have m := core_of N c o P
  exact ⟨l, ⟨by rw [e], A', m.1, c.o.len, o.len, m.2⟩, fun _ h => h⟩

theorem cKillJ (c : Core w led ad aj b J X Y TT) (hlen : X.C.length ≤ 100) : Spec w 162 [.ref aj, .ref (bif b then ad.p1 else ad.p0)] 80 led (fun _ led' => ∃ J',
    MidK w led' ad aj b J X Y TT J' (seen J.recs J.gen (X.C.map (·.1))) (if seen J.recs J.gen (X.C.map (·.1)) = [] then J.gen else J.gen + 1) ∧ Its led led') := by
  rw [← c.aJ, ← c.aXp]
  refine Spec.ofN (fun h₀ h L N => ?_) (Nat.le_refl _)
  refine Spec.of (kill_full w J X.pj (X.C.map (·.1)) led c.H.fj c.H.hp c.P.x.lJ (List.nodup_append.mp c.P.nd).1 (by simpa using hlen)) (fun _ h => h) (Nat.le_refl _) ?_
  rintro v l ⟨J', o⟩
  have m := mid_of N c o
  rw [c.aJ]
  exact ⟨l, ⟨J', m.1, m.2⟩, fun _ h => h⟩
theorem cKillA {J' : Sto} (c : MidK w led ad aj b J X Y TT J' (seen J.recs J.gen (X.C.map (·.1))) (if seen J.recs J.gen (X.C.map (·.1)) = [] then J.gen else J.gen + 1)) (hlen : X.C.length ≤ 100) :
    Spec w 162 [.ref (bif b then ad.s1 else ad.s0), .ref (bif b then ad.q1 else ad.q0)] 80 led (fun _ led' => ∃ A', Core w led' ad aj b J' ⟨X.pj, A', X.q, X.C, X.T⟩ Y TT ∧ J'.recs.length = J.recs.length ∧ A'.recs.length = X.A.recs.length ∧ Its led led') := by
  rw [← c.aXs, ← c.aXq]
  refine Spec.ofN (fun h₀ h L N => ?_) (Nat.le_refl _)
  refine Spec.of (kill_full w X.A X.q (X.C.map (·.2)) led c.H.fa c.H.hq c.P.x.lA c.P.x.nd (by simpa using hlen)) (fun _ h => h) (Nat.le_refl _) ?_
  rintro v l ⟨A', o⟩
  have m := core_of N c o (pinv_killall c.P c.o o.pure)
  exact ⟨l, ⟨A', m.1, c.o.len, o.len, m.2⟩, fun _ h => h⟩
theorem Core.note {h₀ h : Heap} {L : Addr} {led' : List (Addr × Obj)} (N : News h₀ L h led) (c : Core w led ad aj b J X Y TT) (k : Kept [ad.nt] led led')
    (hf : ∃ vs n, (ad.nt, W.listOf vs.toArray n) ∈ led' ∧ NotedAre led' ad.nt vs (TT ++ [(J.gen, bif b then Y.A.gen else X.A.gen, bif b then X.A.gen else Y.A.gen)])) : Core w led' ad aj b J X Y (TT ++ [(J.gen, bif b then Y.A.gen else X.A.gen, bif b then X.A.gen else Y.A.gen)]) := by
  obtain ⟨v0, n0, b1, b2⟩ := c.L.nt
  refine ⟨c.H.lists N k fun d hd => by rw [List.mem_singleton.mp hd]; exact ⟨_, b1, rfl⟩, c.L.note N k hf, ?_, c.aJ, c.aXp, c.aXs, c.aXq, c.aYp, c.aYs, c.aYq⟩
  have P := pinv_note c.P
  cases b <;> simpa using P
end

/-! ## the bounds -/
structure Bnd (n : Nat) (J : Sto) (X Y : Side) : Prop where
  j : J.recs.length ≤ n
  x : X.A.recs.length ≤ n
  y : Y.A.recs.length ≤ n
  cx : X.C.length ≤ n
  cy : Y.C.length ≤ n
  tx : X.T.length ≤ n
  ty : Y.T.length ≤ n
theorem Bnd.swap {n : Nat} {J : Sto} {X Y : Side} (h : Bnd n J X Y) : Bnd n J Y X := ⟨h.j, h.y, h.x, h.cy, h.cx, h.ty, h.tx⟩
theorem Bnd.le {n m : Nat} {J : Sto} {X Y : Side} (h : Bnd n J X Y) (hm : n ≤ m) : Bnd m J X Y := ⟨Nat.le_trans h.j hm, Nat.le_trans h.x hm, Nat.le_trans h.y hm, Nat.le_trans h.cx hm, Nat.le_trans h.cy hm, Nat.le_trans h.tx hm, Nat.le_trans h.ty hm⟩

theorem up9 {a b : Nat} {l : List Nat} (h : a < b) (p : (b :: l).Nodup ∧ ∀ x ∈ b :: l, b ≤ x) : (a :: b :: l).Nodup ∧ ∀ x ∈ a :: b :: l, a ≤ x :=
  ⟨List.nodup_cons.mpr ⟨fun hm => Nat.lt_irrefl _ (Nat.lt_of_lt_of_le h (p.2 _ hm)), p.1⟩, fun x hx => (List.mem_cons.mp hx).elim (fun e => e ▸ Nat.le_refl _) fun hm => Nat.le_of_lt (Nat.lt_of_lt_of_le h (p.2 _ hm))⟩
theorem nodup9 {a b c d e f g i j : Nat} (h1 : a < b) (h2 : b < c) (h3 : c < d) (h4 : d < e) (h5 : e < f) (h6 : f < g) (h7 : g < i) (h8 : i < j) : [a, b, c, d, e, i, f, g, j].Nodup := by
  have p : [i, f, g, j].Perm [f, g, i, j] := (List.Perm.swap f i [g, j]).trans ((List.Perm.swap g i [j]).cons f)
  have q : [a, b, c, d, e, i, f, g, j].Perm [a, b, c, d, e, f, g, i, j] := ((((p.cons e).cons d).cons c).cons b).cons a
  exact (List.Perm.nodup_iff q).mpr (up9 h1 (up9 h2 (up9 h3 (up9 h4 (up9 h5 (up9 h6 (up9 h7 (up9 h8 ⟨by simp, by simp⟩)))))))).1
theorem le9 {a b c d e f g i j : Nat} (h1 : a < b) (h2 : b < c) (h3 : c < d) (h4 : d < e) (h5 : e < f) (h6 : f < g) (h7 : g < i) (h8 : i < j) : ∀ x ∈ [a, b, c, d, e, i, f, g, j], x ≤ j := by
  have l7 := Nat.le_of_lt h8
  have l6 := Nat.le_trans (Nat.le_of_lt h7) l7
  have l5 := Nat.le_trans (Nat.le_of_lt h6) l6
  have l4 := Nat.le_trans (Nat.le_of_lt h5) l5
  have l3 := Nat.le_trans (Nat.le_of_lt h4) l4
  have l2 := Nat.le_trans (Nat.le_of_lt h3) l3
  have l1 := Nat.le_trans (Nat.le_of_lt h2) l2
  have l0 := Nat.le_trans (Nat.le_of_lt h1) l1
  intro x hx
  simp only [List.mem_cons, List.not_mem_nil, or_false] at hx
  rcases hx with rfl | rfl | rfl | rfl | rfl | rfl | rfl | rfl | rfl <;> first | assumption | exact Nat.le_refl _
/-! ## the start -/
section
variable {w : World} {h₀ h : Heap} {L : Addr}
theorem hinv_start {led1 led2 led3 led4 led5 led6 led7 led8 : List (Addr × Obj)} (N : News h₀ L h led8) {J A B : Sto} {pX pY qX qY : Prc} (fJ : Full w led1 J) (hpX : PrcIn w led2 pX) (hpY : PrcIn w led3 pY) (fA : Full w led4 A) (fB : Full w led5 B) (hqX : PrcIn w led6 qX) (hqY : PrcIn w led7 qY)
    (rJ : J.recs = []) (rA : A.recs = []) (rB : B.recs = [])
    (s2 : ∀ q ∈ led1, q ∈ led2) (s3 : ∀ q ∈ led2, q ∈ led3) (s4 : ∀ q ∈ led3, q ∈ led4) (s5 : ∀ q ∈ led4, q ∈ led5) (s6 : ∀ q ∈ led5, q ∈ led6) (s7 : ∀ q ∈ led6, q ∈ led7) (s8 : ∀ q ∈ led7, q ∈ led8)
    (l3 : ∀ q ∈ led2, @LT.lt Nat _ q.1 pY.a ∧ @LT.lt Nat _ q.1 pY.d) (l4 : ∀ q ∈ led3, @LT.lt Nat _ q.1 A.a ∧ @LT.lt Nat _ q.1 A.d ∧ @LT.lt Nat _ q.1 A.rd) (l5 : ∀ q ∈ led4, @LT.lt Nat _ q.1 B.a ∧ @LT.lt Nat _ q.1 B.d ∧ @LT.lt Nat _ q.1 B.rd)
    (l6 : ∀ q ∈ led5, @LT.lt Nat _ q.1 qX.a ∧ @LT.lt Nat _ q.1 qX.d) (l7 : ∀ q ∈ led6, @LT.lt Nat _ q.1 qY.a ∧ @LT.lt Nat _ q.1 qY.d) : HInv w led8 J pX A qX pY B qY := by
  have gJ : ∀ x ∈ grp J, ∃ o, (x, o) ∈ led3 := fun x hx => by obtain ⟨o, ho, _⟩ := grp_in fJ x hx; exact ⟨o, s3 _ (s2 _ ho)⟩
  have gA : ∀ x ∈ grp A, ∃ o, (x, o) ∈ led4 := fun x hx => by obtain ⟨o, ho, _⟩ := grp_in fA x hx; exact ⟨o, ho⟩
  have e : ∀ {S : Sto}, S.recs = [] → ∀ x ∈ grp S, x = S.d ∨ x = S.rd := fun {S} hr x hx => by
    simp only [grp, hr, List.map_nil, List.mem_cons, List.not_mem_nil, or_false] at hx
    exact hx
  have t8 : ∀ q ∈ led5, q ∈ led8 := fun q hq => s8 _ (s7 _ (s6 _ hq))
  have t4 : ∀ q ∈ led4, q ∈ led8 := fun q hq => t8 _ (s5 _ hq)
  have t3 : ∀ q ∈ led3, q ∈ led8 := fun q hq => t4 _ (s4 _ hq)
  refine ⟨fJ.sub fun q hq => t3 _ (s3 _ (s2 _ hq)), ⟨t3 _ (s3 _ hpX.1), t3 _ (s3 _ hpX.2)⟩, fA.sub t4, ⟨s8 _ (s7 _ hqX.1), s8 _ (s7 _ hqX.2)⟩, ⟨t3 _ hpY.1, t3 _ hpY.2⟩, fB.sub t8, ⟨s8 _ hqY.1, s8 _ hqY.2⟩, ?_, ?_, ?_, ?_, ?_, ?_, ?_, ?_, ?_⟩
  · intro x hx hx2
    obtain ⟨o, ho⟩ := gJ x hx
    rcases e rA x hx2 with e1 | e1
    · exact Nat.ne_of_lt (l4 _ ho).2.1 e1
    · exact Nat.ne_of_lt (l4 _ ho).2.2 e1
  · intro x hx hx2
    obtain ⟨o, ho⟩ := gJ x hx
    rcases e rB x hx2 with e1 | e1
    · exact Nat.ne_of_lt (l5 _ (s4 _ ho)).2.1 e1
    · exact Nat.ne_of_lt (l5 _ (s4 _ ho)).2.2 e1
  · intro x hx hx2
    obtain ⟨o, ho⟩ := gA x hx
    rcases e rB x hx2 with e1 | e1
    · exact Nat.ne_of_lt (l5 _ ho).2.1 e1
    · exact Nat.ne_of_lt (l5 _ ho).2.2 e1
  · exact Nat.ne_of_lt (l3 _ hpX.2).2
  · exact Nat.ne_of_lt (l6 _ (s5 _ (s4 _ (s3 _ hpX.2)))).2
  · exact Nat.ne_of_lt (l7 _ (s6 _ (s5 _ (s4 _ (s3 _ hpX.2))))).2
  · exact Nat.ne_of_lt (l6 _ (s5 _ (s4 _ hpY.2))).2
  · exact Nat.ne_of_lt (l7 _ (s6 _ (s5 _ (s4 _ hpY.2)))).2
  · exact Nat.ne_of_lt (l7 _ hqX.2).2

theorem linv_start {led : List (Addr × Obj)} {ad : Ads} {vs : List Value} {ns : List Int} {n : Nat} (h1 : (ad.fg, W.listOf vs.toArray n) ∈ led) (h2 : IntsAre vs ns) (h3 : vs.length ≤ 1000)
    (h4 : (ad.wl, W.listOf [Value.ref ad.w0, Value.ref ad.w1, Value.ref ad.w2].toArray 0) ∈ led) (h5 : DatIn (tups led) (.ref ad.w0) ad.d0) (h6 : DatIn (tups led) (.ref ad.w1) ad.d1) (h7 : DatIn (tups led) (.ref ad.w2) ad.d2)
    (o0 : kqdOk 6 ad.d0 = true) (o1 : kqdOk 6 ad.d1 = true) (o2 : kqdOk 6 ad.d2 = true)
    (pl : (ad.pl, W.listOf [Value.ref ad.p0, Value.ref ad.p1].toArray 0) ∈ led) (al : (ad.al, W.listOf [Value.ref ad.s0, Value.ref ad.s1].toArray 0) ∈ led) (nl : (ad.nl, W.listOf [Value.ref ad.q0, Value.ref ad.q1].toArray 0) ∈ led)
    (tw : (ad.tw, W.listOf [Value.ref ad.t0, Value.ref ad.t1].toArray 0) ∈ led) (t0 : (ad.t0, W.listOf [].toArray 0) ∈ led) (t1 : (ad.t1, W.listOf [].toArray 0) ∈ led) (nt : (ad.nt, W.listOf [].toArray 0) ∈ led)
    (a1 : @LT.lt Nat _ ad.fg ad.wl) (a2 : @LT.lt Nat _ ad.wl ad.pl) (a3 : @LT.lt Nat _ ad.pl ad.al) (a4 : @LT.lt Nat _ ad.al ad.nl) (a5 : @LT.lt Nat _ ad.nl ad.t0) (a6 : @LT.lt Nat _ ad.t0 ad.t1) (a7 : @LT.lt Nat _ ad.t1 ad.tw) (a8 : @LT.lt Nat _ ad.tw ad.nt) : LInv led ad [] [] [] := by
  refine ⟨⟨vs, ns, n, h1, h2, h3⟩, h4, h5, h6, h7, o0, o1, o2, pl, al, nl, tw, ⟨[], 0, t0, rfl, fun i c h => by simp at h⟩, ⟨[], 0, t1, rfl, fun i c h => by simp at h⟩, ⟨[], 0, nt, rfl, fun i c h => by simp at h⟩, ?_, ?_⟩
  · exact nodup9 a1 a2 a3 a4 a5 a6 a7 a8
  · exact le9 a1 a2 a3 a4 a5 a6 a7 a8
theorem pinv_start {J A B : Sto} {pX pY qX qY : Prc} (rJ : J.recs = []) (gJ : J.gen = 0) (rA : A.recs = []) (gA : A.gen = 0) (rB : B.recs = []) (gB : B.gen = 0) (f1 : pX.functor = qX.functor) (f2 : pY.functor = qY.functor) (a1 : pX.first = -1) (a2 : qX.first = -1) (a3 : pY.first = -1) (a4 : qY.first = -1) :
    PInv J ⟨pX, A, qX, [], []⟩ ⟨pY, B, qY, [], []⟩ [] [] := by
  have m : ∀ {l : Int}, LastIs l [] := fun k h => by simp at h
  refine ⟨⟨f1, a1, m, a2, m, List.nodup_nil, (fun c h => nomatch h), (fun r h => ?_), (fun t h => nomatch h), (fun x h => nomatch h), ?_⟩, ⟨f2, a3, m, a4, m, List.nodup_nil, (fun c h => nomatch h), (fun r h => ?_), (fun t h => nomatch h), (fun x h => nomatch h), ?_⟩, List.nodup_nil, ?_, fun r h => ?_⟩
  · exact absurd (show r ∈ A.recs from h) (by rw [rA]; simp)
  · show 0 ≤ A.gen
    omega
  · exact absurd (show r ∈ B.recs from h) (by rw [rB]; simp)
  · show 0 ≤ B.gen
    omega
  · show J.gen = A.gen + B.gen
    omega
  · exact absurd h (by rw [rJ]; simp)
end
section
variable {prog : Program} {w : World} {A : Around} {E : Value → Shared → Prop} {s : Shared} {env : Env} {h₀ : Heap} {x : Str} {body : List Stmt} {Q : Flow → Shared → Prop}
/-- over range(n), with the iterator's class -/
theorem my_range2 {r : Addr} {b₀ : Int} {t₀ u₀ v₀ : Tok} {n : Nat} {m₀ : Str → Option Value} {news : List (Addr × Obj)} (J : Nat → (Str → Option Value) → List (Addr × Obj) → Prop)
    (hh : A.handled = none) (hr : IsRange s.heap r 0 b₀ 1 t₀ u₀ v₀) (hsmall : Builtin.Range.small 0 b₀ 1 = true) (hn : Builtin.Range.rangeSize 0 b₀ 1 = (n : Int)) (F : Fr h₀ env.locals s.heap m₀) (N : News h₀ env.locals s.heap news) (hj : J 0 m₀ news)
    (turn : ∀ (i : Nat) t m₁ led h tk own I o, i < n → J i m₁ led → (I, o) ∈ own → IsIt o.cls → (∀ p ∈ own, p.1 = I ∧ IsIt p.2.cls) → (∀ p ∈ led, p.1 ≠ I) →
      Fr h₀ env.locals h (fun y => if y = x then some (.int (i : Int) t) else m₁ y) → News h₀ env.locals h (own ++ led) →
      wpAny (model prog w) A (execs body env) (FPost h₀ env.locals [I] (J (i + 1)) own { s with heap := h, toks := tk } Q) E { s with heap := h, toks := tk })
    (done : ∀ m₁ led h tk, J n m₁ led → Fr h₀ env.locals h m₁ → News h₀ env.locals h led → Q .next { s with heap := h, toks := tk }) :
    wpAny (model prog w) A (pyIter (.ref r)) (fun it s₂ => LoopAtV prog w A h₀ env x body Q E it s₂) E s := by
  refine wpAny_pyIter_range hr hsmall ?_
  have W : Walks prog w A s.heap.objs.size [s.heap.objs.size] [s.heap.objs.size] n (fun i v => i < n ∧ ∃ t, v = .int (0 + i * 1) t)
      (fun i h => IsRangeIter h s.heap.objs.size (0 + (i : Nat) * 1) ((n : Int) - (i : Nat)) 1) := (Walks.range hh _ 0 1 n).bound
  have nI : h₀.get? s.heap.objs.size = none := next_is_new F
  refine my_loop (news := news) J W ?_ ?_ ?_ (by show IsRangeIter _ _ _ _ _; rw [hn]; simpa using Heap.get?_push_size _ rfl) (F.push _) (fun p hp => ⟨Heap.get?_push_of_some _ (N p hp).1, (N p hp).2⟩) hj ?_ ?_
  · intro hm
    exact absurd F.ns.lt ((List.mem_singleton.mp hm) ▸ Nat.lt_irrefl _)
  · intro b hb
    rw [List.mem_singleton.mp hb]
    exact nI
  · intro p hp hI
    exact absurd (Heap.lt_size (N p hp).1) ((List.mem_singleton.mp hI) ▸ Nat.lt_irrefl _)
  · rintro i v m₁ led h tk own hin ⟨_, t, rfl⟩ hJ hoff hown hget hst' F₁ N₁
    have e : (0 : Int) + i * 1 = i := by omega
    rw [e] at F₁
    have hst2 : h.get? s.heap.objs.size = some { cls := .type "range_iterator", dict := none, data := .fields _, slots := #[] } := hst'
    refine turn i t m₁ led h tk own _ _ hin hJ (hget _ (.head _) nI _ hst2) (.inl rfl) (fun p hp => ?_) (fun p hp e => hoff p hp (e ▸ .head _)) F₁ N₁
    have e1 := List.mem_singleton.mp (hown p hp)
    refine ⟨e1, ?_⟩
    have e2 := (N₁ p (List.mem_append_left _ hp)).1
    rw [e1, hst2] at e2
    have e3 := Option.some.inj e2
    rw [← e3]
    exact .inl rfl
  · exact done

/-- over a list of the call's own, with the iterator's class -/
theorem my_list2 {l : Addr} {vs : List Value} {k : Nat} {m₀ : Str → Option Value} {news : List (Addr × Obj)} (J : Nat → (Str → Option Value) → List (Addr × Obj) → Prop)
    (hh : A.handled = none) (F : Fr h₀ env.locals s.heap m₀) (N : News h₀ env.locals s.heap news) (hl : (l, listOf vs.toArray k) ∈ news) (hj : J 0 m₀ news)
    (turn : ∀ i v m₁ led h tk own I o, vs[i]? = some v → J i m₁ led → (I, o) ∈ own → o.cls = .type "list_iterator" → (∀ p ∈ own, p.1 = I ∨ p.1 = l) → (∀ p ∈ led, p.1 ≠ I) →
      Fr h₀ env.locals h (fun y => if y = x then some v else m₁ y) → News h₀ env.locals h (own ++ led) →
      wpAny (model prog w) A (execs body env) (FPost h₀ env.locals [I] (J (i + 1)) own { s with heap := h, toks := tk } Q) E { s with heap := h, toks := tk })
    (done : ∀ m₁ led h tk, J vs.length m₁ led → Fr h₀ env.locals h m₁ → News h₀ env.locals h led → Q .next { s with heap := h, toks := tk }) :
    wpAny (model prog w) A (pyIter (.ref l)) (fun it s₂ => LoopAtV prog w A h₀ env x body Q E it s₂) E s := by
  have hls : s.heap.IsList l vs.toArray := ⟨_, (N _ hl).1, rfl, k, rfl⟩
  have hll := (N _ hl)
  have hlt : l < s.heap.objs.size := Heap.lt_size hll.1
  have hne : l ≠ s.heap.objs.size := Nat.ne_of_lt hlt
  refine wpAny_pyIter_list hls ?_
  have W := Walks.list (prog := prog) (w := w) hh s.heap.objs.size l hne vs.toArray
  have hlen : vs.toArray.size = vs.length := by simp
  rw [hlen] at W
  have nI : h₀.get? s.heap.objs.size = none := next_is_new F
  refine my_loop (news := news) J W ?_ ?_ ?_ ⟨⟨_, Heap.get?_push_size _ rfl, rfl, rfl⟩, hls.at fun o e => Heap.get?_push_of_some _ e⟩ (F.push _) (fun p hp => ⟨Heap.get?_push_of_some _ (N p hp).1, (N p hp).2⟩) hj ?_ ?_
  · intro hm
    rcases List.mem_cons.mp hm with e | hm
    · exact absurd F.ns.lt (e ▸ Nat.lt_irrefl _)
    · have e := List.mem_singleton.mp hm
      exact hll.2.1 e.symm
  · intro b hb
    rw [List.mem_singleton.mp hb]
    exact nI
  · intro p hp hI
    exact absurd (Heap.lt_size (N p hp).1) ((List.mem_singleton.mp hI) ▸ Nat.lt_irrefl _)
  · intro i v m₁ led h tk own hin hP hJ hoff hown hget hst' F₁ N₁
    obtain ⟨⟨oI, hoI, hc, _⟩, _⟩ := id hst'
    have hP' : vs[i]? = some v := by simpa using hP
    have h1 : (s.heap.objs.size, oI) ∈ own := hget _ (.head _) nI _ hoI
    exact turn i v m₁ led h tk own _ oI hP' hJ h1 hc (fun p hp => (List.mem_cons.mp (hown p hp)).imp id List.mem_singleton.mp) (fun p hp e => hoff p hp (e ▸ .head _)) F₁ N₁
  · exact done
end

/-! ## what is compared at the end can be compared -/
theorem shownD_ok {w : World} {led : List (Addr × Obj)} {recs : List Rec} (R : RecsIn w led recs) (g : Int) (C : List Nat) : ∀ d ∈ shown recs g C, kqdOk 8 d = true := by
  intro d hd
  obtain ⟨k, hk, rfl⟩ := List.mem_map.mp hd
  split
  · rename_i r hr
    have hm := List.mem_of_getElem? hr
    have h1 := R.okt r hm
    have h2 := R.oki r hm
    show (([r.tm, r.ik, .int r.entry, .int r.functor] : List Dat).all (kqdOk 7)) = true
    simp only [List.all_cons, List.all_nil, Bool.and_true, Bool.and_eq_true]
    exact ⟨kqdOk_up 6 7 _ (by omega) h1, kqdOk_up 6 7 _ (by omega) h2, rfl, rfl⟩
  · rfl
theorem ledD_ok {w : World} {led : List (Addr × Obj)} {recs : List Rec} (R : RecsIn w led recs) (g : Int) (cd : Dat) (C : List Nat) : ∀ d ∈ ledD recs g cd C, kqdOk 8 d = true := by
  intro d hd
  obtain ⟨k, hk, rfl⟩ := List.mem_map.mp hd
  split
  · rename_i r hr
    exact kqdOk_up 6 8 _ (by omega) (R.okt r (List.mem_of_getElem? hr))
  · rfl
def Inv (w : World) (led : List (Addr × Obj)) (ad : Ads) (aj : Addr) (n k : Nat) : Prop := ∃ J X Y TT, Core w led ad aj false J X Y TT ∧ Bnd n J X Y ∧ TT.length ≤ k
theorem map6_0 {a b c d e f : Str} {m₀ : Str → Option Value} : m₀ = map6 a b c d e f (m₀ a) (m₀ b) (m₀ c) (m₀ d) (m₀ e) (m₀ f) m₀ := map6_of fun _ _ _ _ _ _ _ => rfl

theorem Inv.of {w : World} {led : List (Addr × Obj)} {ad : Ads} {aj : Addr} {b : Bool} {J : Sto} {X Y : Side} {TT : List (Int × Int × Int)} {n k : Nat} (c : Core w led ad aj b J X Y TT) (h : Bnd n J X Y) (ht : TT.length ≤ k) : Inv w led ad aj n k := by
  cases b
  · exact ⟨J, X, Y, TT, c, h, ht⟩
  · exact ⟨J, Y, X, TT, c.swap', h.swap, ht⟩
theorem both {w : World} {led : List (Addr × Obj)} {ad : Ads} {aj : Addr} {J : Sto} {X Y : Side} {TT : List (Int × Int × Int)} {n : Nat} {x : Int} (c : Core w led ad aj false J X Y TT) (h : Bnd n J X Y) (h0 : 0 ≤ x) (h2 : x < 2) :
    ∃ b X Y, x = (bif b then 1 else 0) ∧ Core w led ad aj b J X Y TT ∧ Bnd n J X Y := by
  have : x = 0 ∨ x = 1 := by omega
  rcases this with e | e
  · exact ⟨false, X, Y, e, c, h⟩
  · exact ⟨true, Y, X, e, c.swap, h.swap⟩
theorem deeds (a0 a1 a2 a3 a4 a5 a6 : Tok) {k : Int} (h0 : 0 ≤ k) (h7 : k < 7) : ∃ x t, [Value.int 0 a0, .int 0 a1, .int 1 a2, .int 0 a3, .int 1 a4, .int 2 a5, .int 3 a6][k.toNat]? = some (.int x t) ∧ (x = 0 ∨ x = 1 ∨ x = 2 ∨ x = 3) := by
  have hn : k.toNat < 7 := by omega
  generalize k.toNat = n at hn ⊢
  match n, hn with
  | 0, _ => exact ⟨_, _, rfl, .inl rfl⟩
  | 1, _ => exact ⟨_, _, rfl, .inl rfl⟩
  | 2, _ => exact ⟨_, _, rfl, .inr (.inl rfl)⟩
  | 3, _ => exact ⟨_, _, rfl, .inl rfl⟩
  | 4, _ => exact ⟨_, _, rfl, .inr (.inl rfl)⟩
  | 5, _ => exact ⟨_, _, rfl, .inr (.inr (.inl rfl))⟩
  | 6, _ => exact ⟨_, _, rfl, .inr (.inr (.inr rfl))⟩
theorem LInv.word {led : List (Addr × Obj)} {ad : Ads} {T0 T1 : List (Nat × Nat)} {TT : List (Int × Int × Int)} (L : LInv led ad T0 T1 TT) {k : Int} (h0 : 0 ≤ k) (h3 : k < 3) :
    ∃ a ik, [Value.ref ad.w0, .ref ad.w1, .ref ad.w2][k.toNat]? = some (.ref a) ∧ DatIn (tups led) (.ref a) ik ∧ kqdOk 6 ik = true := by
  have : k = 0 ∨ k = 1 ∨ k = 2 := by omega
  rcases this with rfl | rfl | rfl
  · exact ⟨_, _, rfl, L.dw0, L.ok0⟩
  · exact ⟨_, _, rfl, L.dw1, L.ok1⟩
  · exact ⟨_, _, rfl, L.dw2, L.ok2⟩
def MidP (w : World) (h₀ : Heap) (L : Addr) (s : Shared) (own : List (Addr × Obj)) (ad : Ads) (aj : Addr) (n k : Nat) (m₀ : Str → Option Value) (f : Flow) (s₂ : Shared) : Prop :=
  f = .next ∧ ∃ h' tk' led' u1 u2 u3, s₂ = { s with heap := h', toks := tk' } ∧ Fr h₀ L h' (map3 "word" "one" "pair" u1 u2 u3 m₀) ∧ News h₀ L h' led' ∧ (∀ q ∈ own, q ∈ led') ∧ Inv w led' ad aj n k
section
variable {M : Model} {w : World} {A : Around} {E : Value → Shared → Prop} {s : Shared} {h₀ : Heap} {L : Addr} {m₀ : Str → Option Value} {own : List (Addr × Obj)} {ad : Ads} {aj : Addr} {n k : Nat}
theorem midP {h' : Heap} {tk' : Nat} {led led' : List (Addr × Obj)} {m' : Str → Option Value} (F : Fr h₀ L h' m') (N : News h₀ L h' led) (hs : ∀ q ∈ led', q ∈ led) (ho : ∀ q ∈ own, q ∈ led') (hi : Inv w led' ad aj n k)
    (hm : ∀ y : Str, y ≠ "word" → y ≠ "one" → y ≠ "pair" → m' y = m₀ y) : MidP w h₀ L s own ad aj n k m₀ .next { s with heap := h', toks := tk' } :=
  ⟨rfl, h', tk', led', m' "word", m' "one", m' "pair", rfl, by rw [← map3_of hm]; exact F, News.sub N hs, ho, hi⟩
theorem cut_mid {led : List (Addr × Obj)} {b : Bool} {J : Sto} {X Y : Side} {TT : List (Int × Int × Int)} {x : Sem Flow} {Q : Flow → Shared → Prop} (n k : Nat) (F : Fr h₀ L s.heap m₀) (_C : Core w led ad aj b J X Y TT) (_ho : ∀ q ∈ own, q ∈ led)
    (h : wpAny M A x (MidP w h₀ L s own ad aj n k m₀) E s)
    (kk : ∀ h' tk' led' u1 u2 u3, Fr h₀ L h' (map3 "word" "one" "pair" u1 u2 u3 m₀) → News h₀ L h' led' → (∀ q ∈ own, q ∈ led') → Inv w led' ad aj n k → Q .next { s with heap := h', toks := tk' }) : wpAny M A x Q E s := by
  refine wpAny_mono h ?_ fun _ _ x => x
  rintro f s₂ ⟨rfl, h', tk', led', u1, u2, u3, rfl, F', N', ho', hi⟩
  exact kk h' tk' led' u1 u2 u3 F' N' ho' hi
end
theorem twins_dat {tl : List (Addr × Obj)} : ∀ {vs : List Value} {T : List (Nat × Nat)}, TwinsAre tl vs T → DatAll tl vs (T.map fun c => .tuple [.int (c.1 : Int), .int (c.2 : Int)])
  | [], [], _ => .nil
  | [], _ :: _, h => by simp [TwinsAre] at h
  | _ :: _, [], h => by simp [TwinsAre] at h
  | v :: vs, c :: T, h => by
    obtain ⟨t, ti, tj, n, h1, h2⟩ := h.2 0 c rfl
    have e : v = .ref t := by simpa using h1
    subst e
    exact .cons (DatIn.tuple (n := n) (vs := [_, _]) h2 (.cons (.int _ _) (.cons (.int _ _) .nil))) (twins_dat ⟨by simpa using h.1, fun i c hc => h.2 (i + 1) c (by simpa using hc)⟩)
theorem MidE.tw {w : World} {led : List (Addr × Obj)} {ad : Ads} {aj : Addr} {b : Bool} {J : Sto} {X Y : Side} {TT : List (Int × Int × Int)} {J' : Sto} {pj' : Prc} {front : Bool} {num : Int} {ik : Dat} (c : MidE w led ad aj b J X Y TT J' pj' front num ik) :
    ∃ vs n, ((bif b then ad.t1 else ad.t0), W.listOf vs.toArray n) ∈ led ∧ TwinsAre (tups led) vs X.T := by
  cases b
  · exact c.L.t0
  · exact c.L.t1
theorem news_turn {h₀ h : Heap} {L : Addr} {led : List (Addr × Obj)} {d : Addr} {o : Obj} (N : News h₀ L h led) (hm : (d, o) ∈ led) : News h₀ L h ((d, o) :: off [d] led) := News.sub (News.add1 N hm) (by
  intro q hq
  rcases List.mem_cons.mp hq with hq | hq
  · rw [hq]; exact .head _
  · exact .tail _ (mem_off.mp hq).1)

theorem twins_ok (T : List (Nat × Nat)) : ∀ d ∈ (T.map fun c => (Dat.tuple [.int (c.1 : Int), .int (c.2 : Int)])), kqdOk 8 d = true := by
  intro d hd
  obtain ⟨c, _, rfl⟩ := List.mem_map.mp hd
  rfl
section
variable {prog : Program} {w : World} {A : Around} {E : Value → Shared → Prop} {s : Shared} {h₀ : Heap} {L : Addr} {news tl : List (Addr × Obj)} {Q : Value → Shared → Prop}
theorem tw_ne {a b : Addr} {vs : List Value} {n kb : Nat} {T : List (Nat × Nat)} (N : News h₀ L s.heap news) (ma : (a, W.listOf vs.toArray n) ∈ news) (hT : TwinsAre tl vs T) (sa : ∀ p ∈ tl, p ∈ news) (mb : (b, W.listOf [].toArray kb) ∈ news) (hu : A.units + 64 < cLine)
    (h0 : T = [] → Q (.bool false) s) (h1 : T ≠ [] → Q (.bool true) s) : wpAny (model prog w) A (compareOp .NotEq (.ref a) (.ref b)) Q E s := by
  refine kqd_ne N ma rfl rfl (twins_dat hT) sa mb rfl rfl (n₂ := []) (ys := []) .nil (fun _ h => by simp at h) (twins_ok T) (fun _ h => by simp at h) hu ?_
  by_cases e : T = []
  · have := h0 e
    simpa [e] using this
  · have := h1 e
    simpa [e] using this
end
/-! ## for a, b in a list of the call's own, whose ledger only grows -/
def PairAt (prog : Program) (w : World) (A : Around) (env : Env) (target : PySem.Expr) (body : List Stmt) (Q : Flow → Shared → Prop) (E : Value → Shared → Prop) (it : Value) (s₂ : Shared) : Prop :=
  codeAny (model prog w) A (.forLoop target it body [] env) (fun r s' => match r with | .ok f => Q f s' | .error e => cameBackBy (model prog w) A env E e s') s₂
def PEnd (h₀ : Heap) (L : Addr) (R : (Str → Option Value) → Prop) (need : List (Addr × Obj)) (s₁ s₂ : Shared) : Prop :=
  ∃ h' tk m' news', s₂ = { s₁ with heap := h', toks := tk } ∧ Fr h₀ L h' m' ∧ News h₀ L h' news' ∧ (∀ p ∈ need, p ∈ news') ∧ R m'
def PPost (h₀ : Heap) (L : Addr) (R : (Str → Option Value) → Prop) (need : List (Addr × Obj)) (s₁ : Shared) (Q : Flow → Shared → Prop) (f : Flow) (s₂ : Shared) : Prop :=
  match f with
  | .ret v => Q (.ret v) s₂
  | .brk => Q .next s₂
  | _ => PEnd h₀ L R need s₁ s₂
def PairInv (s : Shared) (I l : Addr) (h₀ : Heap) (L : Addr) (news : List (Addr × Obj)) (R : (Str → Option Value) → Prop) (n k : Nat) (s' : Shared) : Prop :=
  ∃ h' tk m' i, s' = { s with heap := h', toks := tk } ∧ h'.IsListIter I l i ∧ Fr h₀ L h' m' ∧ News h₀ L h' news ∧ R m' ∧ i ≤ n ∧ k = n + 1 - i
theorem pairInv_elim {P : Nat → Shared → Prop} {s s' : Shared} {I l : Addr} {h₀ : Heap} {L : Addr} {news : List (Addr × Obj)} {R : (Str → Option Value) → Prop} {n k : Nat} (hI : PairInv s I l h₀ L news R n k s')
    (f : ∀ h' tk m' i, h'.IsListIter I l i → Fr h₀ L h' m' → News h₀ L h' news → R m' → i ≤ n → P (n + 1 - i) { s with heap := h', toks := tk }) : P k s' := by
  obtain ⟨h', tk, m', i, rfl, hit, F', N', hR, hi, rfl⟩ := hI
  exact f h' tk m' i hit F' N' hR hi
theorem pair_elim {P : Value → Prop} {news : List (Addr × Obj)} {K : Value → Value → Prop} {v : Value} (h : ∃ t a b n, v = .ref t ∧ (t, tupO [a, b] n) ∈ news ∧ K a b) (f : ∀ t a b n, (t, tupO [a, b] n) ∈ news → K a b → P (.ref t)) : P v := by
  obtain ⟨t, a, b, n, rfl, h1, h2⟩ := h
  exact f t a b n h1 h2
section
variable {prog : Program} {w : World} {A : Around} {E : Value → Shared → Prop} {s : Shared} {env : Env} {h₀ : Heap} {body : List Stmt} {Q : Flow → Shared → Prop}
theorem pend {L : Addr} {R : (Str → Option Value) → Prop} {need led' : List (Addr × Obj)} {s₁ : Shared} {h' : Heap} {tk : Nat} {m' : Str → Option Value}
    (F : Fr h₀ L h' m') (N : News h₀ L h' led') (ho : ∀ q ∈ need, q ∈ led') (hj : R m') : PEnd h₀ L R need s₁ { s₁ with heap := h', toks := tk } := ⟨h', tk, m', led', rfl, F, N, ho, hj⟩
theorem For_pair {target iter : PySem.Expr} {pos : Pos} (h : wpAny (model prog w) A (eval iter env) (fun xv s₁ => wpAny (model prog w) A (pyIter xv) (fun it s₂ => PairAt prog w A env target body Q E it s₂) E s₁) E s)
    (hs : ∀ x, foldedSetIterable iter env x = pure x := by intro _; rfl) : wpAny (model prog w) A (exec (.For target iter body [] pos) env) Q E s :=
  wpAny_For h hs
theorem my_pairs {x y : Str} {px py pt : Pos} {x1 : Nat} {l : Addr} {vs : List Value} {k : Nat} {m₀ : Str → Option Value} {news : List (Addr × Obj)}
    (hx : env.kindOf x = some .local) (hy : env.kindOf y = some .local) (hp : (env.scope.kind == .class || (env.scope.kind == .module && env.locals != env.globals)) = false)
    (hh : A.handled = none) (F : Fr h₀ env.locals s.heap m₀) (N : News h₀ env.locals s.heap news) (hl : (l, W.listOf vs.toArray k) ∈ news)
    (P : Value → Value → Prop) (hvs : ∀ (i : Nat) (v : Value), vs[i]? = some v → ∃ t a b n, v = .ref t ∧ (t, tupO [a, b] n) ∈ news ∧ P a b)
    (R : (Str → Option Value) → Prop) (hr : R m₀)
    (turn : ∀ a b m₁ h tk own, P a b → R m₁ →
      Fr h₀ env.locals h (fun z => if z = y then some b else if z = x then some a else m₁ z) → News h₀ env.locals h (own ++ news) →
      wpAny (model prog w) A (execs body env) (PPost h₀ env.locals R (own ++ news) { s with heap := h, toks := tk } Q) E { s with heap := h, toks := tk })
    (done : ∀ m₁ h tk, R m₁ → Fr h₀ env.locals h m₁ → News h₀ env.locals h news → Q .next { s with heap := h, toks := tk })
    (hE : PassesOwn (model prog w) A env E := by passes_own) :
    wpAny (model prog w) A (pyIter (.ref l)) (fun it s₂ => PairAt prog w A env (.Tuple [.Name x px, .Name y py] x1 pt) body Q E it s₂) E s := by
  have hls : s.heap.IsList l vs.toArray := ⟨_, (N _ hl).1, rfl, k, rfl⟩
  refine wpAny_pyIter_list hls ?_
  have nI : h₀.get? s.heap.objs.size = none := next_is_new F
  have hI0 := F.ns.lt
  generalize hI : s.heap.objs.size = I at nI hI0 ⊢
  have hIL : @Ne Nat I env.locals := Nat.ne_of_gt hI0
  have oldI : ∀ p ∈ news, @Ne Nat p.1 I := fun p hp => by rw [← hI]; exact Nat.ne_of_lt (Heap.lt_size (N p hp).1)
  unfold PairAt
  refine codeAny_forLoop_any (PairInv s I l h₀ env.locals news R vs.length) ?_ (vs.length + 1)
    ⟨_, s.toks, m₀, 0, rfl, ⟨_, by rw [← hI]; exact Heap.get?_push_size _ rfl, rfl, rfl⟩, F.push _, fun p hp => ⟨Heap.get?_push_of_some _ (N p hp).1, (N p hp).2⟩, hr, Nat.zero_le _, rfl⟩
  intro k' s' hI0
  apply pairInv_elim hI0
  intro h' tk m' i hit F' N' hR hi
  have hl' : h'.IsList l vs.toArray := ⟨_, (N' _ hl).1, rfl, k, rfl⟩
  cases hv : vs[i]? with
  | none =>
    have hsz : i = vs.length := Nat.le_antisymm hi (by simpa using hv)
    refine wpAny_pyNext_list_end hh hit hl' (by simpa using hv) fun h₁ he₁ => wpAny_execs_nil ?_
    have he₁ : Heap.ExtBut I h' h₁ := he₁
    exact done m' h₁ tk hR ⟨F'.ns.extBut he₁ (Ne.symm hIL), fun b o e => he₁ b o (fun q => by rw [q, nI] at e; cases e) (F'.keep b o e), F'.above⟩ fun p hp => ⟨he₁ _ _ (oldI p hp) (N' p hp).1, (N' p hp).2⟩
  | some v =>
    have hlt : i < vs.length := (List.getElem?_eq_some_iff.mp hv).1
    obtain ⟨t, a, b, n, rfl, ht, hP⟩ := hvs i v hv
    refine wpAny_pyNext_list_item hit hl' (x := .ref t) (by simpa using hv) fun h₁ hit₁ hs₁ => ?_
    have hs₁ : Heap.SameBut I h' h₁ := hs₁
    (try dsimp only)
    have F₁ : Fr h₀ env.locals h₁ m' := ⟨F'.ns.extBut hs₁.extBut (Ne.symm hIL), fun b o e => hs₁.extBut b o (fun q => by rw [q, nI] at e; cases e) (F'.keep b o e), F'.above⟩
    have N₁ : News h₀ env.locals h₁ news := fun p hp => ⟨hs₁.extBut _ _ (oldI p hp) (N' p hp).1, (N' p hp).2⟩
    refine wpAny_letOwnedTupleGo_listiter hit₁ ?_
    obtain ⟨oI, hoI, hcI, hdI⟩ := id hit₁
    have NI : News h₀ env.locals h₁ ((I, oI) :: news) := fun p hp => by
      rcases List.mem_cons.mp hp with rfl | hp
      · exact ⟨hoI, hIL, nI⟩
      · exact N₁ p hp
    (try dsimp only)
    refine unpackN_ F₁ NI (News.isTup N₁ ht) hh rfl rfl fun h₃ F₃ N₃ => ?_
    (try dsimp only)
    show wpAny _ A (do holding [b] (assign (.Name x px) env a); holding [] (assign (.Name y py) env b); pure ()) _ _ _
    refine wpAny_bind (wpAny_holding (wpAny_assign_Name (wpAny_storeName_local hx F₃.ns (fun h₄ hn₄ hs₄ => ?_) hp)))
    have F₄ := F₃.set hn₄ hs₄
    (try dsimp only)
    have N₄ := N₃.set hs₄
    refine wpAny_bind (wpAny_holding (wpAny_assign_Name (wpAny_storeName_local hy F₄.ns (fun h₅ hn₅ hs₅ => wpAny_pure ?_) hp)))
    have F₅ := F₄.set hn₅ hs₅
    (try dsimp only)
    have N₅ := N₄.set hs₅
    refine wpAny_passesOwn hE (wpAny_mono (turn a b m' h₅ _ [(I, oI)] hP hR F₅ N₅) (fun f s₃ h₆ => ?_) fun _ _ e => e)
    have fin : ∀ tk0 s₃, PEnd h₀ env.locals R ([(I, oI)] ++ news) { s with heap := h₅, toks := tk0 } s₃ → ∃ m, m < vs.length + 1 - i ∧ PairInv s I l h₀ env.locals news R vs.length m s₃ := by
      rintro tk0 s₃ ⟨h₇, tk₆, m₆, news₆, rfl, F₆, N₆, hsub, hR₆⟩
      exact ⟨vs.length + 1 - (i + 1), by omega, h₇, tk₆, m₆, i + 1, rfl, ⟨oI, (N₆ _ (hsub _ (.head _))).1, hcI, hdI⟩, F₆, fun p hp => N₆ p (hsub p (.tail _ hp)), hR₆, hlt, rfl⟩
    cases f with
    | next => exact fin _ _ h₆
    | cont => exact fin _ _ h₆
    | brk => exact h₆
    | ret v => exact h₆
end

section
variable {w : World} {led : List (Addr × Obj)} {ad : Ads} {aj : Addr} {b : Bool} {J : Sto} {X Y : Side} {TT : List (Int × Int × Int)}
abbrev Out (led led' : List (Addr × Obj)) (ds : List Dat) (v : Value) : Prop := ∃ l n vs, v = .ref l ∧ (∀ q ∈ led, q ∈ led') ∧ (l, W.listOf vs.toArray n) ∈ led' ∧ DatAll led' vs ds
theorem cShownJ (c : Core w led ad aj b J X Y TT) (g : Int) (tg : Tok) (hlen : X.C.length < 20) : Spec w 195 [.ref aj, .ref (bif b then ad.p1 else ad.p0), .int g tg] 80 led (fun v led' => Out led led' (shown J.recs g (X.C.map (·.1))) v) := by
  rw [← c.aJ, ← c.aXp]
  exact shown_spec w J X.pj g tg _ led c.H.fj c.H.hp c.P.x.lJ (by rw [List.length_map]; omega)
theorem cShownA (c : Core w led ad aj b J X Y TT) (g : Int) (tg : Tok) (hlen : X.C.length < 20) : Spec w 195 [.ref (bif b then ad.s1 else ad.s0), .ref (bif b then ad.q1 else ad.q0), .int g tg] 80 led (fun v led' => Out led led' (shown X.A.recs g (X.C.map (·.2))) v) := by
  rw [← c.aXs, ← c.aXq]
  exact shown_spec w X.A X.q g tg _ led c.H.fa c.H.hq c.P.x.lA (by rw [List.length_map]; omega)
theorem cLedJ (c : Core w led ad aj b J X Y TT) (g : Int) (tg : Tok) (hlen : X.C.length < 20) {cell : Addr} {cd : Dat} (hc : DatIn (tups led) (.ref cell) cd) (oc : kqdOk 6 cd = true) :
    Spec w 202 [.ref aj, .ref (bif b then ad.p1 else ad.p0), .int g tg, .ref cell] 80 led (fun v led' => Out led led' (ledD J.recs g cd (X.C.map (·.1))) v) := by
  rw [← c.aJ, ← c.aXp]
  exact led_spec w J X.pj g tg cell cd _ led c.H.fj c.H.hp c.P.x.lJ (by rw [List.length_map]; omega) (hc.mono tups_sub) (kqdOk_up 6 8 _ (by omega) oc)
theorem cLedA (c : Core w led ad aj b J X Y TT) (g : Int) (tg : Tok) (hlen : X.C.length < 20) {cell : Addr} {cd : Dat} (hc : DatIn (tups led) (.ref cell) cd) (oc : kqdOk 6 cd = true) :
    Spec w 202 [.ref (bif b then ad.s1 else ad.s0), .ref (bif b then ad.q1 else ad.q0), .int g tg, .ref cell] 80 led (fun v led' => Out led led' (ledD X.A.recs g cd (X.C.map (·.2))) v) := by
  rw [← c.aXs, ← c.aXq]
  exact led_spec w X.A X.q g tg cell cd _ led c.H.fa c.H.hq c.P.x.lA (by rw [List.length_map]; omega) (hc.mono tups_sub) (kqdOk_up 6 8 _ (by omega) oc)
theorem Core.shown_eq (c : Core w led ad aj b J X Y TT) {e : Int × Int × Int} (he : e ∈ TT) : shown J.recs e.1 (X.C.map (·.1)) = shown X.A.recs (bif b then e.2.2 else e.2.1) (X.C.map (·.2)) :=
  shown_twin (t := (e.1, bif b then e.2.2 else e.2.1)) (List.mem_map.mpr ⟨e, he, rfl⟩) X.C c.P.x.twin
theorem Core.led_eq (c : Core w led ad aj b J X Y TT) {e : Int × Int × Int} (he : e ∈ TT) (cd : Dat) : ledD J.recs e.1 cd (X.C.map (·.1)) = ledD X.A.recs (bif b then e.2.2 else e.2.1) cd (X.C.map (·.2)) :=
  led_twin (t := (e.1, bif b then e.2.2 else e.2.1)) (List.mem_map.mpr ⟨e, he, rfl⟩) cd X.C c.P.x.twin
end
section
variable {prog : Program} {w : World} {A : Around} {E : Value → Shared → Prop} {s : Shared} {h₀ : Heap} {L : Addr} {news n₁ n₂ : List (Addr × Obj)} {Q : Value → Shared → Prop}
theorem same_ne {a b : Addr} {xs ys : List Value} {ka kb : Nat} {ds es : List Dat} (N : News h₀ L s.heap news) (ma : (a, W.listOf xs.toArray ka) ∈ n₁) (Da : DatAll n₁ xs ds) (sa : ∀ p ∈ n₁, p ∈ news)
    (mb : (b, W.listOf ys.toArray kb) ∈ n₂) (Db : DatAll n₂ ys es) (sb : ∀ p ∈ n₂, p ∈ news) (e : ds = es) (ok : ∀ d ∈ ds, kqdOk 8 d = true) (hu : A.units + 64 < cLine) (h : Q (.bool false) s) : wpAny (model prog w) A (compareOp .NotEq (.ref a) (.ref b)) Q E s := by
  subst e
  exact kqd_ne N (sa _ ma) rfl rfl Da sa (sb _ mb) rfl rfl Db sb ok ok hu (by simpa using h)
end
def PNote (led : List (Addr × Obj)) (TT : List (Int × Int × Int)) (a b : Value) : Prop := ∃ e tg li k0 k1 m, e ∈ TT ∧ a = .int e.1 tg ∧ b = .ref li ∧ (li, W.listOf [Value.int e.2.1 k0, Value.int e.2.2 k1].toArray m) ∈ led
theorem NotedAre.pairs {led : List (Addr × Obj)} {lo : Addr} {vs : List Value} {TT : List (Int × Int × Int)} (h : NotedAre led lo vs TT) : ∀ (i : Nat) (v : Value), vs[i]? = some v → ∃ t a b n, v = .ref t ∧ (t, tupO [a, b] n) ∈ led ∧ PNote led TT a b := by
  intro i v hv
  have hlt : i < TT.length := h.1 ▸ (List.getElem?_eq_some_iff.mp hv).1
  obtain ⟨t, li, tg, k0, k1, n, m, h1, h2, h3, _⟩ := h.2 i _ (List.getElem?_eq_getElem hlt)
  exact ⟨t, _, _, n, Option.some.inj (hv.symm.trans h1), h2, _, tg, li, k0, k1, m, List.getElem_mem hlt, rfl, rfl, h3⟩
theorem two_ints {a b : Tok} {j : Nat} {v : Value} (h : [Value.int 0 a, .int 1 b][j]? = some v) : v = .int 0 a ∨ v = .int 1 b := by
  rcases j with _ | _ | j
  · exact .inl (Option.some.inj h).symm
  · exact .inr (Option.some.inj h).symm
  · simp at h
theorem news_note {h₀ h : Heap} {L : Addr} {p q : Addr × Obj} {rest led : List (Addr × Obj)} {d : Addr} {o : Obj} (N : News h₀ L h (p :: q :: rest)) (hs : ∀ x ∈ led, x ∈ rest) (hm : (d, o) ∈ led) : News h₀ L h (p :: q :: (d, o) :: off [d] led) := by
  intro x hx
  rcases List.mem_cons.mp hx with rfl | hx
  · exact N _ (.head _)
  · rcases List.mem_cons.mp hx with rfl | hx
    · exact N _ (.tail _ (.head _))
    · rcases List.mem_cons.mp hx with rfl | hx
      · exact N _ (.tail _ (.tail _ (hs _ hm)))
      · exact N _ (.tail _ (.tail _ (hs _ (mem_off.mp hx).1)))
theorem noted_kept {h₀ h : Heap} {L : Addr} {led led' : List (Addr × Obj)} {ad : Ads} {vs us : List Value} {n : Nat} {TT : List (Int × Int × Int)} (N : News h₀ L h led) (hm : (ad.nt, W.listOf us.toArray n) ∈ led) (h : NotedAre led ad.nt vs TT) (k : Kept [ad.nt] led led') : NotedAre led' ad.nt vs TT :=
  (lrest (ad := ad) N k ⟨_, hm, rfl⟩).nt (Nat.le_refl _) h
noncomputable def map1 (a : Str) (u : Option Value) (m₀ : Str → Option Value) (y : Str) : Option Value := if y = a then u else m₀ y
theorem map1_of {a : Str} {m₀ m : Str → Option Value} (h : ∀ y, y ≠ a → m y = m₀ y) : m = map1 a (m a) m₀ := by
  funext y
  unfold map1
  by_cases h1 : y = a
  · rw [if_pos h1, h1]
  · rw [if_neg h1]; exact h y h1
theorem map1_0 {a : Str} {m₀ : Str → Option Value} : m₀ = map1 a (m₀ a) m₀ := map1_of fun _ _ => rfl
/-- the frame of law at its loop -/
noncomputable def frm (ad : Ads) (aj : Addr) (mv : Value) (m₀ : Str → Option Value) (y : Str) : Option Value :=
  if y = "many" then some mv else if y = "noted" then some (.ref ad.nt) else if y = "twins" then some (.ref ad.tw) else if y = "alone" then some (.ref ad.nl) else if y = "apart" then some (.ref ad.al)
  else if y = "procs" then some (.ref ad.pl) else if y = "joined" then some (.ref aj) else if y = "words" then some (.ref ad.wl) else if y = "figures" then some (.ref ad.fg) else m₀ y
theorem fr_frm {h₀ h : Heap} {L : Addr} {ad : Ads} {aj : Addr} {mv : Value} {m₀ : Str → Option Value}
    (F : Fr h₀ L h (fun y => if y = "many" then some mv else if y = "noted" then some (.ref ad.nt) else if y = "twins" then some (.ref ad.tw) else if y = "alone" then some (.ref ad.nl) else if y = "apart" then some (.ref ad.al)
      else if y = "procs" then some (.ref ad.pl) else if y = "joined" then some (.ref aj) else if y = "words" then some (.ref ad.wl) else if y = "figures" then some (.ref ad.fg) else m₀ y)) : Fr h₀ L h (frm ad aj mv m₀) := F
theorem sel_ref (b : Bool) (p q : Addr) : [Value.ref p, .ref q][(bif b then (1 : Int) else 0).toNat]? = some (.ref (bif b then q else p)) := by cases b <;> rfl
theorem sel_int (b : Bool) (p q : Int) (t u : Tok) : [Value.int p t, .int q u][(bif b then (1 : Int) else 0).toNat]? = some (.int (bif b then q else p) (bif b then u else t)) := by cases b <;> rfl
theorem sel0 (b : Bool) : 0 ≤ (bif b then (1 : Int) else 0) := by cases b <;> decide
theorem sel63 (b : Bool) : (bif b then (1 : Int) else 0) < 2 ^ 63 := by cases b <;> decide
theorem st_cond {M : Model} {A : Around} {E : Value → Shared → Prop} {s : Shared} {a b : PySem.Expr} {f : Addr} {x y : Int} {c : Bool} {t : Tok} {Q : Value → Shared → Prop} (h : wpAny M A (subscriptTail a b (.ref f) (.int (bif c then x else y) t)) Q E s) : wpAny M A (subscriptTail a b (.ref f) (.int (bif c then x else y) t)) Q E s := h
theorem who_of {w : World} {led : List (Addr × Obj)} {ad : Ads} {aj : Addr} {J : Sto} {X Y : Side} {TT : List (Int × Int × Int)} {n : Nat} {a c : Tok} {j : Nat} {v : Value} (hj : [Value.int 0 a, .int 1 c][j]? = some v) (k : Core w led ad aj false J X Y TT) (h : Bnd n J X Y) :
    ∃ b t X Y, v = .int (bif b then 1 else 0) t ∧ Core w led ad aj b J X Y TT ∧ Bnd n J X Y := by
  rcases two_ints hj with rfl | rfl
  · exact ⟨false, a, X, Y, rfl, k, h⟩
  · exact ⟨true, c, Y, X, rfl, k.swap, h.swap⟩
theorem deed_of {x : Int} (h : x = 0 ∨ x = 1 ∨ x = 2 ∨ x = 3) : (0 ≤ x ∧ x < 2) ∨ x = 2 ∨ x = 3 := by
  rcases h with rfl | rfl | h
  · exact .inl (by decide)
  · exact .inl (by decide)
  · exact .inr h
theorem Bnd.kept {n : Nat} {J J' A' : Sto} {X Y : Side} (h : Bnd n J X Y) (e1 : J'.recs.length = J.recs.length) (e2 : A'.recs.length = X.A.recs.length) : Bnd (n + 1) J' ⟨X.pj, A', X.q, X.C, X.T⟩ Y :=
  ⟨e1 ▸ Nat.le_succ_of_le h.j, e2 ▸ Nat.le_succ_of_le h.x, Nat.le_succ_of_le h.y, Nat.le_succ_of_le h.cx, Nat.le_succ_of_le h.cy, Nat.le_succ_of_le h.tx, Nat.le_succ_of_le h.ty⟩
theorem Bnd.grown {n : Nat} {J J' : Sto} {X X' Y : Side} {p : Nat × Nat} (h : Bnd n J X Y) (e1 : J'.recs.length = J.recs.length + 1) (e2 : X'.A.recs.length = X.A.recs.length + 1) (e3 : X'.C.length = X.C.length + 1) (e4 : X'.T = X.T ++ [p]) : Bnd (n + 1) J' X' Y :=
  ⟨e1 ▸ Nat.succ_le_succ h.j, e2 ▸ Nat.succ_le_succ h.x, Nat.le_succ_of_le h.y, e3 ▸ Nat.succ_le_succ h.cx, Nat.le_succ_of_le h.cy, by rw [e4, List.length_append]; exact Nat.succ_le_succ h.tx, Nat.le_succ_of_le h.ty⟩
theorem fr_turn {h₀ h : Heap} {L : Addr} {t w d u1 u2 u3 u4 u5 u6 : Option Value} {m₀ : Str → Option Value}
    (F : Fr h₀ L h (fun y => if y = "deed" then d else if y = "who" then w else if y = "turn" then t else map6 "turn" "who" "deed" "word" "one" "pair" u1 u2 u3 u4 u5 u6 m₀ y)) : Fr h₀ L h (map6 "turn" "who" "deed" "word" "one" "pair" t w d u4 u5 u6 m₀) := by
  have e : (fun y : Str => if y = "deed" then d else if y = "who" then w else if y = "turn" then t else map6 "turn" "who" "deed" "word" "one" "pair" u1 u2 u3 u4 u5 u6 m₀ y) = map6 "turn" "who" "deed" "word" "one" "pair" t w d u4 u5 u6 m₀ := by
    funext y
    unfold map6
    by_cases h1 : y = "turn"
    · rw [h1, if_neg (by decide), if_neg (by decide), if_pos rfl, if_pos rfl]
    by_cases h2 : y = "who"
    · rw [h2, if_neg (by decide), if_pos rfl, if_neg (by decide), if_pos rfl]
    by_cases h3 : y = "deed"
    · rw [h3, if_pos rfl, if_neg (by decide), if_neg (by decide), if_pos rfl]
    rw [if_neg h3, if_neg h2, if_neg h1, if_neg h1, if_neg h2, if_neg h3, if_neg h1, if_neg h2, if_neg h3]
  rw [← e]
  exact F
theorem fr_top {p : Program} {loose : List Str} {mean : ExcName → Option Value} {mg mb m : Str → Option Value} {g h : Heap} {L : Addr} (T : Top p loose mean mg mb g) (F : Fr T.heap L h m) : Fr g L h m := F
theorem news_top {p : Program} {loose : List Str} {mean : ExcName → Option Value} {mg mb : Str → Option Value} {g h : Heap} {L : Addr} {l : List (Addr × Obj)} (T : Top p loose mean mg mb g) (N : News T.heap L h l) : News g L h l := N
theorem below_top {p : Program} {loose : List Str} {mean : ExcName → Option Value} {mg mb : Str → Option Value} {g : Heap} {A₀ : Around} {base : Heap} {outer : List Env} (T : Top p loose mean mg mb g) (B : Below A₀ base outer T.heap) : Below A₀ base outer g := B
section
variable {w : World} {p : Program} {loose : List Str} {mean : ExcName → Option Value} {mg mb : Str → Option Value} {dp un : Nat} {gd : Option (List Code)} {cn : Str} {cs : Scope} {a : Addr} {ccd : Value} {cl : List (Str × Addr)} {outer : List Env} {A₀ : Around} {base h₀ : Heap} {L : Addr} {m : Str → Option Value} {s : Shared} {Q E : Value → Shared → Prop}
  {news led : List (Addr × Obj)} {ad : Ads} {aj : Addr} {b : Bool} {J : Sto} {X Y : Side} {TT : List (Int × Int × Int)}
theorem uStore (B : Below A₀ base outer h₀) (F : Fr h₀ L s.heap m) (K : (hd.heap_39 w.params).In h₀) (N : News h₀ L s.heap news) (T : Top p loose mean mg mb h₀) (hk : cs.kind = .function)  (hsub : ∀ q ∈ led, q ∈ news) (hd : dp + 40 < recursionLimit) (hu : un + 8 * 40 < cLine)
    (ret : ∀ S led' h' tk', Full w led' S → S.recs = [] → S.gen = 0 → (∀ q ∈ led, q ∈ led') → (∀ q ∈ led, @LT.lt Nat _ q.1 S.a ∧ @LT.lt Nat _ q.1 S.d ∧ @LT.lt Nat _ q.1 S.rd) → Fr h₀ L h' m → News h₀ L h' led' → Q (.ref S.a) { s with heap := h', toks := tk' }) :
    wpAny (model PySem.Challenge.rw_rr0014_01.row.prog w) (ktrTop dp un gd cn cs L a ccd cl outer) (call (.ref 165) []) Q E s := by
  refine Spec.use B F K N T hk (store_new w led) hsub hd hu ?_
  rintro r led' h' tk' ⟨S, rfl, h1, h2, h3, h4, h5⟩ F' N'
  exact ret S led' h' tk' h1 h2 h3 h4 h5 F' N'
theorem uProc (B : Below A₀ base outer h₀) (F : Fr h₀ L s.heap m) (K : (hd.heap_39 w.params).In h₀) (N : News h₀ L s.heap news) (T : Top p loose mean mg mb h₀) (hk : cs.kind = .function) {f : Int} {tf ts : Tok} (hsub : ∀ q ∈ led, q ∈ news) (hd : dp + 40 < recursionLimit) (hu : un + 8 * 40 < cLine)
    (ret : ∀ S led' h' tk', PrcIn w led' S → S.functor = f → S.first = -1 → S.last = -1 → (∀ q ∈ led, q ∈ led') → (∀ q ∈ led, @LT.lt Nat _ q.1 S.a ∧ @LT.lt Nat _ q.1 S.d) → Fr h₀ L h' m → News h₀ L h' led' → Q (.ref S.a) { s with heap := h', toks := tk' }) :
    wpAny (model PySem.Challenge.rw_rr0014_01.row.prog w) (ktrTop dp un gd cn cs L a ccd cl outer) (call (.ref 74) [.int f tf, .str "dynamic" ts]) Q E s := by
  refine Spec.use B F K N T hk (proc_new w led f tf ts) hsub hd hu ?_
  rintro r led' h' tk' ⟨S, rfl, h1, h2, h3, h4, h5, h6⟩ F' N'
  exact ret S led' h' tk' h1 h2 h3 h4 h5 h6 F' N'
theorem uDraw (B : Below A₀ base outer h₀) (F : Fr h₀ L s.heap m) (K : (hd.heap_39 w.params).In h₀) (N : News h₀ L s.heap news) (T : Top p loose mean mg mb h₀) (hk : cs.kind = .function) {k : Int} {t : Tok} (c : Core w led ad aj b J X Y TT) (hk0 : 0 < k) (hsub : ∀ q ∈ led, q ∈ news) (hd : dp + 50 < recursionLimit) (hu : un + 8 * 50 < cLine)
    (ret : ∀ r tr led' h' tk', 0 ≤ Ix r → Ix r < k → Core w led' ad aj b J X Y TT → Its led led' → Kept [ad.fg] led led' → Fr h₀ L h' m → News h₀ L h' led' → Q (.int (Ix r) tr) { s with heap := h', toks := tk' }) :
    wpAny (model PySem.Challenge.rw_rr0014_01.row.prog w) (ktrTop dp un gd cn cs L a ccd cl outer) (call (.ref 183) [.ref ad.fg, .int k t]) Q E s := by
  refine Spec.use B F K N T hk (cDraw c t hk0) hsub hd hu ?_
  rintro r led' h' tk' ⟨r, tr, rfl, h1, h2, h3, h4, h5⟩ F' N'
  exact ret r tr led' h' tk' h1 h2 h3 h4 h5 F' N'
theorem uEnterJ (B : Below A₀ base outer h₀) (F : Fr h₀ L s.heap m) (K : (hd.heap_39 w.params).In h₀) (N : News h₀ L s.heap news) (T : Top p loose mean mg mb h₀) (hk : cs.kind = .function) {front : Bool} {num : Int} {tn : Tok} {ikey : Addr} {ik : Dat} (c : Core w led ad aj b J X Y TT) (hlen : J.recs.length < 100) (hik : DatIn (tups led) (.ref ikey) ik) (oi : kqdOk 6 ik = true) (hsub : ∀ q ∈ led, q ∈ news) (hd : dp + 120 < recursionLimit) (hu : un + 8 * 120 < cLine)
    (ret : ∀ t J' pj' led' h' tk', MidE w led' ad aj b J X Y TT J' pj' front num ik → DatIn (tups led') (.ref ikey) ik → Its led led' → Fr h₀ L h' m → News h₀ L h' led' → Q (.int J.recs.length t) { s with heap := h', toks := tk' }) :
    wpAny (model PySem.Challenge.rw_rr0014_01.row.prog w) (ktrTop dp un gd cn cs L a ccd cl outer) (call (.ref 190) [.ref aj, .ref (bif b then ad.p1 else ad.p0), .bool front, .int num tn, .ref ikey]) Q E s := by
  refine Spec.use B F K N T hk (cEnterJ c front num tn ikey ik hlen hik oi) hsub hd hu ?_
  rintro r led' h' tk' ⟨t, J', pj', rfl, h1, h2, h3⟩ F' N'
  exact ret t J' pj' led' h' tk' h1 h2 h3 F' N'
theorem uEnterA (B : Below A₀ base outer h₀) (F : Fr h₀ L s.heap m) (K : (hd.heap_39 w.params).In h₀) (N : News h₀ L s.heap news) (T : Top p loose mean mg mb h₀) (hk : cs.kind = .function) {J' : Sto} {pj' : Prc} {front : Bool} {num : Int} {tn : Tok} {ikey : Addr} {ik : Dat} (c : MidE w led ad aj b J X Y TT J' pj' front num ik) (hlen : X.A.recs.length < 100) (hik : DatIn (tups led) (.ref ikey) ik) (oi : kqdOk 6 ik = true) (hsub : ∀ q ∈ led, q ∈ news) (hd : dp + 120 < recursionLimit) (hu : un + 8 * 120 < cLine)
    (ret : ∀ t X' led' h' tk', EndE w led' ad aj b J' X' Y TT X.T → X'.T = X.T ++ [(J.recs.length, X.A.recs.length)] → J'.recs.length = J.recs.length + 1 → X'.A.recs.length = X.A.recs.length + 1 → X'.C.length = X.C.length + 1 → Its led led' → Fr h₀ L h' m → News h₀ L h' led' → Q (.int X.A.recs.length t) { s with heap := h', toks := tk' }) :
    wpAny (model PySem.Challenge.rw_rr0014_01.row.prog w) (ktrTop dp un gd cn cs L a ccd cl outer) (call (.ref 190) [.ref (bif b then ad.s1 else ad.s0), .ref (bif b then ad.q1 else ad.q0), .bool front, .int num tn, .ref ikey]) Q E s := by
  refine Spec.use B F K N T hk (cEnterA c tn ikey hlen hik oi) hsub hd hu ?_
  rintro r led' h' tk' ⟨t, X', rfl, h1, h2, h3, h4, h5, h6⟩ F' N'
  exact ret t X' led' h' tk' h1 h2 h3 h4 h5 h6 F' N'
theorem uEraseJ (B : Below A₀ base outer h₀) (F : Fr h₀ L s.heap m) (K : (hd.heap_39 w.params).In h₀) (N : News h₀ L s.heap news) (T : Top p loose mean mg mb h₀) (hk : cs.kind = .function) {pt : Nat × Nat} {tk : Tok} (c : Core w led ad aj b J X Y TT) (hp : pt ∈ X.T) (hsub : ∀ q ∈ led, q ∈ news) (hd : dp + 80 < recursionLimit) (hu : un + 8 * 80 < cLine)
    (ret : ∀ r J' led' h' tk', J.recs[pt.1]? = some r → MidK w led' ad aj b J X Y TT J' (if r.death < 0 then [pt.1] else []) (if r.death < 0 then J.gen + 1 else J.gen) → Its led led' → (∀ q ∈ tups led, q ∈ tups led') → Fr h₀ L h' m → News h₀ L h' led' → Q (.bool (decide (r.death < 0))) { s with heap := h', toks := tk' }) :
    wpAny (model PySem.Challenge.rw_rr0014_01.row.prog w) (ktrTop dp un gd cn cs L a ccd cl outer) (call (.ref 155) [.ref aj, .int (pt.1 : Int) tk]) Q E s := by
  refine Spec.use B F K N T hk (cEraseJ c hp tk) hsub hd hu ?_
  rintro r led' h' tk' ⟨r, J', rfl, h1, h2, h3, h4⟩ F' N'
  exact ret r J' led' h' tk' h1 h2 h3 h4 F' N'
theorem uEraseA (B : Below A₀ base outer h₀) (F : Fr h₀ L s.heap m) (K : (hd.heap_39 w.params).In h₀) (N : News h₀ L s.heap news) (T : Top p loose mean mg mb h₀) (hk : cs.kind = .function) {J' : Sto} {pt : Nat × Nat} {tk : Tok} {r : Rec} (hp : pt ∈ X.T) (hr : J.recs[pt.1]? = some r) (c : MidK w led ad aj b J X Y TT J' (if r.death < 0 then [pt.1] else []) (if r.death < 0 then J.gen + 1 else J.gen)) (hsub : ∀ q ∈ led, q ∈ news) (hd : dp + 80 < recursionLimit) (hu : un + 8 * 80 < cLine)
    (ret : ∀ A' led' h' tk', Core w led' ad aj b J' ⟨X.pj, A', X.q, X.C, X.T⟩ Y TT → J'.recs.length = J.recs.length → A'.recs.length = X.A.recs.length → Its led led' → Fr h₀ L h' m → News h₀ L h' led' → Q (.bool (decide (r.death < 0))) { s with heap := h', toks := tk' }) :
    wpAny (model PySem.Challenge.rw_rr0014_01.row.prog w) (ktrTop dp un gd cn cs L a ccd cl outer) (call (.ref 155) [.ref (bif b then ad.s1 else ad.s0), .int (pt.2 : Int) tk]) Q E s := by
  refine Spec.use B F K N T hk (cEraseA hp hr c tk) hsub hd hu ?_
  rintro r led' h' tk' ⟨rfl, A', h1, h2, h3, h4⟩ F' N'
  exact ret A' led' h' tk' h1 h2 h3 h4 F' N'
theorem uKillJ (B : Below A₀ base outer h₀) (F : Fr h₀ L s.heap m) (K : (hd.heap_39 w.params).In h₀) (N : News h₀ L s.heap news) (T : Top p loose mean mg mb h₀) (hk : cs.kind = .function) (c : Core w led ad aj b J X Y TT) (hlen : X.C.length ≤ 100) (hsub : ∀ q ∈ led, q ∈ news) (hd : dp + 80 < recursionLimit) (hu : un + 8 * 80 < cLine)
    (ret : ∀ r J' led' h' tk', MidK w led' ad aj b J X Y TT J' (seen J.recs J.gen (X.C.map (·.1))) (if seen J.recs J.gen (X.C.map (·.1)) = [] then J.gen else J.gen + 1) → Its led led' → Fr h₀ L h' m → News h₀ L h' led' → Q (r) { s with heap := h', toks := tk' }) :
    wpAny (model PySem.Challenge.rw_rr0014_01.row.prog w) (ktrTop dp un gd cn cs L a ccd cl outer) (call (.ref 162) [.ref aj, .ref (bif b then ad.p1 else ad.p0)]) Q E s := by
  refine Spec.use B F K N T hk (cKillJ c hlen) hsub hd hu ?_
  rintro r led' h' tk' ⟨J', h1, h2⟩ F' N'
  exact ret r J' led' h' tk' h1 h2 F' N'
theorem uKillA (B : Below A₀ base outer h₀) (F : Fr h₀ L s.heap m) (K : (hd.heap_39 w.params).In h₀) (N : News h₀ L s.heap news) (T : Top p loose mean mg mb h₀) (hk : cs.kind = .function) {J' : Sto} (c : MidK w led ad aj b J X Y TT J' (seen J.recs J.gen (X.C.map (·.1))) (if seen J.recs J.gen (X.C.map (·.1)) = [] then J.gen else J.gen + 1)) (hlen : X.C.length ≤ 100) (hsub : ∀ q ∈ led, q ∈ news) (hd : dp + 80 < recursionLimit) (hu : un + 8 * 80 < cLine)
    (ret : ∀ r A' led' h' tk', Core w led' ad aj b J' ⟨X.pj, A', X.q, X.C, X.T⟩ Y TT → J'.recs.length = J.recs.length → A'.recs.length = X.A.recs.length → Its led led' → Fr h₀ L h' m → News h₀ L h' led' → Q (r) { s with heap := h', toks := tk' }) :
    wpAny (model PySem.Challenge.rw_rr0014_01.row.prog w) (ktrTop dp un gd cn cs L a ccd cl outer) (call (.ref 162) [.ref (bif b then ad.s1 else ad.s0), .ref (bif b then ad.q1 else ad.q0)]) Q E s := by
  refine Spec.use B F K N T hk (cKillA c hlen) hsub hd hu ?_
  rintro r led' h' tk' ⟨A', h1, h2, h3, h4⟩ F' N'
  exact ret r A' led' h' tk' h1 h2 h3 h4 F' N'
theorem uShownJ (B : Below A₀ base outer h₀) (F : Fr h₀ L s.heap m) (K : (hd.heap_39 w.params).In h₀) (N : News h₀ L s.heap news) (T : Top p loose mean mg mb h₀) (hk : cs.kind = .function) {g : Int} {tg : Tok} (c : Core w led ad aj b J X Y TT) (hlen : X.C.length < 20) (hsub : ∀ q ∈ led, q ∈ news) (hd : dp + 80 < recursionLimit) (hu : un + 8 * 80 < cLine)
    (ret : ∀ l n vs led' h' tk', (∀ q ∈ led, q ∈ led') → (l, W.listOf vs.toArray n) ∈ led' → DatAll led' vs (shown J.recs g (X.C.map (·.1))) → Fr h₀ L h' m → News h₀ L h' led' → Q (.ref l) { s with heap := h', toks := tk' }) :
    wpAny (model PySem.Challenge.rw_rr0014_01.row.prog w) (ktrTop dp un gd cn cs L a ccd cl outer) (call (.ref 195) [.ref aj, .ref (bif b then ad.p1 else ad.p0), .int g tg]) Q E s := by
  refine Spec.use B F K N T hk (cShownJ c g tg hlen) hsub hd hu ?_
  rintro r led' h' tk' ⟨l, n, vs, rfl, h1, h2, h3⟩ F' N'
  exact ret l n vs led' h' tk' h1 h2 h3 F' N'
theorem uShownA (B : Below A₀ base outer h₀) (F : Fr h₀ L s.heap m) (K : (hd.heap_39 w.params).In h₀) (N : News h₀ L s.heap news) (T : Top p loose mean mg mb h₀) (hk : cs.kind = .function) {g : Int} {tg : Tok} (c : Core w led ad aj b J X Y TT) (hlen : X.C.length < 20) (hsub : ∀ q ∈ led, q ∈ news) (hd : dp + 80 < recursionLimit) (hu : un + 8 * 80 < cLine)
    (ret : ∀ l n vs led' h' tk', (∀ q ∈ led, q ∈ led') → (l, W.listOf vs.toArray n) ∈ led' → DatAll led' vs (shown X.A.recs g (X.C.map (·.2))) → Fr h₀ L h' m → News h₀ L h' led' → Q (.ref l) { s with heap := h', toks := tk' }) :
    wpAny (model PySem.Challenge.rw_rr0014_01.row.prog w) (ktrTop dp un gd cn cs L a ccd cl outer) (call (.ref 195) [.ref (bif b then ad.s1 else ad.s0), .ref (bif b then ad.q1 else ad.q0), .int g tg]) Q E s := by
  refine Spec.use B F K N T hk (cShownA c g tg hlen) hsub hd hu ?_
  rintro r led' h' tk' ⟨l, n, vs, rfl, h1, h2, h3⟩ F' N'
  exact ret l n vs led' h' tk' h1 h2 h3 F' N'
theorem uLedJ (B : Below A₀ base outer h₀) (F : Fr h₀ L s.heap m) (K : (hd.heap_39 w.params).In h₀) (N : News h₀ L s.heap news) (T : Top p loose mean mg mb h₀) (hk : cs.kind = .function) {g : Int} {tg : Tok} (c : Core w led ad aj b J X Y TT) (hlen : X.C.length < 20) {cell : Addr} {cd : Dat} (hc : DatIn (tups led) (.ref cell) cd) (oc : kqdOk 6 cd = true) (hsub : ∀ q ∈ led, q ∈ news) (hd : dp + 80 < recursionLimit) (hu : un + 8 * 80 < cLine)
    (ret : ∀ l n vs led' h' tk', (∀ q ∈ led, q ∈ led') → (l, W.listOf vs.toArray n) ∈ led' → DatAll led' vs (ledD J.recs g cd (X.C.map (·.1))) → Fr h₀ L h' m → News h₀ L h' led' → Q (.ref l) { s with heap := h', toks := tk' }) :
    wpAny (model PySem.Challenge.rw_rr0014_01.row.prog w) (ktrTop dp un gd cn cs L a ccd cl outer) (call (.ref 202) [.ref aj, .ref (bif b then ad.p1 else ad.p0), .int g tg, .ref cell]) Q E s := by
  refine Spec.use B F K N T hk (cLedJ c g tg hlen hc oc) hsub hd hu ?_
  rintro r led' h' tk' ⟨l, n, vs, rfl, h1, h2, h3⟩ F' N'
  exact ret l n vs led' h' tk' h1 h2 h3 F' N'
theorem uLedA (B : Below A₀ base outer h₀) (F : Fr h₀ L s.heap m) (K : (hd.heap_39 w.params).In h₀) (N : News h₀ L s.heap news) (T : Top p loose mean mg mb h₀) (hk : cs.kind = .function) {g : Int} {tg : Tok} (c : Core w led ad aj b J X Y TT) (hlen : X.C.length < 20) {cell : Addr} {cd : Dat} (hc : DatIn (tups led) (.ref cell) cd) (oc : kqdOk 6 cd = true) (hsub : ∀ q ∈ led, q ∈ news) (hd : dp + 80 < recursionLimit) (hu : un + 8 * 80 < cLine)
    (ret : ∀ l n vs led' h' tk', (∀ q ∈ led, q ∈ led') → (l, W.listOf vs.toArray n) ∈ led' → DatAll led' vs (ledD X.A.recs g cd (X.C.map (·.2))) → Fr h₀ L h' m → News h₀ L h' led' → Q (.ref l) { s with heap := h', toks := tk' }) :
    wpAny (model PySem.Challenge.rw_rr0014_01.row.prog w) (ktrTop dp un gd cn cs L a ccd cl outer) (call (.ref 202) [.ref (bif b then ad.s1 else ad.s0), .ref (bif b then ad.q1 else ad.q0), .int g tg, .ref cell]) Q E s := by
  refine Spec.use B F K N T hk (cLedA c g tg hlen hc oc) hsub hd hu ?_
  rintro r led' h' tk' ⟨l, n, vs, rfl, h1, h2, h3⟩ F' N'
  exact ret l n vs led' h' tk' h1 h2 h3 F' N'
end
theorem st_ix {M : Model} {A : Around} {E : Value → Shared → Prop} {s : Shared} {a b : PySem.Expr} {f : Addr} {x : Int} {t : Tok} {Q : Value → Shared → Prop} (h : wpAny M A (subscriptTail a b (.ref f) (.int (Ix x) t)) Q E s) : wpAny M A (subscriptTail a b (.ref f) (.int (Ix x) t)) Q E s := h
section
set_option maxRecDepth 100000 in
set_option maxHeartbeats 8000000 in
theorem main : PySem.Challenge.rw_rr0014_01.Holds := hd (by
  k_go0
  (all_goals try k_fold)
  (repeat' ((fail_if_success first | (with_reducible first | refine st_for ?_ | refine st_iter ?_ | refine st_len ?_ | refine st_fmod ?_ | refine st_ix ?_ | refine st_if ?_ | refine st_ne ?_ | refine st_in ?_ | refine st_append ?_ | refine st_cond ?_ | refine st_sub (Ads.al _) ?_ | refine st_call _ ?_) | k_data); (first | (k_unfold; (try dsimp only)) | (k_end; kc_close) | (with_reducible show FPost _ _ _ _ _ _ _ _ _; dsimp only [FPost]) | walk1 | (dsimp only; walk1) | (leave1; (try dsimp only)) | fail "no step")))
  (rename News _ _ _ _ => N4); (rename Fr _ _ _ _ => F4); (rename Below _ _ _ _ => B4); (rename Frag.In _ _ => X4); (rename Top _ _ _ _ _ _ => T4); (rename IntsAre _ _ => hi); (rename Heap.IsList _ _ _ => hl); (rename PyData.layable0 _ = true => hlay)
  replace F4 := fr_top T4 F4
  replace N4 := news_top T4 N4
  replace B4 := below_top T4 B4
  k_dflt (refine figures_spec _ _ _ _ hi hlay _ _ _ _ _ _ _ _ _ _ _ _ _ _ _ _ _ _ _ _ _ _ _ B4 F4 X4 N4 T4 (by exact rfl) (by k_room) (by k_units) hl ?_)
  rintro r9 led0 h9 tk9 ⟨fg, vsF, nsF, nF, rfl, hfg, hiF, hlF, _⟩ F9 N9
  (rename World => w)
  clear N4 F4
  try dsimp only
  try k_fold
  (repeat' ((fail_if_success first | (with_reducible first | refine st_for ?_ | refine st_iter ?_ | refine st_len ?_ | refine st_fmod ?_ | refine st_ix ?_ | refine st_if ?_ | refine st_ne ?_ | refine st_in ?_ | refine st_append ?_ | refine st_cond ?_ | refine st_sub (Ads.al _) ?_ | refine st_call _ ?_) | k_data); (first | (k_unfold; (try dsimp only)) | (k_end; kc_close) | (with_reducible show FPost _ _ _ _ _ _ _ _ _; dsimp only [FPost]) | walk1 | (dsimp only; walk1) | (leave1; (try dsimp only)) | fail "no step")))
  (try k_fold)
  (rename News _ _ _ _ => N4); (rename Fr _ _ _ _ => F4)
  rename_i D3 _ m3 D2 _ m2 D1 _ m1 D0 _ m0 wl _ x7 _
  k_dflt (refine uStore B4 F4 X4 N4 T4 (by first | exact rfl | assumption) (fun _ h => h) (by k_room) (by k_units) ?_)
  intro J led1 h1 tk1 fJ rJ gJ hs1 lt1 F9 N9
  clear N4 F4
  try dsimp only
  try k_fold
  (repeat' ((fail_if_success first | (with_reducible first | refine st_for ?_ | refine st_iter ?_ | refine st_len ?_ | refine st_fmod ?_ | refine st_ix ?_ | refine st_if ?_ | refine st_ne ?_ | refine st_in ?_ | refine st_append ?_ | refine st_cond ?_ | refine st_sub (Ads.al _) ?_ | refine st_call _ ?_) | k_data); (first | (k_unfold; (try dsimp only)) | (k_end; kc_close) | (with_reducible show FPost _ _ _ _ _ _ _ _ _; dsimp only [FPost]) | walk1 | (dsimp only; walk1) | (leave1; (try dsimp only)) | fail "no step")))
  (try k_fold)
  (rename News _ _ _ _ => N4); (rename Fr _ _ _ _ => F4)
  k_dflt (refine uProc B4 F4 X4 N4 T4 (by first | exact rfl | assumption) (fun _ h => h) (by k_room) (by k_units) ?_)
  intro pX led2 h2 tk2 hpX fpX apX zpX hs2 lt2 F9 N9
  clear N4 F4
  try dsimp only
  try k_fold
  (repeat' ((fail_if_success first | (with_reducible first | refine st_for ?_ | refine st_iter ?_ | refine st_len ?_ | refine st_fmod ?_ | refine st_ix ?_ | refine st_if ?_ | refine st_ne ?_ | refine st_in ?_ | refine st_append ?_ | refine st_cond ?_ | refine st_sub (Ads.al _) ?_ | refine st_call _ ?_) | k_data); (first | (k_unfold; (try dsimp only)) | (k_end; kc_close) | (with_reducible show FPost _ _ _ _ _ _ _ _ _; dsimp only [FPost]) | walk1 | (dsimp only; walk1) | (leave1; (try dsimp only)) | fail "no step")))
  (try k_fold)
  (rename News _ _ _ _ => N4); (rename Fr _ _ _ _ => F4)
  k_dflt (refine uProc B4 F4 X4 N4 T4 (by first | exact rfl | assumption) (fun _ h => h) (by k_room) (by k_units) ?_)
  intro pY led3 h3 tk3 hpY fpY apY zpY hs3 lt3 F9 N9
  clear N4 F4
  try dsimp only
  try k_fold
  (repeat' ((fail_if_success first | (with_reducible first | refine st_for ?_ | refine st_iter ?_ | refine st_len ?_ | refine st_fmod ?_ | refine st_ix ?_ | refine st_if ?_ | refine st_ne ?_ | refine st_in ?_ | refine st_append ?_ | refine st_cond ?_ | refine st_sub (Ads.al _) ?_ | refine st_call _ ?_) | k_data); (first | (k_unfold; (try dsimp only)) | (k_end; kc_close) | (with_reducible show FPost _ _ _ _ _ _ _ _ _; dsimp only [FPost]) | walk1 | (dsimp only; walk1) | (leave1; (try dsimp only)) | fail "no step")))
  (try k_fold)
  (rename News _ _ _ _ => N4); (rename Fr _ _ _ _ => F4)
  rename_i pl _ x6 _
  k_dflt (refine uStore B4 F4 X4 N4 T4 (by first | exact rfl | assumption) (fun _ h => h) (by k_room) (by k_units) ?_)
  intro A led4 h4 tk4 fA rA gA hs4 lt4 F9 N9
  clear N4 F4
  try dsimp only
  try k_fold
  (repeat' ((fail_if_success first | (with_reducible first | refine st_for ?_ | refine st_iter ?_ | refine st_len ?_ | refine st_fmod ?_ | refine st_ix ?_ | refine st_if ?_ | refine st_ne ?_ | refine st_in ?_ | refine st_append ?_ | refine st_cond ?_ | refine st_sub (Ads.al _) ?_ | refine st_call _ ?_) | k_data); (first | (k_unfold; (try dsimp only)) | (k_end; kc_close) | (with_reducible show FPost _ _ _ _ _ _ _ _ _; dsimp only [FPost]) | walk1 | (dsimp only; walk1) | (leave1; (try dsimp only)) | fail "no step")))
  (try k_fold)
  (rename News _ _ _ _ => N4); (rename Fr _ _ _ _ => F4)
  k_dflt (refine uStore B4 F4 X4 N4 T4 (by first | exact rfl | assumption) (fun _ h => h) (by k_room) (by k_units) ?_)
  intro B led5 h5 tk5 fB rB gB hs5 lt5 F9 N9
  clear N4 F4
  try dsimp only
  try k_fold
  (repeat' ((fail_if_success first | (with_reducible first | refine st_for ?_ | refine st_iter ?_ | refine st_len ?_ | refine st_fmod ?_ | refine st_ix ?_ | refine st_if ?_ | refine st_ne ?_ | refine st_in ?_ | refine st_append ?_ | refine st_cond ?_ | refine st_sub (Ads.al _) ?_ | refine st_call _ ?_) | k_data); (first | (k_unfold; (try dsimp only)) | (k_end; kc_close) | (with_reducible show FPost _ _ _ _ _ _ _ _ _; dsimp only [FPost]) | walk1 | (dsimp only; walk1) | (leave1; (try dsimp only)) | fail "no step")))
  (try k_fold)
  (rename News _ _ _ _ => N4); (rename Fr _ _ _ _ => F4)
  rename_i al _ x5 _
  k_dflt (refine uProc B4 F4 X4 N4 T4 (by first | exact rfl | assumption) (fun _ h => h) (by k_room) (by k_units) ?_)
  intro qX led6 h6 tk6 hqX fqX aqX zqX hs6 lt6 F9 N9
  clear N4 F4
  try dsimp only
  try k_fold
  (repeat' ((fail_if_success first | (with_reducible first | refine st_for ?_ | refine st_iter ?_ | refine st_len ?_ | refine st_fmod ?_ | refine st_ix ?_ | refine st_if ?_ | refine st_ne ?_ | refine st_in ?_ | refine st_append ?_ | refine st_cond ?_ | refine st_sub (Ads.al _) ?_ | refine st_call _ ?_) | k_data); (first | (k_unfold; (try dsimp only)) | (k_end; kc_close) | (with_reducible show FPost _ _ _ _ _ _ _ _ _; dsimp only [FPost]) | walk1 | (dsimp only; walk1) | (leave1; (try dsimp only)) | fail "no step")))
  (try k_fold)
  (rename News _ _ _ _ => N4); (rename Fr _ _ _ _ => F4)
  k_dflt (refine uProc B4 F4 X4 N4 T4 (by first | exact rfl | assumption) (fun _ h => h) (by k_room) (by k_units) ?_)
  intro qY led7 h7 tk7 hqY fqY aqY zqY hs7 lt7 F9 N9
  clear N4 F4
  try dsimp only
  try k_fold
  (repeat' ((fail_if_success first | (with_reducible first | refine st_for ?_ | refine st_iter ?_ | refine st_len ?_ | refine st_fmod ?_ | refine st_ix ?_ | refine st_if ?_ | refine st_ne ?_ | refine st_in ?_ | refine st_append ?_ | refine st_cond ?_ | refine st_sub (Ads.al _) ?_ | refine st_call _ ?_) | k_data); (first | (k_unfold; (try dsimp only)) | (k_end; kc_close) | (with_reducible show FPost _ _ _ _ _ _ _ _ _; dsimp only [FPost]) | walk1 | (dsimp only; walk1) | (leave1; (try dsimp only)) | fail "no step")))
  (rename News _ _ _ _ => N4); (rename Fr _ _ _ _ => F4)
  rename_i nl _ x4 _ _ t0 _ x3 t1 _ x2 tw _ x1 _ _ nt _ x0 _
  have u7 : ∀ q ∈ led7, q ∈ (nt, W.listOf [].toArray 0) :: (tw, W.listOf [Value.ref t0, Value.ref t1].toArray 0) :: (t1, W.listOf [].toArray 0) :: (t0, W.listOf [].toArray 0) :: (nl, W.listOf [Value.ref qX.a, Value.ref qY.a].toArray 0) :: led7 := fun q hq => .tail _ (.tail _ (.tail _ (.tail _ (.tail _ hq))))
  have u1 : ∀ q ∈ led1, q ∈ led7 := fun q hq => hs7 _ (hs6 _ (.tail _ (hs5 _ (hs4 _ (.tail _ (hs3 _ (hs2 _ hq)))))))
  have HI := hinv_start N4 fJ hpX hpY fA fB hqX hqY rJ rA rB hs2 hs3 (fun q hq => hs4 _ (.tail _ hq)) hs5 (fun q hq => hs6 _ (.tail _ hq)) hs7 u7 lt3 (fun q hq => lt4 _ (.tail _ hq)) lt5 (fun q hq => lt6 _ (.tail _ hq)) lt7
  have PI := pinv_start rJ gJ rA gA rB gB (fpX.trans fqX.symm) (fpY.trans fqY.symm) apX aqX apY aqY
  have e0 := u7 _ (u1 _ (hs1 _ (.tail _ (.tail _ (.tail _ (.tail _ (.head _)))))))
  have e1 := u7 _ (u1 _ (hs1 _ (.tail _ (.tail _ (.tail _ (.head _))))))
  have e2 := u7 _ (u1 _ (hs1 _ (.tail _ (.head _))))
  have e3 := u7 _ (u1 _ (hs1 _ (.tail _ (.tail _ (.head _)))))
  have epl := hs4 _ (.head _)
  have eal := hs6 _ (.head _)
  have LI := linv_start (ad := ⟨fg, wl, D3, D2, D0, pl, al, nl, tw, t0, t1, nt, pX.a, pY.a, A.a, B.a, qX.a, qY.a, .tuple [.str "var"], .tuple [.str "struct", .int 4], .tuple [.str "const", .tuple [.int 4, .int 4]]⟩)
    (u7 _ (u1 _ (hs1 _ (.tail _ (.tail _ (.tail _ (.tail _ (.tail _ hfg)))))))) hiF hlF (u7 _ (u1 _ (hs1 _ (.head _))))
    (DatIn.tuple (n := 0) (vs := [_]) (List.mem_filter.mpr ⟨e0, rfl⟩) (.cons (.str _ _) .nil))
    (DatIn.tuple (n := 0) (vs := [_, _]) (List.mem_filter.mpr ⟨e1, rfl⟩) (.cons (.str _ _) (.cons (.int _ _) .nil)))
    (DatIn.tuple (n := 0) (vs := [_, _]) (List.mem_filter.mpr ⟨e2, rfl⟩) (.cons (.str _ _) (.cons (DatIn.tuple (n := 0) (vs := [_, _]) (List.mem_filter.mpr ⟨e3, rfl⟩) (.cons (.int _ _) (.cons (.int _ _) .nil))) .nil)))
    (by show kqdOk 6 (.tuple [.str "var"]) = true; decide +kernel) (by show kqdOk 6 (.tuple [.str "struct", .int 4]) = true; decide +kernel) (by show kqdOk 6 (.tuple [.str "const", .tuple [.int 4, .int 4]]) = true; decide +kernel)
    (u7 _ (hs7 _ (hs6 _ (.tail _ (hs5 _ epl))))) (u7 _ (hs7 _ eal)) (.tail _ (.tail _ (.tail _ (.tail _ (.head _))))) (.tail _ (.head _)) (.tail _ (.tail _ (.tail _ (.head _)))) (.tail _ (.tail _ (.head _))) (.head _)
    (allLt_out x7.2.2.2.2 _ hfg) (x6 _ (hs3 _ (hs2 _ (hs1 _ (.head _))))) (x5 _ (hs5 _ epl)) (x4 _ (hs7 _ eal)) x3.1 x2.1 x1.1 x0.1
  clear e0 e1 e2 e3 epl eal u1 u7 hs1 hs2 hs3 hs4 hs5 hs6 hs7 lt1 lt2 lt3 lt4 lt5 lt6 lt7 x0 x1 x2 x3 x4 x5 x6 x7 m0 m1 m2 m3 hfg
  have CI : Core w _ _ _ false J ⟨pX, A, qX, [], []⟩ ⟨pY, B, qY, [], []⟩ [] := ⟨HI, LI, PI, rfl, rfl, rfl, rfl, rfl, rfl, rfl⟩
  have BI : Bnd 0 J ⟨pX, A, qX, [], []⟩ ⟨pY, B, qY, [], []⟩ := ⟨by simp [rJ], by simp [rA], by simp [rB], by simp, by simp, by simp, by simp⟩
  clear HI LI PI fJ rJ gJ hpX fpX apX zpX hpY fpY apY zpY fA rA gA fB rB gB hqX fqX aqX zqX hqY fqY aqY zqY hiF hlF
  obtain ⟨ad, had⟩ : ∃ ad : Ads, ad = ⟨fg, wl, D3, D2, D0, pl, al, nl, tw, t0, t1, nt, pX.a, pY.a, A.a, B.a, qX.a, qY.a, .tuple [.str "var"], .tuple [.str "struct", .int 4], .tuple [.str "const", .tuple [.int 4, .int 4]]⟩ := ⟨_, rfl⟩
  rw [← had] at CI
  obtain rfl : fg = ad.fg := by rw [had]
  obtain rfl : wl = ad.wl := by rw [had]
  obtain rfl : pl = ad.pl := by rw [had]
  obtain rfl : al = ad.al := by rw [had]
  obtain rfl : nl = ad.nl := by rw [had]
  obtain rfl : tw = ad.tw := by rw [had]
  obtain rfl : t0 = ad.t0 := by rw [had]
  obtain rfl : t1 = ad.t1 := by rw [had]
  obtain rfl : nt = ad.nt := by rw [had]
  clear had
  (try k_fold)
  k_dflt (refine uDraw B4 F4 X4 N4 T4 (by first | exact rfl | assumption) CI (by decide) (fun _ h => h) (by k_room) (by k_units) ?_)
  intro dr tdr led8 h8 tk8 hd0 hd14 C8 _ _ F9 N9
  clear N4 F4 CI
  obtain ⟨m, hm⟩ : ∃ m : Nat, 14 - Ix dr = (m : Int) := ⟨(14 - Ix dr).toNat, by omega⟩
  try dsimp only
  try k_fold
  (repeat' ((fail_if_success first | (with_reducible first | refine st_for ?_ | refine st_iter ?_ | refine st_len ?_ | refine st_fmod ?_ | refine st_ix ?_ | refine st_if ?_ | refine st_ne ?_ | refine st_in ?_ | refine st_append ?_ | refine st_cond ?_ | refine st_sub (Ads.al _) ?_ | refine st_call _ ?_) | k_data); (first | (k_unfold; (try dsimp only)) | (k_end; kc_close) | (with_reducible show FPost _ _ _ _ _ _ _ _ _; dsimp only [FPost]) | walk1 | (dsimp only; walk1) | (leave1; (try dsimp only)) | fail "no step")))
  (rename Fr _ _ _ _ => F8)
  (try k_fold)
  with_unfolding_all refine For_invVF F8 (by exact rfl) (by exact rfl) ?_
  (repeat' ((fail_if_success first | (with_reducible first | refine st_for ?_ | refine st_iter ?_ | refine st_len ?_ | refine st_fmod ?_ | refine st_ix ?_ | refine st_if ?_ | refine st_ne ?_ | refine st_in ?_ | refine st_append ?_ | refine st_cond ?_ | refine st_sub (Ads.al _) ?_ | refine st_call _ ?_) | k_data); (first | (k_unfold; (try dsimp only)) | (k_end; kc_close) | (with_reducible show FPost _ _ _ _ _ _ _ _ _; dsimp only [FPost]) | walk1 | (dsimp only; walk1) | (leave1; (try dsimp only)) | fail "no step")))
  (rename Fr _ _ _ _ => F5); (rename News _ _ _ _ => N5); (rename IsRange _ _ _ _ _ _ _ _ => rg)
  replace F5 := fr_frm (ad := ad) F5
  refine my_range2 (n := m) (fun j m' led' => Inv w led' _ _ j j ∧ ∃ u1 u2 u3 u4 u5 u6, m' = map6 "turn" "who" "deed" "word" "one" "pair" u1 u2 u3 u4 u5 u6 _) (by exact rfl) rg (small_one (by decide) (by decide) (by omega) (by omega)) (by rw [rangeSize_one]; split <;> omega) F5 N5
    ⟨⟨_, _, _, _, C8.sub (fun q hq => by first | exact hq | exact .tail _ hq), BI, Nat.le_refl _⟩, _, _, _, _, _, _, map6_0⟩ ?_ ?_
  · intro i t m₁ led h tk own I o hi hJ0 hIo hIt hown hnI F10 N10
    (try k_fold)
    obtain ⟨⟨J, X, Y, TT, C0, Bd, hTT⟩, u1, u2, u3, u4, u5, u6, rfl⟩ := hJ0
    have C10 := C0.sub (led' := own ++ led) (fun q hq => List.mem_append_right _ hq)
    have ho10 : ∀ q ∈ own, q ∈ own ++ led := fun q hq => List.mem_append_left _ hq
    clear C0 F5 N5 C8 BI
    (try k_fold)
    (repeat' ((fail_if_success first | (with_reducible first | refine st_for ?_ | refine st_iter ?_ | refine st_len ?_ | refine st_fmod ?_ | refine st_ix ?_ | refine st_if ?_ | refine st_ne ?_ | refine st_in ?_ | refine st_append ?_ | refine st_cond ?_ | refine st_sub (Ads.al _) ?_ | refine st_call _ ?_) | k_data); (first | (k_unfold; (try dsimp only)) | (k_end; kc_close) | (with_reducible show FPost _ _ _ _ _ _ _ _ _; dsimp only [FPost]) | walk1 | (dsimp only; walk1) | (leave1; (try dsimp only)) | fail "no step")))
    (rename News _ _ _ _ => N4); (rename Fr _ _ _ _ => F4)
    (try k_fold)
    k_dflt (refine uDraw B4 F4 X4 N4 T4 (by first | exact rfl | assumption) C10 (by decide) (by intro q hq; first | exact hq | exact .tail _ hq) (by k_room) (by k_units) ?_)
    intro d1 td1 led1 h1 tk1 hd1 hd12 C11 it1 _ F9 N9
    have ho11 : ∀ q ∈ own, q ∈ led1 := fun q hq => it1 q (ho10 q hq) (hown q hq).2
    clear N4 F4 C10 ho10 it1
    try dsimp only
    try k_fold
    (repeat' ((fail_if_success first | (with_reducible first | refine st_for ?_ | refine st_iter ?_ | refine st_len ?_ | refine st_fmod ?_ | refine st_ix ?_ | refine st_if ?_ | refine st_ne ?_ | refine st_in ?_ | refine st_append ?_ | refine st_cond ?_ | refine st_sub (Ads.al _) ?_ | refine st_call _ ?_) | k_data); (first | (k_unfold; (try dsimp only)) | (k_end; kc_close) | (with_reducible show FPost _ _ _ _ _ _ _ _ _; dsimp only [FPost]) | walk1 | (dsimp only; walk1) | (leave1; (try dsimp only)) | fail "no step")))
    (rename News _ _ _ _ => N4); (rename Fr _ _ _ _ => F4)
    rename_i Dl _ xDl
    (try k_fold)
    k_dflt (refine uDraw B4 F4 X4 N4 T4 (by first | exact rfl | assumption) (C11.sub fun q hq => .tail _ hq) (by decide) (by intro q hq; first | exact hq | exact .tail _ hq) (by k_room) (by k_units) ?_)
    intro d2 td2 led2 h2 tk2 hd2 hd22 C12 it2 kp2 F9 N9
    have ho12 : ∀ q ∈ own, q ∈ led2 := fun q hq => it2 q (.tail _ (ho11 q hq)) (hown q hq).2
    have hDl := kp2 _ (.head _) (fun e => by
      obtain ⟨_, _, _, e1, _, _⟩ := C11.L.fg
      have e2 : @LT.lt Nat _ ad.fg Dl := xDl _ e1
      exact Nat.ne_of_gt e2 (List.mem_singleton.mp e))
    clear N4 F4 C11 ho11 it2 kp2 xDl
    have hi14 : i < 14 := by omega
    try dsimp only
    try k_fold
    (repeat' ((fail_if_success first | (with_reducible first | refine st_for ?_ | refine st_iter ?_ | refine st_len ?_ | refine st_fmod ?_ | refine st_ix ?_ | refine st_if ?_ | refine st_ne ?_ | refine st_in ?_ | refine st_append ?_ | refine st_cond ?_ | refine st_sub (Ads.al _) ?_ | refine st_call _ ?_) | k_data); (first | (k_unfold; (try dsimp only)) | (k_end; kc_close) | (with_reducible show FPost _ _ _ _ _ _ _ _ _; dsimp only [FPost]) | walk1 | (dsimp only; walk1) | (leave1; (try dsimp only)) | fail "no step")))
    (rename News _ _ _ _ => N4); (rename Fr _ _ _ _ => F4)
    obtain ⟨dv, dt, hdv, hdv4⟩ := deeds _ _ _ _ _ _ _ (k := Int.fmod (↑i + Ix d2) 7) (Int.fmod_nonneg_of_pos _ (by decide)) (Int.fmod_lt_of_pos _ (by decide))
    k_dflt (refine kba_turn (value' := PySem.Expr.Name (PySem.Str.ofString "_") ⟨0, 0, 0, 0⟩) (fun _ => rfl) (kim_list N4 hDl rfl rfl (Int.fmod_nonneg_of_pos _ (by decide)) (Int.lt_of_lt_of_le (Int.fmod_lt_of_pos _ (by decide)) (by decide)) hdv ?_))
    clear hDl hdv
    (repeat' ((fail_if_success first | (with_reducible first | refine st_for ?_ | refine st_iter ?_ | refine st_len ?_ | refine st_fmod ?_ | refine st_ix ?_ | refine st_if ?_ | refine st_ne ?_ | refine st_in ?_ | refine st_append ?_ | refine st_cond ?_ | refine st_sub (Ads.al _) ?_ | refine st_call _ ?_) | k_data); (first | (k_unfold; (try dsimp only)) | (k_end; kc_close) | (with_reducible show FPost _ _ _ _ _ _ _ _ _; dsimp only [FPost]) | walk1 | (dsimp only; walk1) | (leave1; (try dsimp only)) | fail "no step")))
    (rename News _ _ _ _ => N4); (rename Fr _ _ _ _ => F4)
    (try k_fold)
    obtain ⟨b, X, Y, hb, C, Bd⟩ := both C12 Bd (Int.fmod_nonneg_of_pos (↑i + Ix d1) (by decide)) (Int.fmod_lt_of_pos (↑i + Ix d1) (by decide))
    rw [hb] at F4
    dsimp only at F4
    replace F4 := fr_turn F4
    clear hb C12
    (try k_fold)
    refine cut_mid (i + 1) i F4 C ho12 ?_ ?_
    · (try k_fold)
      rcases deed_of hdv4 with hdv5 | rfl | rfl
      · obtain ⟨hdv0, hdv2⟩ := hdv5
        walk1
        (repeat' ((fail_if_success first | (with_reducible first | refine st_for ?_ | refine st_iter ?_ | refine st_len ?_ | refine st_fmod ?_ | refine st_ix ?_ | refine st_if ?_ | refine st_ne ?_ | refine st_in ?_ | refine st_append ?_ | refine st_cond ?_ | refine st_sub (Ads.al _) ?_ | refine st_call _ ?_) | k_data); (first | (k_unfold; (try dsimp only)) | (k_end; kc_close) | (with_reducible show FPost _ _ _ _ _ _ _ _ _; dsimp only [FPost]) | walk1 | (dsimp only; walk1) | (leave1; (try dsimp only)) | fail "no step")))
        all_goals try (exfalso; omega)
        (try k_fold)
        (rename News _ _ _ _ => N4); (rename Fr _ _ _ _ => F4)
        k_dflt (refine uDraw B4 F4 X4 N4 T4 (by first | exact rfl | assumption) C (by decide) (by intro q hq; repeat first | exact hq | apply List.Mem.tail) (by k_room) (by k_units) ?_)
        intro d3 td3 led3 h3 tk3 hd3 hd33 C3 it3 _ F9 N9
        clear N4 F4 C
        try dsimp only
        try k_fold
        replace ho12 : ∀ q ∈ own, q ∈ led3 := fun q hq => it3 q (ho12 q hq) (hown q hq).2
        clear it3
        obtain ⟨wa, ik, hwx, hdat, hok⟩ := C3.L.word hd3 hd33
        have N5 := (News.add1 (News.add1 N9 C3.L.wl) (.tail _ C3.L.pl))
        clear N9
        (repeat' ((fail_if_success first | (with_reducible first | refine st_for ?_ | refine st_iter ?_ | refine st_len ?_ | refine st_fmod ?_ | refine st_ix ?_ | refine st_if ?_ | refine st_ne ?_ | refine st_in ?_ | refine st_append ?_ | refine st_cond ?_ | refine st_sub (Ads.al _) ?_ | refine st_call _ ?_) | k_data); (first | (k_unfold; (try dsimp only)) | (k_end; kc_close) | (with_reducible show FPost _ _ _ _ _ _ _ _ _; dsimp only [FPost]) | walk1 | (dsimp only; walk1) | (leave1; (try dsimp only)) | fail "no step")))
        (rename News _ _ _ _ => N4); (rename Fr _ _ _ _ => F4)
        k_dflt (refine kim_list N4 (.tail _ (.head _)) rfl rfl hd3 (Int.lt_trans hd33 (by decide)) hwx ?_)
        clear hwx
        (repeat' ((fail_if_success first | (with_reducible first | refine st_for ?_ | refine st_iter ?_ | refine st_len ?_ | refine st_fmod ?_ | refine st_ix ?_ | refine st_if ?_ | refine st_ne ?_ | refine st_in ?_ | refine st_append ?_ | refine st_cond ?_ | refine st_sub (Ads.al _) ?_ | refine st_call _ ?_) | k_data); (first | (k_unfold; (try dsimp only)) | (k_end; kc_close) | (with_reducible show FPost _ _ _ _ _ _ _ _ _; dsimp only [FPost]) | walk1 | (dsimp only; walk1) | (leave1; (try dsimp only)) | fail "no step")))
        (rename News _ _ _ _ => N4)
        k_dflt (refine kba_turn (value' := PySem.Expr.Name (PySem.Str.ofString "_") ⟨0, 0, 0, 0⟩) (fun _ => rfl) (kim_list N4 (by repeat first | exact List.Mem.head _ | apply List.Mem.tail) rfl rfl (sel0 _) (sel63 _) (sel_ref _ _ _) ?_))
        (repeat' ((fail_if_success first | (with_reducible first | refine st_for ?_ | refine st_iter ?_ | refine st_len ?_ | refine st_fmod ?_ | refine st_ix ?_ | refine st_if ?_ | refine st_ne ?_ | refine st_in ?_ | refine st_append ?_ | refine st_cond ?_ | refine st_sub (Ads.al _) ?_ | refine st_call _ ?_) | k_data); (first | (k_unfold; (try dsimp only)) | (k_end; kc_close) | (with_reducible show FPost _ _ _ _ _ _ _ _ _; dsimp only [FPost]) | walk1 | (dsimp only; walk1) | (leave1; (try dsimp only)) | fail "no step")))
        (try k_fold)
        (rename News _ _ _ _ => N4); (rename Fr _ _ _ _ => F4)
        k_dflt (refine uEnterJ B4 F4 X4 N4 T4 (by first | exact rfl | assumption) C3 (Nat.lt_of_le_of_lt Bd.j (Nat.lt_trans hi14 (by decide))) hdat hok (by intro q hq; repeat first | exact hq | apply List.Mem.tail) (by k_room) (by k_units) ?_)
        intro t4 J' pj' led4 h4 tk4 M4 hdat4 it4 F9 N9
        clear N4 F4 C3 hdat
        try dsimp only
        try k_fold
        replace ho12 : ∀ q ∈ own, q ∈ led4 := fun q hq => it4 q (ho12 q hq) (hown q hq).2
        clear it4
        obtain ⟨vs4, n4, hv4, hTw4⟩ := M4.tw
        have N5 := (News.add1 (News.add1 (News.add1 (News.add1 N9 M4.L.al) (.tail _ M4.L.nl)) (.tail _ (.tail _ M4.L.tw))) (.tail _ (.tail _ (.tail _ hv4))))
        clear N9
        (repeat' ((fail_if_success first | (with_reducible first | refine st_for ?_ | refine st_iter ?_ | refine st_len ?_ | refine st_fmod ?_ | refine st_ix ?_ | refine st_if ?_ | refine st_ne ?_ | refine st_in ?_ | refine st_append ?_ | refine st_cond ?_ | refine st_sub (Ads.al _) ?_ | refine st_call _ ?_) | k_data); (first | (k_unfold; (try dsimp only)) | (k_end; kc_close) | (with_reducible show FPost _ _ _ _ _ _ _ _ _; dsimp only [FPost]) | walk1 | (dsimp only; walk1) | (leave1; (try dsimp only)) | fail "no step")))
        (rename News _ _ _ _ => N4)
        k_dflt (refine kba_turn (value' := PySem.Expr.Name (PySem.Str.ofString "_") ⟨0, 0, 0, 0⟩) (fun _ => rfl) (kim_list N4 (by repeat first | exact List.Mem.head _ | apply List.Mem.tail) rfl rfl (sel0 _) (sel63 _) (sel_ref _ _ _) ?_))
        (repeat' ((fail_if_success first | (with_reducible first | refine st_for ?_ | refine st_iter ?_ | refine st_len ?_ | refine st_fmod ?_ | refine st_ix ?_ | refine st_if ?_ | refine st_ne ?_ | refine st_in ?_ | refine st_append ?_ | refine st_cond ?_ | refine st_sub (Ads.al _) ?_ | refine st_call _ ?_) | k_data); (first | (k_unfold; (try dsimp only)) | (k_end; kc_close) | (with_reducible show FPost _ _ _ _ _ _ _ _ _; dsimp only [FPost]) | walk1 | (dsimp only; walk1) | (leave1; (try dsimp only)) | fail "no step")))
        (rename News _ _ _ _ => N4)
        k_dflt (refine kba_turn (value' := PySem.Expr.Name (PySem.Str.ofString "_") ⟨0, 0, 0, 0⟩) (fun _ => rfl) (kim_list N4 (by repeat first | exact List.Mem.head _ | apply List.Mem.tail) rfl rfl (sel0 _) (sel63 _) (sel_ref _ _ _) ?_))
        (repeat' ((fail_if_success first | (with_reducible first | refine st_for ?_ | refine st_iter ?_ | refine st_len ?_ | refine st_fmod ?_ | refine st_ix ?_ | refine st_if ?_ | refine st_ne ?_ | refine st_in ?_ | refine st_append ?_ | refine st_cond ?_ | refine st_sub (Ads.al _) ?_ | refine st_call _ ?_) | k_data); (first | (k_unfold; (try dsimp only)) | (k_end; kc_close) | (with_reducible show FPost _ _ _ _ _ _ _ _ _; dsimp only [FPost]) | walk1 | (dsimp only; walk1) | (leave1; (try dsimp only)) | fail "no step")))
        (rename News _ _ _ _ => N4)
        k_dflt (refine kba_turn (value' := PySem.Expr.Name (PySem.Str.ofString "_") ⟨0, 0, 0, 0⟩) (fun _ => rfl) (kim_list N4 (by repeat first | exact List.Mem.head _ | apply List.Mem.tail) rfl rfl (sel0 _) (sel63 _) (sel_ref _ _ _) ?_))
        (repeat' ((fail_if_success first | (with_reducible first | refine st_for ?_ | refine st_iter ?_ | refine st_len ?_ | refine st_fmod ?_ | refine st_ix ?_ | refine st_if ?_ | refine st_ne ?_ | refine st_in ?_ | refine st_append ?_ | refine st_cond ?_ | refine st_sub (Ads.al _) ?_ | refine st_call _ ?_) | k_data); (first | (k_unfold; (try dsimp only)) | (k_end; kc_close) | (with_reducible show FPost _ _ _ _ _ _ _ _ _; dsimp only [FPost]) | walk1 | (dsimp only; walk1) | (leave1; (try dsimp only)) | fail "no step")))
        (try k_fold)
        (rename News _ _ _ _ => N4); (rename Fr _ _ _ _ => F4)
        k_dflt (refine uEnterA B4 F4 X4 N4 T4 (by first | exact rfl | assumption) M4 (Nat.lt_of_le_of_lt Bd.x (Nat.lt_trans hi14 (by decide))) hdat4 hok (by intro q hq; repeat first | exact hq | apply List.Mem.tail) (by k_room) (by k_units) ?_)
        intro t5 X' led5 h5 tk5 E5 hT5 hl1 hl2 hl3 it5 F9 N9
        clear N4 F4 M4 hdat4
        try dsimp only
        try k_fold
        replace ho12 : ∀ q ∈ own, q ∈ led5 := fun q hq => it5 q (ho12 q hq) (hown q hq).2
        clear it5
        obtain ⟨vs5, n5, hv5, hTw5⟩ := E5.tw
        have core5 := fun led' k hf => EndE.core (led' := led') N9 E5 k hf
        have tk5 := fun led' k => tups_cls (led' := led') N9 k (fun d hd => by rw [List.mem_singleton.mp hd]; exact ⟨_, hv5, rfl⟩) (by show Value.type "tuple" ≠ Value.type "list"; decide)
        have hit5 := fun led' k => its_of (led' := led') N9 k (fun d hd => by rw [List.mem_singleton.mp hd]; exact ⟨_, hv5, rfl⟩) not_it_list
        have hlen5 : vs5.length ≤ 14 := by rw [hTw5.1]; exact Nat.le_trans Bd.tx (Nat.le_of_lt hi14)
        have N5 := news_turn N9 hv5
        have hoff5 := off_own [bif b then ad.t1 else ad.t0] led5
        clear N9
        (repeat' ((fail_if_success first | (with_reducible first | refine st_for ?_ | refine st_iter ?_ | refine st_len ?_ | refine st_fmod ?_ | refine st_ix ?_ | refine st_if ?_ | refine st_ne ?_ | refine st_in ?_ | refine st_append ?_ | refine st_cond ?_ | refine st_sub (Ads.al _) ?_ | refine st_call _ ?_) | k_data); (first | (k_unfold; (try dsimp only)) | (k_end; kc_close) | (with_reducible show FPost _ _ _ _ _ _ _ _ _; dsimp only [FPost]) | walk1 | (dsimp only; walk1) | (leave1; (try dsimp only)) | fail "no step")))
        walk1
        (repeat' ((fail_if_success first | (with_reducible first | refine st_for ?_ | refine st_iter ?_ | refine st_len ?_ | refine st_fmod ?_ | refine st_ix ?_ | refine st_if ?_ | refine st_ne ?_ | refine st_in ?_ | refine st_append ?_ | refine st_cond ?_ | refine st_sub (Ads.al _) ?_ | refine st_call _ ?_) | k_data); (first | (k_unfold; (try dsimp only)) | (k_end; kc_close) | (with_reducible show FPost _ _ _ _ _ _ _ _ _; dsimp only [FPost]) | walk1 | (dsimp only; walk1) | (leave1; (try dsimp only)) | fail "no step")))
        (rename News _ _ _ _ => N8); (rename Fr _ _ _ _ => F8)
        simp only [List.push_toArray] at N8
        refine midP F8 N8 (fun _ h => h) (fun q hq => hit5 _ (fun q hq hn => .tail _ (.tail _ (mem_off.mpr ⟨hq, hn⟩))) q (ho12 q hq) (hown q hq).2)
          (Inv.of (core5 _ (fun q hq hn => .tail _ (.tail _ (mem_off.mpr ⟨hq, hn⟩))) ⟨_, _, .tail _ (.head _), ?_⟩) (Bd.grown hl1 hl2 hl3 hT5) hTT) (fun y h1 h2 h3 => ?_)
        · rw [hT5]; exact TwinsAre.snoc (hTw5.mono (tk5 _ (fun q hq hn => .tail _ (.tail _ (mem_off.mpr ⟨hq, hn⟩))))) (List.mem_filter.mpr ⟨.head _, rfl⟩)
        · simp [h1, h2, h3]
      · obtain ⟨vs2, n2, hv2, hTw2⟩ := C.tw
        have hlen2 : vs2.length ≤ 14 := by rw [hTw2.1]; exact Nat.le_trans Bd.tx (Nat.le_of_lt hi14)
        have N5 := (News.add1 (News.add1 N4 C.L.tw) (.tail _ hv2))
        clear N4
        walk1
        (repeat' ((fail_if_success first | (with_reducible first | refine st_for ?_ | refine st_iter ?_ | refine st_len ?_ | refine st_fmod ?_ | refine st_ix ?_ | refine st_if ?_ | refine st_ne ?_ | refine st_in ?_ | refine st_append ?_ | refine st_cond ?_ | refine st_sub (Ads.al _) ?_ | refine st_call _ ?_) | k_data); (first | (k_unfold; (try dsimp only)) | (k_end; kc_close) | (with_reducible show FPost _ _ _ _ _ _ _ _ _; dsimp only [FPost]) | walk1 | (dsimp only; walk1) | (leave1; (try dsimp only)) | fail "no step")))
        walk1
        (repeat' ((fail_if_success first | (with_reducible first | refine st_for ?_ | refine st_iter ?_ | refine st_len ?_ | refine st_fmod ?_ | refine st_ix ?_ | refine st_if ?_ | refine st_ne ?_ | refine st_in ?_ | refine st_append ?_ | refine st_cond ?_ | refine st_sub (Ads.al _) ?_ | refine st_call _ ?_) | k_data); (first | (k_unfold; (try dsimp only)) | (k_end; kc_close) | (with_reducible show FPost _ _ _ _ _ _ _ _ _; dsimp only [FPost]) | walk1 | (dsimp only; walk1) | (leave1; (try dsimp only)) | fail "no step")))
        (rename News _ _ _ _ => N4)
        k_dflt (refine kba_turn (value' := PySem.Expr.Name (PySem.Str.ofString "_") ⟨0, 0, 0, 0⟩) (fun _ => rfl) (kim_list N4 (by repeat first | exact List.Mem.head _ | apply List.Mem.tail) rfl rfl (sel0 _) (sel63 _) (sel_ref _ _ _) ?_))
        (repeat' ((fail_if_success first | (with_reducible first | refine st_for ?_ | refine st_iter ?_ | refine st_len ?_ | refine st_fmod ?_ | refine st_ix ?_ | refine st_if ?_ | refine st_ne ?_ | refine st_in ?_ | refine st_append ?_ | refine st_cond ?_ | refine st_sub (Ads.al _) ?_ | refine st_call _ ?_) | k_data); (first | (k_unfold; (try dsimp only)) | (k_end; kc_close) | (with_reducible show FPost _ _ _ _ _ _ _ _ _; dsimp only [FPost]) | walk1 | (dsimp only; walk1) | (leave1; (try dsimp only)) | fail "no step")))
        (rename News _ _ _ _ => N4); (rename Fr _ _ _ _ => F4)
        k_dflt (refine tw_ne N4 (.tail _ (.head _)) hTw2 (fun q hq => (.tail _ (.tail _ (.tail _ (tups_sub q hq))))) (.head _) (by k_units) (fun hT0 => ?_) (fun hT0 => ?_))
        · (try dsimp only)
          (repeat' ((fail_if_success first | (with_reducible first | refine st_for ?_ | refine st_iter ?_ | refine st_len ?_ | refine st_fmod ?_ | refine st_ix ?_ | refine st_if ?_ | refine st_ne ?_ | refine st_in ?_ | refine st_append ?_ | refine st_cond ?_ | refine st_sub (Ads.al _) ?_ | refine st_call _ ?_) | k_data); (first | (k_unfold; (try dsimp only)) | (k_end; kc_close) | (with_reducible show FPost _ _ _ _ _ _ _ _ _; dsimp only [FPost]) | walk1 | (dsimp only; walk1) | (leave1; (try dsimp only)) | fail "no step")))
          walk1
          (repeat' ((fail_if_success first | (with_reducible first | refine st_for ?_ | refine st_iter ?_ | refine st_len ?_ | refine st_fmod ?_ | refine st_ix ?_ | refine st_if ?_ | refine st_ne ?_ | refine st_in ?_ | refine st_append ?_ | refine st_cond ?_ | refine st_sub (Ads.al _) ?_ | refine st_call _ ?_) | k_data); (first | (k_unfold; (try dsimp only)) | (k_end; kc_close) | (with_reducible show FPost _ _ _ _ _ _ _ _ _; dsimp only [FPost]) | walk1 | (dsimp only; walk1) | (leave1; (try dsimp only)) | fail "no step")))
          (rename News _ _ _ _ => N8); (rename Fr _ _ _ _ => F8)
          refine midP F8 N8 (fun q hq => (.tail _ (.tail _ (.tail _ hq)))) ho12 (Inv.of C (Bd.le (Nat.le_succ _)) hTT) (fun y h1 h2 h3 => ?_)
          first | rfl | simp [h1, h2, h3]
        · (try dsimp only)
          (repeat' ((fail_if_success first | (with_reducible first | refine st_for ?_ | refine st_iter ?_ | refine st_len ?_ | refine st_fmod ?_ | refine st_ix ?_ | refine st_if ?_ | refine st_ne ?_ | refine st_in ?_ | refine st_append ?_ | refine st_cond ?_ | refine st_sub (Ads.al _) ?_ | refine st_call _ ?_) | k_data); (first | (k_unfold; (try dsimp only)) | (k_end; kc_close) | (with_reducible show FPost _ _ _ _ _ _ _ _ _; dsimp only [FPost]) | walk1 | (dsimp only; walk1) | (leave1; (try dsimp only)) | fail "no step")))
          (rename News _ _ _ _ => N4)
          k_dflt (refine kba_turn (value' := PySem.Expr.Name (PySem.Str.ofString "_") ⟨0, 0, 0, 0⟩) (fun _ => rfl) (kim_list N4 (by repeat first | exact List.Mem.head _ | apply List.Mem.tail) rfl rfl (sel0 _) (sel63 _) (sel_ref _ _ _) ?_))
          (repeat' ((fail_if_success first | (with_reducible first | refine st_for ?_ | refine st_iter ?_ | refine st_len ?_ | refine st_fmod ?_ | refine st_ix ?_ | refine st_if ?_ | refine st_ne ?_ | refine st_in ?_ | refine st_append ?_ | refine st_cond ?_ | refine st_sub (Ads.al _) ?_ | refine st_call _ ?_) | k_data); (first | (k_unfold; (try dsimp only)) | (k_end; kc_close) | (with_reducible show FPost _ _ _ _ _ _ _ _ _; dsimp only [FPost]) | walk1 | (dsimp only; walk1) | (leave1; (try dsimp only)) | fail "no step")))
          (rename News _ _ _ _ => N4)
          k_dflt (refine kba_turn (value' := PySem.Expr.Name (PySem.Str.ofString "_") ⟨0, 0, 0, 0⟩) (fun _ => rfl) (kim_list N4 (by repeat first | exact List.Mem.head _ | apply List.Mem.tail) rfl rfl (sel0 _) (sel63 _) (sel_ref _ _ _) ?_))
          (repeat' ((fail_if_success first | (with_reducible first | refine st_for ?_ | refine st_iter ?_ | refine st_len ?_ | refine st_fmod ?_ | refine st_ix ?_ | refine st_if ?_ | refine st_ne ?_ | refine st_in ?_ | refine st_append ?_ | refine st_cond ?_ | refine st_sub (Ads.al _) ?_ | refine st_call _ ?_) | k_data); (first | (k_unfold; (try dsimp only)) | (k_end; kc_close) | (with_reducible show FPost _ _ _ _ _ _ _ _ _; dsimp only [FPost]) | walk1 | (dsimp only; walk1) | (leave1; (try dsimp only)) | fail "no step")))
          (rename News _ _ _ _ => N4); (rename Fr _ _ _ _ => F4)
          k_dflt (refine kun_lenL (k := (vs2.length : Int)) (News.isList N4 (.tail _ (.head _))) (by simp) (by omega) ?_)
          (repeat' ((fail_if_success first | (with_reducible first | refine st_for ?_ | refine st_iter ?_ | refine st_len ?_ | refine st_fmod ?_ | refine st_ix ?_ | refine st_if ?_ | refine st_ne ?_ | refine st_in ?_ | refine st_append ?_ | refine st_cond ?_ | refine st_sub (Ads.al _) ?_ | refine st_call _ ?_) | k_data); (first | (k_unfold; (try dsimp only)) | (k_end; kc_close) | (with_reducible show FPost _ _ _ _ _ _ _ _ _; dsimp only [FPost]) | walk1 | (dsimp only; walk1) | (leave1; (try dsimp only)) | fail "no step")))
          (try k_fold)
          (rename News _ _ _ _ => N4); (rename Fr _ _ _ _ => F4)
          k_dflt (refine uDraw B4 F4 X4 N4 T4 (by first | exact rfl | assumption) C (by have h1 := hTw2.1; have h2 := List.length_pos_iff.mpr hT0; (try simp only [List.size_toArray]); omega) (by intro q hq; repeat first | exact hq | apply List.Mem.tail) (by k_room) (by k_units) ?_)
          intro d3 td3 led3 h3 tk3 hd3 hd33 C3 it3 _ F9 N9
          clear N4 F4 
          try dsimp only
          try k_fold
          replace ho12 : ∀ q ∈ own, q ∈ led3 := fun q hq => it3 q (ho12 q hq) (hown q hq).2
          clear it3
          (try simp only [List.size_toArray] at hd33)
          have hd34 : (Ix d3).toNat < X.T.length := by have h1 := hTw2.1; omega
          obtain ⟨vs3, n3, hv3, hTw3⟩ := C3.tw
          obtain ⟨tp, ti, tj, nn, htx, htm⟩ := hTw3.2 _ _ (List.getElem?_eq_getElem hd34)
          have hpm : X.T[(Ix d3).toNat] ∈ X.T := List.getElem_mem hd34
          generalize X.T[(Ix d3).toNat] = pp at htm hpm
          have hfit : Ix d3 < 2 ^ 63 := by have h1 := Bd.tx; omega
          clear C hv2 hTw2
          have N5 := (News.add1 (News.add1 (News.add1 (News.add1 N9 (by have h := C3.H.fj.sto.1; rw [C3.aJ] at h; exact h)) (.tail _ C3.H.fj.sto.2.1)) (.tail _ (.tail _ hv3))) (.tail _ (.tail _ (.tail _ (tups_sub _ htm)))))
          clear N9
          (repeat' ((fail_if_success first | (with_reducible first | refine st_for ?_ | refine st_iter ?_ | refine st_len ?_ | refine st_fmod ?_ | refine st_ix ?_ | refine st_if ?_ | refine st_ne ?_ | refine st_in ?_ | refine st_append ?_ | refine st_cond ?_ | refine st_sub (Ads.al _) ?_ | refine st_call _ ?_) | k_data); (first | (k_unfold; (try dsimp only)) | (k_end; kc_close) | (with_reducible show FPost _ _ _ _ _ _ _ _ _; dsimp only [FPost]) | walk1 | (dsimp only; walk1) | (leave1; (try dsimp only)) | fail "no step")))
          (rename News _ _ _ _ => N4); (rename Fr _ _ _ _ => F4)
          k_dflt (refine kba_turn (value' := PySem.Expr.Name (PySem.Str.ofString "_") ⟨0, 0, 0, 0⟩) (fun _ => rfl) (kim_list N4 (.tail _ (.head _)) rfl rfl hd3 hfit htx ?_))
          clear htx hfit
          (repeat' ((fail_if_success first | (with_reducible first | refine st_for ?_ | refine st_iter ?_ | refine st_len ?_ | refine st_fmod ?_ | refine st_ix ?_ | refine st_if ?_ | refine st_ne ?_ | refine st_in ?_ | refine st_append ?_ | refine st_cond ?_ | refine st_sub (Ads.al _) ?_ | refine st_call _ ?_) | k_data); (first | (k_unfold; (try dsimp only)) | (k_end; kc_close) | (with_reducible show FPost _ _ _ _ _ _ _ _ _; dsimp only [FPost]) | walk1 | (dsimp only; walk1) | (leave1; (try dsimp only)) | fail "no step")))
          walk1
          (repeat' ((fail_if_success first | (with_reducible first | refine st_for ?_ | refine st_iter ?_ | refine st_len ?_ | refine st_fmod ?_ | refine st_ix ?_ | refine st_if ?_ | refine st_ne ?_ | refine st_in ?_ | refine st_append ?_ | refine st_cond ?_ | refine st_sub (Ads.al _) ?_ | refine st_call _ ?_) | k_data); (first | (k_unfold; (try dsimp only)) | (k_end; kc_close) | (with_reducible show FPost _ _ _ _ _ _ _ _ _; dsimp only [FPost]) | walk1 | (dsimp only; walk1) | (leave1; (try dsimp only)) | fail "no step")))
          (try k_fold)
          (rename News _ _ _ _ => N4); (rename Fr _ _ _ _ => F4)
          k_dflt (refine uEraseJ B4 F4 X4 N4 T4 (by first | exact rfl | assumption) C3 hpm (by intro q hq; repeat first | exact hq | apply List.Mem.tail) (by k_room) (by k_units) ?_)
          intro r J' led4 h4 tk4 hr M4 it4 tq4 F9 N9
          clear N4 F4 C3
          try dsimp only
          try k_fold
          replace ho12 : ∀ q ∈ own, q ∈ led4 := fun q hq => it4 q (ho12 q hq) (hown q hq).2
          clear it4
          have N5 := (News.add1 (News.add1 (News.add1 (News.add1 N9 M4.L.al) (.tail _ (by have h := M4.H.fa.sto.1; rw [M4.aXs] at h; exact h))) (.tail _ (.tail _ M4.H.fa.sto.2.1))) (.tail _ (.tail _ (.tail _ (tups_sub _ (tq4 _ htm))))))
          clear N9
          clear tq4
          (repeat' ((fail_if_success first | (with_reducible first | refine st_for ?_ | refine st_iter ?_ | refine st_len ?_ | refine st_fmod ?_ | refine st_ix ?_ | refine st_if ?_ | refine st_ne ?_ | refine st_in ?_ | refine st_append ?_ | refine st_cond ?_ | refine st_sub (Ads.al _) ?_ | refine st_call _ ?_) | k_data); (first | (k_unfold; (try dsimp only)) | (k_end; kc_close) | (with_reducible show FPost _ _ _ _ _ _ _ _ _; dsimp only [FPost]) | walk1 | (dsimp only; walk1) | (leave1; (try dsimp only)) | fail "no step")))
          (rename News _ _ _ _ => N4)
          k_dflt (refine kba_turn (value' := PySem.Expr.Name (PySem.Str.ofString "_") ⟨0, 0, 0, 0⟩) (fun _ => rfl) (kim_list N4 (by repeat first | exact List.Mem.head _ | apply List.Mem.tail) rfl rfl (sel0 _) (sel63 _) (sel_ref _ _ _) ?_))
          (repeat' ((fail_if_success first | (with_reducible first | refine st_for ?_ | refine st_iter ?_ | refine st_len ?_ | refine st_fmod ?_ | refine st_ix ?_ | refine st_if ?_ | refine st_ne ?_ | refine st_in ?_ | refine st_append ?_ | refine st_cond ?_ | refine st_sub (Ads.al _) ?_ | refine st_call _ ?_) | k_data); (first | (k_unfold; (try dsimp only)) | (k_end; kc_close) | (with_reducible show FPost _ _ _ _ _ _ _ _ _; dsimp only [FPost]) | walk1 | (dsimp only; walk1) | (leave1; (try dsimp only)) | fail "no step")))
          (try k_fold)
          (rename News _ _ _ _ => N4); (rename Fr _ _ _ _ => F4)
          k_dflt (refine uEraseA B4 F4 X4 N4 T4 (by first | exact rfl | assumption) hpm hr M4 (by intro q hq; repeat first | exact hq | apply List.Mem.tail) (by k_room) (by k_units) ?_)
          intro A' led5 h5 tk5 C5 hl1 hl2 it5 F9 N9
          clear N4 F4 M4
          try dsimp only
          try k_fold
          replace ho12 : ∀ q ∈ own, q ∈ led5 := fun q hq => it5 q (ho12 q hq) (hown q hq).2
          clear it5
          (repeat' ((fail_if_success first | (with_reducible first | refine st_for ?_ | refine st_iter ?_ | refine st_len ?_ | refine st_fmod ?_ | refine st_ix ?_ | refine st_if ?_ | refine st_ne ?_ | refine st_in ?_ | refine st_append ?_ | refine st_cond ?_ | refine st_sub (Ads.al _) ?_ | refine st_call _ ?_) | k_data); (first | (k_unfold; (try dsimp only)) | (k_end; kc_close) | (with_reducible show FPost _ _ _ _ _ _ _ _ _; dsimp only [FPost]) | walk1 | (dsimp only; walk1) | (leave1; (try dsimp only)) | fail "no step")))
          all_goals try (exfalso; (rename (bne _ _ = true) => hbad); by_cases hdd : r.death < 0 <;> simp [hdd] at hbad; done)
          (rename News _ _ _ _ => N8); (rename Fr _ _ _ _ => F8)
          refine midP F8 N8 (fun _ h => h) ho12 (Inv.of C5 (Bd.kept hl1 hl2) hTT) (fun y h1 h2 h3 => ?_)
          first | rfl | simp [h1, h2, h3]
      · have N5 := (News.add1 (News.add1 (News.add1 N4 C.L.pl) (.tail _ (by have h := C.H.fj.sto.1; rw [C.aJ] at h; exact h))) (.tail _ (.tail _ C.H.fj.sto.2.1)))
        clear N4
        walk1
        (repeat' ((fail_if_success first | (with_reducible first | refine st_for ?_ | refine st_iter ?_ | refine st_len ?_ | refine st_fmod ?_ | refine st_ix ?_ | refine st_if ?_ | refine st_ne ?_ | refine st_in ?_ | refine st_append ?_ | refine st_cond ?_ | refine st_sub (Ads.al _) ?_ | refine st_call _ ?_) | k_data); (first | (k_unfold; (try dsimp only)) | (k_end; kc_close) | (with_reducible show FPost _ _ _ _ _ _ _ _ _; dsimp only [FPost]) | walk1 | (dsimp only; walk1) | (leave1; (try dsimp only)) | fail "no step")))
        walk1
        (repeat' ((fail_if_success first | (with_reducible first | refine st_for ?_ | refine st_iter ?_ | refine st_len ?_ | refine st_fmod ?_ | refine st_ix ?_ | refine st_if ?_ | refine st_ne ?_ | refine st_in ?_ | refine st_append ?_ | refine st_cond ?_ | refine st_sub (Ads.al _) ?_ | refine st_call _ ?_) | k_data); (first | (k_unfold; (try dsimp only)) | (k_end; kc_close) | (with_reducible show FPost _ _ _ _ _ _ _ _ _; dsimp only [FPost]) | walk1 | (dsimp only; walk1) | (leave1; (try dsimp only)) | fail "no step")))
        walk1
        (repeat' ((fail_if_success first | (with_reducible first | refine st_for ?_ | refine st_iter ?_ | refine st_len ?_ | refine st_fmod ?_ | refine st_ix ?_ | refine st_if ?_ | refine st_ne ?_ | refine st_in ?_ | refine st_append ?_ | refine st_cond ?_ | refine st_sub (Ads.al _) ?_ | refine st_call _ ?_) | k_data); (first | (k_unfold; (try dsimp only)) | (k_end; kc_close) | (with_reducible show FPost _ _ _ _ _ _ _ _ _; dsimp only [FPost]) | walk1 | (dsimp only; walk1) | (leave1; (try dsimp only)) | fail "no step")))
        (rename News _ _ _ _ => N4)
        k_dflt (refine kba_turn (value' := PySem.Expr.Name (PySem.Str.ofString "_") ⟨0, 0, 0, 0⟩) (fun _ => rfl) (kim_list N4 (by repeat first | exact List.Mem.head _ | apply List.Mem.tail) rfl rfl (sel0 _) (sel63 _) (sel_ref _ _ _) ?_))
        (repeat' ((fail_if_success first | (with_reducible first | refine st_for ?_ | refine st_iter ?_ | refine st_len ?_ | refine st_fmod ?_ | refine st_ix ?_ | refine st_if ?_ | refine st_ne ?_ | refine st_in ?_ | refine st_append ?_ | refine st_cond ?_ | refine st_sub (Ads.al _) ?_ | refine st_call _ ?_) | k_data); (first | (k_unfold; (try dsimp only)) | (k_end; kc_close) | (with_reducible show FPost _ _ _ _ _ _ _ _ _; dsimp only [FPost]) | walk1 | (dsimp only; walk1) | (leave1; (try dsimp only)) | fail "no step")))
        (try k_fold)
        (rename News _ _ _ _ => N4); (rename Fr _ _ _ _ => F4)
        k_dflt (refine uKillJ B4 F4 X4 N4 T4 (by first | exact rfl | assumption) C (Nat.le_trans Bd.cx (Nat.le_of_lt (Nat.lt_trans hi14 (by decide)))) (by intro q hq; repeat first | exact hq | apply List.Mem.tail) (by k_room) (by k_units) ?_)
        intro r4 J' led4 h4 tk4 M4 it4 F9 N9
        clear N4 F4 C
        try dsimp only
        try k_fold
        replace ho12 : ∀ q ∈ own, q ∈ led4 := fun q hq => it4 q (ho12 q hq) (hown q hq).2
        clear it4
        have N5 := (News.add1 (News.add1 (News.add1 (News.add1 N9 M4.L.al) (.tail _ M4.L.nl)) (.tail _ (.tail _ (by have h := M4.H.fa.sto.1; rw [M4.aXs] at h; exact h)))) (.tail _ (.tail _ (.tail _ M4.H.fa.sto.2.1))))
        clear N9
        (repeat' ((fail_if_success first | (with_reducible first | refine st_for ?_ | refine st_iter ?_ | refine st_len ?_ | refine st_fmod ?_ | refine st_ix ?_ | refine st_if ?_ | refine st_ne ?_ | refine st_in ?_ | refine st_append ?_ | refine st_cond ?_ | refine st_sub (Ads.al _) ?_ | refine st_call _ ?_) | k_data); (first | (k_unfold; (try dsimp only)) | (k_end; kc_close) | (with_reducible show FPost _ _ _ _ _ _ _ _ _; dsimp only [FPost]) | walk1 | (dsimp only; walk1) | (leave1; (try dsimp only)) | fail "no step")))
        (rename News _ _ _ _ => N4)
        k_dflt (refine kba_turn (value' := PySem.Expr.Name (PySem.Str.ofString "_") ⟨0, 0, 0, 0⟩) (fun _ => rfl) (kim_list N4 (by repeat first | exact List.Mem.head _ | apply List.Mem.tail) rfl rfl (sel0 _) (sel63 _) (sel_ref _ _ _) ?_))
        (repeat' ((fail_if_success first | (with_reducible first | refine st_for ?_ | refine st_iter ?_ | refine st_len ?_ | refine st_fmod ?_ | refine st_ix ?_ | refine st_if ?_ | refine st_ne ?_ | refine st_in ?_ | refine st_append ?_ | refine st_cond ?_ | refine st_sub (Ads.al _) ?_ | refine st_call _ ?_) | k_data); (first | (k_unfold; (try dsimp only)) | (k_end; kc_close) | (with_reducible show FPost _ _ _ _ _ _ _ _ _; dsimp only [FPost]) | walk1 | (dsimp only; walk1) | (leave1; (try dsimp only)) | fail "no step")))
        (rename News _ _ _ _ => N4)
        k_dflt (refine kba_turn (value' := PySem.Expr.Name (PySem.Str.ofString "_") ⟨0, 0, 0, 0⟩) (fun _ => rfl) (kim_list N4 (by repeat first | exact List.Mem.head _ | apply List.Mem.tail) rfl rfl (sel0 _) (sel63 _) (sel_ref _ _ _) ?_))
        (repeat' ((fail_if_success first | (with_reducible first | refine st_for ?_ | refine st_iter ?_ | refine st_len ?_ | refine st_fmod ?_ | refine st_ix ?_ | refine st_if ?_ | refine st_ne ?_ | refine st_in ?_ | refine st_append ?_ | refine st_cond ?_ | refine st_sub (Ads.al _) ?_ | refine st_call _ ?_) | k_data); (first | (k_unfold; (try dsimp only)) | (k_end; kc_close) | (with_reducible show FPost _ _ _ _ _ _ _ _ _; dsimp only [FPost]) | walk1 | (dsimp only; walk1) | (leave1; (try dsimp only)) | fail "no step")))
        (try k_fold)
        (rename News _ _ _ _ => N4); (rename Fr _ _ _ _ => F4)
        k_dflt (refine uKillA B4 F4 X4 N4 T4 (by first | exact rfl | assumption) M4 (Nat.le_trans Bd.cx (Nat.le_of_lt (Nat.lt_trans hi14 (by decide)))) (by intro q hq; repeat first | exact hq | apply List.Mem.tail) (by k_room) (by k_units) ?_)
        intro r5 A' led5 h5 tk5 C5 hl1 hl2 it5 F9 N9
        clear N4 F4 M4
        try dsimp only
        try k_fold
        replace ho12 : ∀ q ∈ own, q ∈ led5 := fun q hq => it5 q (ho12 q hq) (hown q hq).2
        clear it5
        (repeat' ((fail_if_success first | (with_reducible first | refine st_for ?_ | refine st_iter ?_ | refine st_len ?_ | refine st_fmod ?_ | refine st_ix ?_ | refine st_if ?_ | refine st_ne ?_ | refine st_in ?_ | refine st_append ?_ | refine st_cond ?_ | refine st_sub (Ads.al _) ?_ | refine st_call _ ?_) | k_data); (first | (k_unfold; (try dsimp only)) | (k_end; kc_close) | (with_reducible show FPost _ _ _ _ _ _ _ _ _; dsimp only [FPost]) | walk1 | (dsimp only; walk1) | (leave1; (try dsimp only)) | fail "no step")))
        (rename News _ _ _ _ => N8); (rename Fr _ _ _ _ => F8)
        refine midP F8 N8 (fun _ h => h) ho12 (Inv.of C5 (Bd.kept hl1 hl2) hTT) (fun y h1 h2 h3 => ?_)
        first | rfl | simp [h1, h2, h3]
    · intro h5 tk5 led5 v1 v2 v3 F5 N5 ho5 hI5
      (try dsimp only)
      (try k_fold)
      obtain ⟨J5, X5, Y5, T5, C5, Bd5, hT5⟩ := hI5
      clear C F4 N4 Bd ho12 hTT hdv4
      have hy1 := C5.H.fa2.sto.1; rw [C5.aYs] at hy1; have hx1 := C5.H.fa.sto.1; rw [C5.aXs] at hx1
      obtain ⟨vn, nn, hn, hNA⟩ := C5.L.nt
      dsimp only [cond_true, cond_false] at hx1 hy1
      have N6 := (News.add1 (News.add1 (News.add1 (News.add1 (News.add1 (News.add1 (News.add1 (News.add1 N5 hn) (.tail _ C5.L.al)) (.tail _ (.tail _ (by have h := C5.H.fj.sto.1; rw [C5.aJ] at h; exact h)))) (.tail _ (.tail _ (.tail _ C5.H.fj.sto.2.1)))) (.tail _ (.tail _ (.tail _ (.tail _ hx1))))) (.tail _ (.tail _ (.tail _ (.tail _ (.tail _ C5.H.fa.sto.2.1)))))) (.tail _ (.tail _ (.tail _ (.tail _ (.tail _ (.tail _ hy1))))))) (.tail _ (.tail _ (.tail _ (.tail _ (.tail _ (.tail _ (.tail _ C5.H.fa2.sto.2.1))))))))
      clear N5
      clear hx1 hy1
      try dsimp only
      try k_fold
      (repeat' ((fail_if_success first | (with_reducible first | refine st_for ?_ | refine st_iter ?_ | refine st_len ?_ | refine st_fmod ?_ | refine st_ix ?_ | refine st_if ?_ | refine st_ne ?_ | refine st_in ?_ | refine st_append ?_ | refine st_cond ?_ | refine st_sub (Ads.al _) ?_ | refine st_call _ ?_) | k_data); (first | (k_unfold; (try dsimp only)) | (k_end; kc_close) | (with_reducible show FPost _ _ _ _ _ _ _ _ _; dsimp only [FPost]) | walk1 | (dsimp only; walk1) | (leave1; (try dsimp only)) | fail "no step")))
      walk1
      (repeat' ((fail_if_success first | (with_reducible first | refine st_for ?_ | refine st_iter ?_ | refine st_len ?_ | refine st_fmod ?_ | refine st_ix ?_ | refine st_if ?_ | refine st_ne ?_ | refine st_in ?_ | refine st_append ?_ | refine st_cond ?_ | refine st_sub (Ads.al _) ?_ | refine st_call _ ?_) | k_data); (first | (k_unfold; (try dsimp only)) | (k_end; kc_close) | (with_reducible show FPost _ _ _ _ _ _ _ _ _; dsimp only [FPost]) | walk1 | (dsimp only; walk1) | (leave1; (try dsimp only)) | fail "no step")))
      (rename News _ _ _ _ => N4)
      k_dflt (refine kba_turn (value' := PySem.Expr.Name (PySem.Str.ofString "_") ⟨0, 0, 0, 0⟩) (fun _ => rfl) (kim_list N4 (by repeat first | exact List.Mem.head _ | apply List.Mem.tail) rfl rfl (by decide) (by decide) (by exact rfl) ?_))
      (repeat' ((fail_if_success first | (with_reducible first | refine st_for ?_ | refine st_iter ?_ | refine st_len ?_ | refine st_fmod ?_ | refine st_ix ?_ | refine st_if ?_ | refine st_ne ?_ | refine st_in ?_ | refine st_append ?_ | refine st_cond ?_ | refine st_sub (Ads.al _) ?_ | refine st_call _ ?_) | k_data); (first | (k_unfold; (try dsimp only)) | (k_end; kc_close) | (with_reducible show FPost _ _ _ _ _ _ _ _ _; dsimp only [FPost]) | walk1 | (dsimp only; walk1) | (leave1; (try dsimp only)) | fail "no step")))
      (rename News _ _ _ _ => N4)
      k_dflt (refine kba_turn (value' := PySem.Expr.Name (PySem.Str.ofString "_") ⟨0, 0, 0, 0⟩) (fun _ => rfl) (kim_list N4 (by repeat first | exact List.Mem.head _ | apply List.Mem.tail) rfl rfl (by decide) (by decide) (by exact rfl) ?_))
      (repeat' ((fail_if_success first | (with_reducible first | refine st_for ?_ | refine st_iter ?_ | refine st_len ?_ | refine st_fmod ?_ | refine st_ix ?_ | refine st_if ?_ | refine st_ne ?_ | refine st_in ?_ | refine st_append ?_ | refine st_cond ?_ | refine st_sub (Ads.al _) ?_ | refine st_call _ ?_) | k_data); (first | (k_unfold; (try dsimp only)) | (k_end; kc_close) | (with_reducible show FPost _ _ _ _ _ _ _ _ _; dsimp only [FPost]) | walk1 | (dsimp only; walk1) | (leave1; (try dsimp only)) | fail "no step")))
      · exfalso
        have hg5 := C5.P.gen
        omega
      walk1
      (repeat' ((fail_if_success first | (with_reducible first | refine st_for ?_ | refine st_iter ?_ | refine st_len ?_ | refine st_fmod ?_ | refine st_ix ?_ | refine st_if ?_ | refine st_ne ?_ | refine st_in ?_ | refine st_append ?_ | refine st_cond ?_ | refine st_sub (Ads.al _) ?_ | refine st_call _ ?_) | k_data); (first | (k_unfold; (try dsimp only)) | (k_end; kc_close) | (with_reducible show FPost _ _ _ _ _ _ _ _ _; dsimp only [FPost]) | walk1 | (dsimp only; walk1) | (leave1; (try dsimp only)) | fail "no step")))
      (rename News _ _ _ _ => N4); (rename Fr _ _ _ _ => F4)
      k_dflt (refine in_tuple_ints (News.isTup N4 (.head _)) (.cons _ _ (.cons _ _ (.cons _ _ .nil))) ?_)
      generalize (List.any _ _) = bb
      have hlenn : vn.length ≤ 14 := by rw [hNA.1]; exact Nat.le_trans hT5 (Nat.le_of_lt hi14)
      cases bb
      · (try dsimp only)
        (repeat' ((fail_if_success first | (with_reducible first | refine st_for ?_ | refine st_iter ?_ | refine st_len ?_ | refine st_fmod ?_ | refine st_ix ?_ | refine st_if ?_ | refine st_ne ?_ | refine st_in ?_ | refine st_append ?_ | refine st_cond ?_ | refine st_sub (Ads.al _) ?_ | refine st_call _ ?_) | k_data); (first | (k_unfold; (try dsimp only)) | (k_end; kc_close) | (with_reducible show FPost _ _ _ _ _ _ _ _ _; dsimp only [FPost]) | walk1 | (dsimp only; walk1) | (leave1; (try dsimp only)) | fail "no step")))
        (rename News _ _ _ _ => N8); (rename Fr _ _ _ _ => F8)
        have N9 := News.sub (led' := led5) N8 (fun q hq => by repeat first | exact hq | apply List.Mem.tail)
        (try dsimp only [FPost])
        refine fend F8 N9 ho5 ⟨⟨J5, X5, Y5, T5, C5.its N9 kept_off (isIt_mods hIt (ho5 _ hIo) rfl), Bd5, Nat.le_succ_of_le hT5⟩, _, _, _, _, _, _, map6_of fun y h1 h2 h3 h4 h5 h6 => ?_⟩
        simp [map3, map6, h1, h2, h3, h4, h5, h6]
      · (try dsimp only)
        (repeat' ((fail_if_success first | (with_reducible first | refine st_for ?_ | refine st_iter ?_ | refine st_len ?_ | refine st_fmod ?_ | refine st_ix ?_ | refine st_if ?_ | refine st_ne ?_ | refine st_in ?_ | refine st_append ?_ | refine st_cond ?_ | refine st_sub (Ads.al _) ?_ | refine st_call _ ?_) | k_data); (first | (k_unfold; (try dsimp only)) | (k_end; kc_close) | (with_reducible show FPost _ _ _ _ _ _ _ _ _; dsimp only [FPost]) | walk1 | (dsimp only; walk1) | (leave1; (try dsimp only)) | fail "no step")))
        (rename News _ _ _ _ => N4)
        k_dflt (refine kba_turn (value' := PySem.Expr.Name (PySem.Str.ofString "_") ⟨0, 0, 0, 0⟩) (fun _ => rfl) (kim_list N4 (by repeat first | exact List.Mem.head _ | apply List.Mem.tail) rfl rfl (by decide) (by decide) (by exact rfl) ?_))
        (repeat' ((fail_if_success first | (with_reducible first | refine st_for ?_ | refine st_iter ?_ | refine st_len ?_ | refine st_fmod ?_ | refine st_ix ?_ | refine st_if ?_ | refine st_ne ?_ | refine st_in ?_ | refine st_append ?_ | refine st_cond ?_ | refine st_sub (Ads.al _) ?_ | refine st_call _ ?_) | k_data); (first | (k_unfold; (try dsimp only)) | (k_end; kc_close) | (with_reducible show FPost _ _ _ _ _ _ _ _ _; dsimp only [FPost]) | walk1 | (dsimp only; walk1) | (leave1; (try dsimp only)) | fail "no step")))
        (rename News _ _ _ _ => N4)
        k_dflt (refine kba_turn (value' := PySem.Expr.Name (PySem.Str.ofString "_") ⟨0, 0, 0, 0⟩) (fun _ => rfl) (kim_list N4 (by repeat first | exact List.Mem.head _ | apply List.Mem.tail) rfl rfl (by decide) (by decide) (by exact rfl) ?_))
        (repeat' ((fail_if_success first | (with_reducible first | refine st_for ?_ | refine st_iter ?_ | refine st_len ?_ | refine st_fmod ?_ | refine st_ix ?_ | refine st_if ?_ | refine st_ne ?_ | refine st_in ?_ | refine st_append ?_ | refine st_cond ?_ | refine st_sub (Ads.al _) ?_ | refine st_call _ ?_) | k_data); (first | (k_unfold; (try dsimp only)) | (k_end; kc_close) | (with_reducible show FPost _ _ _ _ _ _ _ _ _; dsimp only [FPost]) | walk1 | (dsimp only; walk1) | (leave1; (try dsimp only)) | fail "no step")))
        (rename News _ _ _ _ => N8); (rename Fr _ _ _ _ => F8)
        have N9 := News.sub (led' := led5) N8 (fun q hq => by repeat first | exact hq | apply List.Mem.tail)
        have hit5 := fun led' k => its_of (led' := led') N9 k (fun d hd => by rw [List.mem_singleton.mp hd]; exact ⟨_, hn, rfl⟩) not_it_list
        have core5 := fun led' k hf => Core.note (led' := led') N9 C5 k hf
        have nk5 := fun led' k => noted_kept (led' := led') N9 hn hNA k
        clear N9
        have N5 := news_note N8 (fun q hq => by repeat first | exact hq | apply List.Mem.tail) hn
        have hoff5 := off_own [ad.nt] led5
        clear N8
        walk1
        (repeat' ((fail_if_success first | (with_reducible first | refine st_for ?_ | refine st_iter ?_ | refine st_len ?_ | refine st_fmod ?_ | refine st_ix ?_ | refine st_if ?_ | refine st_ne ?_ | refine st_in ?_ | refine st_append ?_ | refine st_cond ?_ | refine st_sub (Ads.al _) ?_ | refine st_call _ ?_) | k_data); (first | (k_unfold; (try dsimp only)) | (k_end; kc_close) | (with_reducible show FPost _ _ _ _ _ _ _ _ _; dsimp only [FPost]) | walk1 | (dsimp only; walk1) | (leave1; (try dsimp only)) | fail "no step")))
        (rename News _ _ _ _ => N8); (rename Fr _ _ _ _ => F8)
        simp only [List.push_toArray] at N8
        (rename _ ∧ _ ∧ _ ∧ _ ∧ _ ∧ _ ∧ _ ∧ _ ∧ _ ∧ AllLt _ _ => y1)
        (try dsimp only [FPost])
        refine fend F8 N8 (fun q hq => hit5 _ (fun q hq hn => .tail _ (.tail _ (.tail _ (mem_off.mpr ⟨hq, hn⟩)))) q (ho5 q hq) (hown q hq).2) ⟨⟨J5, X5, Y5, _, (core5 _ (fun q hq hn => .tail _ (.tail _ (.tail _ (mem_off.mpr ⟨hq, hn⟩)))) ⟨_, _, .tail _ (.tail _ (.head _)), ?_⟩).its N8 kept_off (isIt_mods hIt (hit5 _ (fun q hq hn => .tail _ (.tail _ (.tail _ (mem_off.mpr ⟨hq, hn⟩)))) _ (ho5 _ hIo) hIt) rfl), Bd5, ?_⟩, _, _, _, _, _, _, map6_of fun y h1 h2 h3 h4 h5 h6 => ?_⟩
        · exact NotedAre.snoc (nk5 _ (fun q hq hn => .tail _ (.tail _ (.tail _ (mem_off.mpr ⟨hq, hn⟩))))) (.head _) (.tail _ (.head _)) y1.2.2.2.2.2.2.2.2.1
        · rw [List.length_append, List.length_singleton]; omega
        · simp [map3, map6, h1, h2, h3, h4, h5, h6]
  · intro m₁ led h tk hJ0 F10 N10
    (try dsimp only)
    (try k_fold)
    obtain ⟨⟨J, X, Y, TT, C, Bd, hTT⟩, u1, u2, u3, u4, u5, u6, rfl⟩ := hJ0
    clear F5 N5 C8 BI
    have hm20 : m < 20 := by omega
    (repeat' ((fail_if_success first | (with_reducible first | refine st_for ?_ | refine st_iter ?_ | refine st_len ?_ | refine st_fmod ?_ | refine st_ix ?_ | refine st_if ?_ | refine st_ne ?_ | refine st_in ?_ | refine st_append ?_ | refine st_cond ?_ | refine st_sub (Ads.al _) ?_ | refine st_call _ ?_) | k_data); (first | (k_unfold; (try dsimp only)) | (k_end; kc_close) | (with_reducible show FPost _ _ _ _ _ _ _ _ _; dsimp only [FPost]) | walk1 | (dsimp only; walk1) | (leave1; (try dsimp only)) | fail "no step")))
    (try k_fold)
    (rename News _ _ _ _ => N4); (rename Fr _ _ _ _ => F4)
    k_dflt (refine uDraw B4 F4 X4 N4 T4 (by first | exact rfl | assumption) C (by decide) (by intro q hq; repeat first | exact hq | apply List.Mem.tail) (by k_room) (by k_units) ?_)
    intro d3 td3 led3 h3 tk3 hd3 hd33 C3 it3 _ F9 N9
    clear N4 F4 C it3
    try dsimp only
    try k_fold
    obtain ⟨wa, ik, hwx, hdat, hok⟩ := C3.L.word hd3 hd33
    have N5 := News.add1 N9 C3.L.wl
    clear N9
    (repeat' ((fail_if_success first | (with_reducible first | refine st_for ?_ | refine st_iter ?_ | refine st_len ?_ | refine st_fmod ?_ | refine st_ix ?_ | refine st_if ?_ | refine st_ne ?_ | refine st_in ?_ | refine st_append ?_ | refine st_cond ?_ | refine st_sub (Ads.al _) ?_ | refine st_call _ ?_) | k_data); (first | (k_unfold; (try dsimp only)) | (k_end; kc_close) | (with_reducible show FPost _ _ _ _ _ _ _ _ _; dsimp only [FPost]) | walk1 | (dsimp only; walk1) | (leave1; (try dsimp only)) | fail "no step")))
    (rename News _ _ _ _ => N4); (rename Fr _ _ _ _ => F4)
    k_dflt (refine kim_list N4 (.head _) rfl rfl hd3 (Int.lt_trans hd33 (by decide)) hwx ?_)
    clear hwx
    (repeat' ((fail_if_success first | (with_reducible first | refine st_for ?_ | refine st_iter ?_ | refine st_len ?_ | refine st_fmod ?_ | refine st_ix ?_ | refine st_if ?_ | refine st_ne ?_ | refine st_in ?_ | refine st_append ?_ | refine st_cond ?_ | refine st_sub (Ads.al _) ?_ | refine st_call _ ?_) | k_data); (first | (k_unfold; (try dsimp only)) | (k_end; kc_close) | (with_reducible show FPost _ _ _ _ _ _ _ _ _; dsimp only [FPost]) | walk1 | (dsimp only; walk1) | (leave1; (try dsimp only)) | fail "no step")))
    (try k_fold)
    refine For_pair ?_
    (repeat' ((fail_if_success first | (with_reducible first | refine st_for ?_ | refine st_iter ?_ | refine st_len ?_ | refine st_fmod ?_ | refine st_ix ?_ | refine st_if ?_ | refine st_ne ?_ | refine st_in ?_ | refine st_append ?_ | refine st_cond ?_ | refine st_sub (Ads.al _) ?_ | refine st_call _ ?_) | k_data); (first | (k_unfold; (try dsimp only)) | (k_end; kc_close) | (with_reducible show FPost _ _ _ _ _ _ _ _ _; dsimp only [FPost]) | walk1 | (dsimp only; walk1) | (leave1; (try dsimp only)) | fail "no step")))
    (rename Fr _ _ _ _ => F5); (rename News _ _ _ _ => N5)
    obtain ⟨vn, nn, hn, hNA⟩ := C3.L.nt
    have N6 := News.sub (led' := led3) N5 (fun q hq => .tail _ hq)
    refine my_pairs (x := "when") (y := "then") (by exact rfl) (by exact rfl) (by exact rfl) (by exact rfl) F5 N6 hn _ hNA.pairs (fun m' => ∃ u1 u2 u3, m' = map3 "when" "then" "who" u1 u2 u3 _) ⟨_, _, _, map3_0⟩ ?_ ?_
    · intro a b m₁ h tk own hP0 hR0 F7 N7
      clear F5 N5 N6
      (try k_fold)
      obtain ⟨e, tg, li, k0, k1, ml, he, rfl, rfl, hli⟩ := hP0
      obtain ⟨u1, u2, u3, rfl⟩ := hR0
      (repeat' ((fail_if_success first | (with_reducible first | refine st_for ?_ | refine st_iter ?_ | refine st_len ?_ | refine st_fmod ?_ | refine st_ix ?_ | refine st_if ?_ | refine st_ne ?_ | refine st_in ?_ | refine st_append ?_ | refine st_cond ?_ | refine st_sub (Ads.al _) ?_ | refine st_call _ ?_) | k_data); (first | (k_unfold; (try dsimp only)) | (k_end; kc_close) | (with_reducible show FPost _ _ _ _ _ _ _ _ _; dsimp only [FPost]) | walk1 | (dsimp only; walk1) | (leave1; (try dsimp only)) | fail "no step")))
      (try k_fold)
      (rename Fr _ _ _ _ => F8)
      with_unfolding_all refine For_invVF F8 (by exact rfl) (by exact rfl) ?_
      (repeat' ((fail_if_success first | (with_reducible first | refine st_for ?_ | refine st_iter ?_ | refine st_len ?_ | refine st_fmod ?_ | refine st_ix ?_ | refine st_if ?_ | refine st_ne ?_ | refine st_in ?_ | refine st_append ?_ | refine st_cond ?_ | refine st_sub (Ads.al _) ?_ | refine st_call _ ?_) | k_data); (first | (k_unfold; (try dsimp only)) | (k_end; kc_close) | (with_reducible show FPost _ _ _ _ _ _ _ _ _; dsimp only [FPost]) | walk1 | (dsimp only; walk1) | (leave1; (try dsimp only)) | fail "no step")))
      (rename Fr _ _ _ _ => F5); (rename News _ _ _ _ => N5)
      refine my_list2 (k := 0) (fun j m' led' => (∀ q ∈ own ++ led3, q ∈ led') ∧ ∃ u, m' = map1 "who" u _) (by exact rfl) F5 N5 (.head _) ⟨fun q hq => .tail _ hq, _, map1_0⟩ ?_ ?_
      · intro j v m₂ led2 h2 tk2 own2 I2 o2 hj hR1 hI2 hc hown hnI F9 N9
        clear F5 N5
        try clear F8
        (try k_fold)
        obtain ⟨hsub, u, rfl⟩ := hR1
        have hsub2 : ∀ q ∈ led3, q ∈ own2 ++ led2 := fun q hq => List.mem_append_right _ (hsub q (List.mem_append_right _ hq))
        obtain ⟨b, tb, X2, Y2, rfl, C2, Bd2⟩ := who_of hj (C3.sub hsub2) Bd
        have hli2 := hsub2 _ hli
        have hdat2 := hdat.mono (tups_sub' hsub2)
        clear C3 hli hdat
        (try k_fold)
        have N5 := (News.add1 (News.add1 (News.add1 (News.add1 N9 C2.L.pl) (.tail _ C2.L.al)) (.tail _ (.tail _ C2.L.nl))) (.tail _ (.tail _ (.tail _ hli2))))
        clear N9
        (repeat' ((fail_if_success first | (with_reducible first | refine st_for ?_ | refine st_iter ?_ | refine st_len ?_ | refine st_fmod ?_ | refine st_ix ?_ | refine st_if ?_ | refine st_ne ?_ | refine st_in ?_ | refine st_append ?_ | refine st_cond ?_ | refine st_sub (Ads.al _) ?_ | refine st_call _ ?_) | k_data); (first | (k_unfold; (try dsimp only)) | (k_end; kc_close) | (with_reducible show FPost _ _ _ _ _ _ _ _ _; dsimp only [FPost]) | walk1 | (dsimp only; walk1) | (leave1; (try dsimp only)) | fail "no step")))
        walk1
        (repeat' ((fail_if_success first | (with_reducible first | refine st_for ?_ | refine st_iter ?_ | refine st_len ?_ | refine st_fmod ?_ | refine st_ix ?_ | refine st_if ?_ | refine st_ne ?_ | refine st_in ?_ | refine st_append ?_ | refine st_cond ?_ | refine st_sub (Ads.al _) ?_ | refine st_call _ ?_) | k_data); (first | (k_unfold; (try dsimp only)) | (k_end; kc_close) | (with_reducible show FPost _ _ _ _ _ _ _ _ _; dsimp only [FPost]) | walk1 | (dsimp only; walk1) | (leave1; (try dsimp only)) | fail "no step")))
        (rename News _ _ _ _ => N4)
        k_dflt (refine kba_turn (value' := PySem.Expr.Name (PySem.Str.ofString "_") ⟨0, 0, 0, 0⟩) (fun _ => rfl) (kim_list N4 (by repeat first | exact List.Mem.head _ | apply List.Mem.tail) rfl rfl (sel0 _) (sel63 _) (sel_ref _ _ _) ?_))
        (repeat' ((fail_if_success first | (with_reducible first | refine st_for ?_ | refine st_iter ?_ | refine st_len ?_ | refine st_fmod ?_ | refine st_ix ?_ | refine st_if ?_ | refine st_ne ?_ | refine st_in ?_ | refine st_append ?_ | refine st_cond ?_ | refine st_sub (Ads.al _) ?_ | refine st_call _ ?_) | k_data); (first | (k_unfold; (try dsimp only)) | (k_end; kc_close) | (with_reducible show FPost _ _ _ _ _ _ _ _ _; dsimp only [FPost]) | walk1 | (dsimp only; walk1) | (leave1; (try dsimp only)) | fail "no step")))
        (try k_fold)
        (rename News _ _ _ _ => N4); (rename Fr _ _ _ _ => F4)
        k_dflt (refine uShownJ B4 F4 X4 N4 T4 (by first | exact rfl | assumption) C2 (Nat.lt_of_le_of_lt Bd2.cx hm20) (by intro q hq; repeat first | exact hq | apply List.Mem.tail) (by k_room) (by k_units) ?_)
        intro l1 n1 vs1 led1 h1 tk1 s1 m1 D1 F9 N9
        clear N4 F4 
        try dsimp only
        try k_fold
        have N5 := (News.add1 (News.add1 (News.add1 (News.add1 N9 (s1 _ C2.L.pl)) (.tail _ (s1 _ C2.L.al))) (.tail _ (.tail _ (s1 _ C2.L.nl)))) (.tail _ (.tail _ (.tail _ (s1 _ hli2)))))
        clear N9
        (repeat' ((fail_if_success first | (with_reducible first | refine st_for ?_ | refine st_iter ?_ | refine st_len ?_ | refine st_fmod ?_ | refine st_ix ?_ | refine st_if ?_ | refine st_ne ?_ | refine st_in ?_ | refine st_append ?_ | refine st_cond ?_ | refine st_sub (Ads.al _) ?_ | refine st_call _ ?_) | k_data); (first | (k_unfold; (try dsimp only)) | (k_end; kc_close) | (with_reducible show FPost _ _ _ _ _ _ _ _ _; dsimp only [FPost]) | walk1 | (dsimp only; walk1) | (leave1; (try dsimp only)) | fail "no step")))
        (rename News _ _ _ _ => N4)
        k_dflt (refine kba_turn (value' := PySem.Expr.Name (PySem.Str.ofString "_") ⟨0, 0, 0, 0⟩) (fun _ => rfl) (kim_list N4 (by repeat first | exact List.Mem.head _ | apply List.Mem.tail) rfl rfl (sel0 _) (sel63 _) (sel_ref _ _ _) ?_))
        (repeat' ((fail_if_success first | (with_reducible first | refine st_for ?_ | refine st_iter ?_ | refine st_len ?_ | refine st_fmod ?_ | refine st_ix ?_ | refine st_if ?_ | refine st_ne ?_ | refine st_in ?_ | refine st_append ?_ | refine st_cond ?_ | refine st_sub (Ads.al _) ?_ | refine st_call _ ?_) | k_data); (first | (k_unfold; (try dsimp only)) | (k_end; kc_close) | (with_reducible show FPost _ _ _ _ _ _ _ _ _; dsimp only [FPost]) | walk1 | (dsimp only; walk1) | (leave1; (try dsimp only)) | fail "no step")))
        (rename News _ _ _ _ => N4)
        k_dflt (refine kba_turn (value' := PySem.Expr.Name (PySem.Str.ofString "_") ⟨0, 0, 0, 0⟩) (fun _ => rfl) (kim_list N4 (by repeat first | exact List.Mem.head _ | apply List.Mem.tail) rfl rfl (sel0 _) (sel63 _) (sel_ref _ _ _) ?_))
        (repeat' ((fail_if_success first | (with_reducible first | refine st_for ?_ | refine st_iter ?_ | refine st_len ?_ | refine st_fmod ?_ | refine st_ix ?_ | refine st_if ?_ | refine st_ne ?_ | refine st_in ?_ | refine st_append ?_ | refine st_cond ?_ | refine st_sub (Ads.al _) ?_ | refine st_call _ ?_) | k_data); (first | (k_unfold; (try dsimp only)) | (k_end; kc_close) | (with_reducible show FPost _ _ _ _ _ _ _ _ _; dsimp only [FPost]) | walk1 | (dsimp only; walk1) | (leave1; (try dsimp only)) | fail "no step")))
        (rename News _ _ _ _ => N4)
        k_dflt (refine kba_turn (value' := PySem.Expr.Name (PySem.Str.ofString "_") ⟨0, 0, 0, 0⟩) (fun _ => rfl) (kim_list N4 (by repeat first | exact List.Mem.head _ | apply List.Mem.tail) rfl rfl (sel0 _) (sel63 _) (sel_int _ _ _ _ _) ?_))
        (repeat' ((fail_if_success first | (with_reducible first | refine st_for ?_ | refine st_iter ?_ | refine st_len ?_ | refine st_fmod ?_ | refine st_ix ?_ | refine st_if ?_ | refine st_ne ?_ | refine st_in ?_ | refine st_append ?_ | refine st_cond ?_ | refine st_sub (Ads.al _) ?_ | refine st_call _ ?_) | k_data); (first | (k_unfold; (try dsimp only)) | (k_end; kc_close) | (with_reducible show FPost _ _ _ _ _ _ _ _ _; dsimp only [FPost]) | walk1 | (dsimp only; walk1) | (leave1; (try dsimp only)) | fail "no step")))
        (try k_fold)
        (rename News _ _ _ _ => N4); (rename Fr _ _ _ _ => F4)
        k_dflt (refine uShownA B4 F4 X4 N4 T4 (by first | exact rfl | assumption) (Core.sub C2 s1) (Nat.lt_of_le_of_lt Bd2.cx hm20) (by intro q hq; repeat first | exact hq | apply List.Mem.tail) (by k_room) (by k_units) ?_)
        intro l5 n5 vs5 led5 h5 tk5 s5 m5 D5 F9 N9
        clear N4 F4 
        try dsimp only
        try k_fold
        (repeat' ((fail_if_success first | (with_reducible first | refine st_for ?_ | refine st_iter ?_ | refine st_len ?_ | refine st_fmod ?_ | refine st_ix ?_ | refine st_if ?_ | refine st_ne ?_ | refine st_in ?_ | refine st_append ?_ | refine st_cond ?_ | refine st_sub (Ads.al _) ?_ | refine st_call _ ?_) | k_data); (first | (k_unfold; (try dsimp only)) | (k_end; kc_close) | (with_reducible show FPost _ _ _ _ _ _ _ _ _; dsimp only [FPost]) | walk1 | (dsimp only; walk1) | (leave1; (try dsimp only)) | fail "no step")))
        (rename News _ _ _ _ => N4); (rename Fr _ _ _ _ => F4)
        k_dflt (refine same_ne N4 m1 D1 s5 m5 D5 (fun _ h => h) (Core.shown_eq C2 he) (shownD_ok C2.H.fj.recs _ _) (by k_units) ?_)
        clear m1 D1 m5 D5
        (try dsimp only)
        have s6 : ∀ q ∈ own2 ++ led2, q ∈ led5 := fun q hq => s5 q (s1 q hq)
        have N5 := (News.add1 (News.add1 (News.add1 (News.add1 N4 (s6 _ C2.L.pl)) (.tail _ (s6 _ C2.L.al))) (.tail _ (.tail _ (s6 _ C2.L.nl)))) (.tail _ (.tail _ (.tail _ (s6 _ hli2)))))
        clear N4
        (repeat' ((fail_if_success first | (with_reducible first | refine st_for ?_ | refine st_iter ?_ | refine st_len ?_ | refine st_fmod ?_ | refine st_ix ?_ | refine st_if ?_ | refine st_ne ?_ | refine st_in ?_ | refine st_append ?_ | refine st_cond ?_ | refine st_sub (Ads.al _) ?_ | refine st_call _ ?_) | k_data); (first | (k_unfold; (try dsimp only)) | (k_end; kc_close) | (with_reducible show FPost _ _ _ _ _ _ _ _ _; dsimp only [FPost]) | walk1 | (dsimp only; walk1) | (leave1; (try dsimp only)) | fail "no step")))
        walk1
        (repeat' ((fail_if_success first | (with_reducible first | refine st_for ?_ | refine st_iter ?_ | refine st_len ?_ | refine st_fmod ?_ | refine st_ix ?_ | refine st_if ?_ | refine st_ne ?_ | refine st_in ?_ | refine st_append ?_ | refine st_cond ?_ | refine st_sub (Ads.al _) ?_ | refine st_call _ ?_) | k_data); (first | (k_unfold; (try dsimp only)) | (k_end; kc_close) | (with_reducible show FPost _ _ _ _ _ _ _ _ _; dsimp only [FPost]) | walk1 | (dsimp only; walk1) | (leave1; (try dsimp only)) | fail "no step")))
        (rename News _ _ _ _ => N4)
        k_dflt (refine kba_turn (value' := PySem.Expr.Name (PySem.Str.ofString "_") ⟨0, 0, 0, 0⟩) (fun _ => rfl) (kim_list N4 (by repeat first | exact List.Mem.head _ | apply List.Mem.tail) rfl rfl (sel0 _) (sel63 _) (sel_ref _ _ _) ?_))
        (repeat' ((fail_if_success first | (with_reducible first | refine st_for ?_ | refine st_iter ?_ | refine st_len ?_ | refine st_fmod ?_ | refine st_ix ?_ | refine st_if ?_ | refine st_ne ?_ | refine st_in ?_ | refine st_append ?_ | refine st_cond ?_ | refine st_sub (Ads.al _) ?_ | refine st_call _ ?_) | k_data); (first | (k_unfold; (try dsimp only)) | (k_end; kc_close) | (with_reducible show FPost _ _ _ _ _ _ _ _ _; dsimp only [FPost]) | walk1 | (dsimp only; walk1) | (leave1; (try dsimp only)) | fail "no step")))
        (try k_fold)
        (rename News _ _ _ _ => N4); (rename Fr _ _ _ _ => F4)
        k_dflt (refine uLedJ B4 F4 X4 N4 T4 (by first | exact rfl | assumption) (Core.sub C2 s6) (Nat.lt_of_le_of_lt Bd2.cx hm20) (hdat2.mono (tups_sub' s6)) hok (by intro q hq; repeat first | exact hq | apply List.Mem.tail) (by k_room) (by k_units) ?_)
        intro l7 n7 vs7 led7 h7 tk7 s7 m7 D7 F9 N9
        clear N4 F4 
        try dsimp only
        try k_fold
        have N5 := (News.add1 (News.add1 (News.add1 (News.add1 N9 (s7 _ (s6 _ C2.L.pl))) (.tail _ (s7 _ (s6 _ C2.L.al)))) (.tail _ (.tail _ (s7 _ (s6 _ C2.L.nl))))) (.tail _ (.tail _ (.tail _ (s7 _ (s6 _ hli2))))))
        clear N9
        (repeat' ((fail_if_success first | (with_reducible first | refine st_for ?_ | refine st_iter ?_ | refine st_len ?_ | refine st_fmod ?_ | refine st_ix ?_ | refine st_if ?_ | refine st_ne ?_ | refine st_in ?_ | refine st_append ?_ | refine st_cond ?_ | refine st_sub (Ads.al _) ?_ | refine st_call _ ?_) | k_data); (first | (k_unfold; (try dsimp only)) | (k_end; kc_close) | (with_reducible show FPost _ _ _ _ _ _ _ _ _; dsimp only [FPost]) | walk1 | (dsimp only; walk1) | (leave1; (try dsimp only)) | fail "no step")))
        (rename News _ _ _ _ => N4)
        k_dflt (refine kba_turn (value' := PySem.Expr.Name (PySem.Str.ofString "_") ⟨0, 0, 0, 0⟩) (fun _ => rfl) (kim_list N4 (by repeat first | exact List.Mem.head _ | apply List.Mem.tail) rfl rfl (sel0 _) (sel63 _) (sel_ref _ _ _) ?_))
        (repeat' ((fail_if_success first | (with_reducible first | refine st_for ?_ | refine st_iter ?_ | refine st_len ?_ | refine st_fmod ?_ | refine st_ix ?_ | refine st_if ?_ | refine st_ne ?_ | refine st_in ?_ | refine st_append ?_ | refine st_cond ?_ | refine st_sub (Ads.al _) ?_ | refine st_call _ ?_) | k_data); (first | (k_unfold; (try dsimp only)) | (k_end; kc_close) | (with_reducible show FPost _ _ _ _ _ _ _ _ _; dsimp only [FPost]) | walk1 | (dsimp only; walk1) | (leave1; (try dsimp only)) | fail "no step")))
        (rename News _ _ _ _ => N4)
        k_dflt (refine kba_turn (value' := PySem.Expr.Name (PySem.Str.ofString "_") ⟨0, 0, 0, 0⟩) (fun _ => rfl) (kim_list N4 (by repeat first | exact List.Mem.head _ | apply List.Mem.tail) rfl rfl (sel0 _) (sel63 _) (sel_ref _ _ _) ?_))
        (repeat' ((fail_if_success first | (with_reducible first | refine st_for ?_ | refine st_iter ?_ | refine st_len ?_ | refine st_fmod ?_ | refine st_ix ?_ | refine st_if ?_ | refine st_ne ?_ | refine st_in ?_ | refine st_append ?_ | refine st_cond ?_ | refine st_sub (Ads.al _) ?_ | refine st_call _ ?_) | k_data); (first | (k_unfold; (try dsimp only)) | (k_end; kc_close) | (with_reducible show FPost _ _ _ _ _ _ _ _ _; dsimp only [FPost]) | walk1 | (dsimp only; walk1) | (leave1; (try dsimp only)) | fail "no step")))
        (rename News _ _ _ _ => N4)
        k_dflt (refine kba_turn (value' := PySem.Expr.Name (PySem.Str.ofString "_") ⟨0, 0, 0, 0⟩) (fun _ => rfl) (kim_list N4 (by repeat first | exact List.Mem.head _ | apply List.Mem.tail) rfl rfl (sel0 _) (sel63 _) (sel_int _ _ _ _ _) ?_))
        (repeat' ((fail_if_success first | (with_reducible first | refine st_for ?_ | refine st_iter ?_ | refine st_len ?_ | refine st_fmod ?_ | refine st_ix ?_ | refine st_if ?_ | refine st_ne ?_ | refine st_in ?_ | refine st_append ?_ | refine st_cond ?_ | refine st_sub (Ads.al _) ?_ | refine st_call _ ?_) | k_data); (first | (k_unfold; (try dsimp only)) | (k_end; kc_close) | (with_reducible show FPost _ _ _ _ _ _ _ _ _; dsimp only [FPost]) | walk1 | (dsimp only; walk1) | (leave1; (try dsimp only)) | fail "no step")))
        have s8 : ∀ q ∈ own2 ++ led2, q ∈ led7 := fun q hq => s7 q (s6 q hq)
        (try k_fold)
        (rename News _ _ _ _ => N4); (rename Fr _ _ _ _ => F4)
        k_dflt (refine uLedA B4 F4 X4 N4 T4 (by first | exact rfl | assumption) (Core.sub C2 s8) (Nat.lt_of_le_of_lt Bd2.cx hm20) (hdat2.mono (tups_sub' s8)) hok (by intro q hq; repeat first | exact hq | apply List.Mem.tail) (by k_room) (by k_units) ?_)
        intro l9 n9 vs9 led9 h9 tk9 s9 m9 D9 F9 N9
        clear N4 F4 
        try dsimp only
        try k_fold
        (repeat' ((fail_if_success first | (with_reducible first | refine st_for ?_ | refine st_iter ?_ | refine st_len ?_ | refine st_fmod ?_ | refine st_ix ?_ | refine st_if ?_ | refine st_ne ?_ | refine st_in ?_ | refine st_append ?_ | refine st_cond ?_ | refine st_sub (Ads.al _) ?_ | refine st_call _ ?_) | k_data); (first | (k_unfold; (try dsimp only)) | (k_end; kc_close) | (with_reducible show FPost _ _ _ _ _ _ _ _ _; dsimp only [FPost]) | walk1 | (dsimp only; walk1) | (leave1; (try dsimp only)) | fail "no step")))
        (rename News _ _ _ _ => N4); (rename Fr _ _ _ _ => F4)
        k_dflt (refine same_ne N4 m7 D7 s9 m9 D9 (fun _ h => h) (Core.led_eq C2 he _) (ledD_ok C2.H.fj.recs _ _ _) (by k_units) ?_)
        clear m7 D7 m9 D9
        (try dsimp only)
        (repeat' ((fail_if_success first | (with_reducible first | refine st_for ?_ | refine st_iter ?_ | refine st_len ?_ | refine st_fmod ?_ | refine st_ix ?_ | refine st_if ?_ | refine st_ne ?_ | refine st_in ?_ | refine st_append ?_ | refine st_cond ?_ | refine st_sub (Ads.al _) ?_ | refine st_call _ ?_) | k_data); (first | (k_unfold; (try dsimp only)) | (k_end; kc_close) | (with_reducible show FPost _ _ _ _ _ _ _ _ _; dsimp only [FPost]) | walk1 | (dsimp only; walk1) | (leave1; (try dsimp only)) | fail "no step")))
        (rename News _ _ _ _ => N8); (rename Fr _ _ _ _ => F8)
        (try dsimp only [FPost])
        refine fend F8 N8 (fun q hq => s9 q (s8 q (List.mem_append_left _ hq))) ⟨fun q hq => mem_off.mpr ⟨s9 q (s8 q (List.mem_append_right _ (hsub q hq))), fun ex => hnI q (hsub q hq) (List.mem_singleton.mp ex)⟩, _, map1_of fun y hy => ?_⟩
        simp [map1, hy]
      · rintro m₂ led2 h2 tk2 ⟨hsub, u, rfl⟩ F9 N9
        clear F5 N5
        try clear F8
        (repeat' ((fail_if_success first | (with_reducible first | refine st_for ?_ | refine st_iter ?_ | refine st_len ?_ | refine st_fmod ?_ | refine st_ix ?_ | refine st_if ?_ | refine st_ne ?_ | refine st_in ?_ | refine st_append ?_ | refine st_cond ?_ | refine st_sub (Ads.al _) ?_ | refine st_call _ ?_) | k_data); (first | (k_unfold; (try dsimp only)) | (k_end; kc_close) | (with_reducible show FPost _ _ _ _ _ _ _ _ _; dsimp only [FPost]) | walk1 | (dsimp only; walk1) | (leave1; (try dsimp only)) | fail "no step")))
        (rename News _ _ _ _ => N8); (rename Fr _ _ _ _ => F8)
        (try dsimp only [PPost])
        refine pend F8 N8 hsub ⟨_, _, _, map3_of fun y h1 h2 h3 => ?_⟩
        simp [map1, map3, h1, h2, h3]
    · rintro m₁ h tk ⟨u1, u2, u3, rfl⟩ F7 N7
      clear F5 N5 N6
      (repeat' ((fail_if_success first | (with_reducible first | refine st_for ?_ | refine st_iter ?_ | refine st_len ?_ | refine st_fmod ?_ | refine st_ix ?_ | refine st_if ?_ | refine st_ne ?_ | refine st_in ?_ | refine st_append ?_ | refine st_cond ?_ | refine st_sub (Ads.al _) ?_ | refine st_call _ ?_) | k_data); (first | (k_unfold; (try dsimp only)) | (k_end; kc_close) | (with_reducible show FPost _ _ _ _ _ _ _ _ _; dsimp only [FPost]) | walk1 | (dsimp only; walk1) | (leave1; (try dsimp only)) | fail "no step")))
  )
end
end Mine
set_option maxRecDepth 100000 in
theorem PySem.Challenge.cw_rr0014_01_holds : PySem.Challenge.rw_rr0014_01.Holds := by
  exact Mine.main
