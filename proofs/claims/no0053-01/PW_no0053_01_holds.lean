import PyProof.Rows.All
import Wide.All
import OpenK.AllK
import Wide.FinOn
import PySem.Challenge.RW_no0053_01
open PySem PySem.W PySem.Calls PyProof.Rows PySem.Spec
set_option Elab.async false
set_option linter.unusedVariables false
namespace Mine
set_option maxRecDepth 100000 in
set_option maxHeartbeats 8000000 in
open_top hd for PySem.Challenge.rw_no0053_01
structure Stop (P : Prop) : Prop where
  out : P
theorem Stop.on {P : Prop} (h : P) : Stop P := ⟨h⟩
/-- what a call of a def does: its contract over the caller's frame and ledger -/
def Does (w : World) (mean : ExcName → Option Value) (mg mb : Str → Option Value) (f : Addr) (k : Nat) (vs : List Value) (news : List (Addr × Obj)) (Post : Value → List (Addr × Obj) → Prop) : Prop :=
  ∀ (dp un : Nat) (gd : Option (List Code)) (cn : Str) (cs : Scope) (a : Addr) (ccd : Value) (cl : List (Str × Addr)) (outer : List Env) (A₀ : Around) (base h₀ : Heap) (L : Addr) (m : Str → Option Value) (s : Shared) (Q E : Value → Shared → Prop),
    Below A₀ base outer h₀ → Fr h₀ L s.heap m → (hd.heap_39 w.params).In h₀ → News h₀ L s.heap news → Top hd.view_39 (looseW hd.view_39 []) mean mg mb h₀ → cs.kind = .function → dp + k < recursionLimit → un + 8 * k + 80 < cLine →
    (∀ r news' h' tk', Post r news' → Fr h₀ L h' m → News h₀ L h' news' → Q r { s with heap := h', toks := tk' }) →
    wpAny (model PySem.Challenge.rw_no0053_01.row.prog w) (ktrTop dp un gd cn cs L a ccd cl outer) (call (.ref f) vs) Q E s

theorem does_use {w : World} {mean : ExcName → Option Value} {mg mb : Str → Option Value} {f : Addr} {k : Nat} {vs : List Value} {news : List (Addr × Obj)} {Post : Value → List (Addr × Obj) → Prop}
    {dp un : Nat} {gd : Option (List Code)} {cn : Str} {cs : Scope} {a : Addr} {ccd : Value} {cl : List (Str × Addr)} {outer : List Env} {A₀ : Around} {base h₀ : Heap} {L : Addr} {m : Str → Option Value} {s : Shared} {Q E : Value → Shared → Prop}
    (C : Does w mean mg mb f k vs news Post)
    (B : Below A₀ base outer h₀) (F : Fr h₀ L s.heap m) (X : (hd.heap_39 w.params).In h₀) (N : News h₀ L s.heap news) (T : Top hd.view_39 (looseW hd.view_39 []) mean mg mb h₀) (hk : cs.kind = .function) (hd : dp + k < recursionLimit) (hu : un + 8 * k + 80 < cLine)
    (ret : ∀ r news' h' tk', Post r news' → Fr h₀ L h' m → News h₀ L h' news' → Q r { s with heap := h', toks := tk' }) :
    wpAny (model PySem.Challenge.rw_no0053_01.row.prog w) (ktrTop dp un gd cn cs L a ccd cl outer) (call (.ref f) vs) Q E s :=
  C dp un gd cn cs a ccd cl outer A₀ base h₀ L m s Q E B F X N T hk hd hu ret

theorem does_int {w : World} {mean : ExcName → Option Value} {mg mb : Str → Option Value} {f : Addr} {k : Nat} {vs : List Value} {news : List (Addr × Obj)} {i : Int}
    {dp un : Nat} {gd : Option (List Code)} {cn : Str} {cs : Scope} {a : Addr} {ccd : Value} {cl : List (Str × Addr)} {outer : List Env} {A₀ : Around} {base h₀ : Heap} {L : Addr} {m : Str → Option Value} {s : Shared} {Q E : Value → Shared → Prop}
    (C : Does w mean mg mb f k vs news (fun v news' => news' = news ∧ ∃ t, v = .int i t))
    (B : Below A₀ base outer h₀) (F : Fr h₀ L s.heap m) (X : (hd.heap_39 w.params).In h₀) (N : News h₀ L s.heap news) (T : Top hd.view_39 (looseW hd.view_39 []) mean mg mb h₀) (hk : cs.kind = .function) (hd : dp + k < recursionLimit) (hu : un + 8 * k + 80 < cLine)
    (ret : ∀ t h' tk', Fr h₀ L h' m → News h₀ L h' news → Q (.int i t) { s with heap := h', toks := tk' }) :
    wpAny (model PySem.Challenge.rw_no0053_01.row.prog w) (ktrTop dp un gd cn cs L a ccd cl outer) (call (.ref f) vs) Q E s :=
  does_use C B F X N T hk hd hu fun r news' h' tk' hP F' N' => by
    obtain ⟨e, t, rfl⟩ := hP
    exact ret t h' tk' F' (e ▸ N')
theorem does_val {w : World} {mean : ExcName → Option Value} {mg mb : Str → Option Value} {f : Addr} {k : Nat} {vs : List Value} {news : List (Addr × Obj)} {u : Value}
    {dp un : Nat} {gd : Option (List Code)} {cn : Str} {cs : Scope} {a : Addr} {ccd : Value} {cl : List (Str × Addr)} {outer : List Env} {A₀ : Around} {base h₀ : Heap} {L : Addr} {m : Str → Option Value} {s : Shared} {Q E : Value → Shared → Prop}
    (C : Does w mean mg mb f k vs news (fun v news' => news' = news ∧ v = u))
    (B : Below A₀ base outer h₀) (F : Fr h₀ L s.heap m) (X : (hd.heap_39 w.params).In h₀) (N : News h₀ L s.heap news) (T : Top hd.view_39 (looseW hd.view_39 []) mean mg mb h₀) (hk : cs.kind = .function) (hd : dp + k < recursionLimit) (hu : un + 8 * k + 80 < cLine)
    (ret : ∀ h' tk', Fr h₀ L h' m → News h₀ L h' news → Q u { s with heap := h', toks := tk' }) :
    wpAny (model PySem.Challenge.rw_no0053_01.row.prog w) (ktrTop dp un gd cn cs L a ccd cl outer) (call (.ref f) vs) Q E s :=
  does_use C B F X N T hk hd hu fun r news' h' tk' hP F' N' => by
    obtain ⟨e, rfl⟩ := hP
    exact ret h' tk' F' (e ▸ N')

/-- a row: its name's and its value's bytes -/
abbrev RowD := Array UInt8 × Array UInt8
abbrev tupO (r : RowD) (a b : Tok) (n : Nat) : Obj := { cls := .type "tuple", data := .seq #[.bytes r.1 a, .bytes r.2 b] n }
/-- the values are tuples of the ledger that hold these rows -/
inductive RowsIn (news : List (Addr × Obj)) : List Value → List RowD → Prop
  | nil : RowsIn news [] []
  | cons {a : Addr} {r : RowD} {t1 t2 : Tok} {n : Nat} {vs : List Value} {rs : List RowD} : (a, tupO r t1 t2 n) ∈ news → RowsIn news vs rs → RowsIn news (.ref a :: vs) (r :: rs)
theorem RowsIn.mono {news news' : List (Addr × Obj)} {vs : List Value} {rs : List RowD} (h : RowsIn news vs rs) (hs : ∀ p ∈ news, p ∈ news') : RowsIn news' vs rs := by
  induction h with
  | nil => exact .nil
  | cons hm _ ih => exact .cons (hs _ hm) ih
theorem RowsIn.length {news : List (Addr × Obj)} {vs : List Value} {rs : List RowD} (h : RowsIn news vs rs) : vs.length = rs.length := by
  induction h with
  | nil => rfl
  | cons _ _ ih => rw [List.length_cons, List.length_cons, ih]
theorem RowsIn.append {news : List (Addr × Obj)} {vs ws : List Value} {rs qs : List RowD} (h : RowsIn news vs rs) (k : RowsIn news ws qs) : RowsIn news (vs ++ ws) (rs ++ qs) := by
  induction h with
  | nil => exact k
  | cons hm _ ih => exact .cons hm ih
theorem RowsIn.get {news : List (Addr × Obj)} {vs : List Value} {rs : List RowD} (h : RowsIn news vs rs) : ∀ {i : Nat} (hi : i < rs.length), ∃ a t1 t2 n, vs[i]? = some (.ref a) ∧ (a, tupO rs[i] t1 t2 n) ∈ news := by
  induction h with
  | nil => intro i hi; exact absurd hi (Nat.not_lt_zero _)
  | cons hm _ ih =>
    intro i hi
    cases i with
    | zero => exact ⟨_, _, _, _, rfl, hm⟩
    | succ i => exact ih (Nat.lt_of_succ_lt_succ hi)
theorem RowsIn.split {news : List (Addr × Obj)} : ∀ {vs : List Value} {pre suf : List RowD}, RowsIn news vs (pre ++ suf) → ∃ vp vq, vs = vp ++ vq ∧ RowsIn news vp pre ∧ RowsIn news vq suf
  | vs, [], suf, h => ⟨[], vs, rfl, .nil, h⟩
  | _, _ :: pre, suf, .cons hm r =>
    let ⟨vp, vq, e, h1, h2⟩ := RowsIn.split (pre := pre) r
    ⟨_ :: vp, vq, by rw [e]; rfl, .cons hm h1, h2⟩

def rowSz (r : RowD) : Int := r.1.size + r.2.size + 32
def szOf : List RowD → Int
  | [] => 0
  | r :: rs => rowSz r + szOf rs
/-- the rows that stay where there is so much room -/
def fit (room : Int) : List RowD → List RowD
  | [] => []
  | r :: rs => if szOf (r :: rs) > room then fit room rs else r :: rs
/-- bounds that keep every size small -/
def Small (r : RowD) : Prop := r.1.size ≤ 4 ∧ r.2.size ≤ 40

/-- the entries of a table's dict -/
abbrev tabE (w : World) (κ : Nat → Tok) (g : Int) (t1 : Tok) (cap : Int) (t2 : Tok) (tl : Addr) (ins : Int) (t4 : Tok) (sz : Int) (t5 : Tok) : List DictEntry :=
  [⟨PyData.keyHash w.params (Str.ofString "greatest_capacity"), .str (Str.ofString "greatest_capacity") (κ 0), .int g t1⟩,
   ⟨PyData.keyHash w.params (Str.ofString "capacity"), .str (Str.ofString "capacity") (κ 1), .int cap t2⟩,
   ⟨PyData.keyHash w.params (Str.ofString "rows"), .str (Str.ofString "rows") (κ 2), .ref tl⟩,
   ⟨PyData.keyHash w.params (Str.ofString "inserted"), .str (Str.ofString "inserted") (κ 3), .int ins t4⟩,
   ⟨PyData.keyHash w.params (Str.ofString "size"), .str (Str.ofString "size") (κ 4), .int sz t5⟩]

section
variable {prog : Program} {w : World} {A : Around} {E : Value → Shared → Prop} {s : Shared} {h₀ : Heap} {L D : Addr} {m : Str → Option Value} {news news' : List (Addr × Obj)} {n : Nat} {v : Value} {r : List Value}
theorem pop0 {u : Tok} {Q : Value → Shared → Prop} (F : Fr h₀ L s.heap m) (N : News h₀ L s.heap news) (U : Upd D (listOf (v :: r).toArray n) (listOf r.toArray (n + 1)) news news')
    (hz : r.length + 1 ≤ 1000) (h : ∀ h', Fr h₀ L h' m → News h₀ L h' news' → Q v { s with heap := h' }) : wpAny (model prog w) A (call (.builtin "list.pop") [.ref D, .int 0 u]) Q E s := by
  refine kl_popAt (k := 0) (p := []) (q := r) F N rfl ?_ rfl U (by rw [sizeLine_eq]; simp; omega) h
  simp [seqIndex?]
theorem lenL {Q : Value → Shared → Prop} (N : News h₀ L s.heap news) (hm : (D, listOf r.toArray n) ∈ news) (hz : r.length ≤ 1000) (h : Q (.int (r.length : Nat) (s.toks + 1)) { s with toks := s.toks + 1 + 1 }) :
    wpAny (model prog w) A (call (.builtin "len") [.ref D]) Q E s := KM.len_K N hm (by simp) (by omega) h
theorem itemL {value slice : PySem.Expr} {k : Int} {u : Tok} {Q : Value → Shared → Prop} (N : News h₀ L s.heap news) (hm : (D, listOf r.toArray n) ∈ news) (hx : r[k.toNat]? = some v) (h0 : 0 ≤ k) (hz : k ≤ 1000) (h : Q v s)
    (hs : subscripted slice false (.ref D) (.int k u) = operate [.ref D, .int k u] (getItem (.ref D) (.int k u)) := by with_unfolding_all rfl) :
    wpAny (model prog w) A (subscriptTail value slice (.ref D) (.int k u)) Q E s :=
  tail_any (News.isList N hm).typeIs slot_list_getitem.lookup (wpAny_getItem_list (News.isList N hm) h0 (by omega) (by simpa using hx) h) hs
theorem itemD {value slice : PySem.Expr} {k : Int} {u : Tok} {Q : Value → Shared → Prop} (N : News h₀ L s.heap news) (hm : (D, listOf r.toArray n) ∈ news) (h0 : 0 ≤ k) (h1 : k < r.length) (hz : r.length ≤ 1000) (h : Q (r.getD k.toNat .none) s)
    (hs : subscripted slice false (.ref D) (.int k u) = operate [.ref D, .int k u] (getItem (.ref D) (.int k u)) := by with_unfolding_all rfl) :
    wpAny (model prog w) A (subscriptTail value slice (.ref D) (.int k u)) Q E s := by
  refine itemL (v := r.getD k.toNat .none) N hm ?_ h0 (by omega) h hs
  rw [List.getD_eq_getElem?_getD, List.getElem?_eq_getElem (by omega)]
  rfl
end
theorem szOf_nonneg : ∀ rs : List RowD, 0 ≤ szOf rs
  | [] => Int.le_refl 0
  | r :: rs => by have := szOf_nonneg rs; simp only [szOf, rowSz]; omega
theorem szOf_drop {rs : List RowD} {i : Nat} (hi : i < rs.length) : szOf (rs.drop i) - rowSz rs[i] = szOf (rs.drop (i + 1)) := by
  rw [List.drop_eq_getElem_cons hi, szOf]; omega
theorem fit_step {room : Int} {rs : List RowD} {i : Nat} (hi : i < rs.length) (h : szOf (rs.drop i) > room) : fit room (rs.drop i) = fit room (rs.drop (i + 1)) := by
  rw [List.drop_eq_getElem_cons hi] at h ⊢
  rw [fit, if_pos h]
theorem fit_stop {room : Int} : ∀ {rs : List RowD}, ¬ szOf rs > room → fit room rs = rs
  | [], _ => rfl
  | _ :: _, h => by rw [fit, if_neg h]
theorem fmod_in (a : Int) {k : Int} (h : 0 < k) : 0 ≤ a.fmod k ∧ a.fmod k < k := ⟨Int.fmod_nonneg_of_pos a h, Int.fmod_lt_of_pos a h⟩

local macro_rules | `(tactic| k_all) => `(tactic| assumption)
local macro_rules | `(tactic| walk_at "call builtin:list.pop") => `(tactic| (k_here; k_dflt (refine' pop0 ?F ?N ?U ?z ?_; (case F => k_asm); (case N => k_asm); (case U => k_upd); (case z => ((simp only [List.length_cons] at *); omega))); (intro h' F' N'; (try dsimp only [List.nil_append, List.cons_append] at N'))))
local macro_rules | `(tactic| walk_at "call builtin:len") => `(tactic| (k_here; (with_reducible show wpAny _ _ (call (Value.builtin "len") [Value.ref _]) _ _ _); k_dflt (refine' lenL ?N ?m ?z ?_; (case N => k_asm); (case m => k_mem); (case z => ((try simp only [List.length_cons, List.length_nil] at *); omega)); k_whole); (try simp only [List.length_cons, List.length_nil])))
local macro_rules | `(tactic| walk_at "call builtin:len") => `(tactic| (k_here; (with_reducible show wpAny _ _ (call (Value.builtin "len") [Value.bytes _ _]) _ _ _); (refine len_bytes (by omega) ?_)))
local macro_rules | `(tactic| walk_at "subscriptTail") => `(tactic| (k_here; (with_reducible show wpAny _ _ (subscriptTail _ _ (Value.ref _) (Value.int _ _)) _ _ _); k_dflt (refine' itemD ?N ?m ?h0 ?h1 ?z ?_ ?hs; (case N => k_asm); (case m => k_mem); (case hs => with_unfolding_all rfl); (case h0 => omega); (case h1 => omega); (case z => omega); k_whole)))
local macro_rules | `(tactic| walk_at "exec While BoolOp cons nil") => `(tactic| refine Stop.out ?_)
local macro_rules | `(tactic| walk_at "exec While Compare cons nil") => `(tactic| refine Stop.out ?_)
local macro_rules | `(tactic| walk_at "exec While BoolOp") => `(tactic| refine Stop.out ?_)
local macro_rules | `(tactic| walk_at "exec While Compare") => `(tactic| refine Stop.out ?_)
local macro_rules | `(tactic| walk_at "KswEnd") => `(tactic| refine Stop.out ?_)
local macro_rules | `(tactic| k_mem) => `(tactic| first | assumption | (refine' List.mem_cons_of_mem _ ?_; k_mem))

set_option maxRecDepth 100000 in
set_option maxHeartbeats 4000000 in
theorem take_does (w : World) (mean : ExcName → Option Value) (mg mb : Str → Option Value) {bx bl : Addr} {st : Int} {t tk : Tok} {n1 n2 : Nat} {vs : List Value} {ns : List Int} {k : Int} {rest : List (Addr × Obj)}
    (hk0 : 0 < k) (hk1 : k < 2 ^ 31) (hi : IntsAre vs ns) (h0 : 0 ≤ st) (h1 : st < 2147483647) (hne : @Ne Nat bx bl) (hr1 : ∀ p ∈ rest, p.1 ≠ bx) (hr2 : ∀ p ∈ rest, p.1 ≠ bl) (hlen : ns.length ≤ 24) :
    Does w mean mg mb 98 1 [.ref bx, .int k tk] ((bx, listOf #[.ref bl, .int st t] n1) :: (bl, listOf vs.toArray n2) :: rest)
      (fun r news' => ∃ x t' st' t'' n1' n2' vs' ns', r = .int x t' ∧ 0 ≤ x ∧ x < k ∧ 0 ≤ st' ∧ st' < 2147483647 ∧ ns'.length ≤ 24 ∧ IntsAre vs' ns' ∧
        news' = (bx, listOf #[.ref bl, .int st' t''] n1') :: (bl, listOf vs'.toArray n2') :: rest) := by
  have hlv := hi.length
  unfold Does
  w_top off
  k_fill
  intro dp un gd cn cs a ccd cl outer A₀ base h₀ L m s Q E B F X N T hk hd hu hret
  cases hi with
  | nil =>
    refine wpAny_call ?_
    k_dflt cell_enter
    k_steps
    · refine hret _ _ _ _ ⟨_, _, _, _, _, _, _, _, rfl, (fmod_in _ hk0).1, (fmod_in _ hk0).2, (fmod_in _ (by decide)).1, (fmod_in _ (by decide)).2, hlen, .nil, rfl⟩ (by assumption) (by assumption)
  | cons =>
    refine wpAny_call ?_
    k_dflt cell_enter
    k_steps
    · refine hret _ _ _ _ ⟨_, _, _, _, _, _, _, _, rfl, (fmod_in _ hk0).1, (fmod_in _ hk0).2, h0, h1, ?_, (by assumption), rfl⟩ (by assumption) (by assumption)
      simp only [List.length_cons] at hlen
      omega

set_option maxRecDepth 100000 in
set_option maxHeartbeats 4000000 in
theorem row_size_does (w : World) (mean : ExcName → Option Value) (mg mb : Str → Option Value) {r : RowD} {t1 t2 : Tok} {news : List (Addr × Obj)} (hs : Small r) :
    Does w mean mg mb 21 1 [.bytes r.1 t1, .bytes r.2 t2] news (fun v news' => news' = news ∧ ∃ t, v = .int (rowSz r) t) := by
  obtain ⟨hs1, hs2⟩ := hs
  unfold Does
  w_top off
  k_fill
  intro dp un gd cn cs a ccd cl outer A₀ base h₀ L m s Q E B F X N T hk hd hu hret
  refine wpAny_call ?_
  k_dflt cell_enter
  k_steps
  · exact hret _ _ _ _ ⟨rfl, _, rfl⟩ (by assumption) (by assumption)

section
variable {x dx tl : Addr} {κ : Nat → Tok} {g cap ins sz : Int} {t1 t2 t4 t5 : Tok} {n : Nat} {vs : List Value} {rs : List RowD} {rest : List (Addr × Obj)}
set_option maxRecDepth 100000 in
set_option maxHeartbeats 4000000 in
theorem oldest_does (w : World) (mean : ExcName → Option Value) (mg mb : Str → Option Value) (hlen : vs.length ≤ 100) {news : List (Addr × Obj)}
    (hm1 : (x, instObj 87 dx) ∈ news) (hm2 : (dx, dictOf (tabE w κ g t1 cap t2 tl ins t4 sz t5) 5) ∈ news) (hm3 : (tl, listOf vs.toArray n) ∈ news) :
    Does w mean mg mb 42 1 [.ref x] news (fun v news' => news' = news ∧ ∃ t, v = .int (ins - vs.length) t) := by
  unfold Does
  w_top off
  k_fill
  intro dp un gd cn cs a ccd cl outer A₀ base h₀ L m s Q E B F X N T hk hd hu hret
  refine wpAny_call ?_
  k_dflt cell_enter
  k_steps
  · exact hret _ _ _ _ ⟨rfl, _, rfl⟩ (by assumption) (by assumption)
end

local macro_rules | `(tactic| walk_at "call ref") => `(tactic| (k_here; (with_reducible show wpAny _ _ (call (Value.ref 21) _) _ _ _); k_dflt (refine' does_int (row_size_does _ _ _ _ ?h0) ?k1 ?k2 ?k3 ?k4 ?k5 ?kK ?kd ?ku ?_; (case h0 => assumption); (case k1 => k_asm); (case k2 => k_asm); (case k3 => k_asm); (case k4 => k_asm); (case k5 => k_asm); (case kK => first | exact rfl | assumption); (case kd => ktr_room); (case ku => ktr_units); k_whole); (intro t9 h9 tk9 F9 N9); (try dsimp only); (try k_fold); (try k_sweep)))
local macro_rules | `(tactic| walk_at "call ref") => `(tactic| (k_here; (with_reducible show wpAny _ _ (call (Value.ref 42) _) _ _ _); k_dflt (refine' does_int (oldest_does _ _ _ _ ?h0 ?h1 ?h2 ?h3) ?k1 ?k2 ?k3 ?k4 ?k5 ?kK ?kd ?ku ?_; (case k1 => k_asm); (case k2 => k_asm); (case k3 => k_asm); (case k4 => k_asm); (case k5 => k_asm); (case h1 => k_mem); (case h2 => k_mem); (case h3 => k_mem); (case h0 => ((try simp only [List.length_cons]); omega)); (case kK => first | exact rfl | assumption); (case kd => ktr_room); (case ku => ktr_units); k_whole); (intro t9 h9 tk9 F9 N9); (try simp only [List.length_cons]); (try dsimp only); (try k_fold); (try k_sweep)))

section
variable {x dx tl : Addr} {κ : Nat → Tok} {g cap ins sz : Int} {t1 t2 t4 t5 : Tok} {n : Nat} {vs : List Value} {rs : List RowD} {rest : List (Addr × Obj)}
def rowAt (ins : Int) (vs : List Value) (k : Int) : Value := if ins - vs.length ≤ k ∧ k < ins then vs.getD (k - (ins - vs.length)).toNat .none else .none
theorem rowAt_get {news : List (Addr × Obj)} (hI : RowsIn news vs rs) {i : Nat} (hi : i < rs.length) {k : Int} (hk : k = ins - vs.length + i) : ∃ a t1 t2 n, rowAt ins vs k = .ref a ∧ (a, tupO (rs[i]) t1 t2 n) ∈ news := by
  obtain ⟨a, t1, t2, n, e, hm⟩ := hI.get hi
  have hl := hI.length
  refine ⟨a, t1, t2, n, ?_, hm⟩
  unfold rowAt
  rw [if_pos ⟨by omega, by omega⟩]
  have e1 : (k - (ins - (vs.length : Int))).toNat = i := by omega
  rw [e1, List.getD_eq_getElem?_getD, e]
  rfl
set_option maxRecDepth 100000 in
set_option maxHeartbeats 4000000 in
theorem row_at_does (w : World) (mean : ExcName → Option Value) (mg mb : Str → Option Value) (hlen : vs.length ≤ 100) {k : Int} {tk : Tok} {news : List (Addr × Obj)}
    (hm1 : (x, instObj 87 dx) ∈ news) (hm2 : (dx, dictOf (tabE w κ g t1 cap t2 tl ins t4 sz t5) 5) ∈ news) (hm3 : (tl, listOf vs.toArray n) ∈ news) :
    Does w mean mg mb 49 2 [.ref x, .int k tk] news (fun v news' => news' = news ∧ v = rowAt ins vs k) := by
  unfold Does
  w_top off
  k_fill
  intro dp un gd cn cs a ccd cl outer A₀ base h₀ L m s Q E B F X N T hk hd hu hret
  refine wpAny_call ?_
  k_dflt cell_enter
  k_steps
  · refine hret _ _ _ _ ⟨rfl, ?_⟩ (by assumption) (by assumption)
    unfold rowAt; rw [if_pos ⟨by assumption, by assumption⟩]
  · refine hret _ _ _ _ ⟨rfl, ?_⟩ (by assumption) (by assumption)
    unfold rowAt; rw [if_neg (by omega)]
  · refine hret _ _ _ _ ⟨rfl, ?_⟩ (by assumption) (by assumption)
    unfold rowAt; rw [if_neg (by omega)]
end

local macro_rules | `(tactic| walk_at "call ref") => `(tactic| (k_here; (with_reducible show wpAny _ _ (call (Value.ref 49) _) _ _ _); k_dflt (refine' does_val (row_at_does _ _ _ _ ?h0 ?h1 ?h2 ?h3) ?k1 ?k2 ?k3 ?k4 ?k5 ?kK ?kd ?ku ?_; (case k1 => k_asm); (case k2 => k_asm); (case k3 => k_asm); (case k4 => k_asm); (case k5 => k_asm); (case h1 => k_mem); (case h2 => k_mem); (case h3 => k_mem); (case h0 => omega); (case kK => first | exact rfl | assumption); (case kd => ktr_room); (case ku => ktr_units); k_whole); (intro h9 tk9 F9 N9); (try k_extra "row"); (try dsimp only); (try k_fold); (try k_sweep)))

section
variable {x dx tl : Addr} {κ : Nat → Tok} {g cap ins sz : Int} {t1 t2 t4 t5 : Tok} {n : Nat} {vs : List Value} {rs : List RowD} {rest : List (Addr × Obj)}
set_option maxRecDepth 100000 in
set_option maxHeartbeats 4000000 in
theorem last_does (w : World) (mean : ExcName → Option Value) (mg mb : Str → Option Value) (hlen : vs.length ≤ 100) {k : Int} {tk : Tok} {news : List (Addr × Obj)} (hI : RowsIn news vs rs) (hsm : ∀ r ∈ rs, Small r)
    (hm1 : (x, instObj 87 dx) ∈ news) (hm2 : (dx, dictOf (tabE w κ g t1 cap t2 tl ins t4 (szOf rs) t5) 5) ∈ news) (hm3 : (tl, listOf vs.toArray n) ∈ news) :
    Does w mean mg mb 56 3 [.ref x, .int k tk] news (fun v news' => news' = news ∧ ∃ t, v = .int (ins - (fit (cap - k) rs).length) t) := by
  unfold Does
  w_top off
  k_fill
  intro dp un gd cn cs a ccd cl outer A₀ base h₀ L m s Q E B F X N T hk hd hu hret
  have hl := hI.length
  k_with_none
  k_with "row" => (have hi9 : i < rs.length := (by omega); obtain ⟨a9, u1, u2, n9, e9, hm9⟩ := rowAt_get hI hi9 hnum; rw [e9]; have hs9 := hsm _ (List.getElem_mem hi9))
  refine wpAny_call ?_
  k_dflt cell_enter
  k_steps
  refine Stop.on ?_
  rename Fr _ _ _ _ => lF
  rename News _ _ _ _ => lN
  refine ksw_while (σ := Nat × Int × Int × Tok × Tok) (fun _ => news) (fun c => [(Str.ofString "number", Value.int c.2.1 c.2.2.2.1), (Str.ofString "size", Value.int c.2.2.1 c.2.2.2.2)]) (fun c => c.1 ≤ rs.length ∧ c.2.1 = ins - vs.length + c.1 ∧ c.2.2.1 = szOf (rs.drop c.1)) [Str.ofString "name", Str.ofString "value"] (fun c => fit (cap - k) rs = fit (cap - k) (rs.drop c.1)) (fun c => rs.length - c.1) (0, ?num, ?sz, ?ta, ?tb) lF (kst_newsOf lN (fun p hp => by kst_mem)) ?hf ?hk rfl ?_
  case hk => kst_all
  case hf => exact ⟨Nat.zero_le _, by simp, rfl⟩
  clear lF lN
  rintro ⟨i, num, sz, ta, tb⟩ u h tk ⟨hi, hnum, hsz⟩ hp F' N'
  dsimp only at hi hnum hsz hp F' N'
  try k_fold
  k_steps
  · refine Stop.on ?_
    rename News _ _ _ _ => lN
    refine ksw_end (i + 1, ?num2, ?sz2, ?ta2, ?tb2) (by assumption) (kst_newsOf lN (fun p hp => by kst_mem)) (fun p hp => hp) ?hf ?hk ?hr ?hp ?hm
    case hk => kst_all
    case hr =>
      intro z h2 h3
      simp only [List.forall_mem_cons, List.not_mem_nil, false_implies, implies_true, and_true, ne_eq] at h2
      simp only [List.contains_cons, List.contains_nil, Bool.or_false, Bool.or_eq_false_iff, beq_eq_false_iff_ne, ne_eq] at h3
      simp [h2, h3, kstB]
    case hf =>
      have hi9 : i < rs.length := by omega
      refine ⟨hi9, ?_, ?_⟩
      · dsimp only; omega
      · dsimp only; rw [hsz]; exact szOf_drop hi9
    case hp =>
      have hi9 : i < rs.length := by omega
      exact hp.trans (fit_step hi9 (by omega))
    case hm => dsimp only; omega
  · have hi9 : i = rs.length := by omega
    refine hret _ _ _ _ ⟨rfl, ta, congrArg (fun z => Value.int z ta) ?_⟩ (by assumption) (by assumption)
    rw [hp, hi9, List.drop_length, hnum, hl, hi9]
    simp only [fit, List.length_nil]
    omega
  · refine hret _ _ _ _ ⟨rfl, ta, congrArg (fun z => Value.int z ta) ?_⟩ (by assumption) (by assumption)
    rw [hp, fit_stop (by omega), hnum, List.length_drop]
    omega
end

section
variable {x dx tl : Addr} {κ : Nat → Tok} {g cap ins sz : Int} {t1 t2 t4 t5 : Tok} {n : Nat} {vs : List Value} {rs : List RowD} {rest : List (Addr × Obj)}
set_option maxRecDepth 100000 in
set_option maxHeartbeats 4000000 in
theorem drop_does (w : World) (mean : ExcName → Option Value) (mg mb : Str → Option Value) (hlen : vs.length ≤ 100) {k : Int} {tk : Tok} {d : Nat} (hI : RowsIn rest vs rs) (hsm : ∀ r ∈ rs, Small r)
    (hd : d ≤ rs.length) (hkd : k = ins - rs.length + d) (hx1 : @Ne Nat x dx) (hx2 : @Ne Nat x tl) (hx3 : @Ne Nat dx tl) (hr1 : ∀ p ∈ rest, p.1 ≠ dx) (hr2 : ∀ p ∈ rest, p.1 ≠ tl) :
    Does w mean mg mb 63 3 [.ref x, .int k tk] ((x, instObj 87 dx) :: (dx, dictOf (tabE w κ g t1 cap t2 tl ins t4 (szOf rs) t5) 5) :: (tl, listOf vs.toArray n) :: rest)
      (fun v news' => v = .none ∧ ∃ n' t5', news' = (x, instObj 87 dx) :: (dx, dictOf (tabE w κ g t1 cap t2 tl ins t4 (szOf (rs.drop d)) t5') 5) :: (tl, listOf (vs.drop d).toArray n') :: rest) := by
  have hl := hI.length
  unfold Does
  w_top off
  k_fill
  intro dp un gd cn cs a ccd cl outer A₀ base h₀ L m s Q E B F X N T hk hdp hu hret
  k_with_none
  refine wpAny_call ?_
  k_dflt cell_enter
  k_steps
  refine Stop.on ?_
  rename Fr _ _ _ _ => lF
  rename News _ _ _ _ => lN
  refine ksw_while (σ := Nat × Int × Tok × Nat) (fun c => (x, instObj 87 dx) :: (dx, dictOf (tabE w κ g t1 cap t2 tl ins t4 c.2.1 c.2.2.1) 5) :: (tl, listOf (vs.drop c.1).toArray c.2.2.2) :: rest) (fun c => []) (fun c => c.1 ≤ d ∧ c.2.1 = szOf (rs.drop c.1)) [Str.ofString "name", Str.ofString "value"] (fun c => True) (fun c => d - c.1) (0, szOf rs, t5, n) lF lN ?hf ?hk trivial ?_
  case hk => kst_all
  case hf => exact ⟨Nat.zero_le _, rfl⟩
  clear lF lN
  rintro ⟨i, sz, ta, n'⟩ u h tk ⟨hi, hsz⟩ hp F' N'
  dsimp only at hi hsz hp F' N'
  try k_fold
  by_cases hid : i < d
  · obtain ⟨a9, u1, u2, n9, e9, hm9⟩ := hI.get (i := i) (by omega)
    have hs9 := hsm _ (List.getElem_mem (show i < rs.length by omega))
    obtain ⟨hiv, e10⟩ := List.getElem?_eq_some_iff.mp e9
    have e11 : vs.drop i = .ref a9 :: vs.drop (i + 1) := by rw [List.drop_eq_getElem_cons hiv, e10]
    have hld : (vs.drop (i + 1)).length = vs.length - (i + 1) := List.length_drop
    rw [e11] at N'
    k_steps
    refine Stop.on ?_
    rename News _ _ _ _ => lN
    refine ksw_end (i + 1, _, _, _) (by assumption) lN (fun p hp => hp) ⟨?_, ?_⟩ ?hk2 ?hr2 trivial ?hm2
    case hk2 => kst_all
    case hr2 =>
      intro z h2 h3
      simp only [List.contains_cons, List.contains_nil, Bool.or_false, Bool.or_eq_false_iff, beq_eq_false_iff_ne, ne_eq] at h3
      simp [h3, kstB]
    case hm2 => dsimp only; omega
    · dsimp only; omega
    · dsimp only; rw [hsz]; exact szOf_drop (by omega)
  · have hld : (vs.drop i).length = vs.length - i := List.length_drop
    k_steps
    have hdi : i = d := by omega
    subst hdi
    subst hsz
    exact hret _ _ _ _ ⟨rfl, _, _, rfl⟩ (by assumption) (by assumption)
end

local macro_rules | `(tactic| walk_at "call ref") => `(tactic| (k_here; (with_reducible show wpAny _ _ (call (Value.ref 56) _) _ _ _); k_dflt (refine' does_int (last_does _ _ _ _ ?h0 ?hI ?hs ?h1 ?h2 ?h3) ?k1 ?k2 ?k3 ?k4 ?k5 ?kK ?kd ?ku ?_; (case k1 => k_asm); (case k2 => k_asm); (case k3 => k_asm); (case k4 => k_asm); (case k5 => k_asm); (case hI => k_extra "rows"); (case h1 => k_mem); (case h2 => k_mem); (case h3 => k_mem); (case hs => assumption); (case h0 => omega); (case kK => first | exact rfl | assumption); (case kd => ktr_room); (case ku => ktr_units); k_whole); (intro t9 h9 tk9 F9 N9); (try dsimp only); (try k_fold); (try k_sweep)))
local macro_rules | `(tactic| walk_at "call ref") => `(tactic| (k_here; (with_reducible show wpAny _ _ (call (Value.ref 63) _) _ _ _); refine Stop.out ?_))
local macro_rules | `(tactic| walk_at "call builtin:list.append") => `(tactic| (k_here; (with_reducible show wpAny _ _ (call (Value.builtin _) [Value.ref _, _]) _ _ _); k_dflt (refine' append_K ?k1 ?k2 ?k3 ?_ ?z; (case k1 => k_asm); (case k2 => k_asm); (case k3 => k_upd); (case z => (rw [sizeLine_eq, List.size_toArray]; omega)); k_whole); intro h' F' N'; (try k_sweep)))

theorem fit_le (room : Int) : ∀ rs : List RowD, (fit room rs).length ≤ rs.length
  | [] => Nat.le_refl _
  | r :: rs => by
    have := fit_le room rs
    rw [fit]
    split <;> simp only [List.length_cons] <;> omega
theorem fit_drop (room : Int) : ∀ rs : List RowD, rs.drop (rs.length - (fit room rs).length) = fit room rs
  | [] => rfl
  | r :: rs => by
    have h1 := fit_le room rs
    have h2 := fit_drop room rs
    rw [fit]
    split
    · have e : (r :: rs).length - (fit room rs).length = (rs.length - (fit room rs).length) + 1 := by simp only [List.length_cons]; omega
      rw [e, List.drop_succ_cons, h2]
    · simp
theorem fit_sz {room : Int} (h0 : 0 ≤ room) : ∀ rs : List RowD, szOf (fit room rs) ≤ room
  | [] => h0
  | r :: rs => by
    rw [fit]
    split
    · exact fit_sz h0 rs
    · omega
theorem fit_mem {room : Int} {q : RowD} : ∀ {rs : List RowD}, q ∈ fit room rs → q ∈ rs
  | [], h => h
  | r :: rs, h => by
    rw [fit] at h
    split at h
    · exact .tail _ (fit_mem h)
    · exact h
theorem RowsIn.drop {news : List (Addr × Obj)} {vs : List Value} {rs : List RowD} (h : RowsIn news vs rs) : ∀ d, RowsIn news (vs.drop d) (rs.drop d) := by
  induction h with
  | nil => intro d; rw [List.drop_nil, List.drop_nil]; exact .nil
  | cons hm hr ih =>
    intro d
    cases d with
    | zero => exact .cons hm hr
    | succ d => exact ih d
section
variable {x dx tl : Addr} {κ : Nat → Tok} {g cap ins sz : Int} {t1 t2 t4 t5 : Tok} {n : Nat} {vs : List Value} {rs : List RowD} {rest : List (Addr × Obj)}
set_option maxRecDepth 100000 in
set_option maxHeartbeats 4000000 in
theorem set_does (w : World) (mean : ExcName → Option Value) (mg mb : Str → Option Value) (hlen : vs.length ≤ 100) {c : Int} {tc : Tok} (hI : RowsIn rest vs rs) (hsm : ∀ r ∈ rs, Small r) (hsz : szOf rs ≤ cap)
    (hx1 : @Ne Nat x dx) (hx2 : @Ne Nat x tl) (hx3 : @Ne Nat dx tl) (hr1 : ∀ p ∈ rest, p.1 ≠ dx) (hr2 : ∀ p ∈ rest, p.1 ≠ tl) :
    Does w mean mg mb 70 4 [.ref x, .int c tc] ((x, instObj 87 dx) :: (dx, dictOf (tabE w κ g t1 cap t2 tl ins t4 (szOf rs) t5) 5) :: (tl, listOf vs.toArray n) :: rest)
      (fun v news' => v = .bool (decide (c ≤ g)) ∧ ∃ cap' vs' n' t2' t5', cap' = (if c ≤ g then c else cap) ∧ (∀ M, RowsIn M vs rs → RowsIn M vs' (fit cap' rs)) ∧
        news' = (x, instObj 87 dx) :: (dx, dictOf (tabE w κ g t1 cap' t2' tl ins t4 (szOf (fit cap' rs)) t5') 5) :: (tl, listOf vs'.toArray n') :: rest) := by
  have hl := hI.length
  unfold Does
  w_top off
  k_fill
  intro dp un gd cn cs a ccd cl outer A₀ base h₀ L m s Q E B F X N T hk hdp hu hret
  k_with_none
  k_with "rows" => exact RowsIn.mono hI (fun p hp => .tail _ (.tail _ (.tail _ hp)))
  refine wpAny_call ?_
  k_dflt cell_enter
  k_steps
  · refine hret _ _ _ _ ⟨by rw [decide_eq_false (by omega)], cap, vs, n, t2, t5, by rw [if_neg (by omega)], ?_, ?_⟩ (by assumption) (by assumption)
    · intro M hM; rw [fit_stop (by omega)]; exact hM
    · rw [fit_stop (by omega)]
  · refine Stop.on ?_
    have h1 := fit_le (c - 0) rs
    k_dflt (refine' does_use (drop_does (κ := κ) (g := g) (t1 := t1) (cap := c) (t2 := tc) (ins := ins) (t4 := t4) (t5 := t5) (n := n) w mean mg mb hlen (k := ins - ((fit (c - 0) rs).length : Nat)) (d := rs.length - (fit (c - 0) rs).length) hI hsm (by omega) (by omega) hx1 hx2 hx3 hr1 hr2) ?k1 ?k2 ?k3 ?k4 ?k5 ?kK ?kd ?ku ?_)
    case k1 => k_asm
    case k2 => k_asm
    case k3 => k_asm
    case k4 => k_asm
    case k5 => k_asm
    case kK => first | exact rfl | assumption
    case kd => ktr_room
    case ku => ktr_units
    rintro r news' h' tk' ⟨rfl, n', t5', rfl⟩ F' N'
    have hI2 : ∀ M, RowsIn M vs rs → RowsIn M (vs.drop (rs.length - (fit (c - 0) rs).length)) (fit c rs) := fun M hM => by
      have q := hM.drop (rs.length - (fit (c - 0) rs).length)
      rw [fit_drop, Int.sub_zero] at q
      rw [Int.sub_zero]
      exact q
    rw [fit_drop] at N'
    rw [Int.sub_zero] at N' hI2
    try dsimp only
    k_steps
    refine hret _ _ _ _ ⟨by rw [decide_eq_true (by omega)], c, _, _, _, _, by rw [if_pos (by omega)], hI2, rfl⟩ (by assumption) (by assumption)
end

theorem szOf_append : ∀ (a b : List RowD), szOf (a ++ b) = szOf a + szOf b
  | [], b => by simp [szOf]
  | r :: a, b => by rw [List.cons_append, szOf, szOf, szOf_append a b]; omega
theorem news_rot {h₀ h : Heap} {L : Addr} {a b c d : Addr × Obj} {rest : List (Addr × Obj)} (N : News h₀ L h (a :: b :: c :: d :: rest)) : News h₀ L h (b :: c :: d :: a :: rest) := fun p hp => by
  rcases List.mem_cons.mp hp with rfl | hp
  · exact N _ (.tail _ (.head _))
  rcases List.mem_cons.mp hp with rfl | hp
  · exact N _ (.tail _ (.tail _ (.head _)))
  rcases List.mem_cons.mp hp with rfl | hp
  · exact N _ (.tail _ (.tail _ (.tail _ (.head _))))
  rcases List.mem_cons.mp hp with rfl | hp
  · exact N _ (.head _)
  exact N _ (.tail _ (.tail _ (.tail _ (.tail _ hp))))
theorem allLt_mem {d : Addr} : ∀ {l : List (Addr × Obj)}, AllLt d l → ∀ p ∈ l, p.1 < d
  | [], _, _, h => nomatch h
  | p :: r, h, q, hq => by
    rcases List.mem_cons.mp hq with rfl | hq
    · exact h.1
    · exact allLt_mem h.2 q hq
section
variable {x dx tl : Addr} {κ : Nat → Tok} {g cap ins sz : Int} {t1 t2 t4 t5 : Tok} {n : Nat} {vs : List Value} {rs : List RowD} {rest : List (Addr × Obj)}
set_option maxRecDepth 100000 in
set_option maxHeartbeats 4000000 in
theorem insert_does (w : World) (mean : ExcName → Option Value) (mg mb : Str → Option Value) (hlen : vs.length ≤ 100) {r : RowD} {ta tb : Tok} (hI : RowsIn rest vs rs) (hsm : ∀ r ∈ rs, Small r) (hr : Small r)
    (hx1 : @Ne Nat x dx) (hx2 : @Ne Nat x tl) (hx3 : @Ne Nat dx tl) (hr1 : ∀ p ∈ rest, p.1 ≠ dx) (hr2 : ∀ p ∈ rest, p.1 ≠ tl) :
    Does w mean mg mb 77 4 [.ref x, .bytes r.1 ta, .bytes r.2 tb] ((x, instObj 87 dx) :: (dx, dictOf (tabE w κ g t1 cap t2 tl ins t4 (szOf rs) t5) 5) :: (tl, listOf vs.toArray n) :: rest)
      (fun v news' => (cap < rowSz r ∧ v = .none ∧ news' = (x, instObj 87 dx) :: (dx, dictOf (tabE w κ g t1 cap t2 tl ins t4 (szOf rs) t5) 5) :: (tl, listOf vs.toArray n) :: rest) ∨
        (rowSz r ≤ cap ∧ ∃ t q vs' n' t4' t5', v = .int ins t ∧ (∀ M, RowsIn M vs rs → RowsIn M vs' (fit (cap - rowSz r) rs)) ∧ (∀ p ∈ rest, p.1 < q) ∧ x < q ∧ dx < q ∧ tl < q ∧
          news' = (x, instObj 87 dx) :: (dx, dictOf (tabE w κ g t1 cap t2 tl (ins + 1) t4' (szOf (fit (cap - rowSz r) rs ++ [r])) t5') 5) :: (tl, listOf (vs' ++ [Value.ref q]).toArray n') :: (q, tupO r ta tb 0) :: rest)) := by
  have hl := hI.length
  unfold Does
  w_top off
  k_fill
  intro dp un gd cn cs a ccd cl outer A₀ base h₀ L m s Q E B F X N T hk hdp hu hret
  k_with_none
  k_with "rows" => exact RowsIn.mono hI (fun p hp => .tail _ (.tail _ (.tail _ hp)))
  refine wpAny_call ?_
  k_dflt cell_enter
  k_steps
  · exact hret _ _ _ _ (.inl ⟨by assumption, rfl, rfl⟩) (by assumption) (by assumption)
  · refine Stop.on ?_
    have h1 := fit_le (cap - rowSz r) rs
    k_dflt (refine' does_use (drop_does (κ := κ) (g := g) (t1 := t1) (cap := cap) (t2 := t2) (ins := ins) (t4 := t4) (t5 := t5) (n := n) w mean mg mb hlen (k := ins - ((fit (cap - rowSz r) rs).length : Nat)) (d := rs.length - (fit (cap - rowSz r) rs).length) hI hsm (by omega) (by omega) hx1 hx2 hx3 hr1 hr2) ?k1 ?k2 ?k3 ?k4 ?k5 ?kK ?kd ?ku ?_)
    case k1 => k_asm
    case k2 => k_asm
    case k3 => k_asm
    case k4 => k_asm
    case k5 => k_asm
    case kK => first | exact rfl | assumption
    case kd => ktr_room
    case ku => ktr_units
    rintro r9 news' h' tk' ⟨rfl, n', t5', rfl⟩ F' N'
    have hI2 := hI.drop (rs.length - (fit (cap - rowSz r) rs).length)
    have hM : ∀ M, RowsIn M vs rs → RowsIn M (vs.drop (rs.length - (fit (cap - rowSz r) rs).length)) (fit (cap - rowSz r) rs) := fun M hM => by
      have q := hM.drop (rs.length - (fit (cap - rowSz r) rs).length)
      rw [fit_drop] at q
      exact q
    rw [fit_drop] at N' hI2
    have hl2 := hI2.length
    generalize vs.drop (rs.length - (fit (cap - rowSz r) rs).length) = vs' at N' hI2 hl2 hM
    try dsimp only
    k_steps
    rename _ ∧ _ ∧ _ ∧ AllLt _ _ => l9
    obtain ⟨q1, q2, q3, l9⟩ := l9
    rename News _ _ _ _ => lN
    have e1 : ins + 1 - 1 = ins := by omega
    rw [e1]
    have e2 : szOf (fit (cap - rowSz r) rs ++ [r]) = szOf (fit (cap - rowSz r) rs) + rowSz r := by simp [szOf_append, szOf]
    simp only [e2] at hret
    simp only [List.push_toArray] at lN
    exact hret _ _ _ _ (.inr ⟨by omega, _, _, vs', _, _, _, rfl, hM, allLt_mem l9, q1, q2, q3, rfl⟩) (by assumption) (news_rot lN)
end

section
variable {prog : Program} {w : World} {A : Around} {E : Value → Shared → Prop} {s : Shared} {h₀ : Heap} {L a b : Addr} {news : List (Addr × Obj)} {n k : Nat} {b1 b2 c1 c2 : Array UInt8} {t1 t2 u1 u2 : Tok}
theorem toList_beq (b c : Array UInt8) : (b.toList == c.toList) = decide (b = c) := by
  by_cases h : b = c
  · subst h; simp
  · rw [decide_eq_false h]
    exact beq_eq_false_iff_ne.mpr fun e => h (Array.toList_inj.mp e)
theorem eqAt_bytes : SeqAt.EqAt A s (.bytes b1 t1) (.bytes c1 u1) (decide (b1 = c1)) := fun prog w E Q h => by
  unfold eqBool
  show wpAny _ _ (if (Value.bytes b1 t1 == Value.bytes c1 u1) = true then _ else _) Q E s
  by_cases hab : (Value.bytes b1 t1 == Value.bytes c1 u1) = true
  · rw [if_pos hab]
    have e : b1 = c1 := by have := eq_of_beq hab; injection this
    subst e
    exact wpAny_bind (wpAny_rule (wpAny_pure (by simpa using h)))
  · rw [if_neg hab]
    exact wpAny_bind (eq_bytes (wpAny_truthy_bool (by rw [toList_beq]; exact h)))
theorem eqAt_row (N : News h₀ L s.heap news) (ma : (a, ({ cls := .type "tuple", data := .seq #[.bytes b1 t1, .bytes b2 t2] n } : Obj)) ∈ news) (mb : (b, ({ cls := .type "tuple", data := .seq #[.bytes c1 u1, .bytes c2 u2] k } : Obj)) ∈ news) (hne : a ≠ b) (hu : A.units < cLine) :
    SeqAt.RcAt A s (.ref a) (.ref b) (decide (b1 = c1) && decide (b2 = c2)) := by
  have h := SeqAt.RcAt.tuples (A := A) (e := fun j => if j = 0 then decide (b1 = c1) else decide (b2 = c2)) ⟨_, (N _ ma).1, rfl, _, rfl⟩ ⟨_, (N _ mb).1, rfl, _, rfl⟩ hu (fun j h1 h2 => by
    match j, h1, h2 with
    | 0, _, _ => exact eqAt_bytes
    | 1, _, _ => exact eqAt_bytes)
  have e : ((List.range (min #[Value.bytes b1 t1, Value.bytes b2 t2].size #[Value.bytes c1 u1, Value.bytes c2 u2].size)).all (fun j => if j = 0 then decide (b1 = c1) else decide (b2 = c2)) && #[Value.bytes b1 t1, Value.bytes b2 t2].size == #[Value.bytes c1 u1, Value.bytes c2 u2].size) = (decide (b1 = c1) && decide (b2 = c2)) := by
    show ((List.range 2).all _ && (2 == 2)) = _
    simp [List.range, List.range.loop]
  rw [e] at h
  exact h
theorem eqRow {Q : Value → Shared → Prop} (N : News h₀ L s.heap news) (ma : (a, ({ cls := .type "tuple", data := .seq #[.bytes b1 t1, .bytes b2 t2] n } : Obj)) ∈ news) (mb : (b, ({ cls := .type "tuple", data := .seq #[.bytes c1 u1, .bytes c2 u2] k } : Obj)) ∈ news) (hu : A.units < cLine)
    (h : Q (.bool (decide (b1 = c1 ∧ b2 = c2))) s) : wpAny (model prog w) A (compareOp .Eq (.ref a) (.ref b)) Q E s := by
  have h' := SeqAt.eq_tupleAt (prog := prog) (w := w) (A := A) (E := E) (Q := Q) (e := fun j => if j = 0 then decide (b1 = c1) else decide (b2 = c2)) (s := s) (l := a) (b := b) (items := #[Value.bytes b1 t1, Value.bytes b2 t2]) (items2 := #[Value.bytes c1 u1, Value.bytes c2 u2]) ⟨_, (N _ ma).1, rfl, _, rfl⟩ ⟨_, (N _ mb).1, rfl, _, rfl⟩ hu (fun j h1 h2 => by
    match j, h1, h2 with
    | 0, _, _ => exact eqAt_bytes
    | 1, _, _ => exact eqAt_bytes)
  refine h' ?_
  have e : ((List.range (min #[Value.bytes b1 t1, Value.bytes b2 t2].size #[Value.bytes c1 u1, Value.bytes c2 u2].size)).all (fun j => if j = 0 then decide (b1 = c1) else decide (b2 = c2)) && #[Value.bytes b1 t1, Value.bytes b2 t2].size == #[Value.bytes c1 u1, Value.bytes c2 u2].size) = decide (b1 = c1 ∧ b2 = c2) := by
    show ((List.range 2).all _ && (2 == 2)) = _
    simp [List.range, List.range.loop]
  rw [e]
  exact h
theorem eqBytes {Q : Value → Shared → Prop} (h : Q (.bool (decide (b1 = c1))) s) : wpAny (model prog w) A (compareOp .Eq (.bytes b1 t1) (.bytes c1 u1)) Q E s := eq_bytes (by rw [toList_beq]; exact h)
end
def lastIx (p : RowD → Bool) : List RowD → Option Nat
  | [] => none
  | r :: rs => match lastIx p rs with
    | some i => some (i + 1)
    | none => if p r then some 0 else none
theorem lastIx_drop {p : RowD → Bool} : ∀ {rs : List RowD} {i m : Nat}, lastIx p (rs.drop i) = some m → lastIx p rs = some (i + m)
  | rs, 0, m, h => by simpa using h
  | [], i + 1, m, h => by simp [lastIx] at h
  | r :: rs, i + 1, m, h => by
    rw [List.drop_succ_cons] at h
    rw [lastIx, lastIx_drop h]
    simp; omega
theorem lastIx_step {p : RowD → Bool} {rs : List RowD} {i : Nat} (hi : i < rs.length) : lastIx p (rs.drop i) = match lastIx p (rs.drop (i + 1)) with
    | some m => some (m + 1)
    | none => if p rs[i] then some 0 else none := by
  rw [List.drop_eq_getElem_cons hi, lastIx]
/-- an int or None -/
def optV (o : Option Int) (t : Tok) : Value := match o with
  | some i => .int i t
  | none => .none
def ixOf (base : Int) (o : Option Nat) : Option Int := o.map (fun (i : Nat) => base + (i : Int))
theorem ix_none {base : Int} {o : Option Nat} (h : (none : Option Int) = ixOf base o) : o = none := by
  cases o with
  | none => rfl
  | some m => cases h
theorem ix_some {base bi : Int} {o : Option Nat} (h : some bi = ixOf base o) : ∃ m : Nat, o = some m ∧ bi = base + (m : Int) := by
  cases o with
  | none => cases h
  | some m => exact ⟨m, rfl, Option.some.inj h⟩
theorem none_step {p : RowD → Bool} {rs : List RowD} {i : Nat} (hi : i < rs.length) (h : lastIx p (rs.drop (i + 1)) = none) (hp : p rs[i] = false) : lastIx p (rs.drop i) = none := by
  rw [lastIx_step hi, h]; simp [hp]
theorem one_step {p : RowD → Bool} {rs : List RowD} {i : Nat} (hi : i < rs.length) (h : lastIx p (rs.drop (i + 1)) = none) (hp : p rs[i] = true) : lastIx p (rs.drop i) = some 0 := by
  rw [lastIx_step hi, h]; simp [hp]
theorem found_one {p : RowD → Bool} {rs : List RowD} {i : Nat} (hi : i < rs.length) (h : lastIx p (rs.drop (i + 1)) = none) (hp : p rs[i] = true) : lastIx p rs = some i := by
  have := lastIx_drop (one_step hi h hp)
  simpa using this
theorem some_step {p : RowD → Bool} {rs : List RowD} {i : Nat} {base bi : Int} (hi : i < rs.length) (h : some bi = ixOf (base + ((i + 1 : Nat) : Int)) (lastIx p (rs.drop (i + 1)))) : some bi = ixOf (base + (i : Int)) (lastIx p (rs.drop i)) := by
  obtain ⟨m, e, rfl⟩ := ix_some h
  rw [lastIx_step hi, e]
  show some (base + ((i + 1 : Nat) : Int) + (m : Int)) = some (base + (i : Int) + ((m + 1 : Nat) : Int))
  exact congrArg some (by omega)
theorem found_far {p : RowD → Bool} {rs : List RowD} {i : Nat} {base bi : Int} (hi : i < rs.length) (h : some bi = ixOf (base + ((i + 1 : Nat) : Int)) (lastIx p (rs.drop (i + 1)))) : ixOf base (lastIx p rs) = some bi := by
  obtain ⟨m, e, rfl⟩ := ix_some h
  rw [lastIx_drop e]
  show some (base + ((i + 1 + m : Nat) : Int)) = some (base + ((i + 1 : Nat) : Int) + (m : Int))
  exact congrArg some (by omega)

local macro_rules | `(tactic| walk_at "subscriptTail") => `(tactic| (k_here; (with_reducible show wpAny _ _ (subscriptTail _ _ (Value.ref _) (Value.int _ _)) _ _ _); k_dflt (refine' itemL ?N ?m ?hx ?h0 ?z ?_ ?hs; (case N => k_asm); (case m => k_mem); (case hx => assumption); (case hs => with_unfolding_all rfl); (case h0 => omega); (case z => omega); k_whole)))
local macro_rules | `(tactic| walk_at "compareOp Eq ref ref") => `(tactic| refine Stop.out ?_)
local macro_rules | `(tactic| walk_at "compareOp Eq ref ref") => `(tactic| (k_here; (with_reducible show wpAny _ _ (compareOp CmpOp.Eq (Value.ref _) (Value.ref _)) _ _ _); k_dflt (refine' eqRow ?N ?ma ?mb ?hu ?_; (case N => k_asm); (case ma => k_mem); (case mb => k_mem); (case hu => ktr_units); k_whole)))
local macro_rules | `(tactic| walk_at "compareOp Eq bytes bytes") => `(tactic| (k_here; (with_reducible show wpAny _ _ (compareOp CmpOp.Eq (Value.bytes _ _) (Value.bytes _ _)) _ _ _); (refine eqBytes ?_)))
local macro_rules | `(tactic| walk_at "pyIter ref") => `(tactic| refine Stop.out ?_)
local macro_rules | `(tactic| walk_at "InvEndN") => `(tactic| refine Stop.out ?_)
local macro_rules | `(tactic| walk_at "InvPostN") => `(tactic| (dsimp only [InvPostN]))
local macro_rules | `(tactic| walk_at "eval ListComp") => `(tactic| refine Stop.out ?_)
local macro_rules | `(tactic| walk_at "exec Assign cons ListComp") => `(tactic| refine Stop.out ?_)
local macro_rules | `(tactic| walk_at "CompEnd") => `(tactic| refine Stop.out ?_)
local macro_rules | `(tactic| walk_at "SrcLP") => `(tactic| refine Stop.out ?_)
local macro_rules | `(tactic| walk_at "CompSrc") => `(tactic| refine Stop.out ?_)

theorem news_drop2 {h₀ h : Heap} {L : Addr} {a b : Addr × Obj} {nw news : List (Addr × Obj)} (N : News h₀ L h (a :: b :: nw)) (hs : ∀ p ∈ news, p ∈ nw) : News h₀ L h (a :: news) := fun p hp => by
  rcases List.mem_cons.mp hp with rfl | hp
  · exact N _ (.head _)
  · exact N _ (.tail _ (.tail _ (hs p hp)))
section
variable {x dx tl : Addr} {κ : Nat → Tok} {g cap ins sz : Int} {t1 t2 t4 t5 : Tok} {n : Nat} {vs : List Value} {rs : List RowD} {rest : List (Addr × Obj)}
set_option maxRecDepth 100000 in
set_option maxHeartbeats 4000000 in
theorem find_does (w : World) (mean : ExcName → Option Value) (mg mb : Str → Option Value) (hlen : vs.length ≤ 100) {r : RowD} {ta tb : Tok} {news : List (Addr × Obj)} (hI : RowsIn news vs rs)
    (hm1 : (x, instObj 87 dx) ∈ news) (hm2 : (dx, dictOf (tabE w κ g t1 cap t2 tl ins t4 sz t5) 5) ∈ news) (hm3 : (tl, listOf vs.toArray n) ∈ news) :
    Does w mean mg mb 84 3 [.ref x, .bytes r.1 ta, .bytes r.2 tb] news
      (fun v news' => ∃ q k u1 u2, v = .ref q ∧ (∀ p ∈ news, p.1 < q) ∧ news' = (q, { cls := .type "tuple", data := .seq #[optV (ixOf (ins - vs.length) (lastIx (fun q => decide (q.1 = r.1 ∧ q.2 = r.2)) rs)) u1, optV (ixOf (ins - vs.length) (lastIx (fun q => decide (q.1 = r.1)) rs)) u2] k }) :: news) := by
  have hl := hI.length
  unfold Does
  w_top off
  k_fill
  intro dp un gd cn cs a ccd cl outer A₀ base h₀ L m s Q E B F X N T hk hdp hu hret
  k_with_none
  refine wpAny_call ?_
  k_dflt cell_enter
  k_steps
  refine Stop.on ?_
  rename IsRange _ _ _ _ _ _ _ _ => lR
  rename News _ _ _ _ => lN
  rename Fr _ _ _ _ => lF
  have hsz : Builtin.Range.rangeSize ((vs.length : Int) - 1) (-1) (-1) = ((vs.length : Nat) : Int) := by rw [rangeSize_downNat]; omega
  refine kst_rangeD (σ := Option Int × Tok) (n := vs.length) (fun _ => news) (fun c => [(Str.ofString "by_name", optV c.1 c.2)]) (fun _ => True) [Str.ofString "number"]
    (fun pre c => lastIx (fun q => decide (q.1 = r.1 ∧ q.2 = r.2)) (rs.drop (rs.length - pre.length)) = none ∧ c.1 = ixOf (ins - vs.length + (rs.length - pre.length : Nat)) (lastIx (fun q => decide (q.1 = r.1)) (rs.drop (rs.length - pre.length))))
    (none, 0) rfl lR (small_down (by omega) (by omega) (by decide) (by decide)) hsz lF lN trivial ?hk ?hp ?turn ?done
  case hk => kst_all
  case hp => simp [lastIx, ixOf]
  case done =>
    clear lF lN lR
    rintro ⟨o, tb⟩ u h tk - ⟨hp1, hp2⟩ F' N'
    rw [downKs_length, hl, Nat.sub_self, List.drop_zero] at hp1 hp2
    dsimp only at hp2
    subst hp2
    try dsimp only
    k_steps
    have e0 : ins - (rs.length : Int) + ((0 : Nat) : Int) = ins - vs.length := by omega
    rename News _ _ _ _ => lN
    rw [e0] at lN
    rw [hp1] at hret
    exact hret _ _ _ _ ⟨_, 0, 0, tb, rfl, (by assumption), rfl⟩ (by assumption) lN
  case turn =>
    clear lF lN lR
    rintro ⟨o, tb⟩ pre k t u h tk own hk1 hk2 hoff - ⟨hp1, hp2⟩ F' N'
    dsimp only at hp2
    obtain ⟨i, hi⟩ : ∃ i : Nat, rs.length - pre.length = i + 1 := ⟨rs.length - pre.length - 1, by omega⟩
    have hir : i < rs.length := by omega
    have hki : k = (i : Int) := by omega
    subst hki
    rw [hi] at hp1 hp2
    obtain ⟨a9, w1, w2, n9, e9, hm9⟩ := hI.get hir
    have hx9 : vs[(i : Int).toNat]? = some (.ref a9) := by simpa using e9
    have hsub : ∀ p ∈ news, p ∈ news ++ own := fun p hp => List.mem_append.mpr (.inl hp)
    have hsub2 : ∀ p ∈ own, p ∈ news ++ own := fun p hp => List.mem_append.mpr (.inr hp)
    have hm1' := hsub _ hm1
    have hm2' := hsub _ hm2
    have hm3' := hsub _ hm3
    have hm9' := hsub _ hm9
    generalize news ++ own = nw at N' hsub hsub2 hm1' hm2' hm3' hm9'
    rcases o with _ | bi
    · dsimp only [optV] at F'
      have hp2' := ix_none hp2
      try k_fold
      k_steps
      · rename _ ∧ AllLt _ _ => l9
        rename News _ _ _ _ => lN
        rename _ = r.1 ∧ _ => hw
        have f1 := found_one (p := fun q => decide (q.1 = r.1 ∧ q.2 = r.2)) hir hp1 (decide_eq_true hw)
        have f2 := found_one (p := fun q => decide (q.1 = r.1)) hir hp2' (decide_eq_true hw.1)
        rw [f1, f2] at hret
        exact hret _ _ _ _ ⟨_, 0, _, _, rfl, fun p hp => allLt_mem l9.2 p (hsub p hp), rfl⟩ (by assumption) (news_drop2 lN hsub)
      · refine Stop.on ?_
        rename News _ _ _ _ => lN
        rename ¬ (_ ∧ _) => hw
        rename rs[i].1 = r.1 => hw2
        refine kst_end (some ?v1, ?v2) (by assumption) lN (fun p hp => .tail _ (hsub p hp)) (fun p hp => .tail _ (hsub2 p hp)) rfl trivial ?hkA ?hrA ⟨?h1A, ?h2A⟩
        case hkA => kst_all
        case hrA =>
          intro z h1 h2 h3
          simp only [List.forall_mem_cons, List.not_mem_nil, false_implies, implies_true, and_true, ne_eq] at h2
          simp only [List.contains_cons, List.contains_nil, Bool.or_false, Bool.or_eq_false_iff, beq_eq_false_iff_ne, ne_eq] at h3
          simp [h1, h2, h3, kstB]
        case h1A =>
          have e : rs.length - (pre ++ [(i : Int)]).length = i := by simp only [List.length_append, List.length_cons, List.length_nil]; omega
          rw [e]
          exact none_step hir hp1 (decide_eq_false hw)
        case h2A =>
          have e : rs.length - (pre ++ [(i : Int)]).length = i := by simp only [List.length_append, List.length_cons, List.length_nil]; omega
          rw [e, one_step hir hp2' (decide_eq_true hw2)]
          simp [ixOf]
      · refine Stop.on ?_
        rename News _ _ _ _ => lN
        rename ¬ (_ ∧ _) => hw
        rename ¬ (_ = r.1) => hw2
        refine kst_end (none, 0) (by assumption) lN (fun p hp => .tail _ (hsub p hp)) (fun p hp => .tail _ (hsub2 p hp)) rfl trivial ?_ ?_ ⟨?_, ?_⟩
        · kst_all
        ·
          intro z h1 h2 h3
          simp only [List.forall_mem_cons, List.not_mem_nil, false_implies, implies_true, and_true, ne_eq] at h2
          simp only [List.contains_cons, List.contains_nil, Bool.or_false, Bool.or_eq_false_iff, beq_eq_false_iff_ne, ne_eq] at h3
          simp [h1, h2, h3, kstB]
        ·
          have e : rs.length - (pre ++ [(i : Int)]).length = i := by simp only [List.length_append, List.length_cons, List.length_nil]; omega
          rw [e]
          exact none_step hir hp1 (decide_eq_false hw)
        ·
          have e : rs.length - (pre ++ [(i : Int)]).length = i := by simp only [List.length_append, List.length_cons, List.length_nil]; omega
          rw [e, none_step hir hp2' (decide_eq_false hw2)]
          rfl
    · dsimp only [optV] at F'
      try k_fold
      k_steps
      · rename _ ∧ AllLt _ _ => l9
        rename News _ _ _ _ => lN
        rename _ = r.1 ∧ _ => hw
        have f1 := found_one (p := fun q => decide (q.1 = r.1 ∧ q.2 = r.2)) hir hp1 (decide_eq_true hw)
        have f2 := found_far hir hp2
        rw [f1, f2] at hret
        exact hret _ _ _ _ ⟨_, 0, _, _, rfl, fun p hp => allLt_mem l9.2 p (hsub p hp), rfl⟩ (by assumption) (news_drop2 lN hsub)
      all_goals
        refine Stop.on ?_
        rename News _ _ _ _ => lN
        rename ¬ (_ ∧ _) => hw
        refine kst_end (some bi, tb) (by assumption) lN (fun p hp => .tail _ (hsub p hp)) (fun p hp => .tail _ (hsub2 p hp)) rfl trivial ?_ ?_ ⟨?_, ?_⟩
        · kst_all
        ·
          intro z h1 h2 h3
          simp only [List.forall_mem_cons, List.not_mem_nil, false_implies, implies_true, and_true, ne_eq] at h2
          simp only [List.contains_cons, List.contains_nil, Bool.or_false, Bool.or_eq_false_iff, beq_eq_false_iff_ne, ne_eq] at h3
          simp [h1, h2, h3, kstB]
        ·
          have e : rs.length - (pre ++ [(i : Int)]).length = i := by simp only [List.length_append, List.length_cons, List.length_nil]; omega
          rw [e]
          exact none_step hir hp1 (decide_eq_false hw)
        ·
          have e : rs.length - (pre ++ [(i : Int)]).length = i := by simp only [List.length_append, List.length_cons, List.length_nil]; omega
          rw [e]
          exact some_step hir hp2
end

theorem szOf_sum : ∀ rs : List RowD, (rs.map rowSz).sum = szOf rs
  | [] => rfl
  | r :: rs => by rw [List.map_cons, List.sum_cons, szOf, szOf_sum rs]
section
variable {prog : Program} {w : World} {A : Around} {h₀ : Heap} {L : Addr} {m : Str → Option Value} {env : Env} {elt : PySem.Expr} {x x₂ : Str} {scope : Scope} {cl : List (Str × Addr)} {s : Shared} {S : List (Addr × Obj) → Prop} {Fin : List Value → List (Addr × Obj) → Prop} {news : List (Addr × Obj)}
theorem restP_ints {vs : List Value} {rs : List RowD} (f : RowD → Int) (hI : RowsIn news vs rs)
    (turn : ∀ r ∈ rs, ∀ t1 t2 I oI C oC D m₂ ys h tk (E' : Value → Shared → Prop), LCg.NsObj oC m₂ → m₂ x = some (.bytes r.1 t1) → m₂ x₂ = some (.bytes r.2 t2) → Fr h₀ L h m → News h₀ L h ((I, oI) :: (C, oC) :: (D, LCg.lst ys) :: news) → LCg.Off3 I C D news → ((@Ne Nat I C) ∧ (@Ne Nat I D) ∧ (@Ne Nat C D)) →
      wpAny (model prog w) A (eval elt (compEnvC scope cl C env)) (LCg.CompEnd h₀ L m { s with heap := h, toks := tk } I oI C oC D (LCg.lst ys) S (fun y news' => news' = news ∧ ∃ t, y = .int (f r) t)) E' { s with heap := h, toks := tk })
    (fin : ∀ ys, IntsAre ys (rs.map f) → Fin ys news) : LCp.CompRestP prog w A h₀ L m env elt x x₂ scope cl s S (fun i v => vs.toArray[i]? = some v) Fin vs.toArray.size 0 [] news := by
  have hl := hI.length
  have key : ∀ (j i : Nat) (ys : List Value), i + j = rs.length → IntsAre ys ((rs.take i).map f) → LCp.CompRestP prog w A h₀ L m env elt x x₂ scope cl s S (fun i v => vs.toArray[i]? = some v) Fin j i ys news := by
    intro j
    induction j with
    | zero =>
      intro i ys hi hy
      have e : i = rs.length := by omega
      subst e
      rw [List.take_length] at hy
      exact LCp.CompRestP.zero (fin ys hy)
    | succ j ih =>
      intro i ys hi hy
      refine LCp.CompRestP.succ fun v hv => ?_
      have hlt : i < rs.length := by omega
      obtain ⟨a, t1, t2, n, e, hm⟩ := hI.get hlt
      have hv' : v = .ref a := by
        have : vs[i]? = some v := by simpa using hv
        rw [e] at this
        exact (Option.some.inj this).symm
      refine ⟨a, _, _, _, _, hv', hm, rfl, rfl, ?_⟩
      intro I oI C oC D m₂ h tk E' hC hx hx2 F N off ne
      refine wpAny_mono (turn rs[i] (List.getElem_mem hlt) t1 t2 I oI C oC D m₂ ys h tk E' hC hx hx2 F N off ne) (fun y s₂ hq => ?_) fun _ _ e => e
      obtain ⟨h', tk', nw, e, F', N', off', hS, hn, t', hy'⟩ := hq
      rw [hn] at N' off' hS
      refine ⟨h', tk', news, e, F', N', off', hS, ?_⟩
      rw [hy']
      refine ih (i + 1) _ (by omega) ?_
      have e2 : (rs.take (i + 1)).map f = (rs.take i).map f ++ [f rs[i]] := by rw [List.take_add_one, List.getElem?_eq_getElem hlt, List.map_append]; rfl
      rw [e2]
      exact IntsAre.append hy (.cons (f rs[i]) t' .nil)
  have e : vs.toArray.size = rs.length := by rw [List.size_toArray, hl]
  rw [e]
  exact key rs.length 0 [] (by omega) (by simp only [List.take_zero, List.map_nil]; exact .nil)
end
section
variable {rl : Addr} {n : Nat} {vs : List Value} {rs : List RowD} {news : List (Addr × Obj)}
set_option maxRecDepth 100000 in
set_option maxHeartbeats 4000000 in
theorem size_does (w : World) (mean : ExcName → Option Value) (mg mb : Str → Option Value) (hlen : vs.length ≤ 100) (hI : RowsIn news vs rs) (hsm : ∀ r ∈ rs, Small r) (hm : (rl, listOf vs.toArray n) ∈ news) :
    Does w mean mg mb 110 2 [.ref rl] news (fun v news' => news' = news ∧ ∃ t, v = .int (szOf rs) t) := by
  have hl := hI.length
  unfold Does
  w_top off
  k_fill
  intro dp un gd cn cs a ccd cl outer A₀ base h₀ L m s Q E B F X N T hk hdp hu hret
  k_with_none
  refine wpAny_call ?_
  k_dflt cell_enter
  k_steps
  refine Stop.on ?_
  k_dflt (refine LCp.ListComp_P (F₀ := by k_asm) (by with_unfolding_all rfl) (by decide) (by rfl) (by decide) (by rfl) (by rfl) (by decide) ?_)
  k_steps
  refine Stop.on ?_
  k_dflt (refine LCp.SrcLP.ledger (by rfl) (by k_asm) (by k_asm) hm (by rw [sizeLine_eq]; simp; omega) ?_)
  intro g'
  refine restP_ints rowSz hI ?_ ?_
  · intro r hr t1 t2 I oI C oC D m₂ ys h tk E' hC hx hx2 F' N' off ne
    have hsr := hsm r hr
    obtain ⟨hs1, hs2⟩ := hsr
    k_steps
    refine Stop.on ?_
    rename News _ _ _ _ => lN
    exact LCg.CompEnd.intro (by assumption) lN news (fun p hp => hp) off (.inr ⟨_, hm, rfl, _, rfl⟩) ⟨rfl, _, rfl⟩
  · intro ys hy
    unfold LCg.FinE
    intro D h tk F' N' off
    k_steps
    rename News h₀ _ _ _ => lN
    rw [szOf_sum]
    exact hret _ _ _ _ ⟨rfl, _, rfl⟩ (by assumption) (kst_newsOf lN (fun p hp => .tail _ hp))
end

section
variable {prog : Program} {w : World} {A : Around} {E : Value → Shared → Prop} {s : Shared} {h₀ : Heap} {L D a b : Addr} {m : Str → Option Value} {news : List (Addr × Obj)} {n k : Nat}
theorem rep_one (v : Value) : ∀ k : Nat, (List.replicate k [v]).flatten = List.replicate k v
  | 0 => rfl
  | k + 1 => by rw [List.replicate_succ, List.flatten_cons, rep_one v k]; rfl
theorem mulNone {x : Int} {u : Tok} {Q : Value → Shared → Prop} (F : Fr h₀ L s.heap m) (N : News h₀ L s.heap news) (hm : (D, listOf #[Value.none] n) ∈ news) (h0 : 0 ≤ x) (h1 : x ≤ 1000)
    (h : ∀ q h', Fr h₀ L h' m → News h₀ L h' ((q, listOf (List.replicate x.toNat Value.none).toArray 0) :: news) → (∀ p ∈ news, p.1 < q) → Q (.ref q) { s with heap := h' }) : wpAny (model prog w) A (binaryOp .Mult (.ref D) (.int x u)) Q E s := by
  have hz : (#[Value.none] : Array Value).size * x.toNat ≤ 2 ^ 24 := by
    show 1 * x.toNat ≤ 2 ^ 24
    omega
  refine mul_list F N (N _ hm).1 (by omega) (by omega) hz fun h' F' N' => h _ h' F' ?_ fun p hp => Heap.lt_size (N p hp).1
  have e : List.foldl (fun x1 x2 => x1 ++ x2) #[] (List.replicate (if (#[Value.none] : Array Value).isEmpty = true then 0 else x.toNat) #[Value.none]) = (List.replicate x.toNat Value.none).toArray := by
    rw [listMul_foldl_if]
    exact congrArg List.toArray (rep_one Value.none x.toNat)
  rw [e] at N'
  exact N'
theorem addL {xs ys : List Value} {Q : Value → Shared → Prop} (F : Fr h₀ L s.heap m) (N : News h₀ L s.heap news) (ha : (a, listOf xs.toArray n) ∈ news) (hb : (b, listOf ys.toArray k) ∈ news) (hz : xs.length + ys.length ≤ 4000)
    (h : ∀ q h', Fr h₀ L h' m → News h₀ L h' ((q, listOf (xs ++ ys).toArray 0) :: news) → (∀ p ∈ news, p.1 < q) → Q (.ref q) { s with heap := h' }) : wpAny (model prog w) A (binaryOp .Add (.ref a) (.ref b)) Q E s :=
  add_lists (hsz := by rw [sizeLine_eq]; omega) F N (News.isList N ha) (News.isList N hb) fun h' F' N' => h _ h' F' N' fun p hp => Heap.lt_size (N p hp).1

/-- equal data: None both, or two tuples of the ledger that hold the same row -/
inductive EqV (news : List (Addr × Obj)) : Value → Value → Prop
  | none : EqV news .none .none
  | row {a b : Addr} {r : RowD} {t1 t2 u1 u2 : Tok} {n k : Nat} : (a, tupO r t1 t2 n) ∈ news → (b, tupO r u1 u2 k) ∈ news → EqV news (.ref a) (.ref b)
theorem EqV.mono {news news' : List (Addr × Obj)} {x y : Value} (h : EqV news x y) (hs : ∀ p ∈ news, p ∈ news') : EqV news' x y := by
  cases h with
  | none => exact .none
  | row h1 h2 => exact .row (hs _ h1) (hs _ h2)
theorem EqV.at {A : Around} {s : Shared} {x y : Value} (N : News h₀ L s.heap news) (h : EqV news x y) (hu : A.units < cLine) : SeqAt.EqAt A s x y true := by
  cases h with
  | none => exact SeqAt.EqAt.same _
  | @row a b r t1 t2 u1 u2 n k h1 h2 =>
    by_cases e : a = b
    · subst e; exact SeqAt.EqAt.same _
    · have q := eqAt_row (A := A) N h1 h2 e hu
      rw [decide_eq_true rfl, decide_eq_true rfl] at q
      exact SeqAt.EqAt.of_refs e q
inductive EqVs (news : List (Addr × Obj)) : List Value → List Value → Prop
  | nil : EqVs news [] []
  | cons {x y : Value} {xs ys : List Value} : EqV news x y → EqVs news xs ys → EqVs news (x :: xs) (y :: ys)
theorem EqVs.length {xs ys : List Value} (h : EqVs news xs ys) : xs.length = ys.length := by
  induction h with
  | nil => rfl
  | cons _ _ ih => rw [List.length_cons, List.length_cons, ih]
theorem EqVs.append {xs ys us vs : List Value} (h : EqVs news xs ys) (k : EqVs news us vs) : EqVs news (xs ++ us) (ys ++ vs) := by
  induction h with
  | nil => exact k
  | cons hm _ ih => exact .cons hm ih
theorem EqVs.get {xs ys : List Value} (h : EqVs news xs ys) : ∀ {j : Nat} (h1 : j < xs.length) (h2 : j < ys.length), EqV news xs[j] ys[j] := by
  induction h with
  | nil => intro j h1; exact absurd h1 (Nat.not_lt_zero _)
  | cons hm _ ih =>
    intro j h1 h2
    cases j with
    | zero => exact hm
    | succ j => exact ih (Nat.lt_of_succ_lt_succ h1) (Nat.lt_of_succ_lt_succ h2)
theorem EqVs.mono {news news' : List (Addr × Obj)} {xs ys : List Value} (h : EqVs news xs ys) (hs : ∀ p ∈ news, p ∈ news') : EqVs news' xs ys := by
  induction h with
  | nil => exact .nil
  | cons hm _ ih => exact .cons (hm.mono hs) ih
theorem EqVs.nones : ∀ k : Nat, EqVs news (List.replicate k Value.none) (List.replicate k Value.none)
  | 0 => .nil
  | k + 1 => .cons .none (EqVs.nones k)
theorem EqVs.rows {vs ws : List Value} {rs : List RowD} (h : RowsIn news vs rs) : RowsIn news ws rs → EqVs news vs ws := by
  induction h generalizing ws with
  | nil => intro k; cases k; exact .nil
  | cons hm _ ih =>
    intro k
    cases k with
    | cons hm' hr => exact .cons (.row hm hm') (ih hr)
theorem eqLists {xs ys : List Value} {Q : Value → Shared → Prop} (N : News h₀ L s.heap news) (ha : (a, listOf xs.toArray n) ∈ news) (hb : (b, listOf ys.toArray k) ∈ news) (he : EqVs news xs ys) (hu : A.units + 1 < cLine) (h : Q (.bool true) s) :
    wpAny (model prog w) A (compareOp .Eq (.ref a) (.ref b)) Q E s := by
  refine SeqAt.eq_listAt (e := fun _ => true) (News.isList N ha) (News.isList N hb) (by simpa using he.length) (by omega) (fun j h1 h2 => ?_) ?_
  · have q := he.get (j := j) (by simpa using h1) (by simpa using h2)
    exact q.at N (by show A.units + 1 < cLine; exact hu)
  · have e : ((List.range xs.toArray.size).all fun _ => true) = true := by simp
    rw [e]; exact h
end
theorem rowAt_all {vs : List Value} {ins gone : Int} {g : Nat} (hg : gone = (g : Int)) (hi : ins = gone + vs.length) : (List.range (g + vs.length + 3)).map (fun i : Nat => rowAt ins vs (-1 + (i : Int))) = List.replicate (g + 1) Value.none ++ (vs ++ [Value.none, Value.none]) := by
  subst hg hi
  have two : ∀ (k : Nat) (h : k < [Value.none, Value.none].length), [Value.none, Value.none][k] = Value.none := by
    intro k h
    match k, h with
    | 0, _ => rfl
    | 1, _ => rfl
  apply List.ext_getElem
  · simp only [List.length_map, List.length_range, List.length_append, List.length_replicate, List.length_cons, List.length_nil]; omega
  · intro i h1 h2
    simp only [List.length_map, List.length_range] at h1
    simp only [List.getElem_map, List.getElem_range]
    rw [List.getElem_append]
    split
    · rename_i h
      rw [List.length_replicate] at h
      rw [List.getElem_replicate]
      unfold rowAt
      rw [if_neg (by omega)]
    · rename_i h
      rw [List.length_replicate] at h
      rw [List.getElem_append]
      split
      · rename_i h'
        rw [List.length_replicate] at h'
        unfold rowAt
        rw [if_pos (by omega)]
        have e : (-1 + (i : Int) - ((g : Int) + (vs.length : Int) - (vs.length : Int))).toNat = i - (g + 1) := by omega
        rw [e, List.getD_eq_getElem?_getD, List.getElem?_eq_getElem h']
        simp only [List.length_replicate]
        rfl
      · rename_i h'
        rw [List.length_replicate] at h'
        unfold rowAt
        rw [if_neg (by omega), two]
section
variable {prog : Program} {w : World} {A : Around} {h₀ : Heap} {L : Addr} {m : Str → Option Value} {env : Env} {elt : PySem.Expr} {x : Str} {scope : Scope} {cl : List (Str × Addr)} {s : Shared} {S : List (Addr × Obj) → Prop} {Fin : List Value → List (Addr × Obj) → Prop} {news : List (Addr × Obj)}
theorem restU_vals {n : Nat} {a : Int} (f : Int → Value)
    (turn : ∀ k t I oI C oC D m₂ ys h tk (E' : Value → Shared → Prop), a ≤ k → k < a + n → LCg.NsObj oC m₂ → m₂ x = some (.int k t) → Fr h₀ L h m → News h₀ L h ((I, oI) :: (C, oC) :: (D, LCg.lst ys) :: news) → LCg.Off3 I C D news → ((@Ne Nat I C) ∧ (@Ne Nat I D) ∧ (@Ne Nat C D)) →
      wpAny (model prog w) A (eval elt (compEnvC scope cl C env)) (LCg.CompEnd h₀ L m { s with heap := h, toks := tk } I oI C oC D (LCg.lst ys) S (fun y news' => news' = news ∧ y = f k)) E' { s with heap := h, toks := tk })
    (fin : Fin ((List.range n).map (fun i : Nat => f (a + (i : Int)))) news) : LCg.CompRest prog w A h₀ L m env elt x scope cl s S (fun i v => ∃ t, v = .int (a + (i : Int)) t) Fin n 0 [] news := by
  have key : ∀ (j i : Nat), i + j = n → LCg.CompRest prog w A h₀ L m env elt x scope cl s S (fun i v => ∃ t, v = .int (a + (i : Int)) t) Fin j i ((List.range i).map (fun i : Nat => f (a + (i : Int)))) news := by
    intro j
    induction j with
    | zero =>
      intro i hi
      have e : i = n := by omega
      subst e
      exact LCg.CompRest.zero fin
    | succ j ih =>
      intro i hi
      refine LCg.CompRest.succ ?_
      intro v I oI C oC D m₂ h tk E' hv hC hx F N off ne
      obtain ⟨t, hv'⟩ := hv
      rw [hv'] at hx
      refine wpAny_mono (turn _ t I oI C oC D m₂ _ h tk E' (by omega) (by omega) hC hx F N off ne) (fun y s₂ hq => ?_) fun _ _ e => e
      obtain ⟨h', tk', nw, e, F', N', off', hS, hn, hy'⟩ := hq
      rw [hn] at N' off' hS
      refine ⟨h', tk', news, e, F', N', off', hS, ?_⟩
      have e2 : (List.range (i + 1)).map (fun i : Nat => f (a + (i : Int))) = (List.range i).map (fun i : Nat => f (a + (i : Int))) ++ [f (a + (i : Int))] := by rw [List.range_succ, List.map_append]; rfl
      have ih' := ih (i + 1) (by omega)
      rw [e2] at ih'
      rw [hy']
      exact ih'
  exact key n 0 (by omega)
end

local macro_rules | `(tactic| walk_at "binaryOp Mult ref int") => `(tactic| (k_here; (with_reducible show wpAny _ _ (binaryOp Operator.Mult (Value.ref _) (Value.int _ _)) _ _ _); k_dflt (refine' mulNone ?F ?N ?m ?h0 ?h1 ?_; (case F => k_asm); (case N => k_asm); (case m => k_mem); (case h0 => omega); (case h1 => omega); k_whole); (intro q' h' F' N' l1); (try k_lt l1); (try k_sweep)))
local macro_rules | `(tactic| walk_at "binaryOp Add ref ref") => `(tactic| (k_here; (with_reducible show wpAny _ _ (binaryOp Operator.Add (Value.ref _) (Value.ref _)) _ _ _); k_dflt (refine' addL ?F ?N ?a ?b ?z ?_; (case F => k_asm); (case N => k_asm); (case a => k_mem); (case b => k_mem); (case z => (simp only [List.length_append, List.length_replicate, List.length_cons, List.length_nil]; omega)); k_whole); (intro q' h' F' N' l1); (try k_lt l1); (try k_sweep)))
local macro_rules | `(tactic| walk_at "call ref") => `(tactic| (k_here; (with_reducible show wpAny _ _ (call (Value.ref 110) _) _ _ _); k_dflt (refine' does_int (size_does _ _ _ _ ?h0 ?hI ?hs ?h1) ?k1 ?k2 ?k3 ?k4 ?k5 ?kK ?kd ?ku ?_; (case k1 => k_asm); (case k2 => k_asm); (case k3 => k_asm); (case k4 => k_asm); (case k5 => k_asm); (case h1 => k_mem); (case hI => k_extra "rows"); (case hs => assumption); (case h0 => omega); (case kK => first | exact rfl | assumption); (case kd => ktr_room); (case ku => ktr_units); k_whole); (intro t9 h9 tk9 F9 N9); (try dsimp only); (try k_fold); (try k_sweep)))
local macro_rules | `(tactic| cell_enter) => `(tactic| (refine' code_defC ?k1 ?k2 ?k3 ?k4 ?k5 ?kA ?kF ?kK ?k6 ?k7 ?k8 ?k9 ?kB ?kD ?_ ?c2 ?c3 ?c4; (case kA => exact rfl); (case kF => exact rfl); (case kK => assumption); (case k1 => k_asm); (case k2 => k_asm); (case k3 => k_asm); (case k4 => k_asm); (case k5 => k_asm); (case k6 => k_is); (case k7 => k_is); (case k8 => ktr_room); (case k9 => exact BindsTo.of_eq rfl); (case kB => exact rfl); (case kD => decide +kernel); (case c2 => exact rfl); (case c3 => exact rfl); (case c4 => exact rfl); k_whole; intro g' L' h' tk' cells' FG' F' N' Y' B' X' T' l1; (try k_lt l1); k_cells Y'; (try simp only [List.cons_append, List.nil_append] at N'); (try dsimp only); (try k_lift B'); (try k_fold)))

section
variable {x dx tl rl : Addr} {κ : Nat → Tok} {g cap ins gone : Int} {t1 t2 t4 t5 tg tc : Tok} {n n2 : Nat} {vs ws : List Value} {rs : List RowD} {news : List (Addr × Obj)}
set_option maxRecDepth 100000 in
set_option maxHeartbeats 4000000 in
theorem right_does (w : World) (mean : ExcName → Option Value) (mg mb : Str → Option Value) (hI : RowsIn news vs rs) (hJ : RowsIn news ws rs) (hsm : ∀ r ∈ rs, Small r) (hlen : rs.length ≤ 20) (hg0 : 0 ≤ gone) (hg1 : gone ≤ 100) (hins : ins = gone + rs.length)
    (hm1 : (x, instObj 87 dx) ∈ news) (hm2 : (dx, dictOf (tabE w κ g t1 cap t2 tl ins t4 (szOf rs) t5) 5) ∈ news) (hm3 : (tl, listOf vs.toArray n) ∈ news) (hm4 : (rl, listOf ws.toArray n2) ∈ news) :
    Does w mean mg mb 115 4 [.ref x, .int gone tg, .ref rl, .int cap tc] news (fun v news' => news' = news ∧ v = .bool true) := by
  have hl := hI.length
  have hl2 := hJ.length
  unfold Does
  w_top off
  k_fill
  intro dp un gd cn cs a ccd cl outer A₀ base h₀ L m s Q E B F X N T hk hdp hu hret
  k_with_none
  k_with "rows" => exact RowsIn.mono hJ (fun p hp => by kst_mem)
  refine wpAny_call ?_
  k_dflt cell_enter
  k_steps
  · obtain ⟨gn, rfl⟩ : ∃ gn : Nat, gone = (gn : Int) := ⟨gone.toNat, by omega⟩
    refine Stop.on ?_
    k_dflt (refine LCg.Assign_ListComp_U (F₀ := by k_asm) (by rfl) (by with_unfolding_all rfl) (by with_unfolding_all rfl) (by decide) (by rfl) (by decide) (by rfl) (by rfl) (by rfl) ?_)
    k_steps
    refine Stop.on ?_
    rename IsRange _ _ _ _ _ _ _ _ => lR
    k_dflt (refine LCg.CompSrc.range (n := gn + vs.length + 3) (by rfl) (by k_asm) (by k_asm) lR (small_one (by omega) (by omega) (by omega) (by omega)) (by rw [rangeSize_nat]; omega) (by rw [sizeLine_eq]; omega) ?_)
    intro g'
    refine restU_vals (fun k => rowAt ins vs k) ?_ ?_
    · intro k t I oI C oC D m₂ ys h tk E' hk1 hk2 hC hx F' N' off ne
      k_steps
      refine Stop.on ?_
      rename News _ _ _ _ => lN
      exact LCg.CompEnd.intro (by assumption) lN _ (fun p hp => hp) off trivial ⟨rfl, rfl⟩
    · rw [rowAt_all (g := gn) rfl (by omega)]
      unfold LCg.FinA
      intro D h tk F' N' off
      k_steps
      refine Stop.on ?_
      have e1 : ((gn : Int) + 1).toNat = gn + 1 := by omega
      have heq : EqVs news (List.replicate (gn + 1) Value.none ++ (vs ++ [Value.none, Value.none])) ((List.replicate ((gn : Int) + 1).toNat Value.none ++ ws) ++ List.replicate (2 : Int).toNat Value.none) := by
        rw [e1, List.append_assoc]
        exact (EqVs.nones _).append ((EqVs.rows hI hJ).append (EqVs.nones 2))
      k_dflt (refine' eqLists ?N ?ma ?mb (heq.mono ?sub) ?hu ?_)
      case N => k_asm
      case ma => k_mem
      case mb => k_mem
      case sub => intro p hp; kst_mem
      case hu => ktr_units
      k_steps
      rename News h₀ _ _ _ => lN
      exact hret _ _ _ _ ⟨rfl, rfl⟩ (by assumption) (kst_newsOf lN (fun p hp => by kst_mem))
  · exfalso
    rename (_ && _) = false => hbad
    have e : (ins == gone + (ws.length : Int) && ins - (vs.length : Int) == gone) = true := by
      rw [Bool.and_eq_true, beq_iff_eq, beq_iff_eq]; omega
    rw [e] at hbad
    cases hbad
end

/-- the end of a part of a comprehension's turn: what stood stands -/
def EEnd (h₀ : Heap) (L : Addr) (m : Str → Option Value) (led : List (Addr × Obj)) (s₁ : Shared) (R : Value → Prop) (y : Value) (s₂ : Shared) : Prop :=
  ∃ h' tk, s₂ = { s₁ with heap := h', toks := tk } ∧ Fr h₀ L h' m ∧ News h₀ L h' led ∧ R y
section
open PyProof.Rows.LCg
variable {prog : Program} {w : World} {A : Around} {E : Value → Shared → Prop} {s : Shared} {h₀ : Heap} {L : Addr} {m : Str → Option Value} {env : Env}

def ETurn (prog : Program) (w : World) (A : Around) (h₀ : Heap) (L : Addr) (m : Str → Option Value) (env : Env) (c elt : PySem.Expr) (a b : Str) (scope : Scope) (cl : List (Str × Addr)) (s : Shared) (vs : List Value) (p : Nat → Bool) (g : Nat → Int) (news : List (Addr × Obj)) : Prop :=
  ∀ (i : Nat) (v : Value) (t : Tok) I oI J oJ C oC D m₂ ys h tk (E' : Value → Shared → Prop), vs[i]? = some v → NsObj oC m₂ → m₂ a = some (.int (i : Int) t) → m₂ b = some v → Fr h₀ L h m → News h₀ L h ((I, oI) :: (J, oJ) :: (C, oC) :: (D, lst ys) :: news) →
    wpAny (model prog w) A (isTrue c (compEnvC scope cl C env) (eval c (compEnvC scope cl C env))) (fun okb s₃ => if okb = true then
      wpAny (model prog w) A (eval elt (compEnvC scope cl C env)) (EEnd h₀ L m ((I, oI) :: (J, oJ) :: (C, oC) :: (D, lst ys) :: news) { s with heap := h, toks := tk } (fun y => p i = true ∧ ∃ t, y = .int (g i) t)) E' s₃
      else EEnd h₀ L m ((I, oI) :: (J, oJ) :: (C, oC) :: (D, lst ys) :: news) { s with heap := h, toks := tk } (fun _ => p i = false) .none s₃) E' { s with heap := h, toks := tk }

theorem filter_step (p : Nat → Bool) (g : Nat → Int) (i : Nat) : ((List.range (i + 1)).filter p).map g = ((List.range i).filter p).map g ++ (if p i then [g i] else []) := by
  rw [List.range_succ, List.filter_append, List.map_append]
  cases h : p i with
  | true => simp [h]
  | false => simp [h]

theorem enum_block {elt iter c : PySem.Expr} {a b : Str} {pa pb tp : Pos} {kk : Nat} {scope : Scope} {cl : List (Str × Addr)} {pos : Pos} {s₂ : Shared} {e it l : Addr} {n0 : Nat} {vs : List Value} {news : List (Addr × Obj)} {p : Nat → Bool} {g : Nat → Int} {RR : Value → Addr → Result → Shared → Prop}
    (hh : A.handled = none) (hE : IsEnum s₂.heap e it 0 .none) (hI : s₂.heap.IsListIter it l 0) (hm : (l, W.listOf vs.toArray n0) ∈ news) (hsz : vs.length ≤ 1000) (hei : e ≠ it)
    (hcell : ∀ y ∈ scope.names, y.2 ≠ .cell) (hkind : scope.kind = .function) (hxa : scope.names.lookup a = some .local) (hxb : scope.names.lookup b = some .local) (hab : ¬ a = b)
    (F : Fr h₀ L s₂.heap m) (N : News h₀ L s₂.heap news) (he0 : h₀.get? e = none) (hi0 : h₀.get? it = none) (heL : e ≠ L) (hiL : it ≠ L) (offe : ∀ q ∈ news, q.1 ≠ e) (offi : ∀ q ∈ news, q.1 ≠ it)
    (turn : ETurn prog w A h₀ L m env c elt a b scope cl s₂ vs p g news)
    (hRR : ∀ D C h tk m' ys, Fr h₀ L h m → News h₀ L h ((D, lst ys) :: news) → h.Ns C m' → h₀.get? C = none → h₀.get? D = none → C ≠ L → D ≠ L → C ≠ D → (∀ q ∈ news, q.1 ≠ C) → (∀ q ∈ news, q.1 < D) → IntsAre ys (((List.range vs.length).filter p).map g) → RR (.ref D) C (.ok .next) { s₂ with heap := h, toks := tk }) :
    wpAny (model prog w) A (newList []) (fun acc s₃ => wpAny (model prog w) A (newFunctionEnv scope env.globals cl [] env.qual none .none (some env)) (fun cenv s₄ =>
      codeAny (model prog w) A (.compStart (.ListComp elt [⟨.Tuple [.Name a pa, .Name b pb] kk tp, iter, [c], 0⟩] scope pos) 0 (.ref e) acc { cenv with scope := relabel scope env }) (RR acc cenv.locals) s₄) E s₃) E s₂ := by
  refine wpAny_newObj_type (wpAny_newFunctionEnv hcell (by intro y hy; simp at hy) (fun h₁ hns₁ hsb₁ => ?_) hkind)
  dsimp only at hns₁ hsb₁ ⊢
  generalize hH2 : s₂.heap.push { cls := .type "list", dict := none, data := .seq ([] : List Value).toArray } = H2 at hns₁ hsb₁ ⊢
  have hC : H2.objs.size = s₂.heap.objs.size + 1 := by rw [← hH2, Heap.size_push]
  have lt2 : ∀ q o, s₂.heap.get? q = some o → q < s₂.heap.objs.size := fun q o x => Heap.lt_size x
  have old : ∀ q o, s₂.heap.get? q = some o → h₁.get? q = some o := fun q o x => hsb₁.extBut q o (by rw [hC]; exact Nat.ne_of_lt (Nat.lt_succ_of_lt (lt2 q o x))) (Heap.get?_push_of_some _ (hH2 ▸ Heap.get?_push_of_some _ x))
  have hDC : s₂.heap.objs.size ≠ H2.objs.size := by rw [hC]; exact Nat.ne_of_lt (Nat.lt_succ_self _)
  have hD₁ : h₁.get? s₂.heap.objs.size = some (lst []) := hsb₁.extBut _ _ hDC (Heap.get?_push_of_some _ (hH2 ▸ Heap.get?_push_size _ rfl))
  have new₀ : ∀ q, s₂.heap.objs.size ≤ q → h₀.get? q = none := fun q hq => by
    cases x : h₀.get? q with
    | none => rfl
    | some o => exact absurd (lt2 q o (F.keep q o x)) (Nat.not_lt.mpr hq)
  have hD₀ : h₀.get? s₂.heap.objs.size = none := new₀ _ (Nat.le_refl _)
  have hC₀ : h₀.get? H2.objs.size = none := new₀ _ (by rw [hC]; exact Nat.le_succ _)
  have hLlt : L < s₂.heap.objs.size := F.ns.lt
  have helt : e < s₂.heap.objs.size := lt2 _ _ hE
  have hilt : it < s₂.heap.objs.size := by obtain ⟨o, x, _⟩ := hI; exact lt2 _ _ x
  have hnlt : ∀ q ∈ news, q.1 < s₂.heap.objs.size := fun q hq => lt2 _ _ (N q hq).1
  have hllt : l < s₂.heap.objs.size := hnlt _ hm
  have hle : l ≠ e := offe _ hm
  have hli : l ≠ it := offi _ hm
  rw [hC] at hDC hC₀ hns₁ hsb₁ ⊢
  generalize s₂.heap.objs.size = D at *
  have hCe : D + 1 ≠ e := by intro x; have : e < D := helt; rw [← x] at this; exact Nat.lt_irrefl _ (Nat.lt_of_succ_lt this)
  have hCi : D + 1 ≠ it := by intro x; have : it < D := hilt; rw [← x] at this; exact Nat.lt_irrefl _ (Nat.lt_of_succ_lt this)
  have hDe : D ≠ e := by intro x; have : e < D := helt; rw [← x] at this; exact Nat.lt_irrefl _ this
  have hDi : D ≠ it := by intro x; have : it < D := hilt; rw [← x] at this; exact Nat.lt_irrefl _ this
  have hDL : D ≠ L := by intro x; have : L < D := hLlt; rw [← x] at this; exact Nat.lt_irrefl _ this
  have hCL : D + 1 ≠ L := by intro x; have : L < D := hLlt; rw [← x] at this; exact Nat.lt_irrefl _ (Nat.lt_of_succ_lt this)
  have hnC : ∀ q ∈ news, q.1 ≠ D + 1 := fun q hq x => by have : q.1 < D := hnlt q hq; rw [x] at this; exact Nat.lt_irrefl _ (Nat.lt_of_succ_lt this)
  have hnD : ∀ q ∈ news, q.1 ≠ D := fun q hq x => by have : q.1 < D := hnlt q hq; rw [x] at this; exact Nat.lt_irrefl _ this
  have W := WalksT.enumerate (prog := prog) (w := w) hh e it l hei hle hli vs.toArray
  have hn : vs.toArray.size = vs.length := by simp
  have loop : ∀ s₃ : Shared, s₃ = { s₂ with heap := h₁, toks := s₂.toks + ([] : List (Str × Value)).length } →
      codeAny (model prog w) A (.compLoop (.ListComp elt [⟨.Tuple [.Name a pa, .Name b pb] kk tp, iter, [c], 0⟩] scope pos) 0 (.ref e) (.ref D) (compEnvC scope cl (D + 1) env)) (RR (.ref D) (D + 1)) s₃ := by
    rintro s₃ rfl
    refine kct_loop
      (fun k s' => ∃ h' tk i ys m', s' = { s₂ with heap := h', toks := tk } ∧ i ≤ vs.length ∧ k = vs.length + 1 - i ∧ ys.length ≤ i ∧ IntsAre ys (((List.range i).filter p).map g) ∧ (∃ o, IsEnum h' e it (i : Int) o) ∧ h'.IsListIter it l i ∧ Fr h₀ L h' m ∧ h'.Ns (D + 1) m' ∧ News h₀ L h' ((D, lst ys) :: news)) ?_ (vs.length + 1)
      ⟨h₁, _, 0, [], _, rfl, Nat.zero_le _, rfl, Nat.le_refl _, .nil, ⟨_, old _ _ hE⟩, hI.at fun o x => old _ _ x, F.keeps old, hns₁, fun q hq => ?_⟩
    · rintro k s' ⟨h', tk, i, ys, m', rfl, hi, rfl, hyl, hy, hE', hI', F', hn', N'⟩
      have hl' : h'.IsList l vs.toArray := ⟨_, (N' _ (.tail _ hm)).1, rfl, _, rfl⟩
      by_cases hlt : i < vs.length
      · refine W.item i _ _ _ (by rw [hn]; exact hlt) ⟨hE', hI', hl'⟩ fun T vals h₂ tk₂ hP _ hT hMd hk₂ => ?_
        obtain ⟨t, v, hv, rfl⟩ := hP
        have hTw := W.apart _ _ _ hMd
        refine W.go _ _ _ i T _ _ _ hMd fun h₃ hst₃ hk₃ => ?_
        have up₃ : ∀ q o, q ≠ e → q ≠ it → h'.get? q = some o → h₃.get? q = some o := fun q o x1 x2 x => hk₃ q o (by simp [x1, x2]) (hk₂ q o (by simp [x1, x2]) x)
        have hT₃ : h₃.IsTuple T #[.int i t, v] := by obtain ⟨o, x, r⟩ := hT; exact ⟨o, hk₃ _ _ hTw x, r⟩
        refine kcp_assign (env := compEnvC scope cl (D + 1) env) hh hT₃ (lookup_relabel_local hxa) (lookup_relabel_local hxb) (by simp [compEnvC, relabel, hkind]) (hn'.at' fun o x => up₃ _ o hCe hCi x) fun h₄ tk₄ hn₄ hs₄ => ?_
        have up₄ : ∀ q o, q ≠ e → q ≠ it → q ≠ D + 1 → h'.get? q = some o → h₄.get? q = some o := fun q o x1 x2 x3 x => hs₄ q o x3 (up₃ q o x1 x2 x)
        obtain ⟨⟨o₃, hE₃⟩, hI₃, _⟩ := hst₃
        obtain ⟨oE, hE₄, hEr⟩ : ∃ oE : Obj, h₄.get? e = some oE ∧ ∀ z : Heap, z.get? e = some oE → IsEnum z e it ((i + 1 : Nat) : Int) o₃ := ⟨_, hs₄ e _ (Ne.symm hCe) hE₃, fun _ x => x⟩
        obtain ⟨oJ, hJ, hJr⟩ : h₄.IsListIter it l (i + 1) := hI₃.at fun o x => hs₄ it o (Ne.symm hCi) x
        obtain ⟨oC, hoC, hNs⟩ := ns_obj hn₄
        have F₄ : Fr h₀ L h₄ m := ⟨F'.ns.at' fun o x => up₄ _ o (Ne.symm heL) (Ne.symm hiL) (Ne.symm hCL) x, fun q o x => up₄ q o (fun y => by rw [y, he0] at x; cases x) (fun y => by rw [y, hi0] at x; cases x) (fun y => by rw [y, hC₀] at x; cases x) (F'.keep q o x), F'.above⟩
        have N₄ : News h₀ L h₄ ((e, oE) :: (it, oJ) :: (D + 1, oC) :: (D, lst ys) :: news) := fun q hq => by
          rcases List.mem_cons.mp hq with rfl | hq
          · exact ⟨hE₄, heL, he0⟩
          rcases List.mem_cons.mp hq with rfl | hq
          · exact ⟨hJ, hiL, hi0⟩
          rcases List.mem_cons.mp hq with rfl | hq
          · exact ⟨hoC, hCL, hC₀⟩
          rcases List.mem_cons.mp hq with rfl | hq
          · exact ⟨up₄ _ _ hDe hDi hDC (N' _ (.head _)).1, hDL, hD₀⟩
          · exact ⟨up₄ _ _ (offe q hq) (offi q hq) (hnC q hq) (N' q (.tail _ hq)).1, (N' q (.tail _ hq)).2⟩
        have fin : ∀ (ys' : List Value) (h₅ : Heap) (tk₅ : Nat), ys'.length ≤ i + 1 → IntsAre ys' (((List.range (i + 1)).filter p).map g) → Fr h₀ L h₅ m → News h₀ L h₅ ((e, oE) :: (it, oJ) :: (D + 1, oC) :: (D, lst ys') :: news) →
            ∃ q', q' < vs.length + 1 - i ∧ (∃ h' tk i ys m', ({ s₂ with heap := h₅, toks := tk₅ } : Shared) = { s₂ with heap := h', toks := tk } ∧ i ≤ vs.length ∧ q' = vs.length + 1 - i ∧ ys.length ≤ i ∧ IntsAre ys (((List.range i).filter p).map g) ∧ (∃ o, IsEnum h' e it (i : Int) o) ∧ h'.IsListIter it l i ∧ Fr h₀ L h' m ∧ h'.Ns (D + 1) m' ∧ News h₀ L h' ((D, lst ys) :: news)) := by
          intro ys' h₅ tk₅ z1 z2 F₅ N₅
          exact ⟨vs.length + 1 - (i + 1), by omega, h₅, tk₅, i + 1, ys', _, rfl, hlt, rfl, z1, z2, ⟨o₃, hEr _ (N₅ _ (.head _)).1⟩, ⟨oJ, (N₅ _ (.tail _ (.head _))).1, hJr⟩, F₅, hNs.ns (N₅ _ (.tail _ (.tail _ (.head _)))).1, fun q hq => N₅ q (.tail _ (.tail _ (.tail _ hq)))⟩
        refine wpAny_mono (turn i v t e oE it oJ (D + 1) oC D _ ys h₄ _ _ (by simpa using hv) hNs (by simp [hab]) (by simp) F₄ N₄) (fun okb s₅ hq => ?_) fun _ _ x => x
        cases okb with
        | false =>
          simp only [Bool.false_eq_true, if_false] at hq ⊢
          obtain ⟨h₅, tk₅, rfl, F₅, N₅, hp⟩ := hq
          refine fin ys h₅ tk₅ (Nat.le_succ_of_le hyl) ?_ F₅ N₅
          rw [filter_step, hp]
          simpa using hy
        | true =>
          simp only [if_true] at hq ⊢
          refine wpAny_mono hq (fun y s₆ hq' => ?_) fun _ _ x => x
          obtain ⟨h₅, tk₅, rfl, F₅, N₅, hp, t', rfl⟩ := hq'
          have zD := (N₅ _ (.tail _ (.tail _ (.tail _ (.head _))))).1
          refine append_at (hsz := by rw [List.size_toArray, sizeLine_eq]; omega) zD fun h₆ hs₆ hD₆ => ?_
          refine fin (ys ++ [.int (g i) t']) h₆ _ (by rw [List.length_append, List.length_singleton]; omega) ?_ (F₅.change hs₆ hDL hD₀) fun q hq => ?_
          · rw [filter_step, hp]
            exact IntsAre.append hy (.cons _ t' .nil)
          rcases List.mem_cons.mp hq with rfl | hq
          · exact ⟨hs₆.extBut _ _ (Ne.symm hDe) (N₅ _ (.head _)).1, heL, he0⟩
          rcases List.mem_cons.mp hq with rfl | hq
          · exact ⟨hs₆.extBut _ _ (Ne.symm hDi) (N₅ _ (.tail _ (.head _))).1, hiL, hi0⟩
          rcases List.mem_cons.mp hq with rfl | hq
          · exact ⟨hs₆.extBut _ _ (Ne.symm hDC) (N₅ _ (.tail _ (.tail _ (.head _)))).1, hCL, hC₀⟩
          rcases List.mem_cons.mp hq with rfl | hq
          · exact ⟨hD₆.trans (congrArg some (lst_snoc ys _)), hDL, hD₀⟩
          · have z := N₅ q (.tail _ (.tail _ (.tail _ (.tail _ hq))))
            exact ⟨hs₆.extBut _ _ (hnD q hq) z.1, z.2⟩
      · have hin : i = vs.length := by omega
        subst hin
        refine W.done _ _ _ (by rw [hn]; exact ⟨hE', hI', hl'⟩) fun h₂ tk₂ hk₂ => ?_
        have up₂ : ∀ q o, q ≠ e → q ≠ it → h'.get? q = some o → h₂.get? q = some o := fun q o x1 x2 x => hk₂ q o (by simp [x1, x2]) x
        refine hRR D (D + 1) h₂ tk₂ m' ys ⟨F'.ns.at' fun o x => up₂ _ o (Ne.symm heL) (Ne.symm hiL) x, fun q o x => up₂ q o (fun y => by rw [y, he0] at x; cases x) (fun y => by rw [y, hi0] at x; cases x) (F'.keep q o x), F'.above⟩ (fun q hq => ?_) (hn'.at' fun o x => up₂ _ o hCe hCi x) hC₀ hD₀ hCL hDL (Ne.symm hDC) hnC hnlt hy
        rcases List.mem_cons.mp hq with rfl | hq'
        · exact ⟨up₂ _ _ hDe hDi (N' _ (.head _)).1, hDL, hD₀⟩
        · exact ⟨up₂ _ _ (offe q hq') (offi q hq') (N' q hq).1, (N' q hq).2⟩
    · rcases List.mem_cons.mp hq with rfl | hq
      · exact ⟨hD₁, hDL, hD₀⟩
      · exact ⟨old _ _ (N q hq).1, (N q hq).2⟩
  exact codeAny_compStart_list (loop _ rfl) (wpAny_pyIter_enum (old _ _ hE) (loop _ rfl))

def ESrc (prog : Program) (w : World) (A : Around) (h₀ : Heap) (L : Addr) (m : Str → Option Value) (env : Env) (c elt : PySem.Expr) (a b y : Str) (scope : Scope) (cl : List (Str × Addr)) (Q : Flow → Shared → Prop) (xv : Value) (s₁ : Shared) : Prop :=
  ∃ (e it l : Addr) (n0 : Nat) (vs : List Value) (news : List (Addr × Obj)) (p : Nat → Bool) (g : Nat → Int), xv = .ref e ∧ A.handled = none ∧ IsEnum s₁.heap e it 0 .none ∧ s₁.heap.IsListIter it l 0 ∧ (l, W.listOf vs.toArray n0) ∈ news ∧ vs.length ≤ 1000 ∧ e ≠ it ∧
    Fr h₀ L s₁.heap m ∧ News h₀ L s₁.heap news ∧ h₀.get? e = none ∧ h₀.get? it = none ∧ e ≠ L ∧ it ≠ L ∧ (∀ q ∈ news, q.1 ≠ e) ∧ (∀ q ∈ news, q.1 ≠ it) ∧ ETurn prog w A h₀ L m env c elt a b scope cl s₁ vs p g news ∧
    ∀ D h tk ys, Fr h₀ L h (fun z => if z = y then some (.ref D) else m z) → News h₀ L h ((D, lst ys) :: news) → (∀ q ∈ news, q.1 < D) → IntsAre ys (((List.range vs.length).filter p).map g) → Q .next { s₁ with heap := h, toks := tk }

theorem assign_enum {elt iter c : PySem.Expr} {a b y : Str} {pa pb tp py : Pos} {kk : Nat} {scope : Scope} {cl : List (Str × Addr)} {pos spos : Pos} {Q : Flow → Shared → Prop} (_F₀ : Fr h₀ L s.heap m) (hLe : env.locals = L)
    (hsw : swapsWith (.ListComp elt [⟨.Tuple [.Name a pa, .Name b pb] kk tp, iter, [c], 0⟩] scope pos) (some (.Name y py)) spos.line env = pure true)
    (hclos : closureFor scope env = pure cl) (hcell : ∀ z ∈ scope.names, z.2 ≠ .cell) (hkind : scope.kind = .function)
    (hnames : ∀ z ∈ scope.names, z.2 = .local → scope.names.lookup z.1 = some .local) (hxa : scope.names.lookup a = some .local) (hxb : scope.names.lookup b = some .local) (hab : ¬ a = b)
    (hy : env.kindOf y = some .local) (hp : (env.scope.kind == .class || (env.scope.kind == .module && env.locals != env.globals)) = false)
    (h : wpAny (model prog w) A (eval iter env) (ESrc prog w A h₀ L m env c elt a b y scope cl Q) E s)
    (hs : ∀ x, foldedSetIterable iter env x = pure x := by intro _; rfl) :
    wpAny (model prog w) A (exec (.Assign [.Name y py] (.ListComp elt [⟨.Tuple [.Name a pa, .Name b pb] kk tp, iter, [c], 0⟩] scope pos) spos) env) Q E s := by
  subst hLe
  rw [exec_Assign_Name_used _ _ _ _ hsw]
  refine wpAny_bind (wpAny_standAt (wpAny_bind ?_))
  show wpAny _ A (do let _ ← comprehension (.ListComp elt [⟨.Tuple [.Name a pa, .Name b pb] kk tp, iter, [c], 0⟩] scope pos) scope env _ (newList []) false (eval iter env) (some (assign (.Name y py) env))) _ _ s
  refine wpAny_bind (wpAny_mono (wpAny_comprehension_free (use := some (assign (.Name y py) env)) (Q := fun _ s' => Q .next s') rfl hs hclos hkind hnames (wpAny_mono h (fun xv s₁ h₁ => ?_) fun _ _ x => x)) (fun _ s' hq => wpAny_pure (wpAny_pure hq)) fun _ _ x => x)
  obtain ⟨e, it, l, n0, vs, news, p, g, rfl, hh, hE, hI, hm, hsz, hei, F, N, he0, hi0, heL, hiL, offe, offi, turn, fin⟩ := h₁
  refine wpAny_pyIter_enum hE (enum_block hh hE hI hm hsz hei hcell hkind hxa hxb hab F N he0 hi0 heL hiL offe offi turn ?_)
  intro D C h tk m' ys F' N' hnC hC₀ hD₀ hCL hDL hCD offC hlt hys
  show wpAny _ A (assign (.Name y py) env (.ref D)) _ _ _
  refine wpAny_assign_Name (wpAny_storeName_local hy F'.ns (fun h₂ hn₂ hs₂ => ?_) hp)
  have hL₀ : h₀.get? env.locals = none := Heap.get?_none_of_le F'.above
  have F₂ : Fr h₀ env.locals h₂ (fun z => if z = y then some (.ref D) else m z) := ⟨hn₂, fun q o x => hs₂.extBut q o (fun z => by rw [z, hL₀] at x; cases x) (F'.keep q o x), F'.above⟩
  refine ⟨m', hnC.sameBut hs₂ hCL, fun h₃ hs₃ => fin D h₃ _ ys (F₂.change hs₃ hCL hC₀) (fun q hq => ?_) hlt hys⟩
  have z : h₂.get? q.1 = some q.2 := hs₂.extBut _ _ (N' q hq).2.1 (N' q hq).1
  refine ⟨hs₃.extBut _ _ ?_ z, (N' q hq).2⟩
  rcases List.mem_cons.mp hq with rfl | hq
  · exact Ne.symm hCD
  · exact offC q hq

theorem enum_src {elt c : PySem.Expr} {a b y : Str} {scope : Scope} {cl : List (Str × Addr)} {Q : Flow → Shared → Prop} {l : Addr} {n0 : Nat} {vs : List Value} {news : List (Addr × Obj)} (p : Nat → Bool) (g : Nat → Int)
    (hh : A.handled = none) (F : Fr h₀ L s.heap m) (N : News h₀ L s.heap news) (hm : (l, W.listOf vs.toArray n0) ∈ news) (hsz : vs.length ≤ 1000)
    (turn : ∀ H, ETurn prog w A h₀ L m env c elt a b scope cl { s with heap := H } vs p g news)
    (fin : ∀ D h tk ys, Fr h₀ L h (fun z => if z = y then some (.ref D) else m z) → News h₀ L h ((D, lst ys) :: news) → (∀ q ∈ news, q.1 < D) → IntsAre ys (((List.range vs.length).filter p).map g) → Q .next { s with heap := h, toks := tk }) :
    wpAny (model prog w) A (call (.type "enumerate") [.ref l]) (ESrc prog w A h₀ L m env c elt a b y scope cl Q) E s := by
  refine call_enumerate_list (News.isList N hm) fun h' hE hI _ hk => ?_
  have lt2 : ∀ q o, s.heap.get? q = some o → q < s.heap.objs.size := fun q o x => Heap.lt_size x
  have new₀ : ∀ q, s.heap.objs.size ≤ q → h₀.get? q = none := fun q hq => by
    cases x : h₀.get? q with
    | none => rfl
    | some o => exact absurd (lt2 q o (F.keep q o x)) (Nat.not_lt.mpr hq)
  have hLlt : L < s.heap.objs.size := F.ns.lt
  refine ⟨_, _, l, n0, vs, news, p, g, rfl, hh, hE, hI, hm, hsz, Nat.succ_ne_self _, F.keeps hk, N.grown hk, new₀ _ (Nat.le_succ _), new₀ _ (Nat.le_refl _), Ne.symm (Nat.ne_of_lt (Nat.lt_succ_of_lt hLlt)), Ne.symm (Nat.ne_of_lt hLlt), ?_, ?_, turn h', fin⟩
  · intro q hq
    exact Nat.ne_of_lt (Nat.lt_succ_of_lt (lt2 _ _ (N q hq).1))
  · intro q hq
    exact Nat.ne_of_lt (lt2 _ _ (N q hq).1)

theorem eqInts {a b : Addr} {xs ys : List Value} {ns ms : List Int} {n k : Nat} {r : Bool} {news : List (Addr × Obj)} {Q : Value → Shared → Prop} (N : News h₀ L s.heap news) (ha : (a, W.listOf xs.toArray n) ∈ news) (hb : (b, W.listOf ys.toArray k) ∈ news) (hi : IntsAre xs ns) (hj : IntsAre ys ms)
    (hr : decide (ns = ms) = r) (hu : A.units + 64 < cLine) (h : Q (.bool r) s) : wpAny (model prog w) A (compareOp .Eq (.ref a) (.ref b)) Q E s :=
  ke_eq_ints (News.isList N ha) (News.isList N hb) hi hj hu (by rw [hr]; exact h)
theorem neInts {a b : Addr} {xs ys : List Value} {ns ms : List Int} {n k : Nat} {r : Bool} {news : List (Addr × Obj)} {Q : Value → Shared → Prop} (N : News h₀ L s.heap news) (ha : (a, W.listOf xs.toArray n) ∈ news) (hb : (b, W.listOf ys.toArray k) ∈ news) (hi : IntsAre xs ns) (hj : IntsAre ys ms)
    (hr : (!decide (ns = ms)) = r) (hu : A.units + 64 < cLine) (h : Q (.bool r) s) : wpAny (model prog w) A (compareOp .NotEq (.ref a) (.ref b)) Q E s :=
  ke_ne_ints (News.isList N ha) (News.isList N hb) hi hj hu (by rw [hr]; exact h)

theorem eqPair {a b : Addr} {x1 x2 y1 y2 : Value} {n k : Nat} {news : List (Addr × Obj)} {Q : Value → Shared → Prop} (N : News h₀ L s.heap news) (ma : (a, ({ cls := .type "tuple", data := .seq #[x1, x2] n } : Obj)) ∈ news) (mb : (b, ({ cls := .type "tuple", data := .seq #[y1, y2] k } : Obj)) ∈ news)
    (h1 : SeqAt.EqAt A.in1 s x1 y1 true) (h2 : SeqAt.EqAt A.in1 s x2 y2 true) (hu : A.units < cLine) (h : Q (.bool true) s) : wpAny (model prog w) A (compareOp .Eq (.ref a) (.ref b)) Q E s := by
  have h' := SeqAt.eq_tupleAt (prog := prog) (w := w) (A := A) (E := E) (Q := Q) (e := fun _ => true) (s := s) (l := a) (b := b) (items := #[x1, x2]) (items2 := #[y1, y2]) ⟨_, (N _ ma).1, rfl, _, rfl⟩ ⟨_, (N _ mb).1, rfl, _, rfl⟩ hu (fun j h1' h2' => by
    match j, h1', h2' with
    | 0, _, _ => exact h1
    | 1, _, _ => exact h2)
  exact h' h
theorem eqAt_int {A : Around} {s : Shared} {a : Int} {t u : Tok} : SeqAt.EqAt A s (.int a t) (.int a u) true := by
  have h := (MeetsSeq.EqGives.int a a t u).at A s
  rw [beq_self_eq_true] at h
  exact h
theorem ints_last : ∀ {ns : List Int} {c : Int} {ys : List Value}, IntsAre ys (ns ++ [c]) → ∃ zs t, ys = zs ++ [.int c t] ∧ zs.length = ns.length
  | [], c, _, .cons _ t .nil => ⟨[], t, rfl, rfl⟩
  | n :: ns, c, _, .cons _ t r =>
    let ⟨zs, u, e, hl⟩ := ints_last (ns := ns) r
    ⟨.int n t :: zs, u, by rw [e]; rfl, by rw [List.length_cons, hl]; rfl⟩
theorem last_item {zs : List Value} {v : Value} : (zs ++ [v])[(((zs ++ [v]).length : Int) - 1).toNat]? = some v := by
  have e : (((zs ++ [v]).length : Int) - 1).toNat = zs.length := by simp only [List.length_append, List.length_cons, List.length_nil]; omega
  rw [e]; simp
end

local macro_rules | `(tactic| walk_at "EEnd") => `(tactic| refine Stop.out ?_)
local macro_rules | `(tactic| walk_at "call type:enumerate") => `(tactic| refine Stop.out ?_)
local macro_rules | `(tactic| walk_at "call ref") => `(tactic| (k_here; (with_reducible show wpAny _ _ (call (Value.ref 84) _) _ _ _); refine Stop.out ?_))
local macro_rules | `(tactic| walk_at "compareOp NotEq ref ref") => `(tactic| refine Stop.out ?_)
local macro_rules | `(tactic| walk_at "subscriptTail Name BinOp ref int") => `(tactic| (k_here; (with_reducible show wpAny _ _ (subscriptTail _ _ (Value.ref _) (Value.int _ _)) _ _ _); k_dflt (refine' itemL ?N ?m ?hx ?h0 ?z ?_ ?hs; (case N => k_asm); (case m => k_mem); (case hx => assumption); (case hs => with_unfolding_all rfl); (case h0 => (simp only [List.length_cons, List.length_nil] at *; omega)); (case z => (simp only [List.length_cons, List.length_nil] at *; omega)); k_whole)))

def selIx (p : RowD → Bool) (rs : List RowD) : List Nat := (List.range rs.length).filter fun i => (rs[i]?).any p
theorem selIx_cons (p : RowD → Bool) (r : RowD) (rs : List RowD) : selIx p (r :: rs) = (if p r then [0] else []) ++ (selIx p rs).map (· + 1) := by
  unfold selIx
  rw [List.length_cons, List.range_succ_eq_map, List.filter_cons, List.filter_map]
  have e : ((fun i => (((r :: rs)[i]?).any p)) ∘ Nat.succ) = fun i => (rs[i]?).any p := by
    funext i; simp
  rw [e]
  cases h : p r with
  | true => simp [h]
  | false => simp [h]
theorem last_ix (p : RowD → Bool) : ∀ rs : List RowD, (lastIx p rs = none ∧ selIx p rs = []) ∨ ∃ k init, lastIx p rs = some k ∧ selIx p rs = init ++ [k]
  | [] => .inl ⟨rfl, rfl⟩
  | r :: rs => by
    rw [selIx_cons, lastIx]
    rcases last_ix p rs with ⟨h1, h2⟩ | ⟨k, init, h1, h2⟩
    · rw [h1, h2]
      cases h : p r with
      | true => exact .inr ⟨0, [], rfl, rfl⟩
      | false => exact .inl ⟨rfl, rfl⟩
    · rw [h1, h2]
      refine .inr ⟨k + 1, (if p r then [0] else []) ++ init.map (· + 1), rfl, ?_⟩
      rw [List.map_append, List.append_assoc]; rfl
theorem any_get {p : RowD → Bool} {rs : List RowD} {i : Nat} (hi : i < rs.length) : (rs[i]?).any p = p rs[i] := by
  rw [List.getElem?_eq_getElem hi]; rfl
theorem lastIx_imp {p q : RowD → Bool} (h : ∀ r, p r = true → q r = true) : ∀ {rs : List RowD} {k : Nat}, lastIx p rs = some k → ∃ j, lastIx q rs = some j
  | [], k, e => by cases e
  | r :: rs, k, e => by
    rw [lastIx] at e ⊢
    cases h1 : lastIx p rs with
    | some i =>
      obtain ⟨j, hj⟩ := lastIx_imp h h1
      rw [hj]; exact ⟨_, rfl⟩
    | none =>
      rw [h1] at e
      cases h2 : lastIx q rs with
      | some j => exact ⟨_, rfl⟩
      | none =>
        cases h3 : p r with
        | false => simp [h3] at e
        | true => exact ⟨0, by simp [h r h3]⟩
section
variable {x dx tl rl : Addr} {κ : Nat → Tok} {g cap ins gone sz : Int} {t1 t2 t4 t5 tg ta tb : Tok} {n n2 : Nat} {vs ws : List Value} {rs : List RowD} {news : List (Addr × Obj)}
set_option maxRecDepth 100000 in
set_option maxHeartbeats 4000000 in
theorem found_does (w : World) (mean : ExcName → Option Value) (mg mb : Str → Option Value) {r : RowD} (hI : RowsIn news vs rs) (hJ : RowsIn news ws rs) (hlen : rs.length ≤ 20) (hins : ins - vs.length = gone) (hg0 : 0 ≤ gone) (hg1 : gone ≤ 100)
    (hm1 : (x, instObj 87 dx) ∈ news) (hm2 : (dx, dictOf (tabE w κ g t1 cap t2 tl ins t4 sz t5) 5) ∈ news) (hm3 : (tl, listOf vs.toArray n) ∈ news) (hm4 : (rl, listOf ws.toArray n2) ∈ news) :
    Does w mean mg mb 120 4 [.ref x, .int gone tg, .ref rl, .bytes r.1 ta, .bytes r.2 tb] news (fun v news' => news' = news ∧ v = .bool true) := by
  have hl := hI.length
  have hl2 := hJ.length
  unfold Does
  w_top off
  k_fill
  intro dp un gd cn cs a ccd cl outer A₀ base h₀ L m s Q E B F X N T hk hdp hu hret
  k_with_none
  refine wpAny_call ?_
  k_dflt cell_enter
  k_steps
  refine Stop.on ?_
  k_dflt (refine assign_enum (by k_asm) (by rfl) (by with_unfolding_all rfl) (by with_unfolding_all rfl) (by decide) (by rfl) (by decide) (by rfl) (by rfl) (by decide) (by rfl) (by rfl) ?_)
  k_steps
  refine Stop.on ?_
  k_dflt (refine enum_src (fun i => (rs[i]?).any fun q => decide (q.1 = r.1 ∧ q.2 = r.2)) (fun i => gone + (i : Int)) (by rfl) (by k_asm) (by k_asm) (vs := ws) (by k_mem) (by omega) ?_ ?_)
  · intro H
    intro i v t I oI J oJ C oC D m₂ ys h tk E' hv hC ha hb F' N'
    obtain ⟨hi, rfl⟩ := List.getElem?_eq_some_iff.mp hv
    have hir : i < rs.length := by omega
    obtain ⟨a9, w1, w2, n9, e9, hm9⟩ := hJ.get hir
    have e10 : ws[i] = .ref a9 := by rw [List.getElem?_eq_getElem hi] at e9; exact Option.some.inj e9
    rw [e10] at hb
    k_steps
    · refine Stop.on ?_
      rename News _ _ _ _ => lN
      rename _ ∧ _ = r.2 => hw
      exact ⟨_, _, rfl, (by assumption), kst_newsOf lN (fun q hq => by kst_mem), (any_get hir).trans (decide_eq_true hw), _, rfl⟩
    · refine Stop.on ?_
      rename News _ _ _ _ => lN
      rename ¬ _ => hw
      exact ⟨_, _, rfl, (by assumption), kst_newsOf lN (fun q hq => by kst_mem), (any_get hir).trans (decide_eq_false hw)⟩
  · intro D h tk ys F' N' hlt hys
    rw [hl2] at hys
    change IntsAre ys ((selIx (fun q => decide (q.1 = r.1 ∧ q.2 = r.2)) rs).map (fun i : Nat => gone + (i : Int))) at hys
    k_steps
    refine Stop.on ?_
    k_dflt (refine assign_enum (by k_asm) (by rfl) (by with_unfolding_all rfl) (by with_unfolding_all rfl) (by decide) (by rfl) (by decide) (by rfl) (by rfl) (by decide) (by rfl) (by rfl) ?_)
    k_steps
    refine Stop.on ?_
    k_dflt (refine enum_src (fun i => (rs[i]?).any fun q => decide (q.1 = r.1)) (fun i => gone + (i : Int)) (by rfl) (by k_asm) (by k_asm) (vs := ws) (by k_mem) (by omega) ?_ ?_)
    · intro H
      intro i v t I oI J oJ C oC D m₂ ys h tk E' hv hC ha hb F' N'
      obtain ⟨hi, rfl⟩ := List.getElem?_eq_some_iff.mp hv
      have hir : i < rs.length := by omega
      obtain ⟨a9, w1, w2, n9, e9, hm9⟩ := hJ.get hir
      have e10 : ws[i] = .ref a9 := by rw [List.getElem?_eq_getElem hi] at e9; exact Option.some.inj e9
      rw [e10] at hb
      k_steps
      · refine Stop.on ?_
        rename News _ _ _ _ => lN
        rename _ = r.1 => hw
        exact ⟨_, _, rfl, (by assumption), kst_newsOf lN (fun q hq => by kst_mem), (any_get hir).trans (decide_eq_true hw), _, rfl⟩
      · refine Stop.on ?_
        rename News _ _ _ _ => lN
        rename ¬ _ => hw
        exact ⟨_, _, rfl, (by assumption), kst_newsOf lN (fun q hq => by kst_mem), (any_get hir).trans (decide_eq_false hw)⟩
    · intro D2 h2 tk2 ys2 F2 N2 hlt2 hys2
      rw [hl2] at hys2
      change IntsAre ys2 ((selIx (fun q => decide (q.1 = r.1)) rs).map (fun i : Nat => gone + (i : Int))) at hys2
      k_steps
      refine Stop.on ?_
      k_dflt (refine' does_use (find_does (r := r) w mean mg mb (vs := vs) (rs := rs) (by omega) (hI.mono ?sub) ?m1 ?m2 ?m3) ?k1 ?k2 ?k3 ?k4 ?k5 ?kK ?kd ?ku ?_)
      case k1 => k_asm
      case k2 => k_asm
      case k3 => k_asm
      case k4 => k_asm
      case k5 => k_asm
      case m1 => k_mem
      case m2 => k_mem
      case m3 => k_mem
      case sub => intro q hq; kst_mem
      case kK => first | exact rfl | assumption
      case kd => ktr_room
      case ku => ktr_units
      rintro v news' h' tk' ⟨q, kq, u1, u2, rfl, hq, rfl⟩ F3 N3
      rw [hins] at N3
      rcases last_ix (fun q => decide (q.1 = r.1 ∧ q.2 = r.2)) rs with ⟨f1, s1⟩ | ⟨k1, init1, f1, s1⟩
      · rw [s1] at hys
        rw [f1] at N3
        rcases last_ix (fun q => decide (q.1 = r.1)) rs with ⟨f2, s2⟩ | ⟨k2, init2, f2, s2⟩
        · rw [s2] at hys2
          rw [f2] at N3
          dsimp only [ixOf, optV, Option.map_none, List.map_nil] at N3 hys hys2
          try dsimp only
          k_steps
          refine Stop.on ?_
          k_dflt (refine' eqInts (xs := ys) (ys := []) ?N1 ?ma1 ?mb1 hys .nil (r := true) (by rfl) ?hu1 ?_)
          case N1 => k_asm
          case ma1 => k_mem
          case mb1 => k_mem
          case hu1 => ktr_units
          k_steps
          refine Stop.on ?_
          k_dflt (refine' neInts (xs := ys2) (ys := []) ?N2 ?ma2 ?mb2 hys2 .nil (r := false) (by rfl) ?hu2 ?_)
          case N2 => k_asm
          case ma2 => k_mem
          case mb2 => k_mem
          case hu2 => ktr_units
          k_steps
          refine Stop.on ?_
          k_dflt (refine' eqPair ?N3 ?ma3 ?mb3 (SeqAt.EqAt.same _) (SeqAt.EqAt.same _) ?hu3 ?_)
          case N3 => k_asm
          case ma3 => k_mem
          case mb3 => k_mem
          case hu3 => ktr_units
          k_steps
          rename News h₀ _ _ _ => lN
          exact hret _ _ _ _ ⟨rfl, rfl⟩ (by assumption) (kst_newsOf lN (fun p hp => by kst_mem))
        · rw [s2, List.map_append] at hys2
          rw [f2] at N3
          dsimp only [ixOf, optV, Option.map_none, Option.map_some, List.map_nil, List.map_cons] at N3 hys hys2
          have hll2 := hys2.length
          have hlf2 : (selIx (fun q => decide (q.1 = r.1)) rs).length ≤ rs.length := by
            have := List.length_filter_le (fun i => (rs[i]?).any fun q => decide (q.1 = r.1)) (List.range rs.length)
            simpa [selIx] using this
          rw [s2] at hlf2
          simp only [List.length_append, List.length_map] at hll2 hlf2
          obtain ⟨zs2, tz2, ez2, hz2⟩ := ints_last hys2
          have hx2 := last_item (zs := zs2) (v := .int (gone + (k2 : Int)) tz2)
          rw [← ez2] at hx2
          try dsimp only
          k_steps
          refine Stop.on ?_
          k_dflt (refine' eqInts (xs := ys) (ys := []) ?N1 ?ma1 ?mb1 hys .nil (r := true) (by rfl) ?hu1 ?_)
          case N1 => k_asm
          case ma1 => k_mem
          case mb1 => k_mem
          case hu1 => ktr_units
          k_steps
          refine Stop.on ?_
          k_dflt (refine' neInts (xs := ys2) (ys := []) ?N2 ?ma2 ?mb2 hys2 .nil (r := true) (by simp) ?hu2 ?_)
          case N2 => k_asm
          case ma2 => k_mem
          case mb2 => k_mem
          case hu2 => ktr_units
          k_steps
          refine Stop.on ?_
          k_dflt (refine' eqPair ?N3 ?ma3 ?mb3 (SeqAt.EqAt.same _) eqAt_int ?hu3 ?_)
          case N3 => k_asm
          case ma3 => k_mem
          case mb3 => k_mem
          case hu3 => ktr_units
          k_steps
          rename News h₀ _ _ _ => lN
          exact hret _ _ _ _ ⟨rfl, rfl⟩ (by assumption) (kst_newsOf lN (fun p hp => by kst_mem))
      · obtain ⟨k2', f2'⟩ := lastIx_imp (q := fun q => decide (q.1 = r.1)) (fun q hq => decide_eq_true (of_decide_eq_true hq).1) f1
        rcases last_ix (fun q => decide (q.1 = r.1)) rs with ⟨f2, s2⟩ | ⟨k2, init2, f2, s2⟩
        · rw [f2] at f2'; cases f2'
        · rw [s1, List.map_append] at hys
          rw [s2, List.map_append] at hys2
          rw [f1, f2] at N3
          dsimp only [ixOf, optV, Option.map_none, Option.map_some, List.map_nil, List.map_cons] at N3 hys hys2
          have hll1 := hys.length
          have hlf1 : (selIx (fun q => decide (q.1 = r.1 ∧ q.2 = r.2)) rs).length ≤ rs.length := by
            have := List.length_filter_le (fun i => (rs[i]?).any fun q => decide (q.1 = r.1 ∧ q.2 = r.2)) (List.range rs.length)
            simpa [selIx] using this
          rw [s1] at hlf1
          have hll2 := hys2.length
          have hlf2 : (selIx (fun q => decide (q.1 = r.1)) rs).length ≤ rs.length := by
            have := List.length_filter_le (fun i => (rs[i]?).any fun q => decide (q.1 = r.1)) (List.range rs.length)
            simpa [selIx] using this
          rw [s2] at hlf2
          simp only [List.length_append, List.length_map] at hll2 hlf2 hll1 hlf1
          obtain ⟨zs1, tz1, ez1, hz1⟩ := ints_last hys
          have hx1 := last_item (zs := zs1) (v := .int (gone + (k1 : Int)) tz1)
          rw [← ez1] at hx1
          obtain ⟨zs2, tz2, ez2, hz2⟩ := ints_last hys2
          have hx2 := last_item (zs := zs2) (v := .int (gone + (k2 : Int)) tz2)
          rw [← ez2] at hx2
          try dsimp only
          k_steps
          refine Stop.on ?_
          k_dflt (refine' eqInts (xs := ys) (ys := []) ?N1 ?ma1 ?mb1 hys .nil (r := false) (by simp) ?hu1 ?_)
          case N1 => k_asm
          case ma1 => k_mem
          case mb1 => k_mem
          case hu1 => ktr_units
          k_steps
          all_goals
            rw [beq_self_eq_true]
            rename News h₀ _ _ _ => lN
            exact hret _ _ _ _ ⟨rfl, rfl⟩ (by assumption) (kst_newsOf lN (fun p hp => by kst_mem))
end

local macro_rules | `(tactic| walk_at "exec For Name Subscript cons nil") => `(tactic| (k_here; (rename Fr _ _ _ _ => lF'); (with_unfolding_all refine' For_invVF lF' ?k1 ?k2 ?_; (case k1 => exact rfl); (case k2 => exact rfl); k_whole)))

theorem ne_of_lt2 {a b : Nat} (h : a < b) : @Ne Nat b a := fun e => absurd h (by rw [e]; exact Nat.lt_irrefl _)
theorem news_two {h₀ h : Heap} {L : Addr} {a b c d : Addr × Obj} {news : List (Addr × Obj)} (N : News h₀ L h (a :: b :: c :: d :: news)) : News h₀ L h (a :: b :: news) := fun p hp => by
  rcases List.mem_cons.mp hp with rfl | hp
  · exact N _ (.head _)
  rcases List.mem_cons.mp hp with rfl | hp
  · exact N _ (.tail _ (.head _))
  · exact N _ (.tail _ (.tail _ (.tail _ (.tail _ hp))))
set_option maxRecDepth 100000 in
set_option maxHeartbeats 4000000 in
theorem box_does (w : World) (mean : ExcName → Option Value) (mg mb : Str → Option Value) {sc : Addr} {vs : List Value} {ns : List Int} {news : List (Addr × Obj)}
    (dp un : Nat) (gd : Option (List Code)) (cn : Str) (cs : Scope) (a : Addr) (ccd : Value) (cl : List (Str × Addr)) (outer : List Env) (A₀ : Around) (base h₀ : Heap) (L : Addr) (m : Str → Option Value) (s : Shared) (Q E : Value → Shared → Prop)
    (B : Below A₀ base outer h₀) (F : Fr h₀ L s.heap m) (X : (hd.heap_39 w.params).In h₀) (N : News h₀ L s.heap news) (T : Top hd.view_39 (looseW hd.view_39 []) mean mg mb h₀) (hk : cs.kind = .function) (hdp : dp + 1 < recursionLimit) (hu : un + 8 * 1 + 80 < cLine)
    (hS : base.IsList sc vs.toArray) (hi : IntsAre vs ns) (hlen : ns.length ≤ 63)
    (hret : ∀ bx bl st t n1 n2 vs' ns' h' tk', 0 ≤ st → st < 2147483647 → IntsAre vs' ns' → ns'.length ≤ 24 → @Ne Nat bx bl → (∀ p ∈ news, p.1 < bx) → (∀ p ∈ news, p.1 < bl) → Fr h₀ L h' m →
      News h₀ L h' ((bx, listOf #[.ref bl, .int st t] n1) :: (bl, listOf vs'.toArray n2) :: news) → Q (.ref bx) { s with heap := h', toks := tk' }) :
    wpAny (model PySem.Challenge.rw_no0053_01.row.prog w) (ktrTop dp un gd cn cs L a ccd cl outer) (call (.ref 105) [.ref sc]) Q E s := by
  w_top off
  revert X; k_fill; intro X
  k_with_none
  refine wpAny_call ?_
  k_dflt cell_enter
  k_steps
  refine Stop.on ?_
  rename News _ _ _ _ => lN
  rename Fr _ _ _ _ => lF
  rename IntsAre _ (List.take 24 ns) => hI1
  rename ∀ p ∈ news, p.1 < _ => l1
  refine kst_listL (σ := Int × Tok) (fun _ => (_, listOf _ 0) :: news) (fun c => [(Str.ofString "stirred", Value.int c.1 c.2)]) (fun _ => True) [] (fun _ c => 0 ≤ c.1 ∧ c.1 < 2147483647) (83, ?tk0) rfl (fun _ => .head _) hI1 lF lN trivial ?hk0 ?hp0 ?turn ?done
  case hk0 => kst_all
  case hp0 => exact ⟨by show (0 : Int) ≤ 83; decide, by show (83 : Int) < 2147483647; decide⟩
  case turn =>
    clear lF lN
    rintro ⟨st, tb⟩ pre post k t u h tk own - hk9 hoff - ⟨p1, p2⟩ F' N'
    dsimp only at p1 p2
    try k_fold
    k_steps
    refine Stop.on ?_
    rename News _ _ _ _ => lN
    refine kst_end (?st2, ?tk2) (by assumption) lN (fun p hp => List.mem_append.mpr (.inl hp)) (fun p hp => List.mem_append.mpr (.inr hp)) rfl trivial ?hkA ?hrA ?hpA
    case hkA => kst_all
    case hrA =>
      intro z h1 h2 h3
      simp only [List.forall_mem_cons, List.not_mem_nil, false_implies, implies_true, and_true, ne_eq] at h2
      simp [h1, h2, kstB]
    case hpA => exact fmod_in _ (by decide)
  case done =>
    clear lF lN
    rintro ⟨st, tb⟩ u h tk - ⟨p1, p2⟩ F' N'
    dsimp only at p1 p2
    try dsimp only
    k_steps
    rename _ ∧ _ ∧ _ ∧ AllLt _ _ => q1
    rename _ ∧ _ ∧ AllLt _ _ => q2
    rename News h₀ _ _ _ => lN
    rename IntsAre _ _ => hI2
    exact hret _ _ st _ _ _ _ _ _ _ p1 p2 hI2 (by omega) (ne_of_lt2 q1.1) (allLt_mem q1.2.2.2) (allLt_mem q2.2.2) (by assumption) (news_two lN)

local macro_rules | `(tactic| walk_at "call ref") => `(tactic| (k_here; (with_reducible show wpAny _ _ (call (Value.ref 98) _) _ _ _); refine Stop.out ?_))
local macro_rules | `(tactic| walk_at "call ref") => `(tactic| (k_here; (with_reducible show wpAny _ _ (call (Value.ref 105) _) _ _ _); refine Stop.out ?_))
local macro_rules | `(tactic| walk_at "call ref") => `(tactic| (k_here; (with_reducible show wpAny _ _ (call (Value.ref 70) _) _ _ _); refine Stop.out ?_))
local macro_rules | `(tactic| walk_at "call ref") => `(tactic| (k_here; (with_reducible show wpAny _ _ (call (Value.ref 77) _) _ _ _); refine Stop.out ?_))
local macro_rules | `(tactic| walk_at "call ref") => `(tactic| (k_here; (with_reducible show wpAny _ _ (call (Value.ref 115) _) _ _ _); refine Stop.out ?_))
local macro_rules | `(tactic| walk_at "call ref") => `(tactic| (k_here; (with_reducible show wpAny _ _ (call (Value.ref 120) _) _ _ _); refine Stop.out ?_))
local macro_rules | `(tactic| walk_at "MyOffs") => `(tactic| (((try simp only [List.forall_mem_cons, List.forall_mem_append, List.not_mem_nil, false_implies, implies_true, and_true]) <;> (repeat' apply And.intro)) <;> first | assumption | exact Ne.symm (by assumption) | (exact ne_of_lt2 (by assumption)) | exact Ne.symm (ne_of_lt2 (by assumption)) | omega))
local macro_rules | `(tactic| walk_at "MyTake") => `(tactic| (refine Stop.on ?_; k_dflt (refine' does_use (take_does _ _ _ _ ?hk0 ?hk1 ?hi ?h0 ?h1 ?hne ?hr1 ?hr2 ?hlen) ?k1 ?k2 ?k3 (kst_newsOf ?k4 ?sub) ?k5 ?kK ?kd ?ku ?_); (case hr1 => assumption); (case k1 => k_asm); (case k2 => k_asm); (case k3 => k_asm); (case k4 => k_asm); (case k5 => k_asm); (case kK => first | exact rfl | assumption); (case kd => ktr_room); (case ku => ktr_units); (case hk0 => decide); (case hk1 => decide); (case hi => assumption); (case sub => (intro p hp; kst_mem)); (case h0 => assumption); (case h1 => assumption); (case hne => walk_at "MyOffs"); (case hr2 => assumption); (case hlen => assumption)))
local macro_rules | `(tactic| walk_at "MyTakeN") => `(tactic| (refine Stop.on ?_; k_dflt (refine' does_use (take_does _ _ _ _ ?hk0 ?hk1 ?hi ?h0 ?h1 ?hne ?hr1 ?hr2 ?hlen) ?k1 ?k2 ?k3 (kst_newsOf ?k4 ?sub) ?k5 ?kK ?kd ?ku ?_); (case k4 => k_asm); (case sub => assumption); (case k1 => k_asm); (case k2 => k_asm); (case k3 => k_asm); (case k5 => k_asm); (case kK => first | exact rfl | assumption); (case kd => ktr_room); (case ku => ktr_units); (case hk0 => decide); (case hk1 => decide); (case hi => assumption); (case h0 => assumption); (case h1 => assumption); (case hne => walk_at "MyOffs"); (case hr1 => walk_at "MyOffs"); (case hr2 => walk_at "MyOffs"); (case hlen => assumption)))

theorem sub_a {h₀ h : Heap} {L : Addr} {D r t x d b1 b2 : Addr × Obj} (_N : News h₀ L h (D :: r :: t :: x :: d :: b1 :: b2 :: [])) : ∀ p ∈ b1 :: b2 :: x :: d :: t :: r :: [], p ∈ D :: r :: t :: x :: d :: b1 :: b2 :: [] := by
  intro p hp
  simp only [List.mem_cons, List.not_mem_nil, or_false] at hp ⊢
  rcases hp with h | h | h | h | h | h <;> simp [h]
theorem kstB_self {m₁ : Str → Option Value} {ps : List (Str × Value)} (h : ∀ p ∈ ps, m₁ p.1 = some p.2) : kstB m₁ ps = m₁ := funext fun _ => kstB_eq h fun _ => rfl
section
variable {prog : Program} {w : World} {A : Around} {E : Value → Shared → Prop} {s : Shared} {env : Env} {h₀ : Heap} {x : Str} {body : List Stmt} {Q : Flow → Shared → Prop}
theorem my_range {r : Addr} {b₀ : Int} {t₀ u₀ v₀ : Tok} {n : Nat} {m₀ : Str → Option Value} {news : List (Addr × Obj)} (J : Nat → (Str → Option Value) → List (Addr × Obj) → Prop)
    (hh : A.handled = none) (hr : IsRange s.heap r 0 b₀ 1 t₀ u₀ v₀) (hsmall : Builtin.Range.small 0 b₀ 1 = true) (hsz : Builtin.Range.rangeSize 0 b₀ 1 = (n : Int)) (F : Fr h₀ env.locals s.heap m₀) (N : News h₀ env.locals s.heap news) (hj : J 0 m₀ news)
    (turn : ∀ (i : Nat) t m₁ nx h tk own, i < n → OwnOff own (nx.map (·.1)) → J i m₁ nx → (∀ ps, (∀ p ∈ ps, m₁ p.1 = some p.2) → Fr h₀ env.locals h (fun y => if y = x then some (.int (i : Int) t) else kstB m₁ ps y)) → News h₀ env.locals h (nx ++ own) →
      wpAny (model prog w) A (execs body env) (InvPostG h₀ env.locals (J (i + 1)) own { s with heap := h, toks := tk } Q) E { s with heap := h, toks := tk })
    (done : ∀ m₁ nx h tk, J n m₁ nx → Fr h₀ env.locals h m₁ → News h₀ env.locals h nx → Q .next { s with heap := h, toks := tk }) :
    wpAny (model prog w) A (pyIter (.ref r)) (fun it s₂ => LoopAtV prog w A h₀ env x body Q E it s₂) E s := by
  refine wpAny_pyIter_range hr hsmall ?_
  have W : Walks prog w A s.heap.objs.size [s.heap.objs.size] [s.heap.objs.size] n (fun i v => i < n ∧ ∃ t, v = .int (0 + i * 1) t)
      (fun i h => IsRangeIter h s.heap.objs.size (0 + (i : Nat) * 1) ((n : Int) - (i : Nat)) 1) := (Walks.range hh _ 0 1 n).bound
  refine kdr_loop J W (fun _ h => h) (fun _ h => h) ?_ ?_ ?_ ?_ (by show IsRangeIter _ _ _ _ _; rw [hsz]; simpa using Heap.get?_push_size _ rfl) (F.push _) (fun p hp => ⟨Heap.get?_push_of_some _ (N p hp).1, (N p hp).2⟩) hj ?_ ?_
  · intro i h hi b hb
    rw [List.mem_singleton.mp hb]
    exact ⟨_, hi⟩
  · intro hm
    exact absurd F.ns.lt ((List.mem_singleton.mp hm) ▸ Nat.lt_irrefl _)
  · intro b hb
    rw [List.mem_singleton.mp hb]
    exact next_is_new F
  · intro p hp hI
    exact absurd (Heap.lt_size (N p hp).1) ((List.mem_singleton.mp hI) ▸ Nat.lt_irrefl _)
  · rintro i v m₁ nx h tk own hi ⟨_, t, rfl⟩ hoff hJ F₁ N₁
    have e1 : (0 : Int) + (i : Int) * 1 = (i : Int) := by omega
    rw [e1] at F₁
    exact turn i t m₁ nx h tk own hi hoff hJ (fun ps hps => by rw [kstB_self hps]; exact F₁) N₁
  · rintro m₁ nx h tk hJ F₁ N₁
    exact done m₁ nx h tk hJ F₁ N₁
end
section
variable {prog : Program} {w : World} {A : Around} {E : Value → Shared → Prop} {s : Shared} {h₀ : Heap} {L l : Addr} {m : Str → Option Value} {news : List (Addr × Obj)} {value slice : PySem.Expr} {vs : List Value} {Q : Value → Shared → Prop}
theorem pick_one (h : 1 ≤ vs.length) : slicePick vs.toArray (some 1) none none = (vs.drop 1).toArray := by
  have e : sliceBounds (some 1) none none vs.toArray.size = (((1 : Nat) : Int), ((vs.toArray.size : Nat) : Int), 1) := by
    simp only [sliceBounds, Option.getD_none, show (1 : Int) > 0 by decide, if_true, if_neg (show ¬ ((1 : Int) < 0) by omega), List.size_toArray]
    congr 1
    omega
  rw [kmk_pick_nat _ e]
  show ((vs.drop 1).take (vs.toArray.size - 1)).toArray = _
  rw [List.size_toArray, List.take_of_length_le (by rw [List.length_drop]; omega)]
theorem drop1 {n : Nat} {t : Tok} (F : Fr h₀ L s.heap m) (N : News h₀ L s.heap news) (hm : (l, listOf vs.toArray n) ∈ news) (h1 : 1 ≤ vs.length) (hz : vs.length ≤ 1000)
    (h : ∀ D h', Fr h₀ L h' m → News h₀ L h' ((D, listOf (vs.drop 1).toArray 0) :: news) → (∀ p ∈ news, p.1 < D) → Q (.ref D) { s with heap := h' })
    (hs : subscripted slice false (.ref l) (.ref s.heap.objs.size) = operate [.ref s.heap.objs.size, .ref l] (getItem (.ref l) (.ref s.heap.objs.size))) (ht : ∀ r, letTemporaryGo value (.ref l) r = pure ()) :
    wpAny (model prog w) A (subscriptTail value slice (.ref l) (.ref s.heap.objs.size)) Q E { s with heap := s.heap.push { cls := .type "slice", data := .fields #[.int 1 t, .none, .none] } } := by
  refine kmk_slice F N (News.isList N hm) (IsPart.int _ _) IsPart.none (fun D h' F' N' l1 => h D h' F' ?_ l1) hs ht (by rw [List.size_toArray, sizeLine_eq]; omega)
  rw [pick_one h1] at N'
  exact N'
end
def needO : Option RowD → Int
  | none => 0
  | some r => rowSz r
abbrev namesL (G : Int) (x bx rl : Addr) (tG : Tok) (gone : Int) (tg : Tok) (cap : Int) (tc : Tok) : List (Str × Value) :=
  [(Str.ofString "box", .ref bx), (Str.ofString "greatest", .int G tG), (Str.ofString "table", .ref x), (Str.ofString "gone", .int gone tg), (Str.ofString "rows", .ref rl), (Str.ofString "capacity", .int cap tc)]
abbrev ledL (w : World) (κ : Nat → Tok) (G : Int) (t1 : Tok) (x dx tl bx bl : Addr) (st : Int) (ts : Tok) (n1 : Nat) (bvs : List Value) (n2 : Nat) (cap : Int) (t2 : Tok) (ins : Int) (t4 : Tok) (sz : Int) (t5 : Tok) (vs : List Value) (n3 : Nat) (rl : Addr) (ws : List Value) (n4 : Nat) (R : List (Addr × Obj)) : List (Addr × Obj) :=
  (bx, listOf #[.ref bl, .int st ts] n1) :: (bl, listOf bvs.toArray n2) :: (x, instObj 87 dx) :: (dx, dictOf (tabE w κ G t1 cap t2 tl ins t4 sz t5) 5) :: (tl, listOf vs.toArray n3) :: (rl, listOf ws.toArray n4) :: R
inductive LawInv (w : World) (κ : Nat → Tok) (G : Int) (t1 tG : Tok) (x dx tl bx bl : Addr) (i : Nat) (m : Str → Option Value) : List (Addr × Obj) → Prop
  | mk {st : Int} {ts : Tok} {n1 : Nat} {bvs : List Value} {n2 : Nat} {bns : List Int} {cap : Int} {t2 t4 t5 : Tok} {gone : Int} {tg tc : Tok} {vs : List Value} {n3 : Nat} {rl : Addr} {ws : List Value} {n4 : Nat} {rs : List RowD} {R : List (Addr × Obj)}
    (hst0 : 0 ≤ st) (hst1 : st < 2147483647) (hbn : bns.length ≤ 24) (hbi : IntsAre bvs bns)
    (r1 : @Ne Nat rl bx) (r2 : @Ne Nat rl bl) (r3 : @Ne Nat rl x) (r4 : @Ne Nat rl dx) (r5 : @Ne Nat rl tl)
    (R1 : ∀ p ∈ R, p.1 ≠ bx) (R2 : ∀ p ∈ R, p.1 ≠ bl) (R3 : ∀ p ∈ R, p.1 ≠ x) (R4 : ∀ p ∈ R, p.1 ≠ dx) (R5 : ∀ p ∈ R, p.1 ≠ tl)
    (hI : RowsIn R vs rs) (hJ : RowsIn R ws rs) (hsm : ∀ r ∈ rs, Small r) (hsz : szOf rs ≤ cap) (hc0 : 0 ≤ cap) (hc1 : cap ≤ 200) (hg0 : 0 ≤ gone) (hgi : gone + rs.length ≤ i)
    (hks : ∀ p ∈ namesL G x bx rl tG gone tg cap tc, m p.1 = some p.2) :
    LawInv w κ G t1 tG x dx tl bx bl i m (ledL w κ G t1 x dx tl bx bl st ts n1 bvs n2 cap t2 (gone + rs.length) t4 (szOf rs) t5 vs n3 rl ws n4 R)
inductive Mid1 (w : World) (κ : Nat → Tok) (G : Int) (t1 tG : Tok) (x dx tl bx bl : Addr) (gone : Int) (tg : Tok) (vs : List Value) (rl : Addr) (ws : List Value) (n4 : Nat) (rs : List RowD) (W : List (Addr × Obj)) (m : Str → Option Value) : List (Addr × Obj) → Prop
  | mk {st : Int} {ts : Tok} {n1 : Nat} {bvs : List Value} {n2 : Nat} {bns : List Int} {cap : Int} {t2 t4 t5 : Tok} {tc tn : Tok} {vs' : List Value} {n3 : Nat} {o : Option RowD} {T : List (Addr × Obj)}
    (hst0 : 0 ≤ st) (hst1 : st < 2147483647) (hbn : bns.length ≤ 24) (hbi : IntsAre bvs bns)
    (R1 : ∀ p ∈ T, p.1 ≠ bx) (R2 : ∀ p ∈ T, p.1 ≠ bl) (R3 : ∀ p ∈ T, p.1 ≠ x) (R4 : ∀ p ∈ T, p.1 ≠ dx) (R5 : ∀ p ∈ T, p.1 ≠ tl) (R6 : ∀ p ∈ T, p.1 ≠ rl) (R7 : ∀ p ∈ T, ∀ q ∈ W, q.1 ≠ p.1)
    (hI : ∀ M, RowsIn M vs rs → RowsIn (T ++ M) vs' (fit (cap - needO o) rs ++ o.toList)) (hc0 : 0 ≤ cap) (hc1 : cap ≤ 200) (hn : needO o ≤ cap)
    (ho : ∀ r, o = some r → Small r ∧ ∃ ta tb, m (Str.ofString "name") = some (.bytes r.1 ta) ∧ m (Str.ofString "value") = some (.bytes r.2 tb))
    (hks : ∀ p ∈ (Str.ofString "needed", Value.int (needO o) tn) :: namesL G x bx rl tG gone tg cap tc, m p.1 = some p.2) :
    Mid1 w κ G t1 tG x dx tl bx bl gone tg vs rl ws n4 rs W m (ledL w κ G t1 x dx tl bx bl st ts n1 bvs n2 cap t2 (gone + rs.length + o.toList.length) t4 (szOf (fit (cap - needO o) rs ++ o.toList)) t5 vs' n3 rl ws n4 (T ++ W))
def MidP (h₀ : Heap) (L : Addr) (J : (Str → Option Value) → List (Addr × Obj) → Prop) (s₁ : Shared) (f : Flow) (s₂ : Shared) : Prop :=
  f = .next ∧ ∃ h' tk m' news', s₂ = { s₁ with heap := h', toks := tk } ∧ Fr h₀ L h' m' ∧ News h₀ L h' news' ∧ J m' news'
theorem MidP.intro {h₀ : Heap} {L : Addr} {J : (Str → Option Value) → List (Addr × Obj) → Prop} {s₁ : Shared} {h' : Heap} {tk : Nat} {m' : Str → Option Value} {news news' : List (Addr × Obj)} (F : Fr h₀ L h' m') (N : News h₀ L h' news) (hs : ∀ p ∈ news', p ∈ news) (hJ : J m' news') : MidP h₀ L J s₁ .next { s₁ with heap := h', toks := tk } :=
  ⟨rfl, h', tk, m', news', rfl, F, kst_newsOf N hs, hJ⟩
theorem mid_cut {prog : Program} {w : World} {A : Around} {E : Value → Shared → Prop} {s : Shared} {env : Env} {h₀ : Heap} {L : Addr} {st : Stmt} {rest : List Stmt} {Q : Flow → Shared → Prop} {m : Str → Option Value} (_F : Fr h₀ L s.heap m) (J : (Str → Option Value) → List (Addr × Obj) → Prop)
    (h1 : wpAny (model prog w) A (exec st env) (MidP h₀ L J s) E s)
    (h2 : ∀ h' tk m' news', Fr h₀ L h' m' → News h₀ L h' news' → J m' news' → wpAny (model prog w) A (execs rest env) Q E { s with heap := h', toks := tk }) :
    wpAny (model prog w) A (execs (st :: rest) env) Q E s := by
  refine wpAny_execs_cons (wpAny_mono h1 (fun f s' hq => ?_) fun _ _ x => x)
  obtain ⟨rfl, h', tk, m', news', rfl, F', N', hJ⟩ := hq
  exact h2 h' tk m' news' F' N' hJ
def κof (a b c d e : Tok) : Nat → Tok
  | 0 => a
  | 1 => b
  | 2 => c
  | 3 => d
  | _ => e
theorem start_of {w : World} {h₀ h : Heap} {L : Addr} {m : Str → Option Value} {nx : List (Addr × Obj)} {k0 k1 k2 k3 k4 t1 tG : Tok} {G : Int} {x dx tl bx bl : Addr} (_F : Fr h₀ L h m) (_N : News h₀ L h nx)
    (H : LawInv w (κof k0 k1 k2 k3 k4) G t1 tG x dx tl bx bl 0 m nx) : ∃ κ t1 tG, LawInv w κ G t1 tG x dx tl bx bl 0 m nx := ⟨_, _, _, H⟩
theorem sub_id {h₀ h : Heap} {L : Addr} {b1 b2 : Addr × Obj} {R : List (Addr × Obj)} (_N : News h₀ L h (b1 :: b2 :: R)) : ∀ p ∈ b1 :: b2 :: R, p ∈ b1 :: b2 :: R := fun _ hp => hp
theorem sub_c1 {h₀ h : Heap} {L : Addr} {D b1 b2 : Addr × Obj} {R : List (Addr × Obj)} (_N : News h₀ L h (D :: b1 :: b2 :: R)) : ∀ p ∈ b1 :: b2 :: D :: R, p ∈ D :: b1 :: b2 :: R := by
  intro p hp
  simp only [List.mem_cons] at hp ⊢
  rcases hp with h | h | h | h <;> simp [h]
theorem sub_set {h₀ h : Heap} {L : Addr} {b1 b2 x d t : Addr × Obj} {R : List (Addr × Obj)} (_N : News h₀ L h (b1 :: b2 :: x :: d :: t :: R)) : ∀ p ∈ x :: d :: t :: b1 :: b2 :: R, p ∈ b1 :: b2 :: x :: d :: t :: R := by
  intro p hp
  simp only [List.mem_cons] at hp ⊢
  rcases hp with h | h | h | h | h | h <;> simp [h]
theorem mid_none {w : World} {κ : Nat → Tok} {G : Int} {t1 tG : Tok} {x dx tl bx bl : Addr} {gone : Int} {tg : Tok} {vs : List Value} {rl : Addr} {ws : List Value} {n4 : Nat} {rs : List RowD} {W : List (Addr × Obj)} {m : Str → Option Value}
    {st : Int} {ts : Tok} {n1 : Nat} {bvs : List Value} {n2 : Nat} {bns : List Int} {cap : Int} {t2 t4 t5 : Tok} {tc tn : Tok} {vs' : List Value} {n3 : Nat}
    (hst0 : 0 ≤ st) (hst1 : st < 2147483647) (hbn : bns.length ≤ 24) (hbi : IntsAre bvs bns) (hM : ∀ M, RowsIn M vs rs → RowsIn M vs' (fit cap rs)) (hc0 : 0 ≤ cap) (hc1 : cap ≤ 200)
    (hks : ∀ p ∈ (Str.ofString "needed", Value.int 0 tn) :: namesL G x bx rl tG gone tg cap tc, m p.1 = some p.2) :
    Mid1 w κ G t1 tG x dx tl bx bl gone tg vs rl ws n4 rs W m (ledL w κ G t1 x dx tl bx bl st ts n1 bvs n2 cap t2 (gone + rs.length) t4 (szOf (fit cap rs)) t5 vs' n3 rl ws n4 W) := by
  have h := Mid1.mk (w := w) (bl := bl) (κ := κ) (t1 := t1) (dx := dx) (tl := tl) (W := W) (n4 := n4) (ws := ws) (vs := vs) (rs := rs) (o := none) (T := []) (ts := ts) (n1 := n1) (n2 := n2) (t2 := t2) (t4 := t4) (t5 := t5) (n3 := n3) (vs' := vs') hst0 hst1 hbn hbi (by simp) (by simp) (by simp) (by simp) (by simp) (by simp) (by simp) (by simpa [needO] using hM) hc0 hc1 hc0 (fun _ e => nomatch e) hks
  have e1 : cap - needO none = cap := Int.sub_zero _
  have e2 : gone + (rs.length : Int) + (((none : Option RowD).toList.length : Nat) : Int) = gone + rs.length := Int.add_zero _
  rw [e1, e2, Option.toList_none, List.append_nil] at h
  exact h
theorem mid_some {w : World} {κ : Nat → Tok} {G : Int} {t1 tG : Tok} {x dx tl bx bl : Addr} {gone : Int} {tg : Tok} {vs : List Value} {rl : Addr} {ws : List Value} {n4 : Nat} {rs : List RowD} {W : List (Addr × Obj)} {m : Str → Option Value}
    {st : Int} {ts : Tok} {n1 : Nat} {bvs : List Value} {n2 : Nat} {bns : List Int} {cap : Int} {t2 t4 t5 : Tok} {tc tn : Tok} {vs' : List Value} {n3 : Nat} {r : RowD} {q : Addr} {ta tb ua ub : Tok}
    (hst0 : 0 ≤ st) (hst1 : st < 2147483647) (hbn : bns.length ≤ 24) (hbi : IntsAre bvs bns) (q1 : @Ne Nat q bx) (q2 : @Ne Nat q bl) (q3 : @Ne Nat q x) (q4 : @Ne Nat q dx) (q5 : @Ne Nat q tl) (q6 : @Ne Nat q rl) (q7 : ∀ p ∈ W, p.1 ≠ q)
    (hM : ∀ M, RowsIn M vs rs → RowsIn M vs' (fit (cap - rowSz r) rs)) (hc0 : 0 ≤ cap) (hc1 : cap ≤ 200) (hn : rowSz r ≤ cap) (hr : Small r) (ha : m (Str.ofString "name") = some (.bytes r.1 ua)) (hb : m (Str.ofString "value") = some (.bytes r.2 ub))
    (hks : ∀ p ∈ (Str.ofString "needed", Value.int (rowSz r) tn) :: namesL G x bx rl tG gone tg cap tc, m p.1 = some p.2) :
    Mid1 w κ G t1 tG x dx tl bx bl gone tg vs rl ws n4 rs W m (ledL w κ G t1 x dx tl bx bl st ts n1 bvs n2 cap t2 (gone + rs.length + 1) t4 (szOf (fit (cap - rowSz r) rs ++ [r])) t5 (vs' ++ [.ref q]) n3 rl ws n4 ((q, tupO r ta tb 0) :: W)) := by
  have h := Mid1.mk (w := w) (bl := bl) (κ := κ) (t1 := t1) (dx := dx) (tl := tl) (W := W) (n4 := n4) (ws := ws) (vs := vs) (rs := rs) (o := some r) (T := [(q, tupO r ta tb 0)]) (ts := ts) (n1 := n1) (n2 := n2) (t2 := t2) (t4 := t4) (t5 := t5) (n3 := n3) (vs' := vs' ++ [.ref q]) hst0 hst1 hbn hbi (by simpa using q1) (by simpa using q2) (by simpa using q3) (by simpa using q4) (by simpa using q5) (by simpa using q6) (by simpa using q7)
    (fun M h => RowsIn.append ((hM M h).mono fun p hp => List.mem_append.mpr (.inr hp)) (.cons (t1 := ta) (t2 := tb) (n := 0) (List.mem_append.mpr (.inl (.head _))) .nil)) hc0 hc1 hn (fun r' e => by cases e; exact ⟨hr, _, _, ha, hb⟩) hks
  have e : (((some r).toList.length : Nat) : Int) = 1 := rfl
  rw [e] at h
  exact h
theorem menuB {h₀ h : Heap} {L D : Addr} {n : Nat} {p1 p2 : Addr × Obj} {rest : List (Addr × Obj)} {b1 b2 b3 : Array UInt8} {t1 t2 t3 : Tok} (_N : News h₀ L h (p1 :: p2 :: (D, listOf #[.bytes b1 t1, .bytes b2 t2, .bytes b3 t3] n) :: rest)) (h1 : b1.size ≤ 2) (h2 : b2.size ≤ 2) (h3 : b3.size ≤ 2) {d : Int} (h0 : 0 ≤ d) (hd : d < 3) :
    ∃ b t, [Value.bytes b1 t1, .bytes b2 t2, .bytes b3 t3][d.toNat]? = some (.bytes b t) ∧ b.size ≤ 2 := by
  have e : d.toNat = 0 ∨ d.toNat = 1 ∨ d.toNat = 2 := by omega
  rcases e with e | e | e <;> rw [e]
  · exact ⟨_, _, rfl, h1⟩
  · exact ⟨_, _, rfl, h2⟩
  · exact ⟨_, _, rfl, h3⟩
theorem menuI {h₀ h : Heap} {L D : Addr} {n : Nat} {p1 p2 : Addr × Obj} {rest : List (Addr × Obj)} {t1 t2 t3 t4 : Tok} (_N : News h₀ L h (p1 :: p2 :: (D, listOf #[.int 0 t1, .int 1 t2, .int 9 t3, .int 20 t4] n) :: rest)) {d : Int} (h0 : 0 ≤ d) (hd : d < 4) :
    ∃ b t, [Value.int 0 t1, .int 1 t2, .int 9 t3, .int 20 t4][d.toNat]? = some (.int b t) ∧ 0 ≤ b ∧ b ≤ 20 := by
  have e : d.toNat = 0 ∨ d.toNat = 1 ∨ d.toNat = 2 ∨ d.toNat = 3 := by omega
  rcases e with e | e | e | e <;> rw [e]
  · exact ⟨_, _, rfl, by decide, by decide⟩
  · exact ⟨_, _, rfl, by decide, by decide⟩
  · exact ⟨_, _, rfl, by decide, by decide⟩
  · exact ⟨_, _, rfl, by decide, by decide⟩
theorem mulX {prog : Program} {w : World} {A : Around} {E : Value → Shared → Prop} {s : Shared} {b : List UInt8} {n : Int} {t u : Tok} {Q : Value → Shared → Prop} (hb : b ≠ []) (hlo : 0 ≤ n) (hn : n ≤ 20) (hs : b.length = 1) (h : ∀ d t' k, d.size ≤ 20 → Q (.bytes d t') { s with toks := k }) :
    wpAny (model prog w) A (binaryOp .Mult (.bytes b.toArray t) (.int n u)) Q E s := by
  refine bytes_mul_any hb (by omega) (by omega) (by omega) fun t' k => h _ t' k ?_
  have e4 : ((List.replicate n.toNat b).flatten.toArray).size = n.toNat * b.length := by simp
  rw [e4, hs]
  omega
theorem sub_ins {h₀ h : Heap} {L : Addr} {D b1 b2 e f x d t r : Addr × Obj} {R : List (Addr × Obj)} (_N : News h₀ L h (D :: b1 :: b2 :: e :: f :: x :: d :: t :: r :: R)) : ∀ p ∈ x :: d :: t :: b1 :: b2 :: r :: R, p ∈ D :: b1 :: b2 :: e :: f :: x :: d :: t :: r :: R := by
  intro p hp
  simp only [List.mem_cons] at hp ⊢
  rcases hp with h | h | h | h | h | h | h <;> simp [h]
theorem sub_end {h₀ h : Heap} {L : Addr} {b1 b2 x d t r : Addr × Obj} {R : List (Addr × Obj)} (_N : News h₀ L h (x :: d :: t :: b1 :: b2 :: r :: R)) : ∀ p ∈ b1 :: b2 :: x :: d :: t :: r :: R, p ∈ x :: d :: t :: b1 :: b2 :: r :: R := by
  intro p hp
  simp only [List.mem_cons] at hp ⊢
  rcases hp with h | h | h | h | h | h | h <;> simp [h]
theorem sub_end2 {h₀ h : Heap} {L : Addr} {b1 b2 x d t r q : Addr × Obj} {R : List (Addr × Obj)} (_N : News h₀ L h (x :: d :: t :: q :: b1 :: b2 :: r :: R)) : ∀ p ∈ b1 :: b2 :: x :: d :: t :: r :: q :: R, p ∈ x :: d :: t :: q :: b1 :: b2 :: r :: R := by
  intro p hp
  simp only [List.mem_cons] at hp ⊢
  rcases hp with h | h | h | h | h | h | h | h <;> simp [h]
theorem mid_same {w : World} {κ : Nat → Tok} {G : Int} {t1 tG : Tok} {x dx tl bx bl : Addr} {gone : Int} {tg : Tok} {vs : List Value} {rl : Addr} {ws : List Value} {n4 : Nat} {rs : List RowD} {W : List (Addr × Obj)} {m : Str → Option Value}
    {st : Int} {ts : Tok} {n1 : Nat} {bvs : List Value} {n2 : Nat} {bns : List Int} {cap : Int} {t2 t4 t5 : Tok} {tc tn : Tok} {n3 : Nat}
    (hst0 : 0 ≤ st) (hst1 : st < 2147483647) (hbn : bns.length ≤ 24) (hbi : IntsAre bvs bns) (hsz : szOf rs ≤ cap) (hc0 : 0 ≤ cap) (hc1 : cap ≤ 200)
    (hks : ∀ p ∈ (Str.ofString "needed", Value.int 0 tn) :: namesL G x bx rl tG gone tg cap tc, m p.1 = some p.2) :
    Mid1 w κ G t1 tG x dx tl bx bl gone tg vs rl ws n4 rs W m (ledL w κ G t1 x dx tl bx bl st ts n1 bvs n2 cap t2 (gone + rs.length) t4 (szOf rs) t5 vs n3 rl ws n4 W) := by
  have hfit : fit cap rs = rs := fit_stop (by omega)
  have hh := mid_none (w := w) (κ := κ) (t1 := t1) (tG := tG) (bl := bl) (dx := dx) (tl := tl) (W := W) (vs := vs) (rs := rs) (vs' := vs) (n4 := n4) (ws := ws) (ts := ts) (n1 := n1) (n2 := n2) (t2 := t2) (t4 := t4) (t5 := t5) (n3 := n3) hst0 hst1 hbn hbi (fun M hM => by rw [hfit]; exact hM) hc0 hc1 hks
  rw [hfit] at hh
  exact hh
abbrev keepO (o : Option RowD) (ta tb : Tok) : List (Str × Value) := match o with
  | none => []
  | some r => [(Str.ofString "name", .bytes r.1 ta), (Str.ofString "value", .bytes r.2 tb)]
theorem keep_of {o : Option RowD} {m : Str → Option Value} (ho : ∀ r, o = some r → Small r ∧ ∃ ta tb, m (Str.ofString "name") = some (.bytes r.1 ta) ∧ m (Str.ofString "value") = some (.bytes r.2 tb)) : (∀ r, o = some r → Small r) ∧ ∃ ta tb, ∀ p ∈ keepO o ta tb, m p.1 = some p.2 := by
  cases o with
  | none => exact ⟨fun _ e => (nomatch e), 0, 0, fun _ h => nomatch h⟩
  | some r =>
    obtain ⟨h1, ta, tb, h2, h3⟩ := ho r rfl
    refine ⟨fun r' e => by cases e; exact h1, ta, tb, ?_⟩
    intro p hp
    simp only [keepO, List.mem_cons, List.not_mem_nil, or_false] at hp
    rcases hp with rfl | rfl
    · exact h2
    · exact h3
abbrev baseL (G : Int) (x bx : Addr) (tG : Tok) (need : Int) (tn : Tok) (cap : Int) (tc : Tok) : List (Str × Value) :=
  [(Str.ofString "box", .ref bx), (Str.ofString "greatest", .int G tG), (Str.ofString "table", .ref x), (Str.ofString "capacity", .int cap tc), (Str.ofString "needed", .int need tn)]
/-- what holds behind the inner while -/
inductive Mid2 (P : List (Addr × Obj)) (own : List (Addr × Obj)) (room : Int) (rs : List RowD) (ws : List Value) (gone : Int) (keep : List (Str × Value)) (bx bl x dx tl : Addr) (m : Str → Option Value) : List (Addr × Obj) → Prop
  | mk {d : Nat} {tg : Tok} {rl : Addr} {n : Nat} (hd : d ≤ rs.length) (hfit : fit room rs = rs.drop d)
    (r1 : @Ne Nat rl bx) (r2 : @Ne Nat rl bl) (r3 : @Ne Nat rl x) (r4 : @Ne Nat rl dx) (r5 : @Ne Nat rl tl) (r6 : ∀ p ∈ own, p.1 ≠ rl)
    (hks : ∀ p ∈ (Str.ofString "rows", Value.ref rl) :: (Str.ofString "gone", .int (gone + d) tg) :: keep, m p.1 = some p.2) :
    Mid2 P own room rs ws gone keep bx bl x dx tl m ((rl, listOf (ws.drop d).toArray n) :: P)
theorem fr_two {h₀ h : Heap} {L : Addr} {m : Str → Option Value} {ps qs : List (Str × Value)} (F : Fr h₀ L h m) (hp : ∀ p ∈ ps, m p.1 = some p.2) (hq : ∀ p ∈ qs, m p.1 = some p.2) : Fr h₀ L h (kstB (kstB m ps) qs) := by
  rw [kstB_self hp, kstB_self hq]; exact F
theorem mem_next {b1 b2 x d t r : Addr × Obj} {T2 T R own W2 P news : List (Addr × Obj)} (hP : P = b1 :: b2 :: x :: d :: t :: W2) (h2 : ∀ p ∈ T2, p ∈ news) (hp6 : ∀ p ∈ P, p ∈ news) (hr : r ∈ news) (hT : ∀ p ∈ T, p ∈ W2) (hR : ∀ p ∈ R, p ∈ W2) (hO : ∀ p ∈ own, p ∈ W2) :
    ∀ p ∈ (b1 :: b2 :: x :: d :: t :: r :: (T2 ++ (T ++ R))) ++ own, p ∈ news := by
  subst hP
  have hW : ∀ p ∈ W2, p ∈ news := fun p hp => hp6 p (.tail _ (.tail _ (.tail _ (.tail _ (.tail _ hp)))))
  intro p hp
  simp only [List.cons_append, List.mem_cons, List.mem_append] at hp
  rcases hp with h | h | h | h | h | h | (h | h | h) | h
  · exact hp6 p (by simp [h])
  · exact hp6 p (by simp [h])
  · exact hp6 p (by simp [h])
  · exact hp6 p (by simp [h])
  · exact hp6 p (by simp [h])
  · exact h ▸ hr
  · exact h2 p h
  · exact hW p (hT p h)
  · exact hW p (hR p h)
  · exact hW p (hO p h)
theorem off_next {b1 b2 x d t r : Addr × Obj} {T2 T R own : List (Addr × Obj)} (O1 : ∀ p ∈ own, p.1 ≠ b1.1) (O2 : ∀ p ∈ own, p.1 ≠ b2.1) (O3 : ∀ p ∈ own, p.1 ≠ x.1) (O4 : ∀ p ∈ own, p.1 ≠ d.1) (O5 : ∀ p ∈ own, p.1 ≠ t.1) (O6 : ∀ p ∈ own, p.1 ≠ r.1)
    (h2 : ∀ p ∈ own, ∀ q ∈ T2, p.1 ≠ q.1) (h1 : ∀ p ∈ own, ∀ q ∈ T, p.1 ≠ q.1) (h0 : ∀ p ∈ own, ∀ q ∈ R, p.1 ≠ q.1) : OwnOff own ((b1 :: b2 :: x :: d :: t :: r :: (T2 ++ (T ++ R))).map (·.1)) := by
  intro p hp b hb
  obtain ⟨q, hq, rfl⟩ := List.mem_map.mp hb
  simp only [List.mem_cons, List.mem_append] at hq
  rcases hq with h | h | h | h | h | h | h | h | h
  · exact h ▸ O1 p hp
  · exact h ▸ O2 p hp
  · exact h ▸ O3 p hp
  · exact h ▸ O4 p hp
  · exact h ▸ O5 p hp
  · exact h ▸ O6 p hp
  · exact h2 p hp q h
  · exact h1 p hp q h
  · exact h0 p hp q h
theorem next_inv {w : World} {κ : Nat → Tok} {G : Int} {t1 tG : Tok} {x dx tl bx bl : Addr} {i d : Nat} {m : Str → Option Value} {R T T2 : List (Addr × Obj)} {o : Option RowD}
    {st : Int} {ts : Tok} {n1 : Nat} {bvs : List Value} {n2 : Nat} {bns : List Int} {cap : Int} {t2 t4 t5 : Tok} {gone : Int} {tg tc : Tok} {vs vs' : List Value} {n3 : Nat} {rl : Addr} {ws' : List Value} {n4 : Nat} {rs : List RowD}
    (hst0 : 0 ≤ st) (hst1 : st < 2147483647) (hbn : bns.length ≤ 24) (hbi : IntsAre bvs bns)
    (r1 : @Ne Nat rl bx) (r2 : @Ne Nat rl bl) (r3 : @Ne Nat rl x) (r4 : @Ne Nat rl dx) (r5 : @Ne Nat rl tl)
    (R1 : ∀ p ∈ R, p.1 ≠ bx) (R2 : ∀ p ∈ R, p.1 ≠ bl) (R3 : ∀ p ∈ R, p.1 ≠ x) (R4 : ∀ p ∈ R, p.1 ≠ dx) (R5 : ∀ p ∈ R, p.1 ≠ tl)
    (Q1 : ∀ p ∈ T, p.1 ≠ bx) (Q2 : ∀ p ∈ T, p.1 ≠ bl) (Q3 : ∀ p ∈ T, p.1 ≠ x) (Q4 : ∀ p ∈ T, p.1 ≠ dx) (Q5 : ∀ p ∈ T, p.1 ≠ tl)
    (U1 : ∀ p ∈ T2, p.1 ≠ bx) (U2 : ∀ p ∈ T2, p.1 ≠ bl) (U3 : ∀ p ∈ T2, p.1 ≠ x) (U4 : ∀ p ∈ T2, p.1 ≠ dx) (U5 : ∀ p ∈ T2, p.1 ≠ tl)
    (hI : RowsIn R vs rs) (hM : ∀ M, RowsIn M vs rs → RowsIn (T ++ M) vs' (fit (cap - needO o) rs ++ o.toList)) (hJ : RowsIn (T2 ++ R) ws' (rs.drop d ++ o.toList))
    (hsm : ∀ r ∈ rs, Small r) (hoS : ∀ r, o = some r → Small r) (hn : needO o ≤ cap) (hc0 : 0 ≤ cap) (hc1 : cap ≤ 200) (hg0 : 0 ≤ gone) (hd : d ≤ rs.length) (hfit : fit (cap - needO o) rs = rs.drop d) (hgi : gone + rs.length ≤ i)
    (hks : ∀ p ∈ namesL G x bx rl tG (gone + d) tg cap tc, m p.1 = some p.2) :
    LawInv w κ G t1 tG x dx tl bx bl (i + 1) m (ledL w κ G t1 x dx tl bx bl st ts n1 bvs n2 cap t2 (gone + rs.length + o.toList.length) t4 (szOf (fit (cap - needO o) rs ++ o.toList)) t5 vs' n3 rl ws' n4 (T2 ++ (T ++ R))) := by
  have hlen : (fit (cap - needO o) rs ++ o.toList).length = rs.length - d + o.toList.length := by rw [hfit, List.length_append, List.length_drop]
  have hol : o.toList.length ≤ 1 := by cases o <;> simp
  have e : gone + (rs.length : Int) + ((o.toList.length : Nat) : Int) = (gone + d) + ((fit (cap - needO o) rs ++ o.toList).length : Nat) := by rw [hlen]; omega
  have sub : ∀ p ∈ R, p ∈ T ++ R := fun p hp => List.mem_append.mpr (.inr hp)
  have al : ∀ {a : Addr}, (∀ p ∈ T2, p.1 ≠ a) → (∀ p ∈ T, p.1 ≠ a) → (∀ p ∈ R, p.1 ≠ a) → ∀ p ∈ T2 ++ (T ++ R), p.1 ≠ a := fun h2 h1 h0 p hp => by
    rcases List.mem_append.mp hp with h | h
    · exact h2 p h
    rcases List.mem_append.mp h with h | h
    · exact h1 p h
    · exact h0 p h
  have hsz : szOf (fit (cap - needO o) rs ++ o.toList) ≤ cap := by
    rw [szOf_append]
    have := fit_sz (room := cap - needO o) (by omega) rs
    have e2 : szOf o.toList = needO o := by cases o <;> simp [szOf, needO]
    omega
  rw [e]
  refine LawInv.mk hst0 hst1 hbn hbi r1 r2 r3 r4 r5 (al U1 Q1 R1) (al U2 Q2 R2) (al U3 Q3 R3) (al U4 Q4 R4) (al U5 Q5 R5) ((hM R hI).mono fun p hp => List.mem_append.mpr (.inr hp)) ?_ ?_ hsz hc0 hc1 (by omega) (by rw [hlen]; omega) hks
  · rw [hfit]
    exact hJ.mono fun p hp => by
      rcases List.mem_append.mp hp with h | h
      · exact List.mem_append.mpr (.inl h)
      · exact List.mem_append.mpr (.inr (sub p h))
  · intro r hr
    rcases List.mem_append.mp hr with h | h
    · exact hsm r (fit_mem h)
    · exact hoS r (by cases o with
        | none => cases h
        | some q => simp at h; rw [h])
theorem third_of {h₀ h : Heap} {L : Addr} {a b c : Addr × Obj} {R : List (Addr × Obj)} (_N : News h₀ L h (a :: b :: c :: R)) : ∃ D, D = c.1 := ⟨_, rfl⟩
theorem walks_wide {prog : Program} {w : World} {A : Around} (hh : A.handled = none) (I ax : Addr) (hne : ax ≠ I) (items : Array Value) :
    Walks prog w A I [I, ax] [I, ax] items.size (fun i v => items[i]? = some v) (fun i h => h.IsTupleIter I ax i ∧ h.IsTuple ax items) where
  sub := fun b hb => hb
  frame := (Walks.tuple (prog := prog) (w := w) hh I ax hne items).frame
  item := fun i s Q E hi st hQ => (Walks.tuple hh I ax hne items).item i s Q E hi st fun v h' tk p q k => hQ v h' tk p q fun b o hb e => k b o (fun h => hb (by simp at h; simp [h])) e
  done := fun s Q E st hQ => (Walks.tuple hh I ax hne items).done s Q E st fun h' tk k => hQ h' tk fun b o hb e => k b o (fun h => hb (by simp at h; simp [h])) e
  self := (Walks.tuple (prog := prog) (w := w) hh I ax hne items).self
section
variable {prog : Program} {w : World} {A : Around} {E : Value → Shared → Prop} {s : Shared} {env : Env} {h₀ : Heap} {x : Str} {body : List Stmt} {Q : Flow → Shared → Prop}
theorem my_tuple {ax : Addr} {vs : List Value} {n : Nat} {m₀ : Str → Option Value} {news : List (Addr × Obj)} (J : (Str → Option Value) → List (Addr × Obj) → Prop)
    (hh : A.handled = none) (F : Fr h₀ env.locals s.heap m₀) (N : News h₀ env.locals s.heap ((ax, ({ cls := .type "tuple", data := .seq vs.toArray n } : Obj)) :: news)) (hax : ∀ p ∈ news, p.1 ≠ ax) (hj : J m₀ news)
    (turn : ∀ v m₁ nx h tk own, v ∈ vs → OwnOff own (nx.map (·.1)) → J m₁ nx → (∀ ps, (∀ p ∈ ps, m₁ p.1 = some p.2) → Fr h₀ env.locals h (fun y => if y = x then some v else kstB m₁ ps y)) → News h₀ env.locals h (nx ++ own) →
      wpAny (model prog w) A (execs body env) (InvPostG h₀ env.locals J own { s with heap := h, toks := tk } Q) E { s with heap := h, toks := tk })
    (done : ∀ m₁ nx h tk, J m₁ nx → Fr h₀ env.locals h m₁ → News h₀ env.locals h nx → Q .next { s with heap := h, toks := tk }) :
    wpAny (model prog w) A (pyIter (.ref ax)) (fun it s₂ => LoopAtV prog w A h₀ env x body Q E it s₂) E s := by
  have ha := N _ (.head _)
  have hl : s.heap.IsTuple ax vs.toArray := ⟨_, ha.1, rfl, n, rfl⟩
  have hlt : ax < s.heap.objs.size := Heap.lt_size ha.1
  have hne : ax ≠ s.heap.objs.size := Nat.ne_of_lt hlt
  refine wpAny_pyIter_tuple hl ?_
  refine kdr_loop (fun _ => J) (walks_wide hh s.heap.objs.size ax hne vs.toArray) (fun _ h => h) (fun _ h => h) ?_ ?_ ?_ ?_ ⟨?_, hl.at fun o e => Heap.get?_push_of_some _ e⟩ (F.push _) (fun p hp => ⟨Heap.get?_push_of_some _ (N p (.tail _ hp)).1, (N p (.tail _ hp)).2⟩) hj ?_ ?_
  · rintro i h ⟨h1, h2⟩ b hb
    rcases List.mem_cons.mp hb with rfl | hb
    · exact ⟨_, h1.choose_spec.1⟩
    · rw [List.mem_singleton.mp hb]
      exact ⟨_, h2.choose_spec.1⟩
  · intro hm
    rcases List.mem_cons.mp hm with e | hm
    · exact absurd F.ns.lt (e ▸ Nat.lt_irrefl _)
    · exact ha.2.1 (List.mem_singleton.mp hm).symm
  · intro b hb
    rcases List.mem_cons.mp hb with rfl | hb
    · exact next_is_new F
    · rw [List.mem_singleton.mp hb]; exact ha.2.2
  · intro p hp hI
    rcases List.mem_cons.mp hI with e | hI
    · exact absurd (Heap.lt_size (N p (.tail _ hp)).1) (e ▸ Nat.lt_irrefl _)
    · exact hax p hp (List.mem_singleton.mp hI)
  · exact ⟨_, Heap.get?_push_size _ rfl, rfl, rfl⟩
  · rintro i v m₁ nx h tk own hi hv hoff hJ F₁ N₁
    exact turn v m₁ nx h tk own (by
      have hv' : vs[i]? = some v := by simpa using hv
      exact List.mem_of_getElem? hv') hoff hJ (fun ps hps => by rw [kstB_self hps]; exact F₁) N₁
  · rintro m₁ nx h tk hJ F₁ N₁
    exact done m₁ nx h tk hJ F₁ N₁
end
theorem six_off {D : Addr} {a b c d e f : Addr × Obj} {W : List (Addr × Obj)} (h : a.1 < D ∧ b.1 < D ∧ c.1 < D ∧ d.1 < D ∧ e.1 < D ∧ f.1 < D ∧ AllLt D W) : ∀ p ∈ a :: b :: c :: d :: e :: f :: W, p.1 ≠ D :=
  fun p hp => Nat.ne_of_lt (allLt_mem (l := a :: b :: c :: d :: e :: f :: W) h p hp)
theorem six_mono {a b c d e f : Addr × Obj} {R W : List (Addr × Obj)} (h : ∀ p ∈ R, p ∈ W) : ∀ p ∈ a :: b :: c :: d :: e :: f :: R, p ∈ a :: b :: c :: d :: e :: f :: W := by
  intro p hp
  simp only [List.mem_cons] at hp ⊢
  rcases hp with h' | h' | h' | h' | h' | h' | h'
  · simp [h']
  · simp [h']
  · simp [h']
  · simp [h']
  · simp [h']
  · simp [h']
  · simp [h p h']
theorem six_mid {a b D c d e f : Addr × Obj} {R W : List (Addr × Obj)} (h : ∀ p ∈ R, p ∈ W) : ∀ p ∈ a :: b :: c :: d :: e :: f :: R, p ∈ a :: b :: D :: c :: d :: e :: f :: W := by
  intro p hp
  simp only [List.mem_cons] at hp ⊢
  rcases hp with h' | h' | h' | h' | h' | h' | h'
  · simp [h']
  · simp [h']
  · simp [h']
  · simp [h']
  · simp [h']
  · simp [h']
  · simp [h p h']

local macro_rules | `(tactic| walk_at "MidP") => `(tactic| refine Stop.out ?_)
local macro_rules | `(tactic| walk_at "binaryOp Mult bytes int") => `(tactic| (k_here; (with_reducible show wpAny _ _ (binaryOp Operator.Mult (Value.bytes (List.toArray _) _) (Value.int _ _)) _ _ _); k_dflt (refine' mulX ?b ?h1 ?hn ?hs ?_; (case b => exact List.cons_ne_nil _ _); (case h1 => first | assumption | omega); (case hn => first | assumption | omega); (case hs => exact rfl); k_whole); (intro bM tM kM hbM)))
local macro_rules | `(tactic| walk_at "subscriptTail Name Slice ref ref") => `(tactic| (k_here; (with_reducible show wpAny _ _ (subscriptTail _ (PySem.Expr.Slice _ _ none _) (Value.ref _) (Value.ref _)) _ _ _); k_dflt (refine' drop1 ?F ?N ?m ?h1 ?z ?_ ?s ?t; (case F => k_asm); (case N => k_asm); (case m => k_mem); (case h1 => omega); (case z => omega); (case s => with_unfolding_all rfl); (case t => kmk_pure); k_whole); (intro D' h' F' N' l1); (try k_lt l1); (try k_sweep)))
local macro_rules | `(tactic| walk_at "exec For Name Tuple cons nil") => `(tactic| (k_here; (rename Fr _ _ _ _ => lF'); (with_unfolding_all refine' For_invVF lF' ?k1 ?k2 ?_; (case k1 => exact rfl); (case k2 => exact rfl); k_whole)))
local macro_rules | `(tactic| walk_at "InvEndG") => `(tactic| refine Stop.out ?_)

set_option maxRecDepth 100000 in
set_option maxHeartbeats 8000000 in
theorem law_holds : PySem.Challenge.rw_no0053_01.Holds := by
  exact hd (by
    k_go0
    rename World => w
    rename IntsAre _ _ => hI0
    rename Heap.IsList _ _ _ => hL0
    rename ¬ _ < _ => hlen0
    k_with_none
    k_steps
    refine Stop.on ?_
    k_dflt (refine' box_does _ _ _ _ _ _ _ _ _ _ _ _ _ _ _ _ _ _ _ _ _ ?k1 ?k2 ?k3 ?k4 ?k5 ?kK ?kd ?ku hL0 hI0 ?hlen ?_)
    case k1 => k_asm
    case k2 => k_asm
    case k3 => k_asm
    case k4 => k_asm
    case k5 => k_asm
    case kK => first | exact rfl | assumption
    case kd => ktr_room
    case ku => ktr_units
    case hlen => omega
    clear hL0 hI0 hlen0
    rintro bx bl st t n1 n2 bvs bns h1 tk1 hst0 hst1 hbi hbn hxl - - F1 N1
    k_steps
    have hR1 : ∀ p ∈ ([] : List (Addr × Obj)), p.1 ≠ bx := by walk_at "MyOffs"
    have hR2 : ∀ p ∈ ([] : List (Addr × Obj)), p.1 ≠ bl := by walk_at "MyOffs"
    walk_at "MyTake"
    clear hbi hst0 hst1 hbn hR1 hR2
    rintro _ _ h2 tk2 ⟨g, tg, st, t, n1, n2, bvs, bns, rfl, hg0, hg1, hst0, hst1, hbn, hbi, rfl⟩ F2 N2
    k_steps
    rename_i x dx _ lA lB _ _ _ _ _ _ _ _ _ _ _ tl _ lC _ _ _ _ _ _ _ _ rl _ lD _ _ lE _ _ _ _ _ F9 N9
    obtain ⟨a1, a2⟩ := lA
    obtain ⟨b1, b2, b3, b4⟩ := lC
    obtain ⟨c1, c2, c3, c4, c5⟩ := lD
    have a3 : bx < x := Nat.lt_trans a1 lB
    have a4 : bl < x := Nat.lt_trans a2 lB
    have hsub := sub_a N9
    walk_at "MyTakeN"
    clear hbi hst0 hst1 hbn F9 N9 hsub
    rintro _ _ h3 tk3 ⟨nt, tn, st, t, n1, n2, bvs, bns, rfl, hn0, hn1, hst0, hst1, hbn, hbi, rfl⟩ F9 N9
    k_steps
    refine Stop.on ?_
    rename IsRange _ _ _ _ _ _ _ _ => lR
    rename News _ _ _ _ => lN
    rename Fr _ _ _ _ => lF
    obtain ⟨κ, t1, tG, hs⟩ := start_of (w := w) (x := x) (dx := dx) (tl := tl) (bx := bx) (bl := bl) (G := g * 45) lF lN (LawInv.mk (gone := 0) (rs := []) (vs := []) (ws := []) (R := []) hst0 hst1 hbn hbi (by walk_at "MyOffs") (by walk_at "MyOffs") (by walk_at "MyOffs") (by walk_at "MyOffs") (by walk_at "MyOffs") (by simp) (by simp) (by simp) (by simp) (by simp) .nil .nil (by simp) (Int.le_refl 0) (Int.le_refl 0) (by decide) (Int.le_refl 0) (by decide) (by kst_all))
    refine my_range (n := (4 + nt).toNat) (fun i m nx => LawInv w κ (g * 45) t1 tG x dx tl bx bl i m nx) rfl lR (small_one (by omega) (by omega) (by omega) (by omega)) (by rw [rangeSize_nat]; omega) lF lN hs ?turn ?done
    case done =>
      clear hs lF lN
      intro m₁ nx h tk hInv F1 N1
      k_steps
    case turn =>
      clear hs lF lN lR
      intro i t m₁ nx h tk own hin hown hInv F1 N1
      rcases hInv with @⟨st, ts, n1, bvs, n2, bns, cap, t2, t4, t5, gone, tg, tc, vs, n3, rl, ws, n4, rs, R, hst0, hst1, hbn, hbi, r1, r2, r3, r4, r5, R1, R2, R3, R4, R5, hI, hJ, hsm, hsz, hc0, hc1, hg0, hgi, hks⟩
      have F2 := F1 _ hks
      clear F1
      simp only [ledL, List.cons_append] at N1
      have O1 : ∀ p ∈ own, p.1 ≠ bx := fun p hp => hown p hp _ (by simp)
      have O2 : ∀ p ∈ own, p.1 ≠ bl := fun p hp => hown p hp _ (by simp)
      have O3 : ∀ p ∈ own, p.1 ≠ x := fun p hp => hown p hp _ (by simp)
      have O4 : ∀ p ∈ own, p.1 ≠ dx := fun p hp => hown p hp _ (by simp)
      have O5 : ∀ p ∈ own, p.1 ≠ tl := fun p hp => hown p hp _ (by simp)
      have O6 : ∀ p ∈ own, p.1 ≠ rl := fun p hp => hown p hp _ (by simp)
      have O7 : ∀ p ∈ own, ∀ q ∈ R, p.1 ≠ q.1 := fun p hp q hq => hown p hp _ (List.mem_map.mpr ⟨q, by simp [hq], rfl⟩)
      have hRW : ∀ p ∈ R, p ∈ R ++ own := fun p hp => List.mem_append.mpr (.inl hp)
      have hOW : ∀ p ∈ own, p ∈ R ++ own := fun p hp => List.mem_append.mpr (.inr hp)
      have W1 : ∀ p ∈ R ++ own, p.1 ≠ bx := by walk_at "MyOffs"
      have W2 : ∀ p ∈ R ++ own, p.1 ≠ bl := by walk_at "MyOffs"
      have W3 : ∀ p ∈ R ++ own, p.1 ≠ x := by walk_at "MyOffs"
      have W4 : ∀ p ∈ R ++ own, p.1 ≠ dx := by walk_at "MyOffs"
      have W5 : ∀ p ∈ R ++ own, p.1 ≠ tl := by walk_at "MyOffs"
      have hl := hI.length
      have hl2 := hJ.length
      generalize R ++ own = W at N1 hRW hOW W1 W2 W3 W4 W5
      have X1 : ∀ p ∈ (x, instObj 87 dx) :: (dx, dictOf (tabE w κ (g * 45) t1 cap t2 tl (gone + rs.length) t4 (szOf rs) t5) 5) :: (tl, listOf vs.toArray n3) :: (rl, listOf ws.toArray n4) :: W, p.1 ≠ bx := by walk_at "MyOffs"
      have X2 : ∀ p ∈ (x, instObj 87 dx) :: (dx, dictOf (tabE w κ (g * 45) t1 cap t2 tl (gone + rs.length) t4 (szOf rs) t5) 5) :: (tl, listOf vs.toArray n3) :: (rl, listOf ws.toArray n4) :: W, p.1 ≠ bl := by walk_at "MyOffs"
      obtain ⟨X, hX⟩ : ∃ X, X = (x, instObj 87 dx) :: (dx, dictOf (tabE w κ (g * 45) t1 cap t2 tl (gone + rs.length) t4 (szOf rs) t5) 5) :: (tl, listOf vs.toArray n3) :: (rl, listOf ws.toArray n4) :: W := ⟨_, rfl⟩
      rw [← hX] at N1 X1 X2
      refine mid_cut F2 (fun m nx => Mid1 w κ (g * 45) t1 tG x dx tl bx bl gone tg vs rl ws n4 rs W m nx) ?_ ?_
      · k_steps
        have hsub := sub_id N1
        walk_at "MyTakeN"
        clear hbi hst0 hst1 hbn hsub F2 N1
        rintro _ _ h2 tk2 ⟨d1, td, st, ts, n1, n2, bvs, bns, rfl, hd0, hd1, hst0, hst1, hbn, hbi, rfl⟩ F2 N1
        k_steps
        rotate_left 2
        · rename News _ _ _ _ => N1
          rename Fr _ _ _ _ => F2
          rename _ ∧ _ ∧ AllLt _ _ => u1
          obtain ⟨u1, u2, u3⟩ := u1
          have hsub := sub_c1 N1
          walk_at "MyTakeN"
          clear hbi hst0 hst1 hbn hsub F2 N1
          rintro _ _ h2 tk2 ⟨d2, td2, st, ts, n1, n2, bvs, bns, rfl, hw0, hw1, hst0, hst1, hbn, hbi, rfl⟩ F2 N1
          obtain ⟨nm, tnm, hnm, hnm2⟩ := menuB N1 (by decide) (by decide) (by decide) hw0 hw1
          k_steps
          rename News _ _ _ _ => N1
          rename Fr _ _ _ _ => F2
          rename _ ∧ _ ∧ _ ∧ AllLt _ _ => u4
          obtain ⟨u4, u5, u6, u7⟩ := u4
          have hsub := sub_c1 N1
          walk_at "MyTakeN"
          clear hbi hst0 hst1 hbn hsub F2 N1
          rintro _ _ h2 tk2 ⟨d3, td3, st, ts, n1, n2, bvs, bns, rfl, hv0, hv1, hst0, hst1, hbn, hbi, rfl⟩ F2 N1
          obtain ⟨vn, tvn, hvn, hvn0, hvn2⟩ := menuI N1 hv0 hv1
          subst hX
          k_steps
          refine Stop.on ?_
          rename News _ _ _ _ => N1
          rename Fr _ _ _ _ => F2
          rename Array.size _ ≤ 20 => hbM
          clear u1 u2 u3 u4 u5 u6 u7
          have hsub := sub_ins N1
          k_dflt (refine' does_use (insert_does (r := (nm, _)) w _ _ _ (by omega) (hI.mono ?hi1) hsm ⟨Nat.le_trans hnm2 (by decide), Nat.le_trans hbM (by decide)⟩ ?q1 ?q2 ?q3 ?q4 ?q5) ?k1 ?k2 ?k3 (kst_newsOf ?k4 hsub) ?k5 ?kK ?kd ?ku ?_)
          case k1 => k_asm
          case k2 => k_asm
          case k3 => k_asm
          case k4 => k_asm
          case k5 => k_asm
          case kK => first | exact rfl | assumption
          case kd => ktr_room
          case ku => ktr_units
          case hi1 => exact fun p hp => .tail _ (.tail _ (.tail _ (hRW p hp)))
          case q1 => walk_at "MyOffs"
          case q2 => walk_at "MyOffs"
          case q3 => walk_at "MyOffs"
          case q4 => walk_at "MyOffs"
          case q5 => walk_at "MyOffs"
          clear hsub F2 N1
          rintro _ _ h2 tk2 (⟨hlt, rfl, rfl⟩ | ⟨hle, tt, q, vs', n', t4', t5', rfl, hM, hq, hqx, hqd, hqt, rfl⟩) F2 N1
          · simp only [rowSz] at hlt
            k_steps
            refine Stop.on ?_
            rename News _ _ _ _ => N1
            rename Fr _ _ _ _ => F2
            exact MidP.intro F2 N1 (sub_end N1) (mid_same hst0 hst1 hbn hbi hsz hc0 hc1 (by kst_all))
          · have hle2 := hle
            simp only [rowSz] at hle2
            k_steps
            all_goals refine Stop.on ?_
            · exfalso; omega
            rename News _ _ _ _ => N1
            rename Fr _ _ _ _ => F2
            simp only [List.forall_mem_cons] at hq
            exact MidP.intro F2 N1 (sub_end2 N1) (mid_some hst0 hst1 hbn hbi (ne_of_lt2 hq.1) (ne_of_lt2 hq.2.1) (ne_of_lt2 hqx) (ne_of_lt2 hqd) (ne_of_lt2 hqt) (ne_of_lt2 hq.2.2.1) (fun p hp => Nat.ne_of_lt (hq.2.2.2 p hp)) hM hc0 hc1 hle ⟨Nat.le_trans hnm2 (by decide), Nat.le_trans hbM (by decide)⟩ (by rfl) (by rfl) (by kst_all))
        all_goals
          have hsub := sub_id N1
          walk_at "MyTakeN"
          clear hbi hst0 hst1 hbn hsub F2 N1
          rintro _ _ h2 tk2 ⟨d2, td2, st, ts, n1, n2, bvs, bns, rfl, hw0, hw1, hst0, hst1, hbn, hbi, rfl⟩ F2 N1
          subst hX
          k_steps
          refine Stop.on ?_
          rename News _ _ _ _ => N1
          rename Fr _ _ _ _ => F2
          have hsub := sub_set N1
          k_dflt (refine' does_use (set_does w _ _ _ (by omega) (hI.mono ?hi1) hsm hsz ?q1 ?q2 ?q3 ?q4 ?q5) ?k1 ?k2 ?k3 (kst_newsOf ?k4 hsub) ?k5 ?kK ?kd ?ku ?_)
          case k1 => k_asm
          case k2 => k_asm
          case k3 => k_asm
          case k4 => k_asm
          case k5 => k_asm
          case kK => first | exact rfl | assumption
          case kd => ktr_room
          case ku => ktr_units
          case hi1 => exact fun p hp => .tail _ (.tail _ (.tail _ (hRW p hp)))
          case q1 => walk_at "MyOffs"
          case q2 => walk_at "MyOffs"
          case q3 => walk_at "MyOffs"
          case q4 => walk_at "MyOffs"
          case q5 => walk_at "MyOffs"
          clear hsub F2 N1
          rintro _ _ h2 tk2 ⟨rfl, cap', vs', n', t2', t5', hcap, hM, rfl⟩ F2 N1
          by_cases hle : d2 * 50 ≤ g * 45
          · rw [if_pos hle] at hcap
            subst hcap
            rw [decide_eq_true hle]
            k_steps
            all_goals refine Stop.on ?_
            · rename _ = true => hbad
              rw [decide_eq_true hle] at hbad
              cases hbad
            rename News _ _ _ _ => N1
            rename Fr _ _ _ _ => F2
            exact MidP.intro F2 N1 (sub_end N1) (mid_none hst0 hst1 hbn hbi hM (by omega) (by omega) (by kst_all))
          · rw [if_neg hle] at hcap
            subst hcap
            rw [decide_eq_false hle]
            k_steps
            all_goals refine Stop.on ?_
            · rename _ = true => hbad
              rw [decide_eq_false hle] at hbad
              cases hbad
            rename News _ _ _ _ => N1
            rename Fr _ _ _ _ => F2
            exact MidP.intro F2 N1 (sub_end N1) (mid_none hst0 hst1 hbn hbi hM hc0 hc1 (by kst_all))
      · clear N1 F2 hks hst0 hst1 hbn hbi hc0 hc1 X1 X2 hX hsz
        intro h' tk' m' news' F2 N1 hMid
        rcases hMid with @⟨st, ts, n1, bvs, n2, bns, cap, t2, t4, t5, tc, tn, vs', n3, o, T, hst0, hst1, hbn, hbi, Q1, Q2, Q3, Q4, Q5, Q6, Q7, hM, hc0, hc1, hn, ho, hks⟩
        obtain ⟨hoS, ta, tb, hkO⟩ := keep_of ho
        clear ho
        have F3 := fr_two F2 hkO hks
        clear F2
        simp only [ledL] at N1
        have hTW : ∀ p ∈ T, p ∈ T ++ W := fun p hp => List.mem_append.mpr (.inl hp)
        have hRW2 : ∀ p ∈ R, p ∈ T ++ W := fun p hp => List.mem_append.mpr (.inr (hRW p hp))
        have hOW2 : ∀ p ∈ own, p ∈ T ++ W := fun p hp => List.mem_append.mpr (.inr (hOW p hp))
        have Q8 : ∀ p ∈ own, ∀ q ∈ T, p.1 ≠ q.1 := fun p hp q hq => Q7 q hq p (hOW p hp)
        clear Q7
        generalize T ++ W = W2 at N1 hTW hRW2 hOW2
        obtain ⟨P, hP⟩ : ∃ P, P = (bx, listOf #[.ref bl, .int st ts] n1) :: (bl, listOf bvs.toArray n2) :: (x, instObj 87 dx) :: (dx, dictOf (tabE w κ (g * 45) t1 cap t2 tl (gone + rs.length + o.toList.length) t4 (szOf (fit (cap - needO o) rs ++ o.toList)) t5) 5) :: (tl, listOf vs'.toArray n3) :: W2 := ⟨_, rfl⟩
        have hRP : ∀ p ∈ R, p ∈ P := fun p hp => by rw [hP]; exact .tail _ (.tail _ (.tail _ (.tail _ (.tail _ (hRW2 p hp)))))
        have hOP : ∀ p ∈ own, p ∈ P := fun p hp => by rw [hP]; exact .tail _ (.tail _ (.tail _ (.tail _ (.tail _ (hOW2 p hp)))))
        have hP1 : ∀ {D : Addr}, AllLt D P → @Ne Nat D bx ∧ @Ne Nat D bl ∧ @Ne Nat D x ∧ @Ne Nat D dx ∧ @Ne Nat D tl ∧ ∀ p ∈ own, p.1 ≠ D := fun {D} hlt => by
          refine ⟨?_, ?_, ?_, ?_, ?_, fun p hp => Nat.ne_of_lt (allLt_mem hlt p (hOP p hp))⟩ <;> rw [hP] at hlt
          · exact ne_of_lt2 hlt.1
          · exact ne_of_lt2 hlt.2.1
          · exact ne_of_lt2 hlt.2.2.1
          · exact ne_of_lt2 hlt.2.2.2.1
          · exact ne_of_lt2 hlt.2.2.2.2.1
        have N2 := kst_newsOf (l' := (rl, listOf ws.toArray n4) :: P) N1 (fun p hp => by
          rw [hP] at hp
          simp only [List.mem_cons] at hp ⊢
          rcases hp with h | h | h | h | h | h | h <;> simp [h])
        clear N1
        refine mid_cut F3 (fun m nx => Mid2 P own (cap - needO o) rs ws gone (baseL (g * 45) x bx tG (needO o) tn cap tc ++ keepO o ta tb) bx bl x dx tl m nx) ?_ ?_
        · k_steps
          refine Stop.on ?_
          refine ksw_while (σ := Nat × Int × Tok × Addr × Nat) (fun c => (c.2.2.2.1, listOf (ws.drop c.1).toArray c.2.2.2.2) :: P) (fun c => [(Str.ofString "rows", Value.ref c.2.2.2.1), (Str.ofString "gone", Value.int c.2.1 c.2.2.1)])
            (fun c => c.1 ≤ rs.length ∧ c.2.1 = gone + c.1 ∧ @Ne Nat c.2.2.2.1 bx ∧ @Ne Nat c.2.2.2.1 bl ∧ @Ne Nat c.2.2.2.1 x ∧ @Ne Nat c.2.2.2.1 dx ∧ @Ne Nat c.2.2.2.1 tl ∧ ∀ p ∈ own, p.1 ≠ c.2.2.2.1) [] (fun c => fit (cap - needO o) rs = fit (cap - needO o) (rs.drop c.1)) (fun c => rs.length - c.1) (0, gone, tg, rl, n4) F3 N2 ?hf ?hk rfl ?_
          case hk => kst_all
          case hf => exact ⟨Nat.zero_le _, by simp, r1, r2, r3, r4, r5, O6⟩
          clear F3 N2
          rintro ⟨j, gv, tg', rl', n'⟩ u h tk ⟨hj, hgv, e1, e2, e3, e4, e5, e6⟩ hp F' N'
          dsimp only at hj hgv e1 e2 e3 e4 e5 e6 hp F' N'
          k_with "rows" => exact (hJ.drop j).mono (fun p hp => .tail _ (hRP p hp))
          have hld : (ws.drop j).length = ws.length - j := List.length_drop
          have hsmj : ∀ r ∈ rs.drop j, Small r := fun r hr => hsm r (List.mem_of_mem_drop hr)
          have hz : j < rs.length ∨ szOf (rs.drop j) = 0 := by
            rcases Nat.lt_or_ge j rs.length with h | h
            · exact .inl h
            · right; rw [List.drop_of_length_le h]; rfl
          try k_fold
          k_steps
          · refine Stop.on ?_
            rename News _ _ _ _ => N1
            rename Fr _ _ _ _ => F2
            rename _ ∧ AllLt _ P => l9
            obtain ⟨f1, f2, f3, f4, f5, f6⟩ := hP1 l9.2
            have hj2 : j < rs.length := by omega
            rw [List.drop_drop] at N1
            refine ksw_end (j + 1, gv + 1, ?tgA, ?rlA, 0) F2 N1 (fun p hp => ?hmem) ?hf ?hk ?hr ?hp ?hm
            case hk => kst_all
            case hr =>
              intro z h2 h3
              simp only [List.forall_mem_cons, List.not_mem_nil, false_implies, implies_true, and_true, ne_eq] at h2
              simp [h2, kstB]
            case hm => dsimp only; omega
            case hp => exact hp.trans (fit_step hj2 (by omega))
            case hf =>
              refine ⟨hj2, ?_, f1, f2, f3, f4, f5, f6⟩
              dsimp only; omega
            case hmem =>
              rcases List.mem_cons.mp hp with rfl | hp
              · exact .tail _ (.head _)
              · exact .tail _ (.tail _ (.tail _ hp))
          · refine Stop.on ?_
            rename News _ _ _ _ => N1
            rename Fr _ _ _ _ => F2
            subst hgv
            exact MidP.intro F2 N1 (fun p hp => hp) (Mid2.mk hj (hp.trans (fit_stop (by omega))) e1 e2 e3 e4 e5 e6 (by rcases o with _ | r <;> kst_all))
        · clear hks hkO F3 N2
          intro h' tk' m' news' F2 N1 hMid
          rcases hMid with @⟨d, tgd, rld, nd, hd, hfit, f1, f2, f3, f4, f5, f6, hks⟩
          rw [← kstB_self hks] at F2
          have hld : (ws.drop d).length = ws.length - d := List.length_drop
          refine mid_cut F2 (fun m nx => ∃ nx', nx = nx' ++ own ∧ OwnOff own (nx'.map (·.1)) ∧ LawInv w κ (g * 45) t1 tG x dx tl bx bl (i + 1) m nx') ?_ ?_
          · rcases o with _ | r
            · simp only [keepO, baseL, needO, List.append_nil, List.cons_append, List.nil_append] at F2
              k_steps
              refine Stop.on ?_
              refine MidP.intro F2 N1 ?hs ⟨_, rfl, off_next (T2 := []) (T := T) (R := R) O1 O2 O3 O4 O5 f6 (by simp) Q8 O7, next_inv (T2 := []) (ts := ts) (n1 := n1) (n2 := n2) (t2 := t2) (t4 := t4) (t5 := t5) (n3 := n3) (n4 := nd) hst0 hst1 hbn hbi f1 f2 f3 f4 f5 R1 R2 R3 R4 R5 Q1 Q2 Q3 Q4 Q5 (by simp) (by simp) (by simp) (by simp) (by simp) hI hM (by simpa using hJ.drop d) hsm hoS hn hc0 hc1 hg0 hd hfit hgi (by kst_all)⟩
              case hs => exact mem_next hP (by simp) (fun p hp => .tail _ hp) (.head _) hTW hRW2 hOW2
            · simp only [keepO, baseL, needO, List.cons_append, List.nil_append] at F2
              have hr0 : 0 < rowSz r := by simp only [rowSz]; omega
              k_steps
              refine Stop.on ?_
              rename News _ _ _ _ => N1
              rename Fr _ _ _ _ => F2
              rename _ ∧ AllLt _ P => l9
              rename _ ∧ _ ∧ _ ∧ AllLt _ P => l8
              obtain ⟨D, hD⟩ := third_of N1
              dsimp only at hD
              subst hD
              obtain ⟨v1, v2, v3, v4, v5, v6⟩ := hP1 l9.2
              obtain ⟨y1, y2, y3, y4, y5, y6⟩ := hP1 l8.2.2.2
              refine MidP.intro F2 N1 ?hs ⟨_, rfl, off_next (T2 := [(D, tupO r ta tb 0)]) (T := T) (R := R) O1 O2 O3 O4 O5 y6 (by simpa using v6) Q8 O7, next_inv (T2 := [(D, tupO r ta tb 0)]) (ts := ts) (n1 := n1) (n2 := n2) (t2 := t2) (t4 := t4) (t5 := t5) (n3 := n3) (n4 := 0) hst0 hst1 hbn hbi y1 y2 y3 y4 y5 R1 R2 R3 R4 R5 Q1 Q2 Q3 Q4 Q5 (by simpa using v1) (by simpa using v2) (by simpa using v3) (by simpa using v4) (by simpa using v5) hI hM (RowsIn.append ((hJ.drop d).mono fun p hp => .tail _ hp) (.cons (.head _) .nil)) hsm hoS hn hc0 hc1 hg0 hd hfit hgi (by kst_all)⟩
              case hs => exact mem_next hP (by simp) (fun p hp => .tail _ (.tail _ (.tail _ (.tail _ hp)))) (.head _) hTW hRW2 hOW2
          · clear hst0 hst1 hbn hbi r1 r2 r3 r4 r5 R1 R2 R3 R4 R5 Q1 Q2 Q3 Q4 Q5 hI hJ hM hoS hn hc0 hc1 hg0 hgi hfit hd hld f1 f2 f3 f4 f5 f6 F2 N1 hsm hl hl2 hTW hRW2 hOW2 hP1 hRP hOP O7 Q8 hRW hOW W1 W2 W3 W4 W5 hP
            intro h' tk' m' news' F2 N1 hMid
            obtain ⟨nx, rfl, hoff, hInv⟩ := hMid
            rcases hInv with @⟨st, ts, n1, bvs, n2, bns, cap, t2, t4, t5, gone, tg, tc, vs, n3, rl, ws, n4, rs, R, hst0, hst1, hbn, hbi, r1, r2, r3, r4, r5, R1, R2, R3, R4, R5, hI, hJ, hsm, hsz, hc0, hc1, hg0, hgi, hks⟩
            rw [← kstB_self hks] at F2
            simp only [ledL, List.cons_append] at N1
            have hRW : ∀ p ∈ R, p ∈ R ++ own := fun p hp => List.mem_append.mpr (.inl hp)
            have W1 : ∀ p ∈ R ++ own, p.1 ≠ bx := by walk_at "MyOffs"
            have W2 : ∀ p ∈ R ++ own, p.1 ≠ bl := by walk_at "MyOffs"
            have hOW : ∀ p ∈ own, p ∈ R ++ own := fun p hp => List.mem_append.mpr (.inr hp)
            have hl := hI.length
            generalize R ++ own = W at N1 hRW W1 W2 hOW
            have hlen : rs.length ≤ 20 := by omega
            k_steps
            refine Stop.on ?_
            k_dflt (refine' does_val (right_does w _ _ _ (hI.mono ?sub) (hJ.mono ?sub) hsm hlen hg0 (by omega) rfl ?m1 ?m2 ?m3 ?m4) ?k1 ?k2 ?k3 ?k4 ?k5 ?kK ?kd ?ku ?_)
            case k1 => k_asm
            case k2 => k_asm
            case k3 => k_asm
            case k4 => k_asm
            case k5 => k_asm
            case m1 => k_mem
            case m2 => k_mem
            case m3 => k_mem
            case m4 => k_mem
            case sub => exact fun p hp => .tail _ (.tail _ (.tail _ (.tail _ (.tail _ (.tail _ (hRW p hp))))))
            case kK => first | exact rfl | assumption
            case kd => ktr_room
            case ku => ktr_units
            clear N1 F2
            intro h9 tk9 F2 N1
            k_steps
            refine Stop.on ?_
            rename News _ _ _ _ => N1
            rename Fr _ _ _ _ => F2
            rename _ ∧ _ ∧ _ ∧ _ ∧ _ ∧ _ ∧ AllLt _ W => l6
            refine my_tuple (fun m nx => ∃ st ts n1 bvs n2 bns, 0 ≤ st ∧ st < 2147483647 ∧ List.length bns ≤ 24 ∧ IntsAre bvs bns ∧ (∀ p ∈ namesL (g * 45) x bx rl tG gone tg cap tc, m p.1 = some p.2) ∧
              nx = (bx, listOf #[.ref bl, .int st ts] n1) :: (bl, listOf bvs.toArray n2) :: (x, instObj 87 dx) :: (dx, dictOf (tabE w κ (g * 45) t1 cap t2 tl (gone + rs.length) t4 (szOf rs) t5) 5) :: (tl, listOf vs.toArray n3) :: (rl, listOf ws.toArray n4) :: W) rfl F2 N1 (six_off l6) ⟨st, ts, n1, bvs, n2, bns, hst0, hst1, hbn, hbi, ?hks, rfl⟩ ?turn2 ?done2
            case hks => kst_all
            case done2 =>
              clear F2 N1 l6 hst0 hst1 hbn hbi hks
              rintro m₁ nx h tk ⟨st, ts, n1, bvs, n2, bns, hst0, hst1, hbn, hbi, hks, rfl⟩ F2 N1
              k_steps
              refine Stop.on ?_
              exact InvEndG.intro F2 N1 (LawInv.mk (w := w) (κ := κ) (t1 := t1) (bl := bl) (dx := dx) (tl := tl) (ts := ts) (n1 := n1) (n2 := n2) (t2 := t2) (t4 := t4) (t5 := t5) (n3 := n3) (n4 := n4) hst0 hst1 hbn hbi r1 r2 r3 r4 r5 R1 R2 R3 R4 R5 hI hJ hsm hsz hc0 hc1 hg0 hgi hks) hoff (six_mono hRW) (fun p hp => .tail _ (.tail _ (.tail _ (.tail _ (.tail _ (.tail _ (hOW p hp)))))))
            case turn2 =>
              clear F2 N1 l6 hst0 hst1 hbn hbi hks
              rintro v m₁ nx h tk own2 hv hoff2 ⟨st, ts, n1, bvs, n2, bns, hst0, hst1, hbn, hbi, hks, rfl⟩ F2 N1
              replace F2 := F2 _ hks
              obtain ⟨nm, tnm, rfl⟩ : ∃ nm tnm, v = .bytes nm tnm := by
                simp only [List.mem_cons, List.not_mem_nil, or_false] at hv
                rcases hv with h | h | h <;> exact ⟨_, _, h⟩
              clear hv
              simp only [List.cons_append] at N1
              have Y1 : ∀ p ∈ own2, p.1 ≠ bx := fun p hp => hoff2 p hp _ (by simp)
              have Y2 : ∀ p ∈ own2, p.1 ≠ bl := fun p hp => hoff2 p hp _ (by simp)
              have Z1 : ∀ p ∈ W ++ own2, p.1 ≠ bx := by walk_at "MyOffs"
              have Z2 : ∀ p ∈ W ++ own2, p.1 ≠ bl := by walk_at "MyOffs"
              have hWW : ∀ p ∈ W, p ∈ W ++ own2 := fun p hp => List.mem_append.mpr (.inl hp)
              have hOW3 : ∀ p ∈ own2, p ∈ W ++ own2 := fun p hp => List.mem_append.mpr (.inr hp)
              generalize W ++ own2 = W3 at N1 Z1 Z2 hWW hOW3
              k_steps
              rename News _ _ _ _ => N1
              rename Fr _ _ _ _ => F2
              rename _ ∧ _ ∧ _ ∧ _ ∧ _ ∧ _ ∧ AllLt _ W3 => l6
              obtain ⟨u1, u2, -⟩ := l6
              have hsub := sub_c1 N1
              walk_at "MyTakeN"
              clear hbi hst0 hst1 hbn hsub F2 N1
              rintro _ _ h2 tk2 ⟨d3, td3, st, ts, n1, n2, bvs, bns, rfl, hv0, hv1, hst0, hst1, hbn, hbi, rfl⟩ F2 N1
              obtain ⟨vn, tvn, hvn, hvn0, hvn2⟩ := menuI N1 hv0 hv1
              k_steps
              refine Stop.on ?_
              have hsub3 : ∀ p ∈ R, p ∈ W3 := fun p hp => hWW p (hRW p hp)
              k_dflt (refine' does_val (found_does (r := (nm, _)) w _ _ _ (vs := vs) (ws := ws) (rs := rs) (hI.mono ?sub) (hJ.mono ?sub) hlen ?hins hg0 ?hg1 ?m1 ?m2 ?m3 ?m4) ?k1 ?k2 ?k3 ?k4 ?k5 ?kK ?kd ?ku ?_)
              case k1 => k_asm
              case k2 => k_asm
              case k3 => k_asm
              case k4 => k_asm
              case k5 => k_asm
              case m1 => k_mem
              case m2 => k_mem
              case m3 => k_mem
              case m4 => k_mem
              case sub => exact fun p hp => .tail _ (.tail _ (.tail _ (.tail _ (.tail _ (.tail _ (.tail _ (hsub3 p hp)))))))
              case hins => omega
              case hg1 => omega
              case kK => first | exact rfl | assumption
              case kd => ktr_room
              case ku => ktr_units
              clear N1 F2
              intro h9 tk9 F2 N1
              k_steps
              refine Stop.on ?_
              exact InvEndG.intro F2 N1 ⟨st, ts, n1, bvs, n2, bns, hst0, hst1, hbn, hbi, by kst_all, rfl⟩ hoff2 (six_mid hWW) (fun p hp => .tail _ (.tail _ (.tail _ (.tail _ (.tail _ (.tail _ (.tail _ (hOW3 p hp)))))))))

end Mine
theorem PySem.Challenge.cw_no0053_01_holds : PySem.Challenge.rw_no0053_01.Holds :=
  Mine.law_holds
