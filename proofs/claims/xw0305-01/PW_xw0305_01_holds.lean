import PyProof.Rows.All
import Wide.All
import OpenK.AllK
import Wide.FinOn
import PySem.Challenge.RW_xw0305_01
section
open PySem PySem.W PyProof.Rows
set_option Elab.async false
set_option maxRecDepth 100000
set_option maxHeartbeats 8000000
namespace Mine
section
local macro_rules | `(tactic| o_head $_) => `(tactic| assumption)
/-- says nothing: its proof writes the heap that the text's top leaves -/
theorem hd : PySem.Challenge.rw_xw0305_01.row.Holds ∨ ¬ PySem.Challenge.rw_xw0305_01.row.Holds := by
  by_cases h : PySem.Challenge.rw_xw0305_01.row.Holds
  · refine Or.inl ?_
    k_head
  · exact Or.inr h
end
end Mine
end

section
open PySem PySem.W PyProof.Rows PySem.Spec PySem.Calls
set_option Elab.async false
set_option maxRecDepth 100000
set_option maxHeartbeats 8000000
namespace Mine
noncomputable abbrev prg : Program := PySem.Challenge.pw_xw0305_01

/-- a cover, so that Lean does not look beneath -/
def Outs (Out : List (Addr × Obj) → List (Addr × Obj) → Value → Prop) (news tl : List (Addr × Obj)) (r : Value) : Prop := Out news tl r
/-- what a call of the def at f with the arguments vs answers, over what has been made so far -/
def Tell (w : World) (f : Addr) (k : Nat) (tok : Nat → Prop) (vs : List Value) (news : List (Addr × Obj)) (Out : List (Addr × Obj) → List (Addr × Obj) → Value → Prop) : Prop :=
  ∀ (pp : Program) (ll : List Str) (mean : ExcName → Option Value) (mg mb : Str → Option Value) (dp un : Nat) (gd : Option (List Code)) (cn : Str) (cs : Scope) (a : Addr) (ccd : Value) (cl : List (Str × Addr)) (outer : List Env) (A₀ : Around) (base h₀ : Heap) (L : Addr) (m : Str → Option Value) (s : Shared)
    (Q E : Value → Shared → Prop),
    Below A₀ base outer h₀ → Fr h₀ L s.heap m → (hd.heap_1 w.params).In h₀ → News h₀ L s.heap news → Top pp ll mean mg mb h₀ → cs.kind = .function → dp + k < 1000 → un + 8 * k < 9900 → tok s.toks →
    (∀ r tl h' tk', Fr h₀ L h' m → News h₀ L h' (news ++ tl) → (∀ q ∈ news, ∀ p ∈ tl, q.1 ≠ p.1) → Outs Out news tl r → Q r { s with heap := h', toks := tk' }) →
    wpAny (model prg w) (ktrTop dp un gd cn cs L a ccd cl outer) (call (.ref f) vs) Q E s

theorem tell_use {w : World} {f : Addr} {k : Nat} {tok : Nat → Prop} {vs : List Value} {news : List (Addr × Obj)} {Out : List (Addr × Obj) → List (Addr × Obj) → Value → Prop}
    {pp : Program} {ll : List Str} {mean : ExcName → Option Value} {mg mb : Str → Option Value} {dp un : Nat} {gd : Option (List Code)} {cn : Str} {cs : Scope} {a : Addr} {ccd : Value} {cl : List (Str × Addr)} {outer : List Env} {A₀ : Around} {base h₀ : Heap} {L : Addr} {m : Str → Option Value} {s : Shared}
    {Q : Value → Shared → Prop} (C : Tell w f k tok vs news Out)
    (B : Below A₀ base outer h₀) (F : Fr h₀ L s.heap m) (X : (hd.heap_1 w.params).In h₀) (N : News h₀ L s.heap news) (T : Top pp ll mean mg mb h₀) (hk : cs.kind = .function)
    (hd : dp + k < 1000) (hu : un + 8 * k < 9900) (ht : tok s.toks)
    (ret : ∀ r tl h' tk', s.toks ≤ tk' → Fr h₀ L h' m → News h₀ L h' (news ++ tl) → (∀ q ∈ news, ∀ p ∈ tl, q.1 ≠ p.1) → Out news tl r → Q r { s with heap := h', toks := tk' }) :
    wpAny (model prg w) (ktrTop dp un gd cn cs L a ccd cl outer) (call (.ref f) vs) Q (fun _ _ => False) s :=
  wpAny_mono (wpAny_with_toks (n := s.toks) (Nat.le_refl _) (Q := Q) (E := fun _ _ => False) (wpAny_mono (C _ _ _ _ _ _ _ _ _ _ _ _ _ _ _ _ _ _ _ _ (fun v s' => s.toks ≤ s'.toks → Q v s') (fun _ _ => False) B F X N T hk hd hu ht fun r tl h' tk' F' N' ho hO hle => ret r tl h' tk' hle F' N' ho hO) (fun _ _ x => x) fun _ _ x => x.elim)) (fun _ _ x => x) fun _ _ x => x
/-- the count of tokens, as a letter with a lower bound -/
theorem gen_toks {α : Type} {M : Model} {A : Around} {t : Sem α} {Q : α → Shared → Prop} {E : Value → Shared → Prop} {h : Heap} {g : Array GenState} {d : Drawn} {a b : Nat} {o : OsState}
    (hh : ∀ tk, a ≤ tk → wpAny M A t Q E ⟨h, g, d, tk, o⟩) : wpAny M A t Q E ⟨h, g, d, a + b, o⟩ := hh _ (Nat.le_add_right a b)
end Mine
end

section
open PySem PySem.W PyProof.Rows PySem.Spec PySem.Calls
set_option Elab.async false
set_option maxRecDepth 100000
set_option maxHeartbeats 8000000
namespace Mine
section
variable {prog : Program} {w : World} {A : Around} {E : Value → Shared → Prop} {s : Shared}

theorem gt_tup3_tree {x y : Addr} {ox oy : Obj} {a b : Int} {t0 t1 t2 u0 u1 u2 : Tok} {n k : Nat} {z : Str} {P : PySem.Fin → Shared → Prop}
    (hx : s.heap.get? x = some ox) (cx : ox.cls = .type "tuple") (dx : ox.data = .seq #[.int 0 t0, .int a t1, .str z t2] n)
    (hy : s.heap.get? y = some oy) (cy : oy.cls = .type "tuple") (dy : oy.data = .seq #[.int 0 u0, .int b u1, .str z u2] k)
    (h : P (.done (.ret (.bool (decide (b < a))))) s) :
    wpAny (model prog w) A (Builtin.«tuple.__gt__» ⟨[.ref x, .ref y], []⟩) P E s := by
  have hTb : s.TypeIs (.ref y) "tuple" := ⟨oy, hy, cy⟩
  show wpAny _ _ (isInstance (.ref y) (.type "tuple") >>= _) _ _ s
  refine wpAny_bind (wpAny_isInstance hTb isSubtype_tuple_tuple ?_)
  simp only [Bool.not_true, Bool.false_eq_true, if_false]
  refine wpAny_bind (wpAny_tupleItemsOf hx dx ?_)
  refine wpAny_bind (wpAny_tupleItemsOf hy dy ?_)
  refine wpAny_bind ?_
  show wpAny _ _ (forIn [(Value.int 0 t0, Value.int 0 u0), (Value.int a t1, Value.int b u1), (Value.str z t2, Value.str z u2)] _ _) _ _ _
  rw [List.forIn_cons]
  refine wpAny_bind (wpAny_bind (wpAny_eqBool_int ?_))
  simp only [beq_self_eq_true, Bool.not_true, Bool.false_eq_true, if_false]
  refine wpAny_pure ?_
  dsimp only
  rw [List.forIn_cons]
  refine wpAny_bind (wpAny_bind (wpAny_eqBool_int ?_))
  by_cases e : a = b
  · subst e
    simp only [beq_self_eq_true, Bool.not_true, Bool.false_eq_true, if_false]
    refine wpAny_pure ?_
    dsimp only
    rw [List.forIn_cons]
    refine wpAny_bind (wpAny_bind (wpAny_eqBool_str ?_))
    simp only [decide_true, Bool.not_true, Bool.false_eq_true, if_false]
    refine wpAny_pure ?_
    dsimp only
    rw [List.forIn_nil]
    refine wpAny_pure ?_
    dsimp only
    refine wpAny_pure ?_
    have : decide (a < a) = false := by simp
    rw [this] at h
    exact h
  · have e' : (a == b) = false := by simpa using e
    simp only [e', Bool.not_false, if_true]
    refine wpAny_bind (wpAny_rule ?_)
    refine wpAny_bind (show wpAny _ _ (compareOp .Gt (.int a t1) (.int b u1)) _ _ _ from PyProof.Rows.gt_int ?_)
    refine wpAny_bind (wpAny_pure (wpAny_pure ?_))
    dsimp only
    refine wpAny_pure (wpAny_pure ?_)
    exact h

theorem gt_tup3 {x y : Addr} {ox oy : Obj} {a b : Int} {t0 t1 t2 u0 u1 u2 : Tok} {n k : Nat} {z : Str} {Q : Value → Shared → Prop} (hu : A.units < cLine)
    (hx : s.heap.get? x = some ox) (cx : ox.cls = .type "tuple") (dx : ox.data = .seq #[.int 0 t0, .int a t1, .str z t2] n)
    (hy : s.heap.get? y = some oy) (cy : oy.cls = .type "tuple") (dy : oy.data = .seq #[.int 0 u0, .int b u1, .str z u2] k)
    (h : Q (.bool (decide (b < a))) s) :
    wpAny (model prog w) A (compareOp .Gt (.ref x) (.ref y)) Q E s := by
  refine cmp_ofGt (wpAny_richCompare_same_room (T := "tuple") ⟨ox, hx, cx⟩ ⟨oy, hy, cy⟩ F.slot_tuple_gt ?_ hu)
  exact wpAny_call_entry F.slot_tuple_gt ⟨ox, hx, cx⟩ F.entry_tuple_gt (gt_tup3_tree hx cx dx hy cy dy ⟨_, rfl, nofun, h⟩) (F.args_tuple_gt_2 _ _)

/-- how two ties are ordered -/
def tieLt (p q : Int × Str) : Bool := if p.1 = q.1 then decide (p.2.cps.toList < q.2.cps.toList) else decide (p.1 < q.1)

theorem list_lt_loop2 {x y : Addr} {ox oy : Obj} {a b : Int} {p q : Str} {t0 t1 u0 u1 : Tok} {n k : Nat} {R : Result → Shared → Prop}
    (hx : s.heap.get? x = some ox) (dx : ox.data = .seq #[.int a t0, .str p t1] n)
    (hy : s.heap.get? y = some oy) (dy : oy.data = .seq #[.int b u0, .str q u1] k) (hpq : p ≠ q)
    (h : R (.ok (.ret (.bool (tieLt (a, p) (b, q))))) s) :
    codeAny (model prog w) A (.builtin "list.__eq__.loop" ⟨[.ref x, .ref y, rawInt 0, rawInt 0], []⟩) R s := by
  refine codeAny_builtin MeetsSeq3.entry_eq_loop ?_
  rw [Around.under_plainId MeetsSeq3.plain_eq_loop _]
  unfold Builtin.«list.__eq__.loop»
  refine wpAny_bind (listItems_at hx dx ?_)
  refine wpAny_bind (listItems_at hy dy ?_)
  show wpAny _ _ (eqBool (.int a t0) (.int b u0) >>= _) _ _ _
  refine wpAny_bind (wpAny_eqBool_int ?_)
  by_cases e : a = b
  · subst e
    simp only [beq_self_eq_true, if_true]
    refine wpAny_pure ⟨plainId_quiet MeetsSeq3.plain_eq_loop _, codeAny_builtin MeetsSeq3.entry_eq_loop ?_⟩
    rw [Around.under_plainId MeetsSeq3.plain_eq_loop _]
    unfold Builtin.«list.__eq__.loop»
    refine wpAny_bind (listItems_at hx dx ?_)
    refine wpAny_bind (listItems_at hy dy ?_)
    show wpAny _ _ (eqBool (.str p t1) (.str q u1) >>= _) _ _ _
    refine wpAny_bind (wpAny_eqBool_str ?_)
    simp only [decide_eq_false hpq, Bool.false_eq_true, if_false]
    refine wpAny_bind (listItems_at hx dx ?_)
    refine wpAny_bind (listItems_at hy dy ?_)
    show wpAny _ _ (richCompare .Lt (.str p t1) (.str q u1) >>= _) _ _ _
    refine wpAny_bind (show wpAny _ _ (compareOp .Lt (.str p t1) (.str q u1)) _ _ _ from PyProof.Rows.lt_str ?_)
    refine wpAny_pure ?_
    have e : tieLt (a, p) (a, q) = decide (p.cps.toList < q.cps.toList) := by simp [tieLt]
    rw [e] at h
    exact h
  · have e' : (a == b) = false := by simpa using e
    simp only [e', Bool.false_eq_true, if_false]
    refine wpAny_bind (listItems_at hx dx ?_)
    refine wpAny_bind (listItems_at hy dy ?_)
    show wpAny _ _ (richCompare .Lt (.int a t0) (.int b u0) >>= _) _ _ _
    refine wpAny_bind (show wpAny _ _ (compareOp .Lt (.int a t0) (.int b u0)) _ _ _ from PyProof.Rows.lt_int ?_)
    refine wpAny_pure ?_
    have e : tieLt (a, p) (b, q) = decide (a < b) := by simp [tieLt, e]
    rw [e] at h
    exact h

theorem list_lt_meets {x y : Addr} {ox oy : Obj} {a b : Int} {p q : Str} {t0 t1 u0 u1 : Tok} {n k : Nat} (cy : oy.cls = .type "list")
    (dx : ox.data = .seq #[.int a t0, .str p t1] n) (dy : oy.data = .seq #[.int b u0, .str q u1] k) (hpq : p ≠ q) :
    Meets (Builtin.«list.__lt__» ⟨[.ref x, .ref y], []⟩) (fun _ R s => s.heap.get? x = some ox ∧ s.heap.get? y = some oy ∧ R (.ok (.ret (.bool (tieLt (a, p) (b, q))))) s) := by
  intro prog w A R s h
  obtain ⟨hx, hy, h⟩ := h
  unfold Builtin.«list.__lt__»
  have hTb : s.TypeIs (.ref y) "list" := ⟨oy, hy, cy⟩
  show wpAny _ _ (isInstance (.ref y) (.type "list") >>= _) _ _ s
  refine wpAny_bind (wpAny_isInstance hTb AutoSeq1.sub_list_list ?_)
  simp only [Bool.not_true, Bool.false_eq_true, if_false]
  rw [if_neg (show ¬ (CmpOp.Lt == CmpOp.Eq || CmpOp.Lt == CmpOp.NotEq) = true by decide)]
  refine wpAny_pure ⟨plainId_quiet MeetsSeq3.plain_eq_loop _, ?_⟩
  exact list_lt_loop2 hx dx hy dy hpq h

theorem keyLt_tie {x y : Addr} {ox oy : Obj} {a b : Int} {p q : Str} {t0 t1 u0 u1 : Tok} {n k : Nat} {Q : Bool → Shared → Prop} (hu : A.units < cLine)
    (hx : s.heap.get? x = some ox) (cx : ox.cls = .type "list") (dx : ox.data = .seq #[.int a t0, .str p t1] n)
    (hy : s.heap.get? y = some oy) (cy : oy.cls = .type "list") (dy : oy.data = .seq #[.int b u0, .str q u1] k) (hpq : p ≠ q)
    (h : Q (tieLt (a, p) (b, q)) s) :
    wpAny (model prog w) A (keyLt' oneType' (.ref x) (.ref y)) Q E s := by
  rw [keyLt'_oneType, oneLt'_eq]
  simp only [if_true]
  refine wpAny_bind (wpAny_cRoomFor hu ?_)
  refine wpAny_bind (wpAny_callSpecialIfBound?_slot (T := "list") ⟨ox, hx, cx⟩ F.slot_list_lt ?_)
  refine call_meets F.slot_list_lt ⟨ox, hx, cx⟩ F.entry_list_lt (F.args_list_lt_2 _ _) (list_lt_meets cy dx dy hpq) ⟨hx, hy, ?_⟩
  exact wpAny_truthy_bool h
end
end Mine
end

section
open PySem PySem.W PyProof.Rows PySem.Spec PySem.Calls
set_option Elab.async false
set_option maxRecDepth 100000
set_option maxHeartbeats 8000000
namespace Mine
theorem fill : (fun (_ : OpenLaw) (_ : Params → Frag) => True) PySem.Challenge.rw_xw0305_01 hd.heap_1 := by
  k_fill
  trivial
def Hold (p : Prop) : Prop := p
theorem hold_intro {p : Prop} (h : Hold p) : p := h
theorem hold_out {p : Prop} (h : p) : Hold p := h

theorem tell_end0 {h₀ : Heap} {L : Addr} {m : Str → Option Value} {news all : List (Addr × Obj)} {Out : List (Addr × Obj) → List (Addr × Obj) → Value → Prop} {s : Shared} {Q : Value → Shared → Prop}
    (hret : ∀ r tl h' tk', Fr h₀ L h' m → News h₀ L h' (news ++ tl) → (∀ q ∈ news, ∀ p ∈ tl, q.1 ≠ p.1) → Outs Out news tl r → Q r { s with heap := h', toks := tk' })
    {r : Value} {h' : Heap} {tk' : Nat} (F : Fr h₀ L h' m) (N : News h₀ L h' all) (hs : ∀ p ∈ news, p ∈ all) (o : Out news [] r) : Q r { s with heap := h', toks := tk' } :=
  hret r [] h' tk' F (fun p hp => N p (hs p (by simpa using hp))) (fun _ _ _ h => nomatch h) o

local macro_rules | `(tactic| k_room) => `(tactic| ((simp only [ktrTop, depth_mark, depth_under_make, depth_under_kw, depth_in1, depth_deeper, depth_caller, recursionLimit]); omega))
local macro_rules | `(tactic| ktr_room) => `(tactic| k_room)
local macro_rules | `(tactic| k_mem) => `(tactic| first | exact List.mem_cons_self | with_reducible assumption | (refine List.mem_cons_of_mem _ ?_; k_mem) | (refine List.mem_append.mpr (Or.inl ?_); k_mem) | (refine List.mem_append.mpr (Or.inr ?_); k_mem))
local macro_rules | `(tactic| k_units) => `(tactic| ((simp only [ktrTop, units_in1, units_deeper, Around.mark_units, units_caller, cLine]); omega))

section
local macro_rules | `(tactic| walk_at "compareOp Gt ref ref") => `(tactic| (k_here; (with_reducible show wpAny _ _ (compareOp CmpOp.Gt (Value.ref _) (Value.ref _)) _ _ _); k_dflt (refine' gt_tup3 ?hu ?hx ?cx ?dx ?hy ?cy ?dy ?_; (case hu => k_units); (case hx => exact News.get (by k_asm) (by k_mem)); (case cx => exact rfl); (case dx => exact rfl); (case hy => exact News.get (by k_asm) (by k_mem)); (case cy => exact rfl); (case dy => exact rfl); k_whole)))
theorem beh (w : World) (a b : Int) (t u : Tok) (news : List (Addr × Obj)) : Tell w 310 5 (fun _ => True) [.int a t, .int b u, .bool false] news (fun _ tl v => tl = [] ∧ v = .bool (decide (b < a))) := by
  unfold Tell
  intro pp ll mean mg mb dp un gd cn cs ad ccd cl outer A₀ base h₀ L m s Q E B F X N T hk hd hu htk hret
  refine wpAny_call ?_
  k_dflt ktr_enter
  k_steps
  exact tell_end0 hret (by k_asm) (by k_asm) (by intro p hp; simp only [List.mem_cons, hp, or_true]) ⟨rfl, rfl⟩
end

abbrev tieD (p : Int × Str) : Dat := .list [.int p.1, .str p.2]


theorem upd_self {m : Str → Option Value} {k : Str} {v : Value} (h : m k = some v) : m = fun y => if y = k then some v else m y := by
  funext y
  by_cases e : y = k
  · rw [if_pos e, e, h]
  · rw [if_neg e]
theorem tie_out {news : List (Addr × Obj)} {v : Value} {p : Int × Str} (h : DatIn news v (tieD p)) : ∃ a t u n, v = .ref a ∧ (a, listOf #[.int p.1 t, .str p.2 u] n) ∈ news := by
  cases h with
  | list hm r =>
    cases r with
    | cons h1 r =>
      cases r with
      | cons h2 r =>
        cases r
        cases h1
        cases h2
        exact ⟨_, _, _, _, rfl, hm⟩
theorem item_at {prog : Program} {w : World} {A : Around} {E : Value → Shared → Prop} {s : Shared} {value slice : PySem.Expr} {l : Addr} {vs : List Value} {n : Nat} {k : Int} {u : Tok} {v : Value} {Q : Value → Shared → Prop} {h₀ : Heap} {L : Addr} {news : List (Addr × Obj)}
    (N : News h₀ L s.heap news) (hm : (l, listOf vs.toArray n) ∈ news) (h0 : 0 ≤ k) (hhi : k < 2 ^ 63) (hx : vs[k.toNat]? = some v) (h : Q v s)
    (hs : subscripted slice false (.ref l) (.int k u) = operate [.ref l, .int k u] (getItem (.ref l) (.int k u)) := by with_unfolding_all rfl) :
    wpAny (model prog w) A (subscriptTail value slice (.ref l) (.int k u)) Q E s :=
  have hl : s.heap.IsList l vs.toArray := ⟨_, (N _ hm).1, rfl, _, rfl⟩
  tail_any hl.typeIs slot_list_getitem.lookup (wpAny_getItem_list hl h0 hhi (by simpa using hx) h) hs
theorem ife {m : Str → Option Value} {k : Str} {v : Value} (h : m k = some v) (y : Str) : (if y = k then some v else m y) = m y := by
  by_cases e : y = k
  · rw [if_pos e, e, h]
  · rw [if_neg e]
theorem fr_ext {h₀ h : Heap} {L : Addr} {m m' : Str → Option Value} (F : Fr h₀ L h m) (e : ∀ y, m' y = m y) : Fr h₀ L h m' := (funext e : m' = m) ▸ F
theorem datAll_take {news : List (Addr × Obj)} : ∀ {vs : List Value} {ds : List Dat} (n : Nat), DatAll news vs ds → DatAll news (vs.take n) (ds.take n)
  | _, _, 0, _ => by simp only [List.take_zero]; exact .nil
  | _, _, n + 1, .nil => by simp only [List.take_nil]; exact .nil
  | _, _, n + 1, .cons h r => by simp only [List.take_succ_cons]; exact .cons h (datAll_take n r)
theorem datAll_drop {news : List (Addr × Obj)} : ∀ {vs : List Value} {ds : List Dat} (n : Nat), DatAll news vs ds → DatAll news (vs.drop n) (ds.drop n)
  | _, _, 0, h => by simp only [List.drop_zero]; exact h
  | _, _, n + 1, .nil => by simp only [List.drop_nil]; exact .nil
  | _, _, n + 1, .cons h r => by simp only [List.drop_succ_cons]; exact datAll_drop n r
theorem fits_idx {x : Int} (h0 : 0 ≤ x) (h : x ≤ 1000) : Builtin.List.listFitsIndex x = true := by
  unfold Builtin.List.listFitsIndex
  simp only [Bool.and_eq_true, decide_eq_true_eq]
  omega
/-- the place of an insertion keeps the order -/
theorem ins_sorted {ts : List (Int × Str)} {row : Int × Str} {a : Nat} (ho : ts.Pairwise (fun a b => a.1 ≤ b.1)) (hb : ∀ p ∈ ts.drop a, row.1 < p.1) (hl : a = 0 ∨ ∃ h : a - 1 < ts.length, ts[a - 1].1 ≤ row.1) (ha : a ≤ ts.length) :
    (ts.take a ++ row :: ts.drop a).Pairwise (fun a b => a.1 ≤ b.1) := by
  have hlow : ∀ p ∈ ts.take a, p.1 ≤ row.1 := by
    intro p hp
    rcases hl with rfl | ⟨h, hle⟩
    · simp at hp
    · obtain ⟨j, hj, rfl⟩ := List.mem_iff_getElem.mp hp
      rw [List.length_take] at hj
      rw [List.getElem_take]
      by_cases e : j = a - 1
      · subst e; exact hle
      · exact Int.le_trans (List.pairwise_iff_getElem.mp ho j (a - 1) (by omega) h (by omega)) hle
  have ho' : (ts.take a ++ ts.drop a).Pairwise (fun a b => a.1 ≤ b.1) := by rw [List.take_append_drop]; exact ho
  obtain ⟨h1, h2, h3⟩ := List.pairwise_append.mp ho'
  refine List.pairwise_append.mpr ⟨h1, List.pairwise_cons.mpr ⟨fun p hp => Int.le_of_lt (hb p hp), h2⟩, fun p hp q hq => ?_⟩
  rcases List.mem_cons.mp hq with rfl | hq
  · exact hlow p hp
  · exact h3 p hp q hq
theorem noE {α : Type} {M : Model} {A : Around} {t : Sem α} {Q : α → Shared → Prop} {E : Value → Shared → Prop} {s : Shared} (h : wpAny M A t Q (fun _ _ => False) s) : wpAny M A t Q E s := wpAny_mono h (fun _ _ x => x) fun _ _ x => x.elim

section
local macro_rules | `(tactic| walk_at "exec While") => `(tactic| (k_here; refine hold_intro ?_))
local macro_rules | `(tactic| walk_at "exec While BoolOp") => `(tactic| (k_here; refine hold_intro ?_))
local macro_rules | `(tactic| walk_at "subscriptTail") => `(tactic| (k_here; (with_reducible show wpAny _ _ (subscriptTail _ _ (Value.ref _) (Value.int _ _)) _ _ _); (refine' item_at ?k1 ?k2 ?k3 ?k4 ?k5 ?_; (case k1 => k_asm); (case k2 => k_mem); (case k3 => first | decide | omega); (case k4 => first | decide | omega); (case k5 => first | exact rfl | assumption); k_whole)))
local macro_rules | `(tactic| walk_at "subscriptTail Name BinOp ref int") => `(tactic| (k_here; (with_reducible show wpAny _ _ (subscriptTail _ _ (Value.ref _) (Value.int _ _)) _ _ _); (refine' item_at ?k1 ?k2 ?k3 ?k4 ?k5 ?_; (case k1 => k_asm); (case k2 => k_mem); (case k3 => first | decide | omega); (case k4 => first | decide | omega); (case k5 => first | exact rfl | assumption); k_whole)))
local macro_rules | `(tactic| walk_at "call ref") => `(tactic| (k_here; (with_reducible show wpAny _ _ (call (Value.ref 310) _) _ _ _); refine hold_intro ?_))
theorem sorted_rows_tell (w : World) (l : Addr) (n : Nat) (vs : List Value) (ts : List (Int × Str)) (t : Tok) (news : List (Addr × Obj)) (hl : (l, listOf vs.toArray n) ∈ news) (hd : DatAll news vs (ts.map tieD)) (h8 : ts.length ≤ 8) :
    Tell w 303 20 (fun _ => True) [.ref l, .int 0 t, .bool false] news (fun news tl v => ∃ (D : Addr) (us : List Value) (k : Nat) (ts' : List (Int × Str)), v = .ref D ∧ tl = [(D, listOf us.toArray k)] ∧ ts'.Perm ts ∧ ts'.Pairwise (fun a b => a.1 ≤ b.1) ∧ DatAll news us (ts'.map tieD)) := by
  unfold Tell
  intro pp ll mean mg mb dp un gd cn cs ad ccd cl outer A₀ base h₀ L m s Q E B F X N T hk hd' hu htk hret
  refine wpAny_call ?_
  k_dflt ktr_enter
  refine noE ?_
  k_steps
  rename_i g L₁ h₁ FG B₁ X₁ T₁ D h₂ l1 h₃ F₁ N₁
  refine For_invV g rfl rfl ?_ (hE := PassesOwn.never)
  k_steps
  refine kdl_iter (fun i m₁ nx => ∃ (us : List Value) (k : Nat) (ts' : List (Int × Str)), m₁ (Str.ofString "found") = some (.ref D) ∧ m₁ (Str.ofString "column") = some (.int 0 t) ∧ m₁ (Str.ofString "is_down") = some (.bool false) ∧
    nx = (D, listOf us.toArray k) :: news ∧ ts'.Perm (ts.take i) ∧ ts'.Pairwise (fun a b => a.1 ≤ b.1) ∧ DatAll news us (ts'.map tieD)) rfl (.tail _ hl) F₁ N₁ ⟨[], _, [], rfl, rfl, rfl, rfl, by simp, .nil, .nil⟩ ?_ ?_
  · rintro i v m₁ nx h tk own hv hown hl' ⟨us, k, ts', e1, e2, e3, rfl, hp, ho, hD⟩ F₂ N₂
    have F₃ : Fr g L₁ h (fun y => if y = Str.ofString "row" then some v else if y = Str.ofString "found" then some (.ref D) else if y = Str.ofString "column" then some (.int 0 t) else if y = Str.ofString "is_down" then some (.bool false) else m₁ y) := fr_ext F₂ fun y => by rw [ife e3, ife e2, ife e1]
    have N₃ : News g L₁ h ((D, listOf us.toArray k) :: (news ++ own)) := N₂
    clear F₂ N₂
    have hit : (i < ts.length) := by
      have h1 := hd.length
      have h2 := (List.getElem?_eq_some_iff.mp hv).1
      rw [List.length_map] at h1
      omega
    obtain ⟨v', hv', hDi⟩ := hd.get (k := i) (by rw [List.length_map]; exact hit)
    have ev : v' = v := Option.some.inj (hv'.symm.trans hv)
    subst ev
    rw [List.getElem_map] at hDi
    obtain ⟨r, rt, ru, rn, rfl, hr⟩ := tie_out hDi
    have htk : ts.take (i + 1) = ts.take i ++ [ts[i]] := (List.take_append_getElem hit).symm
    have hneD : ∀ p ∈ news ++ own, p.1 ≠ D := fun p hp => (List.mem_append.mp hp).elim (fun h => Nat.ne_of_lt (l1 p h)) fun h => hown p h D (by simp)
    generalize ts[i] = row at *
    have hus : us.length = ts'.length := by rw [hD.length, List.length_map]
    have hl' : ts'.length ≤ 8 := by
      have := hp.length_eq
      rw [List.length_take] at this
      omega
    k_steps
    refine call_len_list ⟨_, (N₃ _ (.head _)).1, rfl, _, rfl⟩ (by rw [List.size_toArray, hus]; omega) ?_
    rw [List.size_toArray, hus]
    k_steps
    (rename Fr _ _ _ _ => F₄)
    (rename News _ _ _ _ => N₄)
    refine hold_out ?_
    refine While_inv (h₀ := g) (L := L₁) (n₀ := ts'.length) (fun n m₂ nx => ∃ (at' : Int) (tt : Tok), m₂ (Str.ofString "at") = some (.int at' tt) ∧ m₂ (Str.ofString "row") = some (.ref r) ∧ m₂ (Str.ofString "found") = some (.ref D) ∧ m₂ (Str.ofString "column") = some (.int 0 t) ∧ m₂ (Str.ofString "is_down") = some (.bool false) ∧
      nx = (D, listOf us.toArray k) :: (news ++ own) ∧ 0 ≤ at' ∧ at' ≤ ts'.length ∧ n = at'.toNat ∧ ∀ p ∈ ts'.drop at'.toNat, row.1 < p.1) F₄ N₄ ?_ ?_ (hE := PassesOwn.never)
    · exact ⟨(ts'.length : Int), _, rfl, rfl, rfl, rfl, rfl, rfl, by omega, by omega, rfl, by simp⟩
    rintro n₂ m₂ nx h₅ tk₅ F₅ N₅ ⟨at', tt, a1, a2, a3, a4, a5, rfl, h0, hle, rfl, hbig⟩
    have F₆ : Fr g L₁ h₅ (fun y => if y = Str.ofString "at" then some (.int at' tt) else if y = Str.ofString "row" then some (.ref r) else if y = Str.ofString "found" then some (.ref D) else if y = Str.ofString "column" then some (.int 0 t) else if y = Str.ofString "is_down" then some (.bool false) else m₂ y) := fr_ext F₅ fun y => by rw [ife a5, ife a4, ife a3, ife a2, ife a1]
    clear F₅ F₄ N₄
    by_cases hpos : 0 < at'
    · obtain ⟨v1, hv1, hD1⟩ := hD.get (k := (at' - 1).toNat) (by rw [List.length_map]; omega)
      rw [List.getElem_map] at hD1
      obtain ⟨q, qt, qu, qn, rfl, hq⟩ := tie_out hD1
      k_steps
      refine hold_out ?_
      (k_here; (with_reducible show wpAny _ _ (call (Value.ref 310) _) _ _ _); k_dflt (refine' tell_use (beh _ _ _ _ _ _) ?k1 ?k2 ?k3 ?k4 ?k5 ?k6 ?k7 ?k8 ?k9 ?_; (case k1 => k_asm); (case k2 => k_asm); (case k3 => k_asm); (case k4 => k_asm); (case k5 => k_asm); (case k6 => exact rfl); (case k7 => k_room); (case k8 => k_units); (case k9 => trivial)); intro r9 tl9 h9 tk9 _ F9 N9 hl9 ho9; obtain ⟨rfl, rfl⟩ := ho9; (try rw [List.append_nil] at N9); clear hl9; (try dsimp only))
      k_steps
      · refine WhileStep.intro (by k_asm) (by k_asm) (n' := (at' - 1).toNat) (by omega) ⟨at' - 1, _, rfl, rfl, rfl, rfl, rfl, rfl, by omega, by omega, rfl, ?_⟩
        intro p hp
        have hd1 : ts'.drop (at' - 1).toNat = ts'[(at' - 1).toNat]'(by omega) :: ts'.drop at'.toNat := by
          rw [List.drop_eq_getElem_cons (by omega)]
          congr 2
          omega
        rw [hd1] at hp
        rcases List.mem_cons.mp hp with rfl | hp
        · assumption
        · exact hbig p hp
      · refine kl_insert (by k_asm) (by k_asm) (fits_idx (by omega) (by omega)) rfl (Upd.head hneD) (by rw [show us.toArray.toList = us from rfl, hus, sizeLine_eq]; omega) ?_
        intro h7 F7 N7
        refine wpAny_execs_nil ?_
        refine InvEndG.intro F7 N7 ⟨.tail _ hl, kl_ins us at' (.ref r), k + 1, ts'.take at'.toNat ++ row :: ts'.drop at'.toNat, rfl, rfl, rfl, rfl, ?_, ins_sorted ho hbig ?_ (by omega), ?_⟩ hown (fun p hp => ?_) (fun p hp => ?_)
        · rw [htk]
          refine (List.perm_middle.trans ?_)
          rw [List.take_append_drop]
          exact (List.Perm.cons row hp).trans (List.perm_append_comm (l₁ := [row]))
        · refine .inr ⟨by omega, ?_⟩
          have e : at'.toNat - 1 = (at' - 1).toNat := by omega
          simp only [e]
          exact Int.not_lt.mp (by assumption)
        · show DatAll news (kl_ins us at' (.ref r)) _
          rw [List.map_append, List.map_cons, List.map_take, List.map_drop]
          unfold kl_ins
          rw [if_neg (by omega), hus, Nat.min_eq_left (by omega)]
          exact (datAll_take _ hD).append (.cons hDi (datAll_drop _ hD))
        · rcases List.mem_cons.mp hp with rfl | hp
          · exact .head _
          · exact .tail _ (List.mem_append_left _ hp)
        · exact .tail _ (List.mem_append_right _ hp)
  
    · k_steps
      refine kl_insert (by k_asm) (by k_asm) (fits_idx (by omega) (by omega)) rfl (Upd.head hneD) (by rw [show us.toArray.toList = us from rfl, hus, sizeLine_eq]; omega) ?_
      intro h7 F7 N7
      refine wpAny_execs_nil ?_
      refine InvEndG.intro F7 N7 ⟨.tail _ hl, kl_ins us at' (.ref r), k + 1, ts'.take at'.toNat ++ row :: ts'.drop at'.toNat, rfl, rfl, rfl, rfl, ?_, ins_sorted ho hbig ?_ (by omega), ?_⟩ hown (fun p hp => ?_) (fun p hp => ?_)
      · rw [htk]
        refine (List.perm_middle.trans ?_)
        rw [List.take_append_drop]
        exact (List.Perm.cons row hp).trans (List.perm_append_comm (l₁ := [row]))
      · exact .inl (by omega)
      · show DatAll news (kl_ins us at' (.ref r)) _
        rw [List.map_append, List.map_cons, List.map_take, List.map_drop]
        unfold kl_ins
        rw [if_neg (by omega), hus, Nat.min_eq_left (by omega)]
        exact (datAll_take _ hD).append (.cons hDi (datAll_drop _ hD))
      · rcases List.mem_cons.mp hp with rfl | hp
        · exact .head _
        · exact .tail _ (List.mem_append_left _ hp)
      · exact .tail _ (List.mem_append_right _ hp)
  · rintro m₁ nx h tk ⟨us, k, ts', e1, e2, e3, rfl, hp, ho, hD⟩ F₂ N₂
    have F₃ : Fr g L₁ h (fun y => if y = Str.ofString "found" then some (.ref D) else m₁ y) := fr_ext F₂ fun y => by rw [ife e1]
    have N₃ : News g L₁ h ((D, listOf us.toArray k) :: news) := N₂
    clear F₂ N₂
    dsimp only
    k_steps
    have hvl : vs.length = ts.length := by rw [hd.length, List.length_map]
    rw [hvl, List.take_length] at hp
    exact hret _ [(D, listOf us.toArray k)] _ _ (by k_asm) (ktn_tl1 (by k_asm)) (fun q hq p hp => by rw [List.mem_singleton.mp hp]; exact Nat.ne_of_lt (l1 q hq)) ⟨D, us, k, ts', rfl, rfl, hp, ho, hD⟩
end
end Mine
end

section
open PySem PySem.W PyProof.Rows PySem.Spec PySem.Calls
set_option Elab.async false
set_option maxRecDepth 100000
set_option maxHeartbeats 8000000
namespace Mine
section
variable {prog : Program} {w : World} {A : Around} {E : Value → Shared → Prop} {s : Shared} {h₀ : Heap} {L l : Addr} {m : Str → Option Value} {news : List (Addr × Obj)} {vs us : List Value} {n n2 : Nat} {value slice : PySem.Expr} {Q : Value → Shared → Prop}
theorem news_list (N : News h₀ L s.heap news) (hm : (l, listOf vs.toArray n) ∈ news) : s.heap.IsList l vs.toArray := ⟨_, (N _ hm).1, rfl, _, rfl⟩
theorem slice_upto {k : Nat} {t : Tok} (F : Fr h₀ L s.heap m) (N : News h₀ L s.heap news) (hm : (l, listOf vs.toArray n) ∈ news) (hz : vs.length ≤ 1000)
    (h : ∀ D h', Fr h₀ L h' m → News h₀ L h' ((D, listOf (vs.take k).toArray 0) :: news) → (∀ p ∈ news, p.1 < D) → Q (.ref D) { s with heap := h' })
    (hs : subscripted slice false (.ref l) (.ref s.heap.objs.size) = operate [.ref s.heap.objs.size, .ref l] (getItem (.ref l) (.ref s.heap.objs.size)) := by with_unfolding_all rfl) (ht : ∀ r, letTemporaryGo value (.ref l) r = pure () := by intro _; with_unfolding_all rfl) :
    wpAny (model prog w) A (subscriptTail value slice (.ref l) (.ref s.heap.objs.size)) Q E { s with heap := s.heap.push { cls := .type "slice", data := .fields #[.none, .int (k : Int) t, .none] } } := by
  refine kms_slice_lit F N (news_list N hm) .none (.int _ _) (zs := vs.take k) ?_ h hs ht (by rw [List.size_toArray, sizeLine_eq]; omega)
  show kms_pick vs none (some (k : Int)) = _
  simp only [kms_pick, kms_lo, kms_hi, List.drop_zero, Nat.sub_zero]
  rw [if_neg (by omega), Int.toNat_natCast, kmk_take_min]
theorem slice_from {k : Nat} {t : Tok} {j : Int} (hj : j = (k : Int)) (F : Fr h₀ L s.heap m) (N : News h₀ L s.heap news) (hm : (l, listOf vs.toArray n) ∈ news) (hz : vs.length ≤ 1000)
    (h : ∀ D h', Fr h₀ L h' m → News h₀ L h' ((D, listOf (vs.drop k).toArray 0) :: news) → (∀ p ∈ news, p.1 < D) → Q (.ref D) { s with heap := h' })
    (hs : subscripted slice false (.ref l) (.ref s.heap.objs.size) = operate [.ref s.heap.objs.size, .ref l] (getItem (.ref l) (.ref s.heap.objs.size)) := by with_unfolding_all rfl) (ht : ∀ r, letTemporaryGo value (.ref l) r = pure () := by intro _; with_unfolding_all rfl) :
    wpAny (model prog w) A (subscriptTail value slice (.ref l) (.ref s.heap.objs.size)) Q E { s with heap := s.heap.push { cls := .type "slice", data := .fields #[.int j t, .none, .none] } } := by
  subst hj
  refine kms_slice_lit F N (news_list N hm) (.int _ _) .none (zs := vs.drop k) ?_ h hs ht (by rw [List.size_toArray, sizeLine_eq]; omega)
  show kms_pick vs (some (k : Int)) none = _
  simp only [kms_pick, kms_lo, kms_hi]
  rw [if_neg (by omega), Int.toNat_natCast, kmk_drop_min, List.take_of_length_le]
  rw [List.length_drop]
  omega
end
end Mine
end

section
open PySem PySem.W PyProof.Rows PySem.Spec PySem.Calls
set_option Elab.async false
set_option maxRecDepth 100000
set_option maxHeartbeats 8000000
namespace Mine
theorem noE' {α : Type} {M : Model} {A : Around} {t : Sem α} {Q : α → Shared → Prop} {E : Value → Shared → Prop} {s : Shared} (h : wpAny M A t Q (fun _ _ => False) s) : wpAny M A t Q E s := wpAny_mono h (fun _ _ x => x) fun _ _ x => x.elim
section
variable {prog : Program} {w : World} {A : Around} {E : Value → Shared → Prop} {s : Shared} {env : Env} {h₀ : Heap} {target : Expr} {body : List Stmt} {Q : Flow → Shared → Prop}

/-- a loop whose turns know that no fewer than n0 tokens have been given out -/
theorem loopT {R : Result → Shared → Prop} {I : Addr} {fp wr : List Addr} {n n0 : Nat} {P Md : Nat → Value → Heap → Prop} {St : Nat → Heap → Prop} {m : Str → Option Value} {news : List (Addr × Obj)} (W : KTurns prog w A target I fp wr n P Md St) (hn0 : n0 ≤ s.toks)
    (hLf : env.locals ∉ fp) (hwr : ∀ b ∈ wr, h₀.get? b = none) (hnw : ∀ p ∈ news, p.1 ∉ wr) (hst : St 0 s.heap) (F : Fr h₀ env.locals s.heap m) (N : News h₀ env.locals s.heap news)
    (J : Nat → (Str → Option Value) → List (Addr × Obj) → Prop) (h0 : J 0 m news)
    (step : ∀ i v m₁ news₁ h₁ tk₁ own, n0 ≤ tk₁ → i < n → P i v h₁ → J i m₁ news₁ → (∀ p ∈ news₁, p.1 ∉ wr) → (∀ p ∈ own, p.1 ∈ fp) → (∀ p ∈ own, h₁.get? p.1 = some p.2) → (∀ b ∈ fp, h₀.get? b = none → ∀ o, h₁.get? b = some o → (b, o) ∈ own) → St (i + 1) h₁ →
      Fr h₀ env.locals h₁ m₁ → News h₀ env.locals h₁ (own ++ news₁) →
      wpAny (model prog w) A (assign target env v) (fun _ s₂ => wpAny (model prog w) A (execs body env)
        (LoopStepV h₀ env.locals wr own (J (i + 1)) { s with heap := h₁, toks := tk₁ } (fun v s' => R (.ok (.ret v)) s') fun s' => R (.ok .next) s') (fun _ _ => False) s₂) (fun _ _ => False) { s with heap := h₁, toks := tk₁ })
    (hR : ∀ h' tk m' news', n0 ≤ tk → Fr h₀ env.locals h' m' → News h₀ env.locals h' news' → (∀ p ∈ news', p.1 ∉ wr) → J n m' news' → R (.ok .next) { s with heap := h', toks := tk }) :
    codeAny (model prog w) A (.forLoop target (.ref I) body [] env) R s := by
  have hLw : env.locals ∉ wr := fun h => hLf (W.sub _ h)
  have old : ∀ b o, h₀.get? b = some o → b ∉ wr := fun b o e hb => by rw [hwr b hb] at e; cases e
  refine codeAny_forLoop_any
    (fun k s' => ∃ h' tk m' news' i, s' = { s with heap := h', toks := tk } ∧ n0 ≤ tk ∧ St i h' ∧ Fr h₀ env.locals h' m' ∧ News h₀ env.locals h' news' ∧ (∀ p ∈ news', p.1 ∉ wr) ∧ J i m' news' ∧ i ≤ n ∧ k = n + 1 - i) ?_ (n + 1)
    ⟨s.heap, s.toks, m, news, 0, rfl, hn0, hst, F, N, hnw, h0, Nat.zero_le _, rfl⟩
  rintro k s' ⟨h', tk, m', news', i, rfl, hk0, hst', F', N', hnw', hJ, hi, rfl⟩
  have next : ∀ h₁ : Heap, (∀ b o, b ∉ wr → h'.get? b = some o → h₁.get? b = some o) → Fr h₀ env.locals h₁ m' ∧ News h₀ env.locals h₁ news' := fun h₁ hk₁ =>
    ⟨⟨F'.ns.at' fun o e => hk₁ _ o hLw e, fun b o e => hk₁ b o (old b o e) (F'.keep b o e), F'.above⟩, fun p hp => ⟨hk₁ _ _ (hnw' p hp) (N' p hp).1, (N' p hp).2⟩⟩
  by_cases hlt : i < n
  · refine wpAny_with_toks (n := n0) hk0 (W.item i _ _ _ hlt hst' fun v h₁ tk₁ hMd hk₁ htk₁ => ?_)
    refine W.go i v _ _ _ hMd fun h₂ hP hst₂ hk₂ => ?_
    obtain ⟨F₂, N₂⟩ := next h₂ fun b o hb x => hk₂ b o hb (hk₁ b o hb x)
    have Nown : News h₀ env.locals h₂ (PyProof.Rows.ownOf h₀ fp h₂) := news_ownOf hLf
    refine noE' (wpAny_with_toks (n := n0) htk₁ (wpAny_mono (step i v m' news' h₂ tk₁ (PyProof.Rows.ownOf h₀ fp h₂) htk₁ hlt hP hJ hnw' ownOf_sub (fun p hp => (Nown p hp).1) (fun b hb hn o e => mem_ownOf hb hn e) hst₂ F₂ (Nown.append N₂)) (fun _ s₂ h₂' ht₂ => ?_) fun _ _ e => e.elim))
    refine noE' (wpAny_with_toks (n := n0) ht₂ (wpAny_mono h₂' (fun f s₃ h₃ ht₃ => ?_) fun _ _ e => e.elim))
    cases f with
    | ret v => exact h₃
    | brk => exact h₃
    | cont =>
      obtain ⟨_, h₃', tk₃, m₂, news₂, rfl, F₃, N₃, ha₃, hJ₃⟩ := h₃
      refine ⟨n + 1 - (i + 1), by omega, h₃', tk₃, m₂, news₂, i + 1, rfl, ht₃, ?_, F₃, N₃.right, ha₃, hJ₃, hlt, rfl⟩
      refine W.frame _ _ _ hst₂ fun b hb o e => ?_
      cases hn : h₀.get? b with
      | some o₀ =>
        have : o₀ = o := by have q := F₂.keep b o₀ hn; rw [e] at q; exact (Option.some.inj q).symm
        exact this ▸ F₃.keep b o₀ hn
      | none => exact (N₃ _ (List.mem_append_left _ (mem_ownOf hb hn e))).1
    | next =>
      obtain ⟨_, h₃', tk₃, m₂, news₂, rfl, F₃, N₃, ha₃, hJ₃⟩ := h₃
      refine ⟨n + 1 - (i + 1), by omega, h₃', tk₃, m₂, news₂, i + 1, rfl, ht₃, ?_, F₃, N₃.right, ha₃, hJ₃, hlt, rfl⟩
      refine W.frame _ _ _ hst₂ fun b hb o e => ?_
      cases hn : h₀.get? b with
      | some o₀ =>
        have : o₀ = o := by have q := F₂.keep b o₀ hn; rw [e] at q; exact (Option.some.inj q).symm
        exact this ▸ F₃.keep b o₀ hn
      | none => exact (N₃ _ (List.mem_append_left _ (mem_ownOf hb hn e))).1
  · have hin : i = n := by omega
    subst hin
    refine wpAny_with_toks (n := n0) hk0 (W.done _ _ _ hst' fun h₁ tk₁ hk₁ htk₁ => wpAny_execs_nil ?_)
    obtain ⟨F₁, N₁⟩ := next h₁ hk₁
    exact hR h₁ tk₁ m' news' htk₁ F₁ N₁ hnw' hJ

/-- the end of a turn: what the loop's own objects are stays, the ledger is as J wants it -/
def TEnd (h₀ : Heap) (L : Addr) (its : List (Addr × Obj)) (J : (Str → Option Value) → List (Addr × Obj) → Prop) (s₁ : Shared) (Q : Flow → Shared → Prop) (f : Flow) (s₂ : Shared) : Prop :=
  match f with
  | .ret v => Q (.ret v) s₂
  | .brk => Q .next s₂
  | _ => ∃ h' tk m' nx, s₂ = { s₁ with heap := h', toks := tk } ∧ Fr h₀ L h' m' ∧ News h₀ L h' (its ++ nx) ∧ (∀ p ∈ nx, ∀ q ∈ its, p.1 ≠ q.1) ∧ J m' nx
theorem TEnd.next {h₀ : Heap} {L : Addr} {its all : List (Addr × Obj)} {J : (Str → Option Value) → List (Addr × Obj) → Prop} {s₁ : Shared} {Q : Flow → Shared → Prop} {h' : Heap} {tk : Nat} {m' : Str → Option Value}
    (F : Fr h₀ L h' m') (N : News h₀ L h' all) (nx : List (Addr × Obj)) (hi : ∀ p ∈ its, p ∈ all) (hs : ∀ p ∈ nx, p ∈ all) (ho : ∀ p ∈ nx, ∀ q ∈ its, p.1 ≠ q.1) (j : J m' nx) : TEnd h₀ L its J s₁ Q .next { s₁ with heap := h', toks := tk } :=
  ⟨h', tk, m', nx, rfl, F, fun p hp => N p ((List.mem_append.mp hp).elim (hi p) (hs p)), ho, j⟩

theorem coreT {I : Addr} {fp wr : List Addr} {n n0 : Nat} {P Md : Nat → Value → Heap → Prop} {St : Nat → Heap → Prop} {ws : List (Addr × String)} {keep : List (Addr × Obj)} {m₀ : Str → Option Value} {news : List (Addr × Obj)} {hp : Heap} {tk0 : Nat}
    (W : KTurns prog w A target I fp wr n P Md St) (hn0 : n0 ≤ tk0)
    (hobj : ∀ i h, St i h → ∃ its, Objs ws its ∧ ∀ p ∈ its, h.get? p.1 = some p.2)
    (hws : ∀ b ∈ ws.map (·.1), b ∈ fp ∧ h₀.get? b = none) (hwr : ∀ b ∈ wr, b ∈ ws.map (·.1)) (hwr' : ∀ b ∈ ws.map (·.1), b ∈ wr)
    (hfp : ∀ b ∈ fp, b ∈ ws.map (·.1) ∨ ∃ o, (b, o) ∈ keep) (hL : env.locals ∉ fp) (hnw : ∀ p ∈ news, p.1 ∉ wr) (hst : St 0 hp)
    (F : Fr h₀ env.locals hp m₀) (N : News h₀ env.locals hp news) (J : Nat → (Str → Option Value) → List (Addr × Obj) → Prop) (hJk : ∀ i m nx, J i m nx → ∀ p ∈ keep, p ∈ nx) (h0 : J 0 m₀ news)
    (turn : ∀ i v m₁ nx h tk its, n0 ≤ tk → i < n → P i v h → J i m₁ nx → Objs ws its → (∀ p ∈ nx, ∀ q ∈ its, p.1 ≠ q.1) → Fr h₀ env.locals h m₁ → News h₀ env.locals h (its ++ nx) →
      wpAny (model prog w) A (assign target env v) (fun _ s₂ => wpAny (model prog w) A (execs body env) (TEnd h₀ env.locals its (J (i + 1)) { s with heap := h, toks := tk } Q) (fun _ _ => False) s₂) (fun _ _ => False) { s with heap := h, toks := tk })
    (done : ∀ m₁ nx h tk, n0 ≤ tk → J n m₁ nx → Fr h₀ env.locals h m₁ → News h₀ env.locals h nx → Q .next { s with heap := h, toks := tk }) :
    codeAny (model prog w) A (.forLoop target (.ref I) body [] env) (fun r s' => match r with | .ok f => Q f s' | .error e => cameBackBy (model prog w) A env E e s') { s with heap := hp, toks := tk0 } := by
  refine loopT (s := { s with heap := hp, toks := tk0 }) W hn0 hL (fun b hb => (hws b (hwr b hb)).2) hnw hst F N J h0 ?_ ?_
  · intro i v m₁ news₁ h₁ tk₁ own htk hin hPi hJ hoff hown hget hall hst₁ F₁ N₁
    have hk₁ := hJk _ _ _ hJ
    obtain ⟨its, hits, hval⟩ := hobj (i + 1) h₁ hst₁
    have hmap := hits.map
    have N₂ : News h₀ env.locals h₁ (its ++ news₁) := fun p hp => by
      rcases List.mem_append.mp hp with hp | hp
      · have h1 : p.1 ∈ ws.map (·.1) := by rw [← hmap]; exact List.mem_map.mpr ⟨p, hp, rfl⟩
        exact N₁ _ (List.mem_append_left _ (hall p.1 (hws _ h1).1 (hws _ h1).2 p.2 (hval p hp)))
      · exact N₁ _ (List.mem_append_right _ hp)
    have hsep : ∀ p ∈ news₁, ∀ q ∈ its, p.1 ≠ q.1 := fun p hp q hq e => by
      have h1 : q.1 ∈ ws.map (·.1) := by rw [← hmap]; exact List.mem_map.mpr ⟨q, hq, rfl⟩
      exact hoff p hp (e ▸ hwr' _ h1)
    have fin : ∀ s₃, (∃ h' tk m' nx, s₃ = { ({ s with heap := h₁, toks := tk₁ } : Shared) with heap := h', toks := tk } ∧ Fr h₀ env.locals h' m' ∧ News h₀ env.locals h' (its ++ nx) ∧ (∀ p ∈ nx, ∀ q ∈ its, p.1 ≠ q.1) ∧ J (i + 1) m' nx) →
        LoopStepU h₀ env.locals wr own (J (i + 1)) { s with heap := h₁, toks := tk₁ } .next s₃ := by
      rintro s₃ ⟨h', tk, m', news', e, F', N', ho, j⟩
      have hk' := hJk _ _ _ j
      refine ⟨rfl, h', tk, m', news', e, F', ?_, ?_, j⟩
      · rintro ⟨pa, po⟩ hp
        rcases List.mem_append.mp hp with hp | hp
        · have h2 : h₁.get? pa = some po := hget _ hp
          rcases hfp pa (hown _ hp) with h3 | ⟨o, h3⟩
          · have h4 : pa ∈ its.map (·.1) := by rw [hmap]; exact h3
            obtain ⟨⟨qa, qo⟩, hq, hqe⟩ := List.mem_map.mp h4
            have hqe' : qa = pa := hqe
            subst hqe'
            have h5 : h₁.get? qa = some qo := hval _ hq
            have h6 : qo = po := Option.some.inj (h5.symm.trans h2)
            subst h6
            exact N' _ (List.mem_append_left _ hq)
          · have h4 : h₁.get? pa = some o := (N₁ _ (List.mem_append_right _ (hk₁ _ h3))).1
            have h6 : o = po := Option.some.inj (h4.symm.trans h2)
            subst h6
            exact N' _ (List.mem_append_right _ (hk' _ h3))
        · exact N' _ (List.mem_append_right _ hp)
      · intro p hp hI
        have h4 : p.1 ∈ its.map (·.1) := by rw [hmap]; exact hwr _ hI
        obtain ⟨q, hq, hqe⟩ := List.mem_map.mp h4
        exact ho p hp q hq hqe.symm
    refine wpAny_mono (turn i v m₁ news₁ h₁ tk₁ its htk hin hPi hJ hits hsep F₁ N₂) (fun _ s₂ h₂ => wpAny_mono h₂ (fun f s₃ p => ?_) fun _ _ e => e) fun _ _ e => e
    cases f with
    | ret v => exact .ret p
    | brk => exact .brk p
    | next => exact .next (fin _ p)
    | cont => exact .cont (fin _ p)
  · intro h' tk m' news' htk F' N' _ hJ
    exact done m' news' h' tk htk hJ F' N'

end
end Mine
end

section
open PySem PySem.W PyProof.Rows PySem.Spec PySem.Calls
set_option Elab.async false
set_option maxRecDepth 100000
set_option maxHeartbeats 400000
namespace Mine
theorem objs_one {a : Addr} {c : String} {its : List (Addr × Obj)} (h : Objs [(a, c)] its) : ∃ o, its = [(a, o)] := by
  cases its with
  | nil => exact (show False from h).elim
  | cons p r =>
    cases r with
    | nil => exact ⟨p.2, by rw [show a = p.1 from h.1.1.symm]⟩
    | cons q r => exact (show False from h.2).elim
theorem objs_two {a b : Addr} {c d : String} {its : List (Addr × Obj)} (h : Objs [(a, c), (b, d)] its) : ∃ o1 o2, its = [(a, o1), (b, o2)] := by
  cases its with
  | nil => exact (show False from h).elim
  | cons p r =>
    obtain ⟨o2, rfl⟩ := objs_one h.2
    exact ⟨p.2, o2, by rw [show a = p.1 from h.1.1.symm]⟩
section
variable {prog : Program} {w : World} {A : Around} {E : Value → Shared → Prop} {s : Shared} {env : Env} {h₀ : Heap} {target : Expr} {body : List Stmt} {Q : Flow → Shared → Prop}

theorem list_loopT {l : Addr} {vs : List Value} {n n0 : Nat} {m₀ : Str → Option Value} {news : List (Addr × Obj)} (J : Nat → (Str → Option Value) → List (Addr × Obj) → Prop)
    (hh : A.handled = none) (hn0 : n0 ≤ s.toks) (F : Fr h₀ env.locals s.heap m₀) (N : News h₀ env.locals s.heap news) (hJk : ∀ i m nx, J i m nx → (l, listOf vs.toArray n) ∈ nx) (h0 : J 0 m₀ news)
    (turn : ∀ i v m₁ nx h tk I o, vs[i]? = some v → n0 ≤ tk → J i m₁ nx → (∀ p ∈ news, p.1 < I) → (∀ p ∈ nx, p.1 ≠ I) → Fr h₀ env.locals h m₁ → News h₀ env.locals h ((I, o) :: nx) →
      wpAny (model prog w) A (assign target env v) (fun _ s₂ => wpAny (model prog w) A (execs body env) (TEnd h₀ env.locals [(I, o)] (J (i + 1)) { s with heap := h, toks := tk } Q) (fun _ _ => False) s₂) (fun _ _ => False) { s with heap := h, toks := tk })
    (done : ∀ m₁ nx h tk, n0 ≤ tk → J vs.length m₁ nx → Fr h₀ env.locals h m₁ → News h₀ env.locals h nx → Q .next { s with heap := h, toks := tk }) :
    wpAny (model prog w) A (pyIter (.ref l)) (fun it s₂ => codeAny (model prog w) A (.forLoop target it body [] env) (fun r s' => match r with | .ok f => Q f s' | .error e => cameBackBy (model prog w) A env E e s') s₂) E s := by
  have hm := hJk _ _ _ h0
  have hax := N _ hm
  have hl : s.heap.IsList l vs.toArray := ⟨_, hax.1, rfl, n, rfl⟩
  have hlt : l < s.heap.objs.size := Heap.lt_size hax.1
  have hne : l ≠ s.heap.objs.size := Nat.ne_of_lt hlt
  refine wpAny_pyIter_list hl ?_
  refine coreT (tk0 := s.toks) (ws := [(s.heap.objs.size, "list_iterator")]) (keep := [(l, listOf vs.toArray n)]) (KTurns.ofWalks (Walks.list hh s.heap.objs.size l hne vs.toArray) fun i v s Q E st q => letGo_listiter st.1 q) hn0 (fun i h st => ?_) (fun b hb => ?_) (fun b hb => by simpa using hb) (fun b hb => by simpa using hb) (fun b hb => ?_) ?_ (fun p hp hI => ?_) ?_ (F.push _) (fun p hp => ⟨Heap.get?_push_of_some _ (N p hp).1, (N p hp).2⟩) J (fun i m nx j p hp => by rw [List.mem_singleton.mp hp]; exact hJk i m nx j) h0 ?_ ?_
  · obtain ⟨it, hit, hic, _⟩ := st.1
    exact ⟨[(s.heap.objs.size, it)], ⟨⟨rfl, hic⟩, trivial⟩, fun p hp => by rw [List.mem_singleton.mp hp]; exact hit⟩
  · have hb' : b = s.heap.objs.size := by simpa using hb
    rw [hb']
    exact ⟨List.mem_cons_self .., next_is_new F⟩
  · have hb' : b = s.heap.objs.size ∨ b = l := by simpa using hb
    rcases hb' with e | e
    · exact .inl (by simp [e])
    · exact .inr ⟨_, by rw [e]; exact List.mem_singleton.mpr rfl⟩
  · intro hI
    rcases List.mem_cons.mp hI with e | hI
    · exact absurd F.ns.lt (e ▸ Nat.lt_irrefl _)
    · exact hax.2.1 (List.mem_singleton.mp hI).symm
  · exact absurd (Heap.lt_size (N p hp).1) ((List.mem_singleton.mp hI) ▸ Nat.lt_irrefl _)
  · exact ⟨⟨_, Heap.get?_push_size _ rfl, rfl, rfl⟩, hl.at fun o e => Heap.get?_push_of_some _ e⟩
  · rintro i v m₁ nx h tk its htk hin hP hJ hits hsep F₁ N₁
    obtain ⟨o, rfl⟩ := objs_one hits
    exact turn i v m₁ nx h tk _ o (by simpa using hP) htk hJ (fun p hp => Heap.lt_size (N p hp).1) (fun p hp => hsep p hp _ (.head _)) F₁ N₁
  · intro m₁ nx h tk htk hJ F₁ N₁
    exact done m₁ nx h tk htk (by simpa using hJ) F₁ N₁

theorem enum_loopT {elts : List Expr} {k : Nat} {pos : Pos} {l : Addr} {vs : List Value} {n n0 : Nat} {m₀ : Str → Option Value} {news : List (Addr × Obj)} (J : Nat → (Str → Option Value) → List (Addr × Obj) → Prop)
    (hh : A.handled = none) (hn0 : n0 ≤ s.toks) (F : Fr h₀ env.locals s.heap m₀) (N : News h₀ env.locals s.heap news) (hJk : ∀ i m nx, J i m nx → (l, listOf vs.toArray n) ∈ nx) (h0 : J 0 m₀ news)
    (turn : ∀ i v m₁ nx T t h tk I o1 o2, vs[i]? = some v → n0 ≤ tk → J i m₁ nx → (∀ p ∈ news, p.1 < I) → (∀ p ∈ nx, p.1 ≠ I + 1 ∧ p.1 ≠ I) → IsTup h T #[.int (i : Int) t, v] → Fr h₀ env.locals h m₁ → News h₀ env.locals h ((I + 1, o1) :: (I, o2) :: nx) →
      wpAny (model prog w) A (assign (.Tuple elts k pos) env (.ref T)) (fun _ s₂ => wpAny (model prog w) A (execs body env) (TEnd h₀ env.locals [(I + 1, o1), (I, o2)] (J (i + 1)) { s with heap := h, toks := tk } Q) (fun _ _ => False) s₂) (fun _ _ => False) { s with heap := h, toks := tk })
    (done : ∀ m₁ nx h tk, n0 ≤ tk → J vs.length m₁ nx → Fr h₀ env.locals h m₁ → News h₀ env.locals h nx → Q .next { s with heap := h, toks := tk }) :
    wpAny (model prog w) A (call (.type "enumerate") [.ref l]) (fun xv s₁ => wpAny (model prog w) A (pyIter xv) (fun it s₂ => codeAny (model prog w) A (.forLoop (.Tuple elts k pos) it body [] env) (fun r s' => match r with | .ok f => Q f s' | .error e => cameBackBy (model prog w) A env E e s') s₂) E s₁) E s := by
  have hm := hJk _ _ _ h0
  have hax := N _ hm
  have hl : s.heap.IsList l vs.toArray := ⟨_, hax.1, rfl, n, rfl⟩
  have hlt : l < s.heap.objs.size := Heap.lt_size hax.1
  have hLs : env.locals < s.heap.objs.size := F.ns.lt
  refine call_enumerate_list hl fun h' hE hI hsz hk => ?_
  refine wpAny_pyIter_enum hE ?_
  refine coreT (tk0 := s.toks) (ws := [(s.heap.objs.size + 1, "enumerate"), (s.heap.objs.size, "list_iterator")]) (keep := [(l, listOf vs.toArray n)]) (KTurns.ofWalksU (WalksT.enumerate hh (s.heap.objs.size + 1) s.heap.objs.size l (Nat.succ_ne_self _) (ktu_ne 1 hlt) (Nat.ne_of_lt hlt) vs.toArray).toU) hn0 ?_ ?_ (fun b hb => by simpa using hb) (fun b hb => by simpa using hb) ?_ ?_ ?_ ?_ (F.keeps hk) (N.grown hk) J (fun i m nx j p hp => by rw [List.mem_singleton.mp hp]; exact hJk i m nx j) h0 ?_ ?_
  · rintro i h ⟨⟨old, he⟩, ⟨oi, hoi, hic, _⟩, _⟩
    have he' : ∃ oe : Obj, h.get? (s.heap.objs.size + 1) = some oe ∧ oe.cls = .type "enumerate" := ⟨_, he, rfl⟩
    obtain ⟨oe, h1, h2⟩ := he'
    refine ⟨[(s.heap.objs.size + 1, oe), (s.heap.objs.size, oi)], ⟨⟨rfl, h2⟩, ⟨rfl, hic⟩, trivial⟩, fun p hp => ?_⟩
    rcases List.mem_cons.mp hp with rfl | hp
    · exact h1
    · rw [List.mem_singleton.mp hp]; exact hoi
  · intro b hb
    have hb' : b = s.heap.objs.size + 1 ∨ b = s.heap.objs.size := by simpa using hb
    rcases hb' with rfl | rfl
    · exact ⟨by simp, ktu_new F (Nat.le_add_right _ _)⟩
    · exact ⟨by simp, ktu_new F (Nat.le_refl _)⟩
  · intro b hb
    have hb' : b = s.heap.objs.size + 1 ∨ b = s.heap.objs.size ∨ b = l := by simpa using hb
    rcases hb' with rfl | rfl | rfl
    · exact .inl (by simp)
    · exact .inl (by simp)
    · exact .inr ⟨_, List.mem_singleton.mpr rfl⟩
  · intro hI'
    have hb' : env.locals = s.heap.objs.size + 1 ∨ env.locals = s.heap.objs.size ∨ env.locals = l := by simpa using hI'
    rcases hb' with e | e | e
    · exact ktu_ne 1 hLs e
    · exact Nat.ne_of_lt hLs e
    · exact hax.2.1 e.symm
  · intro p hp hI'
    have hb' : p.1 = s.heap.objs.size + 1 ∨ p.1 = s.heap.objs.size := by simpa using hI'
    have hlp := Heap.lt_size (N p hp).1
    rcases hb' with e | e
    · exact ktu_ne 1 hlp e
    · exact Nat.ne_of_lt hlp e
  · exact ⟨⟨.none, hE⟩, hI, hl.at fun o e => hk l o e⟩
  · rintro i v m₁ nx h tk its htk hin ⟨T, vals, rfl, ⟨t, x, hx, rfl⟩, hT⟩ hJ hits hsep F₁ N₁
    obtain ⟨o1, o2, rfl⟩ := objs_two hits
    exact turn i x m₁ nx T t h tk _ o1 o2 (by simpa using hx) htk hJ (fun p hp => Heap.lt_size (N p hp).1) (fun p hp => ⟨hsep p hp _ (.head _), hsep p hp _ (.tail _ (.head _))⟩) hT F₁ N₁
  · intro m₁ nx h tk htk hJ F₁ N₁
    exact done m₁ nx h tk htk (by simpa using hJ) F₁ N₁
end
end Mine
end

section
open PySem PySem.W PyProof.Rows PySem.Spec PySem.Calls
set_option Elab.async false
set_option maxRecDepth 100000
set_option maxHeartbeats 1000000
namespace Mine
/-- one sign and two signs out of abcd -/
def S1 (i : Fin 4) : Str := ⟨#[97 + i.val]⟩
def S2 (i j : Fin 4) : Str := ⟨#[97 + i.val, 97 + j.val]⟩
abbrev Tie := Int × Fin 4 × Fin 4
def tieS (t : Tie) : Int × Str := (t.1, S2 t.2.1 t.2.2)
theorem s1_eq : ∀ i j : Fin 4, (S1 i == S1 j) = decide (i = j) := by decide +kernel
theorem s1_in : ∀ i a b : Fin 4, PySem.Txt.contains (S2 a b) (S1 i) = decide (i = a ∨ i = b) := by decide +kernel
theorem s1_ne : ∀ i : Fin 4, (S1 i == Str.ofString "") = false := by decide +kernel
theorem s1_rep : ∀ i a b : Fin 4, a ≠ b → (i = a ∨ i = b) → PySem.Txt.replace (S2 a b) (S1 i) (Str.ofString "") = S1 (if i = a then b else a) := by decide +kernel
def turnW (f : List Tie → Fin 4 → Fin 4 → Option (List Int)) (ts : List Tie) (i j : Fin 4) (k : Nat) : Option (List Int) := match ts[k]? with
  | none => none
  | some p => if i = p.2.1 ∨ i = p.2.2 then (f (ts.take k ++ ts.drop (k + 1)) (if i = p.2.1 then p.2.2 else p.2.1) j).map (p.1 :: ·) else none
def wayN : Nat → List Tie → Fin 4 → Fin 4 → Option (List Int)
  | 0, _, i, j => if i = j then some [] else none
  | n + 1, ts, i, j => if i = j then some [] else (List.range ts.length).findSome? (turnW (wayN n) ts i j)
def way (ts : List Tie) (i j : Fin 4) : Option (List Int) := wayN ts.length ts i j
theorem findSome_congr {α β : Type} {f g : α → Option β} : ∀ {l : List α}, (∀ x ∈ l, f x = g x) → l.findSome? f = l.findSome? g
  | [], _ => rfl
  | x :: l, h => by
    rw [List.findSome?_cons, List.findSome?_cons, h x (.head _), findSome_congr fun y hy => h y (.tail _ hy)]
theorem way_eq (ts : List Tie) (i j : Fin 4) : way ts i j = if i = j then some [] else (List.range ts.length).findSome? (turnW way ts i j) := by
  unfold way
  cases h : ts.length with
  | zero => rfl
  | succ n =>
    show (if i = j then some [] else (List.range ts.length).findSome? (turnW (wayN n) ts i j)) = _
    rw [h]
    congr 1
    refine findSome_congr fun k hk => ?_
    have hk' : k < n + 1 := List.mem_range.mp hk
    unfold turnW
    have hl : (ts.take k ++ ts.drop (k + 1)).length = n := by simp; omega
    dsimp only
    rw [hl]
theorem wayN_len : ∀ (n : Nat) (ts : List Tie) (i j : Fin 4) (ws : List Int), wayN n ts i j = some ws → ws.length ≤ n
  | 0, ts, i, j, ws, h => by
    unfold wayN at h
    split at h
    · obtain rfl := Option.some.inj h; exact Nat.le_refl _
    · exact nomatch h
  | n + 1, ts, i, j, ws, h => by
    unfold wayN at h
    split at h
    · obtain rfl := Option.some.inj h; exact Nat.zero_le _
    · obtain ⟨k, hk, hh⟩ := List.exists_of_findSome?_eq_some h
      unfold turnW at hh
      split at hh
      · exact nomatch hh
      · split at hh
        · obtain ⟨ws', h1, rfl⟩ := Option.map_eq_some_iff.mp hh
          exact Nat.succ_le_succ (wayN_len n _ _ _ _ h1)
        · exact nomatch hh
theorem way_len {ts : List Tie} {i j : Fin 4} {ws : List Int} (h : way ts i j = some ws) : ws.length ≤ ts.length := wayN_len _ _ _ _ _ h
end Mine
end

section
open PySem PySem.W PyProof.Rows PySem.Spec PySem.Calls
set_option Elab.async false
set_option maxRecDepth 100000
set_option maxHeartbeats 8000000
namespace Mine
theorem fill2 : (fun (_ : OpenLaw) (_ : Params → Frag) => True) PySem.Challenge.rw_xw0305_01 hd.heap_1 := by
  k_fill
  trivial
local macro_rules | `(tactic| k_room) => `(tactic| ((simp only [ktrTop, depth_mark, depth_under_make, depth_under_kw, depth_in1, depth_deeper, depth_caller, recursionLimit]); omega))
local macro_rules | `(tactic| ktr_room) => `(tactic| k_room)
local macro_rules | `(tactic| k_units) => `(tactic| ((simp only [ktrTop, units_in1, units_deeper, Around.mark_units, units_caller, cLine]); omega))
local macro_rules | `(tactic| k_mem) => `(tactic| first | exact List.mem_cons_self | with_reducible assumption | (refine List.mem_cons_of_mem _ ?_; k_mem) | (refine List.mem_append.mpr (Or.inl ?_); k_mem) | (refine List.mem_append.mpr (Or.inr ?_); k_mem))

open PySem.Builtin PySem.Builtin.Str in
theorem s1_cuts : ∀ i a b : Fin 4, (i = a ∨ i = b) → ((occurrences (S2 a b) (S1 i) 0 (S2 a b).length ((S2 a b).length + 1)).isEmpty || ((S1 i).length == 0 && (PySem.Str.ofString "").length == 0)) = false := by decide +kernel
open PySem.Builtin PySem.Builtin.Str in
theorem s1_glued : ∀ i a b : Fin 4, a ≠ b → (i = a ∨ i = b) → glued (PySem.Str.ofString "") (partsBetween (S2 a b) (occurrences (S2 a b) (S1 i) 0 (S2 a b).length ((S2 a b).length + 1)) (S1 i).length) = S1 (if i = a then b else a) := by decide +kernel
section
variable {prog : Program} {w : World} {A : Around} {E : Value → Shared → Prop} {s : Shared}
/-- str.replace with the token of what it makes -/
theorem replace_tok {i a b : Fin 4} {t u v : Tok} {Q : Value → Shared → Prop} (hu : @LT.lt Nat _ 0 u) (huv : @LT.lt Nat _ u v) (hab : a ≠ b) (hi : i = a ∨ i = b)
    (hq : Q (.str (S1 (if i = a then b else a)) s.toks) { s with toks := s.toks + 1 }) : wpAny (model prog w) A (call (.builtin "str.replace") [.str (S2 a b) t, .str (S1 i) u, .str (PySem.Str.ofString "") v]) Q E s := by
  have hl : Builtin.Str.tooLong ((S2 a b).length + (PySem.Builtin.Str.occurrences (S2 a b) (S1 i) 0 (S2 a b).length ((S2 a b).length + 1)).length * (PySem.Str.ofString "").length) = false := by
    have h1 : (PySem.Str.ofString "").length = 0 := by decide +kernel
    rw [h1, Nat.mul_zero]
    show decide (2 + 0 > sizeLine) = false
    rw [sizeLine_eq]
    exact decide_eq_false (by omega)
  refine call_gives F.slot_str_replace (typeIs_str _ _ _) F.entry_str_replace (F.args_str_replace_3 _ _ _)
    (PySem.gives_str_replace _ _ _ t u v fun _ => ⟨by simp [Nat.ne_of_gt hu, Nat.ne_of_gt (Nat.lt_trans hu huv)], by simp [Nat.ne_of_lt huv], s1_ne i, hl⟩) ?_
  rw [s1_cuts i a b hi]
  simp only [Bool.false_eq_true, if_false]
  rw [s1_glued i a b hab hi]
  refine ⟨?_, hq⟩
  show 1 ≤ sizeLine
  rw [sizeLine_eq]
  omega
end

def WayOut (r : Option (List Int)) (tl : List (Addr × Obj)) (v : Value) : Prop := match r with
  | none => v = .none ∧ tl = []
  | some ws => ∃ D us k, v = .ref D ∧ tl = [(D, listOf us.toArray k)] ∧ IntsAre us ws
theorem s1_eq_of {i j : Fin 4} (h : (S1 i == S1 j) = true) : i = j := by rw [s1_eq] at h; exact of_decide_eq_true h
theorem s1_ne_of {i j : Fin 4} (h : (S1 i == S1 j) = false) : i ≠ j := by rw [s1_eq] at h; exact of_decide_eq_false h
theorem tell_end1 {h₀ : Heap} {L : Addr} {m : Str → Option Value} {news all : List (Addr × Obj)} {Out : List (Addr × Obj) → List (Addr × Obj) → Value → Prop} {s : Shared} {Q : Value → Shared → Prop}
    (hret : ∀ r tl h' tk', Fr h₀ L h' m → News h₀ L h' (news ++ tl) → (∀ q ∈ news, ∀ p ∈ tl, q.1 ≠ p.1) → Outs Out news tl r → Q r { s with heap := h', toks := tk' })
    {r : Value} {h' : Heap} {tk' : Nat} {q : Addr × Obj} (F : Fr h₀ L h' m) (N : News h₀ L h' all) (hq : q ∈ all) (hs : ∀ p ∈ news, p ∈ all) (hl : ∀ p ∈ news, p.1 < q.1) (o : Out news [q] r) : Q r { s with heap := h', toks := tk' } :=
  hret r [q] h' tk' F (fun p hp => N p ((List.mem_append.mp hp).elim (hs p) fun h => by rw [List.mem_singleton.mp h]; exact hq)) (fun a ha p hp => by rw [List.mem_singleton.mp hp]; exact Nat.ne_of_lt (hl a ha)) o

theorem turn_none {ts : List Tie} {i j : Fin 4} {k : Nat} (hk : k < ts.length) (ht : turnW way ts i j k = none) (h : way ts i j = (List.range' k (ts.length - k)).findSome? (turnW way ts i j)) : way ts i j = (List.range' (k + 1) (ts.length - (k + 1))).findSome? (turnW way ts i j) := by
  rw [show ts.length - k = (ts.length - (k + 1)) + 1 by omega, List.range'_succ, List.findSome?_cons, ht] at h
  exact h
theorem turn_some {ts : List Tie} {i j : Fin 4} {k : Nat} {ws : List Int} (hk : k < ts.length) (ht : turnW way ts i j k = some ws) (h : way ts i j = (List.range' k (ts.length - k)).findSome? (turnW way ts i j)) : way ts i j = some ws := by
  rw [show ts.length - k = (ts.length - (k + 1)) + 1 by omega, List.range'_succ, List.findSome?_cons, ht] at h
  exact h
theorem tend2 {h₀ : Heap} {L : Addr} {I : Addr} {o1 o2 : Obj} {all nx : List (Addr × Obj)} {J : (Str → Option Value) → List (Addr × Obj) → Prop} {s₁ : Shared} {Q : Flow → Shared → Prop} {h' : Heap} {tk : Nat} {m' : Str → Option Value}
    (F : Fr h₀ L h' m') (N : News h₀ L h' all) (h1 : (I + 1, o1) ∈ all) (h2 : (I, o2) ∈ all) (hs : ∀ p ∈ nx, p ∈ all) (ho : ∀ p ∈ nx, p.1 ≠ I + 1 ∧ p.1 ≠ I) (j : J m' nx) : TEnd h₀ L [(I + 1, o1), (I, o2)] J s₁ Q .next { s₁ with heap := h', toks := tk } :=
  TEnd.next F N nx (fun p hp => by
    rcases List.mem_cons.mp hp with rfl | hp
    · exact h1
    · rw [List.mem_singleton.mp hp]; exact h2) hs (fun p hp q hq => by
    rcases List.mem_cons.mp hq with rfl | hq
    · exact (ho p hp).1
    · rw [List.mem_singleton.mp hq]; exact (ho p hp).2) j
section
local macro_rules | `(tactic| walk_at "subscriptTail") => `(tactic| (k_here; (with_reducible show wpAny _ _ (subscriptTail _ _ (Value.ref _) (Value.int _ _)) _ _ _); (refine' item_at ?k1 ?k2 ?k3 ?k4 ?k5 ?_; (case k1 => k_asm); (case k2 => k_mem); (case k3 => first | decide | omega); (case k4 => first | decide | omega); (case k5 => first | exact rfl | assumption); k_whole)))
local macro_rules | `(tactic| walk_at "subscriptTail Name Constant ref int") => `(tactic| (k_here; (with_reducible show wpAny _ _ (subscriptTail _ _ (Value.ref _) (Value.int _ _)) _ _ _); (refine' item_at ?k1 ?k2 ?k3 ?k4 ?k5 ?_; (case k1 => k_asm); (case k2 => k_mem); (case k3 => first | decide | omega); (case k4 => first | decide | omega); (case k5 => first | exact rfl | assumption); k_whole)))
local macro_rules | `(tactic| walk_at "call ref") => `(tactic| (k_here; (with_reducible show wpAny _ _ (call (Value.ref 375) _) _ _ _); refine hold_intro ?_))
local macro_rules | `(tactic| walk_at "exec For Tuple Call") => `(tactic| (k_here; refine hold_intro ?_))
local macro_rules | `(tactic| walk_at "exec For Tuple Call cons nil") => `(tactic| (k_here; refine hold_intro ?_))
local macro_rules | `(tactic| walk_at "call type:enumerate") => `(tactic| (k_here; refine hold_intro ?_))
local macro_rules | `(tactic| walk_at "subscriptTail Name Slice ref ref") => `(tactic| (k_here; refine hold_intro ?_))
local macro_rules | `(tactic| walk_at "binaryOp Add ref ref") => `(tactic| (k_here; refine hold_intro ?_))
local macro_rules | `(tactic| walk_at "call builtin:str.replace") => `(tactic| (k_here; refine hold_intro ?_))
local macro_rules | `(tactic| walk_at "compareOp In str str") => `(tactic| (k_here; refine hold_intro ?_))
local macro_rules | `(tactic| walk_at "execs cons") => `(tactic| (k_here; refine gen_toks ?_; intro tk htk9; (try dsimp only at htk9)))
local macro_rules | `(tactic| walk_at "execs nil") => `(tactic| (k_here; refine gen_toks ?_; intro tk htk9; (try dsimp only at htk9)))
set_option maxHeartbeats 4000000 in
theorem way_step (w : World) (N0 : Nat) (IH : ∀ (ts : List Tie), ts.length < N0 → (∀ p ∈ ts, p.2.1 ≠ p.2.2) → ∀ (l : Addr) (n : Nat) (vs : List Value) (i j : Fin 4) (t u : Tok) (news : List (Addr × Obj)), (l, listOf vs.toArray n) ∈ news → DatAll news vs ((ts.map tieS).map tieD) →
      Tell w 375 (10 + 5 * ts.length) (fun tk => 0 < t ∧ t < tk) [.ref l, .str (S1 i) t, .str (S1 j) u] news (fun _ tl v => WayOut (way ts i j) tl v))
    (ts : List Tie) (hN : ts.length = N0) (h8 : ts.length ≤ 8) (hne : ∀ p ∈ ts, p.2.1 ≠ p.2.2) (l : Addr) (n : Nat) (vs : List Value) (i j : Fin 4) (t u : Tok) (news : List (Addr × Obj)) (hl : (l, listOf vs.toArray n) ∈ news) (hd : DatAll news vs ((ts.map tieS).map tieD)) :
    Tell w 375 (10 + 5 * ts.length) (fun tk => 0 < t ∧ t < tk) [.ref l, .str (S1 i) t, .str (S1 j) u] news (fun _ tl v => WayOut (way ts i j) tl v) := by
  unfold Tell
  intro pp ll mean mg mb dp un gd cn cs ad ccd cl outer A₀ base h₀ L m s Q E B F X N T hk hd' hu htk hret
  have htk : @LT.lt Nat _ 0 t ∧ @LT.lt Nat _ t s.toks := htk
  refine wpAny_call ?_
  k_dflt ktr_enter
  refine noE ?_
  k_steps
  · have hij := s1_eq_of (by assumption)
    have hw : way ts i j = some [] := by rw [way_eq, if_pos hij]
    refine tell_end1 hret (by k_asm) (by k_asm) (List.mem_cons_self) (fun p hp => List.mem_cons_of_mem _ hp) (by assumption) ?_
    rw [hw]
    exact ⟨_, [], _, rfl, rfl, .nil⟩
  · have hij := s1_ne_of (by assumption)
    have hw : way ts i j = (List.range' 0 ts.length).findSome? (turnW way ts i j) := by rw [way_eq, if_neg hij, List.range_eq_range']
    refine hold_out ?_
    refine wpAny_For ?_
    k_steps
    refine hold_out ?_
    rename_i g L₁ h₁ FG F₁ N₁ B₁ X₁ T₁ tk1 hle1 a1
    have hvl : vs.length = ts.length := by rw [hd.length, List.length_map, List.length_map]
    refine enum_loopT (n0 := s.toks) (fun k m₁ nx => nx = news ∧ m₁ (Str.ofString "ties") = some (.ref l) ∧ m₁ (Str.ofString "one") = some (.str (S1 i) t) ∧ m₁ (Str.ofString "other") = some (.str (S1 j) u) ∧ way ts i j = (List.range' k (ts.length - k)).findSome? (turnW way ts i j)) rfl hle1 F₁ N₁ (fun _ _ _ hJ => hJ.1 ▸ hl) ⟨rfl, rfl, rfl, rfl, hw⟩ ?_ ?_
    · rintro k v m₁ nx T₂ t₂ h₂ tk₂ I o1 o2 hv hle2 ⟨rfl, e1, e2, e3, hw₂⟩ hI hIn hT F₂ N₂
      have hk9 : k < ts.length := hvl ▸ (List.getElem?_eq_some_iff.mp hv).1
      obtain ⟨v', hv', hDi⟩ := hd.get (k := k) (by rw [List.length_map, List.length_map]; exact hk9)
      have ev : v' = v := Option.some.inj (hv'.symm.trans hv)
      subst ev
      rw [List.getElem_map, List.getElem_map] at hDi
      obtain ⟨r, rt, ru, rn, rfl, hr⟩ := tie_out hDi
      have hpne := hne _ (List.getElem_mem hk9)
      have F₃ := fr_ext (m' := fun y => if y = Str.ofString "other" then some (.str (S1 j) u) else if y = Str.ofString "one" then some (.str (S1 i) t) else if y = Str.ofString "ties" then some (.ref l) else m₁ y) F₂ fun y => by rw [ife e1, ife e2, ife e3]
      clear F₂
      have htt : ts[k]? = some ts[k] := List.getElem?_eq_getElem hk9
      generalize ts[k] = p at *
      obtain ⟨wt, a, b⟩ := p
      have hr : (r, listOf #[.int wt rt, .str (S2 a b) ru] rn) ∈ nx := hr
      have hab : a ≠ b := hpne
      k_steps
      refine hold_out ?_
      refine SB.contains ?_
      rw [s1_in]
      by_cases hia : i = a ∨ i = b
      · rw [decide_eq_true hia]
        k_steps
        refine hold_out ?_
        refine slice_upto (k := k) (t := t₂) (by k_asm) (by k_asm) (l := l) (by k_mem) (by omega) ?_
        intro D1 h3 F3 N3 l3
        k_steps
        refine hold_out ?_
        refine slice_from (k := k + 1) (j := (k : Int) + 1) rfl (by k_asm) (by k_asm) (l := l) (by k_mem) (by omega) ?_
        intro D2 h4 F4 N4 l4
        k_steps
        refine hold_out ?_
        refine kmk_add_lit (zs := vs.take k ++ vs.drop (k + 1)) (by k_asm) (by k_asm) (news_list (vs := vs.take k) (n := 0) N4 (by k_mem)) (news_list (vs := vs.drop (k + 1)) (n := 0) N4 (by k_mem)) rfl ?_ (by simp only [List.length_append, List.length_take, List.length_drop, sizeLine_eq]; omega)
        intro D3 h5 F5 N5 l5
        k_steps
        refine hold_out ?_
        refine replace_tok (i := i) (a := a) (b := b) (by omega) (by (try dsimp only); omega) hab hia ?_
        k_steps
        refine hold_out ?_
        obtain ⟨ts2, hts2⟩ : ∃ ts2, ts2 = ts.take k ++ ts.drop (k + 1) := ⟨_, rfl⟩
        have hlen2 : ts2.length + 1 = ts.length := by rw [hts2]; simp only [List.length_append, List.length_take, List.length_drop]; omega
        have hne2 : ∀ p ∈ ts2, p.2.1 ≠ p.2.2 := fun p hp => by
          rw [hts2] at hp
          exact hne p ((List.mem_append.mp hp).elim List.mem_of_mem_take List.mem_of_mem_drop)
        have hd2 : DatAll nx (vs.take k ++ vs.drop (k + 1)) ((ts2.map tieS).map tieD) := by
          rw [hts2]
          simp only [List.map_append, List.map_take, List.map_drop]
          exact (datAll_take _ hd).append (datAll_drop _ hd)
        k_dflt (refine' tell_use (IH ts2 (by omega) hne2 D3 0 _ _ _ _ _ ((D3, listOf (vs.take k ++ vs.drop (k + 1)).toArray 0) :: (D2, listOf (vs.drop (k + 1)).toArray 0) :: (D1, listOf (vs.take k).toArray 0) :: (I + 1, o1) :: (I, o2) :: nx) (.head _) (DatAll.mono (fun p hp => .tail _ (.tail _ (.tail _ (.tail _ (.tail _ hp))))) hd2)) ?k1 ?k2 ?k3 ?k4 ?k5 ?k6 ?k7 ?k8 ?k9 ?_; (case k1 => k_asm); (case k2 => k_asm); (case k3 => k_asm); (case k4 => k_asm); (case k5 => k_asm); (case k6 => exact rfl); (case k7 => k_room); (case k8 => k_units); (case k9 => exact ⟨(show @LT.lt Nat _ _ _ by omega), (show @LT.lt Nat _ _ _ by dsimp only; omega)⟩))
        intro r9 tl9 h9 tk9 hkk F9 N9 hl9 ho9
        have htw : turnW way ts i j k = (way ts2 (if i = a then b else a) j).map (wt :: ·) := by
          unfold turnW
          rw [htt, hts2]
          exact if_pos hia
        (try dsimp only)
        cases hw9 : way ts2 (if i = a then b else a) j with
        | none =>
          rw [hw9] at ho9 htw
          obtain ⟨rfl, rfl⟩ := ho9
          rw [List.append_nil] at N9
          k_steps
          refine tend2 (by k_asm) (by k_asm) (by k_mem) (by k_mem) (fun p hp => .tail _ (.tail _ (.tail _ (.tail _ (.tail _ hp))))) hIn ⟨rfl, ?_, ?_, ?_, turn_none hk9 htw hw₂⟩
          · rfl
          · rfl
          · rfl
        | some ws =>
          rw [hw9] at ho9 htw
          obtain ⟨D, us, kk, rfl, rfl, hus⟩ := ho9
          k_steps
          refine hold_out ?_
          (rename News _ _ _ _ => N10)
          have husl : us.length ≤ 1000 := by
            have h1 := way_len hw9
            have h2 := hus.length
            omega
          refine kmk_add_lit (zs := .int wt rt :: us) (by k_asm) (by k_asm) (news_list (vs := [.int wt rt]) (n := 0) N10 (.head _)) (news_list (vs := us) (n := kk) N10 (.tail _ (List.mem_append_right _ (.head _)))) rfl ?_ (by simp only [List.length_cons, List.length_nil, sizeLine_eq]; omega)
          intro D4 h10 F10 N10 l10
          show qk (Flow.ret _) _
          k_steps
          refine tell_end1 hret (by k_asm) (by k_asm) (.head _) (fun p hp => .tail _ (.tail _ (List.mem_append_left _ (.tail _ (.tail _ (.tail _ (.tail _ (.tail _ hp)))))))) (fun p hp => l10 p (.tail _ (List.mem_append_left _ (.tail _ (.tail _ (.tail _ (.tail _ (.tail _ hp)))))))) ?_
          rw [turn_some hk9 htw hw₂]
          exact ⟨_, _, _, rfl, rfl, .cons _ _ hus⟩
      · rw [decide_eq_false hia]
        k_steps
        refine tend2 (by k_asm) (by k_asm) (by k_mem) (by k_mem) (fun p hp => .tail _ (.tail _ hp)) hIn ⟨rfl, ?_, ?_, ?_, turn_none hk9 ?_ hw₂⟩
        · rfl
        · rfl
        · rfl
        · unfold turnW
          rw [htt]
          exact if_neg hia
    · rintro m₁ nx h₂ tk₂ hle2 ⟨rfl, e1, e2, e3, hw₂⟩ F₂ N₂
      rw [hvl, Nat.sub_self] at hw₂
      dsimp only
      k_steps
      refine tell_end0 hret (by k_asm) (by k_asm) (fun p hp => hp) ?_
      rw [hw₂]
      exact ⟨rfl, rfl⟩
theorem way_tell (w : World) : ∀ (N0 : Nat) (ts : List Tie), ts.length < N0 → ts.length ≤ 8 → (∀ p ∈ ts, p.2.1 ≠ p.2.2) → ∀ (l : Addr) (n : Nat) (vs : List Value) (i j : Fin 4) (t u : Tok) (news : List (Addr × Obj)), (l, listOf vs.toArray n) ∈ news → DatAll news vs ((ts.map tieS).map tieD) →
      Tell w 375 (10 + 5 * ts.length) (fun tk => 0 < t ∧ t < tk) [.ref l, .str (S1 i) t, .str (S1 j) u] news (fun _ tl v => WayOut (way ts i j) tl v)
  | 0, _, h, _, _ => absurd h (Nat.not_lt_zero _)
  | N0 + 1, ts, h, h8, hne => way_step w ts.length (fun ts2 h2 hne2 => way_tell w N0 ts2 (by omega) (by omega) hne2) ts rfl h8 hne
end
end Mine
end

section
open PySem PySem.W PyProof.Rows PySem.Spec PySem.Calls
set_option Elab.async false
namespace Mine
def lots {α : Type} : List α → Nat → List (List α)
  | _, 0 => [[]]
  | [], _ + 1 => []
  | x :: xs, n + 1 => (lots xs n).map (x :: ·) ++ lots xs (n + 1)
theorem lots_short {α : Type} : ∀ (xs : List α) (n : Nat), xs.length < n → lots xs n = []
  | [], 0, h => absurd h (Nat.not_lt_zero _)
  | _ :: _, 0, h => absurd h (Nat.not_lt_zero _)
  | [], _ + 1, _ => rfl
  | x :: xs, n + 1, h => by
    have h : xs.length < n := Nat.lt_of_succ_lt_succ h
    unfold lots
    rw [lots_short xs n h, lots_short xs (n + 1) (Nat.lt_succ_of_lt h)]
    rfl
theorem lots_count {α : Type} : ∀ (xs : List α) (n : Nat), (lots xs n).length ≤ 2 ^ xs.length
  | [], 0 => Nat.le_refl _
  | _ :: _, 0 => Nat.one_le_two_pow
  | [], _ + 1 => Nat.zero_le _
  | x :: xs, n + 1 => by
    unfold lots
    rw [List.length_append, List.length_map, List.length_cons, Nat.pow_succ, Nat.mul_two]
    exact Nat.add_le_add (lots_count xs n) (lots_count xs (n + 1))
theorem lots_len {α : Type} : ∀ (xs : List α) (n : Nat) (l : List α), l ∈ lots xs n → l.length = n
  | [], 0, l, h => by rw [List.mem_singleton.mp h]; rfl
  | _ :: _, 0, l, h => by rw [List.mem_singleton.mp h]; rfl
  | [], _ + 1, _, h => nomatch h
  | x :: xs, n + 1, l, h => by
    unfold lots at h
    rcases List.mem_append.mp h with h | h
    · obtain ⟨l', h1, rfl⟩ := List.mem_map.mp h
      rw [List.length_cons, lots_len xs n l' h1]
    · exact lots_len xs (n + 1) l h
end Mine
end

section
open PySem PySem.W PyProof.Rows PySem.Spec PySem.Calls
set_option Elab.async false
set_option maxRecDepth 100000
set_option maxHeartbeats 400000
namespace Mine
theorem dat_list {news : List (Addr × Obj)} {v : Value} {ds : List Dat} (h : DatIn news v (.list ds)) : ∃ a vs n, v = .ref a ∧ (a, listOf vs.toArray n) ∈ news ∧ DatAll news vs ds := by
  cases h with
  | list hm r => exact ⟨_, _, _, rfl, hm, r⟩
/-- the end of a turn of a comprehension -/
def CEnd (h₀ : Heap) (L : Addr) (m : Str → Option Value) (own : List (Addr × Obj)) (J : Value → List (Addr × Obj) → Prop) (s₁ : Shared) (y : Value) (s₂ : Shared) : Prop :=
  ∃ h' tk nw, s₂ = { s₁ with heap := h', toks := tk } ∧ Fr h₀ L h' m ∧ News h₀ L h' (own ++ nw) ∧ (∀ p ∈ nw, ∀ q ∈ own, p.1 ≠ q.1) ∧ J y nw
theorem CEnd.intro {h₀ : Heap} {L : Addr} {m : Str → Option Value} {own all : List (Addr × Obj)} {J : Value → List (Addr × Obj) → Prop} {s₁ : Shared} {y : Value} {h' : Heap} {tk : Nat}
    (F : Fr h₀ L h' m) (N : News h₀ L h' all) (nw : List (Addr × Obj)) (ho : ∀ p ∈ own, p ∈ all) (hs : ∀ p ∈ nw, p ∈ all) (hn : ∀ p ∈ nw, ∀ q ∈ own, p.1 ≠ q.1) (j : J y nw) : CEnd h₀ L m own J s₁ y { s₁ with heap := h', toks := tk } :=
  ⟨h', tk, nw, rfl, F, fun p hp => N p ((List.mem_append.mp hp).elim (ho p) (hs p)), hn, j⟩
theorem own3 {a b c : Addr × Obj} {P : Addr × Obj → Prop} (h1 : P a) (h2 : P b) (h3 : P c) : ∀ p ∈ [a, b, c], P p := fun p hp => by
  rcases List.mem_cons.mp hp with rfl | hp
  · exact h1
  · rcases List.mem_cons.mp hp with rfl | hp
    · exact h2
    · rw [List.mem_singleton.mp hp]; exact h3
theorem allLt_mem {d : Nat} : ∀ {l : List (Addr × Obj)}, AllLt d l → ∀ p ∈ l, @LT.lt Nat _ p.1 d := by
  intro l
  induction l with
  | nil => intro _ p hp; exact nomatch hp
  | cons q r ih =>
    intro h p hp
    rcases List.mem_cons.mp hp with rfl | hp
    · exact h.1
    · exact ih h.2 p hp
section
variable {prog : Program} {w : World} {A : Around} {h₀ : Heap} {L : Addr} {m : Str → Option Value} {env : Env} {elt : Expr} {x : Str} {scope : Scope} {cl : List (Str × Addr)}
theorem comp_ind {s : Shared} {S : List (Addr × Obj) → Prop} {P : Nat → Value → Prop} {Fin : List Value → List (Addr × Obj) → Prop} {n : Nat} {J : Nat → List Value → List (Addr × Obj) → Prop} (hS : ∀ i ys nw, J i ys nw → S nw)
    (step : ∀ i ys nw v I oI C oC D m₂ h tk, i < n → P i v → J i ys nw → LCg.NsObj oC m₂ → m₂ x = some v → Fr h₀ L h m → News h₀ L h ((I, oI) :: (C, oC) :: (D, LCg.lst ys) :: nw) → (∀ p ∈ nw, ∀ q ∈ [(I, oI), (C, oC), (D, LCg.lst ys)], p.1 ≠ q.1) → ((@Ne Nat I C) ∧ (@Ne Nat I D) ∧ (@Ne Nat C D)) →
      wpAny (model prog w) A (eval elt (compEnvC scope cl C env)) (CEnd h₀ L m [(I, oI), (C, oC), (D, LCg.lst ys)] (fun y nw' => J (i + 1) (ys ++ [y]) nw') { s with heap := h, toks := tk }) (fun _ _ => False) { s with heap := h, toks := tk })
    (fin : ∀ ys nw, J n ys nw → Fin ys nw) : ∀ k i ys nw, i + k = n → J i ys nw → LCg.CompRest prog w A h₀ L m env elt x scope cl s S P Fin k i ys nw
  | 0, i, ys, nw, e, j => LCg.CompRest.zero (fin ys nw ((show i = n from e) ▸ j))
  | k + 1, i, ys, nw, e, j => LCg.CompRest.succ fun v I oI C oC D m₂ h tk E' hP hC hx F N off ne => by
    refine noE' (wpAny_mono (step i ys nw v I oI C oC D m₂ h tk (by omega) hP j hC hx F N (fun p hp q hq => ?_) ne) ?_ fun _ _ e => e)
    · obtain ⟨h1, h2, h3⟩ := off.mem p hp
      rcases List.mem_cons.mp hq with rfl | hq
      · exact h1
      · rcases List.mem_cons.mp hq with rfl | hq
        · exact h2
        · rw [List.mem_singleton.mp hq]; exact h3
    · rintro y _ ⟨h', tk', nw', rfl, F', N', hn, j'⟩
      exact LCg.CompEnd.intro F' N' nw' (fun p hp => by simpa using hp) (LCg.Off3.of fun p hp => ⟨hn p hp _ (.head _), hn p hp _ (.tail _ (.head _)), hn p hp _ (.tail _ (.tail _ (.head _)))⟩) (hS _ _ _ j') (comp_ind hS step fin k (i + 1) _ _ (by omega) j')
theorem off_one {D : Addr} : ∀ {nw : List (Addr × Obj)}, LCg.Off1 D nw → ∀ p ∈ nw, p.1 ≠ D := by
  intro nw
  induction nw with
  | nil => intro _ p hp; exact nomatch hp
  | cons q r ih =>
    intro h p hp
    rcases List.mem_cons.mp hp with rfl | hp
    · exact h.1
    · exact ih h.2 p hp
theorem comp_ledger {s₁ : Shared} {ax : Addr} {its : List Value} {k : Nat} {news : List (Addr × Obj)} {Q : Value → Shared → Prop} (J : Nat → List Value → List (Addr × Obj) → Prop)
    (hh : A.handled = none) (F : Fr h₀ L s₁.heap m) (N : News h₀ L s₁.heap news) (hm : ∀ i ys nw, J i ys nw → (ax, listOf its.toArray k) ∈ nw) (hsz : its.length ≤ 1000) (h0 : J 0 [] news)
    (step : ∀ i ys nw v I oI C oC D m₂ h tk, its[i]? = some v → J i ys nw → LCg.NsObj oC m₂ → m₂ x = some v → Fr h₀ L h m → News h₀ L h ((I, oI) :: (C, oC) :: (D, LCg.lst ys) :: nw) → (∀ p ∈ nw, ∀ q ∈ [(I, oI), (C, oC), (D, LCg.lst ys)], p.1 ≠ q.1) → ((@Ne Nat I C) ∧ (@Ne Nat I D) ∧ (@Ne Nat C D)) →
      wpAny (model prog w) A (eval elt (compEnvC scope cl C env)) (CEnd h₀ L m [(I, oI), (C, oC), (D, LCg.lst ys)] (fun y nw' => J (i + 1) (ys ++ [y]) nw') { s₁ with heap := h, toks := tk }) (fun _ _ => False) { s₁ with heap := h, toks := tk })
    (fin : ∀ ys nw D h tk, J its.length ys nw → Fr h₀ L h m → News h₀ L h ((D, LCg.lst ys) :: nw) → (∀ p ∈ nw, p.1 ≠ D) → Q (.ref D) { s₁ with heap := h, toks := tk }) :
    LCg.CompSrc prog w A h₀ L m env elt x scope cl (fun s₂ => LCg.FinE h₀ L m s₂ Q) (.ref ax) s₁ := by
  refine LCg.CompSrc.ledger hh F N (hm _ _ _ h0) (by rw [List.size_toArray, sizeLine_eq]; omega) fun g => ?_
  refine comp_ind (s := { s₁ with heap := g }) (J := J) (n := its.toArray.size) (fun i ys nw j => .inr ⟨_, hm _ _ _ j, rfl, _, rfl⟩) ?_ ?_ _ 0 [] news (by simp) h0
  · intro i ys nw v I oI C oC D m₂ h tk hi hv
    exact step i ys nw v I oI C oC D m₂ h tk (by simpa using hv)
  · intro ys nw j D h tk F' N' off
    exact fin ys nw D h tk (by simpa using j) F' N' (off_one off)
end
end Mine
end

section
open PySem PySem.W PyProof.Rows PySem.Spec PySem.Calls
set_option Elab.async false
set_option maxRecDepth 100000
set_option maxHeartbeats 8000000
namespace Mine
theorem fill3 : (fun (_ : OpenLaw) (_ : Params → Frag) => True) PySem.Challenge.rw_xw0305_01 hd.heap_1 := by
  k_fill
  trivial
local macro_rules | `(tactic| k_room) => `(tactic| ((simp only [ktrTop, depth_mark, depth_under_make, depth_under_kw, depth_in1, depth_deeper, depth_caller, recursionLimit]); omega))
local macro_rules | `(tactic| ktr_room) => `(tactic| k_room)
local macro_rules | `(tactic| k_units) => `(tactic| ((simp only [ktrTop, units_in1, units_deeper, Around.mark_units, units_caller, cLine]); omega))
local macro_rules | `(tactic| k_mem) => `(tactic| first | exact List.mem_cons_self | with_reducible assumption | (refine List.mem_cons_of_mem _ ?_; k_mem) | (refine List.mem_append.mpr (Or.inl ?_); k_mem) | (refine List.mem_append.mpr (Or.inr ?_); k_mem))
def LotsTell (w : World) (ds : List Dat) : Prop := ∀ (l : Addr) (n : Nat) (vs : List Value) (many : Nat) (t : Tok) (news : List (Addr × Obj)), (l, listOf vs.toArray n) ∈ news → DatAll news vs ds →
      Tell w 368 (10 + 5 * ds.length) (fun _ => True) [.ref l, .int (many : Int) t] news (fun news tl v => DatIn (news ++ tl) v (.list ((lots ds many).map Dat.list)))
section
local macro_rules | `(tactic| ktr_enter) => `(tactic| (refine' code_defC ?k1 ?k2 ?k3 ?k4 ?k5 ?kA ?kF ?kK ?k6 ?k7 ?k8 ?k9 ?kB ?kD ?_ ?c2 ?c3 ?c4; (case kA => exact rfl); (case kF => exact rfl); (case kK => assumption); (case k1 => k_asm); (case k2 => k_asm); (case k3 => k_asm); (case k4 => k_asm); (case k5 => k_asm); (case k6 => k_is); (case k7 => k_is); (case k8 => ktr_room); (case k9 => exact BindsTo.of_eq rfl); (case kB => exact rfl); (case kD => decide +kernel); (case c2 => exact rfl); (case c3 => exact rfl); (case c4 => exact rfl); k_whole; intro g' L' h' tk' cells' FG' F' N' Y' B' X' T' l1; (try k_lt l1); k_cells Y'; (try simp only [List.cons_append, List.nil_append] at N'); (try dsimp only); (try k_fold)))
local macro_rules | `(tactic| walk_at "eval ListComp") => `(tactic| (k_here; refine hold_intro ?_))
local macro_rules | `(tactic| walk_at "eval ListComp BinOp cons") => `(tactic| (k_here; refine hold_intro ?_))
local macro_rules | `(tactic| walk_at "CompSrc") => `(tactic| (k_here; refine hold_intro ?_))
local macro_rules | `(tactic| walk_at "call ref") => `(tactic| (k_here; (with_reducible show wpAny _ _ (call (Value.ref 368) _) _ _ _); refine hold_intro ?_))
local macro_rules | `(tactic| walk_at "subscriptTail Name Slice ref ref") => `(tactic| (k_here; refine hold_intro ?_))
local macro_rules | `(tactic| walk_at "binaryOp Add ref ref") => `(tactic| (k_here; refine hold_intro ?_))
set_option maxHeartbeats 4000000 in
theorem lots_step (w : World) (ds : List Dat) (h8 : ds.length ≤ 6) (IH : ∀ d ds', ds = d :: ds' → LotsTell w ds') : LotsTell w ds := by
  intro l n vs many t news hl hd
  unfold Tell
  intro pp ll mean mg mb dp un gd cn cs ad ccd cl outer A₀ base h₀ L m s Q E B F X N T hk hd' hu htk hret
  refine wpAny_call ?_
  have hvl := hd.length
  k_dflt ktr_enter
  refine noE ?_
  k_steps
  · rename_i g L₁ h₁ tk0 FG B₁ X₁ T₁ l1 o1 d1 a1 D2 h2 l2 D3 h3 F3 N3 l3 kF kN Tc kX
    have hm0 : many = 0 := by omega
    subst hm0
    refine hret _ [(D3, listOf #[.ref D2] 0), (D2, listOf #[] 0)] _ _ (by k_asm) (fun p hp => kN p (by simp only [List.mem_append, List.mem_cons] at hp ⊢; grind)) (fun q hq p hp => ?_) ?_
    · have e1 := Nat.ne_of_lt (allLt_mem l2.2 q hq)
      have e2 := Nat.ne_of_lt (allLt_mem l3.2.2 q hq)
      simp only [List.mem_cons] at hp
      grind
    · have hl0 : lots ds 0 = [[]] := by cases ds <;> rfl
      rw [hl0]
      exact .list (List.mem_append_right _ (.head _)) (.one (.list (List.mem_append_right _ (.tail _ (.head _))) .nil))
  · refine call_len_list (news_list (by k_asm) (vs := vs) (n := n) (l := l) (by k_mem)) (by rw [List.size_toArray]; omega) ?_
    rw [List.size_toArray, hvl]
    k_steps
    · rename_i g L₁ h₁ tk0 FG B₁ X₁ T₁ l1 o1 d1 a1 tk1 a2 D2 h2 F2 N2 l2 kF kN Tc kX
      refine hret _ [(D2, listOf #[] 0)] _ _ (by k_asm) (fun p hp => kN p (by simp only [List.mem_append, List.mem_cons] at hp ⊢; grind)) (fun q hq p hp => ?_) ?_
      · have e1 := Nat.ne_of_lt (allLt_mem l2.2 q hq)
        simp only [List.mem_cons] at hp
        grind
      · rw [lots_short ds many (by omega)]
        exact .list (List.mem_append_right _ (.head _)) .nil
    · rename_i g L₁ h₁ tk0 FG F₁ B₁ X₁ T₁ l1 o1 d1 N₁ a1 tk1 a2
      have d1' : o1.data = .cell (some (.ref l)) := d1
      cases hd with
      | nil => exfalso; simp only [List.length_nil] at *; omega
      | @cons v0 vs' d ds' hv0 hds =>
      have IH := IH d ds' rfl
      have hlen : ds'.length + 1 = (d :: ds').length := rfl
      generalize hlds : (d :: ds').length = len at *
      refine hold_out ?_
      refine LCg.ListComp_U (F₀ := by k_asm) (by with_unfolding_all rfl) (by decide) (by rfl) (by decide) (by rfl) ?_
      k_steps
      refine hold_out ?_
      refine slice_from (k := 1) (j := 1) rfl (by k_asm) (by k_asm) (vs := v0 :: vs') (n := n) (l := l) (by k_mem) (by omega) ?_
      intro D1 h2 F2 N2 l2
      k_steps
      refine hold_out ?_
      rw [show ((many : Int) - 1) = ((many - 1 : Nat) : Int) by omega]
      k_dflt (refine' tell_use (IH D1 0 _ _ _ ((D1, listOf vs'.toArray 0) :: (L₁ + 1, o1) :: news) (.head _) (DatAll.mono (fun p hp => .tail _ (.tail _ hp)) hds)) ?k1 ?k2 ?k3 ?k4 ?k5 ?k6 ?k7 ?k8 ?k9 ?_; (case k1 => k_asm); (case k2 => k_asm); (case k3 => k_asm); (case k4 => k_asm); (case k5 => k_asm); (case k6 => exact rfl); (case k7 => k_room); (case k8 => k_units); (case k9 => trivial))
      intro r9 tl9 h9 tk9 hkk F9 N9 hl9 ho9
      obtain ⟨ax, us, un2, rfl, hax, hus⟩ := dat_list ho9
      (try dsimp only)
      k_steps
      refine hold_out ?_
      (rename News _ _ _ _ => N9)
      have husl := hus.length
      rw [List.length_map] at husl
      have hcnt := lots_count ds' (many - 1)
      have hpow : 2 ^ ds'.length ≤ 2 ^ 6 := Nat.pow_le_pow_right (by omega) (by omega)
      have hmono : ∀ p ∈ news, p ∈ ((D1, listOf vs'.toArray 0) :: (L₁ + 1, o1) :: news ++ tl9) := fun p hp => .tail _ (.tail _ (List.mem_append_left _ hp))
      have hcell : (L₁ + 1, o1) ∈ ((D1, listOf vs'.toArray 0) :: (L₁ + 1, o1) :: news ++ tl9) := .tail _ (.head _)
      have hoff : ∀ p ∈ tl9, ∀ q ∈ news, q.1 ≠ p.1 := fun p hp q hq => hl9 q (.tail _ (.tail _ hq)) p hp
      have hoffD : ∀ q ∈ news, q.1 ≠ D1 := fun q hq => Nat.ne_of_lt (l2 q (.tail _ hq))
      generalize hnw : ((D1, listOf vs'.toArray 0) :: (L₁ + 1, o1) :: news ++ tl9) = nw0 at *
      refine comp_ledger (its := us) (k := un2) (fun i ys nw => ∃ tl, nw = tl ++ nw0 ∧ (∀ p ∈ tl, ∀ q ∈ news, q.1 ≠ p.1) ∧ DatAll nw ys (((lots ds' (many - 1)).take i).map fun lot => .list (d :: lot))) rfl (by k_asm) N9 ?_ (by omega) ⟨[], rfl, (fun _ h => nomatch h), .nil⟩ ?_ ?_
      · rintro i ys nw ⟨tl, rfl, _⟩
        exact List.mem_append_right _ hax
      · rintro i ys nw v I oI C oC D m₂ h tk3 hv ⟨tl, rfl, htl, hys⟩ hC hx F3 N3 hn3 ⟨ne1, ne2, ne3⟩
        have hi : i < (lots ds' (many - 1)).length := husl ▸ (List.getElem?_eq_some_iff.mp hv).1
        obtain ⟨v', hv', hDi⟩ := hus.get (k := i) (by rw [List.length_map]; exact hi)
        have ev : v' = v := Option.some.inj (hv'.symm.trans hv)
        subst ev
        rw [List.getElem_map] at hDi
        obtain ⟨r, xs, xn, rfl, hr, hxs⟩ := dat_list hDi
        k_steps
        refine item_at (vs := v0 :: vs') (n := n) (k := 0) N3 (.tail _ (.tail _ (.tail _ (List.mem_append_right _ (hmono _ hl))))) (by decide) (by decide) rfl ?_
        k_steps
        refine hold_out ?_
        (rename News _ _ _ _ => N4)
        have hxl : xs.length ≤ 1000 := by
          have h1 := hxs.length
          have h2 := lots_len ds' (many - 1) _ (List.getElem_mem hi)
          omega
        refine kmk_add_lit (zs := v0 :: xs) (by k_asm) (by k_asm) (news_list (vs := [v0]) (n := 0) N4 (.head _)) (news_list (vs := xs) (n := xn) N4 (.tail _ (.tail _ (.tail _ (.tail _ (List.mem_append_right _ hr)))))) rfl ?_ (by simp only [List.length_cons, List.length_nil, sizeLine_eq]; omega)
        intro D4 h10 F10 N10 l10
        have hm2 : ∀ p ∈ nw0, p ∈ ((D4, listOf (v0 :: xs).toArray 0) :: (tl ++ nw0)) := fun p hp => .tail _ (List.mem_append_right _ hp)
        refine CEnd.intro F10 N10 ((D4, listOf (v0 :: xs).toArray 0) :: (tl ++ nw0)) (own3 (by k_mem) (by k_mem) (by k_mem)) (fun p hp => ?_) (fun p hp q hq => ?_) ⟨(D4, listOf (v0 :: xs).toArray 0) :: tl, rfl, fun p hp q hq => ?_, ?_⟩
        · rcases List.mem_cons.mp hp with rfl | hp
          · exact .head _
          · exact .tail _ (.tail _ (.tail _ (.tail _ (.tail _ hp))))
        · rcases List.mem_cons.mp hp with rfl | hp
          · exact own3 (P := fun q => D4 ≠ q.1) (Ne.symm (Nat.ne_of_lt (l10 _ (.tail _ (.head _))))) (Ne.symm (Nat.ne_of_lt (l10 _ (.tail _ (.tail _ (.head _)))))) (Ne.symm (Nat.ne_of_lt (l10 _ (.tail _ (.tail _ (.tail _ (.head _))))))) q hq
          · exact hn3 p hp q hq
        · rcases List.mem_cons.mp hp with rfl | hp
          · exact Nat.ne_of_lt (l10 q (.tail _ (.tail _ (.tail _ (.tail _ (List.mem_append_right _ (hmono _ hq)))))))
          · exact htl p hp q hq
        · rw [← List.take_append_getElem hi, List.map_append]
          exact (DatAll.mono (fun p hp => .tail _ hp) hys).append (.one (.list (.head _) (.cons (DatIn.mono (fun p hp => hm2 p (hmono p hp)) hv0) (DatAll.mono hm2 hxs))))
      · rintro ys nw D h tk3 ⟨tl, rfl, htl, hys⟩ F3 N3 hn3
        dsimp only
        k_steps
        refine hold_out ?_
        refine slice_from (k := 1) (j := 1) rfl (by k_asm) (by k_asm) (vs := v0 :: vs') (n := n) (l := l) (.tail _ (List.mem_append_right _ (hmono _ hl))) (by omega) ?_
        intro D2 h12 F12 N12 l12
        k_steps
        refine hold_out ?_
        k_dflt (refine' tell_use (IH D2 0 _ many _ ((D2, listOf vs'.toArray 0) :: (D, LCg.lst ys) :: (tl ++ nw0)) (.head _) (DatAll.mono (fun p hp => .tail _ (.tail _ (List.mem_append_right _ (hmono p hp)))) hds)) ?k1 ?k2 ?k3 ?k4 ?k5 ?k6 ?k7 ?k8 ?k9 ?_; (case k1 => k_asm); (case k2 => k_asm); (case k3 => k_asm); (case k4 => k_asm); (case k5 => k_asm); (case k6 => exact rfl); (case k7 => k_room); (case k8 => k_units); (case k9 => trivial))
        intro r10 tl10 h13 tk13 hkk' F13 N13 hl13 ho13
        obtain ⟨bx, zs, zn, rfl, hbx, hzs⟩ := dat_list ho13
        (try dsimp only)
        k_steps
        refine hold_out ?_
        have hzl := hzs.length
        have hyl := hys.length
        rw [List.length_map] at hzl hyl
        rw [husl, List.take_length] at hyl hys
        have hcnt2 := lots_count ds' many
        have hDlst : (LCg.lst ys) = listOf ys.toArray ys.length := rfl
        refine kmk_add_lit (zs := ys ++ zs) (by k_asm) (by k_asm) (news_list (vs := ys) (n := ys.length) N13 (.tail _ (.head _))) (news_list (vs := zs) (n := zn) N13 hbx) rfl ?_ (by show ys.length + zs.length ≤ sizeLine; rw [sizeLine_eq]; omega)
        intro D5 h15 F15 N15 l15
        k_steps
        refine hret _ ((D5, listOf (ys ++ zs).toArray 0) :: (D2, listOf vs'.toArray 0) :: (D, LCg.lst ys) :: (tl ++ ((D1, listOf vs'.toArray 0) :: (L₁ + 1, o1) :: tl9)) ++ tl10) _ _ (by k_asm) (fun p hp => ?_) (fun q hq p hp => ?_) ?_
        · refine (by k_asm : News h₀ L h15 ((D5, listOf (ys ++ zs).toArray 0) :: ((D2, listOf vs'.toArray 0) :: (D, LCg.lst ys) :: (tl ++ nw0) ++ tl10))) p ?_
          rw [← hnw]
          simp only [List.mem_append, List.mem_cons] at hp ⊢
          grind
        · have hq0 := hmono q hq
          have e1 := l15 q (.tail _ (.tail _ (List.mem_append_left _ (List.mem_append_right _ hq0))))
          have e2 := l12 q (.tail _ (List.mem_append_right _ hq0))
          have e3 := hn3 q (List.mem_append_right _ hq0)
          have e4 := hl13 q (.tail _ (.tail _ (List.mem_append_right _ hq0))) p
          have e5 := l1 q hq
          have e6 := hoffD q hq
          have f1 : q.1 ≠ D5 := Nat.ne_of_lt e1
          have f2 : q.1 ≠ D2 := Nat.ne_of_lt e2
          have f5 : q.1 ≠ L₁ + 1 := Nat.ne_of_lt (Nat.lt_succ_of_lt e5)
          have f7 := fun h => htl p h q hq
          have f8 := fun h => hoff p h q hq
          clear e1 e2 e5
          simp only [List.mem_append, List.mem_cons] at hp
          grind
        · obtain ⟨mm, rfl⟩ : ∃ mm, many = mm + 1 := ⟨many - 1, by omega⟩
          have hsub : ∀ p ∈ (D2, listOf vs'.toArray 0) :: (D, LCg.lst ys) :: (tl ++ nw0) ++ tl10, p ∈ news ++ ((D5, listOf (ys ++ zs).toArray 0) :: (D2, listOf vs'.toArray 0) :: (D, LCg.lst ys) :: (tl ++ ((D1, listOf vs'.toArray 0) :: (L₁ + 1, o1) :: tl9)) ++ tl10) := fun p hp => by
            rw [← hnw] at hp
            simp only [List.mem_append, List.mem_cons] at hp ⊢
            grind
          refine DatIn.list (List.mem_append_right _ (.head _)) ?_
          rw [lots, List.map_append, List.map_map]
          exact (DatAll.mono (fun p hp => hsub p (.tail _ (.tail _ (List.mem_append_left _ hp)))) hys).append (DatAll.mono hsub hzs)
theorem lots_tell (w : World) : ∀ (ds : List Dat), ds.length ≤ 6 → LotsTell w ds
  | [], h => lots_step w [] h fun d ds' e => nomatch e
  | d :: ds, h => lots_step w (d :: ds) h fun d' ds' e => by
    obtain ⟨rfl, rfl⟩ := List.cons.inj e
    exact lots_tell w ds (Nat.le_of_succ_le h)
end
end Mine
end

section
open PySem PySem.W PyProof.Rows PySem.Spec PySem.Calls
set_option Elab.async false
namespace Mine
def SS (l : List (Fin 4)) : Str := ⟨(l.map fun i => 97 + i.val).toArray⟩
theorem ss_len (l : List (Fin 4)) : (SS l).length = l.length := by
  unfold SS
  show Array.size _ = _
  simp
theorem ss_one (i : Fin 4) : S1 i = SS [i] := rfl
theorem ss_two (i j : Fin 4) : S2 i j = SS [i, j] := rfl
def joinS (l : List (Fin 4)) (i j : Fin 4) : List (Fin 4) := l.map fun c => if c = i then j else c
end Mine
end

section
open PySem PySem.W PyProof.Rows PySem.Spec PySem.Calls
set_option Elab.async false
set_option maxRecDepth 100000
set_option maxHeartbeats 400000
namespace Mine
theorem ss_ascii (l : List (Fin 4)) : (SS l).cps.all (· < 128) = true := by
  unfold SS
  simp only [List.all_toArray, List.all_map, List.all_eq_true]
  intro i _
  have := i.isLt
  simp only [Function.comp, decide_eq_true_eq]
  omega
theorem ss_at {l : List (Fin 4)} {i : Nat} {v : Value} (h : SignAt (SS l) i v) : ∃ c u, l[i]? = some c ∧ v = .str (S1 c) u := by
  obtain ⟨c, u, hc, rfl⟩ := h
  unfold SS at hc
  rw [List.getElem?_toArray, List.getElem?_map] at hc
  obtain ⟨a, ha, rfl⟩ := Option.map_eq_some_iff.mp hc
  exact ⟨a, u, ha, rfl⟩
theorem ss_size (l : List (Fin 4)) : (SS l).cps.size = l.length := ss_len l
def SrcS (prog : Program) (w : World) (A : Around) (h₀ : Heap) (L : Addr) (m : Str → Option Value) (env : Env) (elt : Expr) (x : Str) (scope : Scope) (cl : List (Str × Addr)) (Q : Value → Shared → Prop) (xv : Value) (s₁ : Shared) : Prop :=
  ∃ (l : List (Fin 4)) (t : Tok) (news : List (Addr × Obj)) (J : Nat → List Value → List (Addr × Obj) → Prop), xv = .str (SS l) t ∧ A.handled = none ∧ l.length ≤ 1000 ∧ Fr h₀ L s₁.heap m ∧ News h₀ L s₁.heap news ∧ J 0 [] news ∧
      (∀ i ys nw c u I oI C oC D m₂ h tk, l[i]? = some c → J i ys nw → LCg.NsObj oC m₂ → m₂ x = some (.str (S1 c) u) → Fr h₀ L h m → News h₀ L h ((I, oI) :: (C, oC) :: (D, LCg.lst ys) :: nw) → (∀ p ∈ nw, ∀ q ∈ [(I, oI), (C, oC), (D, LCg.lst ys)], p.1 ≠ q.1) → ((@Ne Nat I C) ∧ (@Ne Nat I D) ∧ (@Ne Nat C D)) →
        wpAny (model prog w) A (eval elt (compEnvC scope cl C env)) (CEnd h₀ L m [(I, oI), (C, oC), (D, LCg.lst ys)] (fun y nw' => J (i + 1) (ys ++ [y]) nw') { s₁ with heap := h, toks := tk }) (fun _ _ => False) { s₁ with heap := h, toks := tk }) ∧
      (∀ ys nw D h tk, J l.length ys nw → Fr h₀ L h m → News h₀ L h ((D, LCg.lst ys) :: nw) → (∀ p ∈ nw, p.1 ≠ D) → Q (.ref D) { s₁ with heap := h, toks := tk })
section
variable {prog : Program} {w : World} {A : Around} {E : Value → Shared → Prop} {s : Shared} {env : Env} {h₀ : Heap} {L : Addr} {m : Str → Option Value}
theorem listComp_W {elt iter : Expr} {x : Str} {px : Pos} {scope : Scope} {cl : List (Str × Addr)} {pos : Pos} {Q : Value → Shared → Prop}
    (hclos : closureFor scope env = pure cl) (hcell : ∀ y ∈ scope.names, y.2 ≠ .cell) (hkind : scope.kind = .function)
    (hnames : ∀ y ∈ scope.names, y.2 = .local → scope.names.lookup y.1 = some .local) (hx : scope.names.lookup x = some .local)
    (h : wpAny (model prog w) A (eval iter env) (fun xv s₁ => ∃ (o : Obj) (n : Nat) (P : Nat → Value → Prop) (St : Nat → Heap → Prop) (news : List (Addr × Obj)),
      (∀ Q' : Value → Shared → Prop, Q' (.ref s₁.heap.objs.size) { s₁ with heap := s₁.heap.push o } → wpAny (model prog w) A (pyIter xv) Q' E s₁) ∧ Walks prog w A s₁.heap.objs.size [s₁.heap.objs.size] [s₁.heap.objs.size] n P St ∧ n ≤ 1000 ∧
      (∀ i h, St i h → ∃ o, h.get? s₁.heap.objs.size = some o) ∧ (∀ i h h' o, St i h → h.get? s₁.heap.objs.size = some o → h'.get? s₁.heap.objs.size = some o → St i h') ∧ St 0 (s₁.heap.push o) ∧ Fr h₀ L s₁.heap m ∧ News h₀ L s₁.heap news ∧
      LCg.CompRest prog w A h₀ L m env elt x scope cl { s₁ with heap := s₁.heap.push o } (fun _ => True) P (LCg.FinE h₀ L m { s₁ with heap := s₁.heap.push o } Q) n 0 [] news) E s)
    (hs : ∀ x, foldedSetIterable iter env x = pure x := by intro _; rfl) :
    wpAny (model prog w) A (eval (.ListComp elt [⟨.Name x px, iter, [], 0⟩] scope pos) env) Q E s := by
  rw [eval_ListComp]
  refine wpAny_comprehension_free (use := none) rfl hs hclos hkind hnames (wpAny_mono h (fun xv s₁ h₁ => ?_) fun _ _ e => e)
  obtain ⟨o, n, P, St, news, hit, W, hsz, hIo, hSt, st, F, N, R⟩ := h₁
  refine hit _ ?_
  have up : ∀ b o', s₁.heap.get? b = some o' → (s₁.heap.push o).get? b = some o' := fun b o' e => Heap.get?_push_of_some _ e
  refine LCg.block_U W (by rw [sizeLine_eq]; omega) hIo (fun i h h' o nw a b c _ _ _ => hSt i h h' o a b c) hcell hkind hx st (fun b hb => ?_)
    (F.keeps up) (N.grown up) (Nat.ne_of_lt F.ns.lt) (next_is_new F) (fun p hp => Nat.ne_of_lt (Heap.lt_size (N p hp).1)) trivial R ?_
  · rw [List.mem_singleton.mp hb]
    show s₁.heap.objs.size < (s₁.heap.push _).objs.size
    rw [Heap.size_push]; exact Nat.lt_succ_self _
  · intro D C h tk m' ys news' F' N' o1 hn hC₀ hD₀ hCL hDL hCD offC fin
    refine ⟨m', hn, fun h'' hs'' => fin D h'' tk (F'.change hs'' hCL hC₀) (fun p hp => ?_) o1⟩
    refine ⟨hs''.extBut _ _ ?_ (N' p hp).1, (N' p hp).2⟩
    rcases List.mem_cons.mp hp with rfl | hp
    · exact Ne.symm hCD
    · exact offC p hp
/-- a comprehension over a text of signs -/
theorem listComp_S {elt iter : Expr} {x : Str} {px : Pos} {scope : Scope} {cl : List (Str × Addr)} {pos : Pos} {Q : Value → Shared → Prop}
    (hclos : closureFor scope env = pure cl) (hcell : ∀ y ∈ scope.names, y.2 ≠ .cell) (hkind : scope.kind = .function)
    (hnames : ∀ y ∈ scope.names, y.2 = .local → scope.names.lookup y.1 = some .local) (hx : scope.names.lookup x = some .local)
    (h : wpAny (model prog w) A (eval iter env) (SrcS prog w A h₀ L m env elt x scope cl Q) E s)
    (hs : ∀ x, foldedSetIterable iter env x = pure x := by intro _; rfl) :
    wpAny (model prog w) A (eval (.ListComp elt [⟨.Name x px, iter, [], 0⟩] scope pos) env) Q E s := by
  refine listComp_W (h₀ := h₀) (L := L) (m := m) hclos hcell hkind hnames hx (wpAny_mono h (fun xv s₁ h₁ => ?_) fun _ _ e => e) hs
  obtain ⟨l, t, news, J, rfl, hh, hl, F, N, h0, step, fin⟩ := h₁
  refine ⟨_, l.length, _, _, news, fun Q' q => wpAny_pyIter_ascii (ss_ascii l) q, ss_size l ▸ Walks.strAscii hh _ (SS l) t, hl, fun i h st => by obtain ⟨o, e, _⟩ := st; exact ⟨o, e⟩, fun i h h' o st e e' => by obtain ⟨o', q, r⟩ := st; rw [e] at q; cases q; exact ⟨o, e', r⟩, ⟨_, Heap.get?_push_size _ rfl, rfl, rfl⟩, F, N, ?_⟩
  refine comp_ind (J := J) (n := l.length) (fun _ _ _ _ => trivial) ?_ ?_ _ 0 [] news (by simp) h0
  · intro i ys nw v I oI C oC D m₂ h tk hi hv j hC hx F' N' hn ne
    obtain ⟨c, u, hc, rfl⟩ := ss_at hv
    exact step i ys nw c u I oI C oC D m₂ h tk hc j hC hx F' N' hn ne
  · intro ys nw j D h tk F' N' off
    exact fin ys nw D h tk j F' N' (off_one off)
end
end Mine
end

section
open PySem PySem.W PyProof.Rows PySem.Spec PySem.Calls
set_option Elab.async false
set_option maxRecDepth 100000
set_option maxHeartbeats 400000
namespace Mine
section
variable {prog : Program} {w : World} {A : Around} {E : Value → Shared → Prop} {s : Shared} {env : Env} {h₀ : Heap} {target : Expr} {body : List Stmt} {Q : Flow → Shared → Prop}
theorem enumS_loopT {elts : List Expr} {k : Nat} {pos : Pos} {l : List (Fin 4)} {t : Tok} {n0 : Nat} {m₀ : Str → Option Value} {news : List (Addr × Obj)} (J : Nat → (Str → Option Value) → List (Addr × Obj) → Prop)
    (hh : A.handled = none) (hn0 : n0 ≤ s.toks) (F : Fr h₀ env.locals s.heap m₀) (N : News h₀ env.locals s.heap news) (h0 : J 0 m₀ news)
    (turn : ∀ i c u m₁ nx T t h tk I o1 o2, l[i]? = some c → n0 ≤ tk → J i m₁ nx → (∀ p ∈ news, p.1 < I) → (∀ p ∈ nx, p.1 ≠ I + 1 ∧ p.1 ≠ I) → IsTup h T #[.int (i : Int) t, .str (S1 c) u] → Fr h₀ env.locals h m₁ → News h₀ env.locals h ((I + 1, o1) :: (I, o2) :: nx) →
      wpAny (model prog w) A (assign (.Tuple elts k pos) env (.ref T)) (fun _ s₂ => wpAny (model prog w) A (execs body env) (TEnd h₀ env.locals [(I + 1, o1), (I, o2)] (J (i + 1)) { s with heap := h, toks := tk } Q) (fun _ _ => False) s₂) (fun _ _ => False) { s with heap := h, toks := tk })
    (done : ∀ m₁ nx h tk, n0 ≤ tk → J l.length m₁ nx → Fr h₀ env.locals h m₁ → News h₀ env.locals h nx → Q .next { s with heap := h, toks := tk }) :
    wpAny (model prog w) A (call (.type "enumerate") [.str (SS l) t]) (fun xv s₁ => wpAny (model prog w) A (pyIter xv) (fun it s₂ => codeAny (model prog w) A (.forLoop (.Tuple elts k pos) it body [] env) (fun r s' => match r with | .ok f => Q f s' | .error e => cameBackBy (model prog w) A env E e s') s₂) E s₁) E s := by
  have hLs : env.locals < s.heap.objs.size := F.ns.lt
  refine call_enumerate_str fun h' hE hI hsz hk => ?_
  have hI : h'.IsStrIter s.heap.objs.size "str_ascii_iterator" (SS l) t 0 := by simpa [strIterType, ss_ascii] using hI
  refine wpAny_pyIter_enum hE ?_
  refine coreT (tk0 := s.toks) (ws := [(s.heap.objs.size + 1, "enumerate"), (s.heap.objs.size, "str_ascii_iterator")]) (keep := []) (KTurns.ofWalksU (WalksT.enumerateD (Draws.strAscii (A := A.in1) hh s.heap.objs.size (SS l) t) (s.heap.objs.size + 1) (Nat.succ_ne_self _) (fun hm => Nat.succ_ne_self _ (List.mem_singleton.mp hm)) (List.mem_singleton.mpr rfl)).toU) hn0 ?_ ?_ (fun b hb => by simpa using hb) (fun b hb => by simpa using hb) ?_ ?_ ?_ ?_ (F.keeps hk) (N.grown hk) J (fun i m nx j p hp => nomatch hp) h0 ?_ ?_
  · rintro i h ⟨⟨old, he⟩, ⟨oi, hoi, hic, _⟩⟩
    have he' : ∃ oe : Obj, h.get? (s.heap.objs.size + 1) = some oe ∧ oe.cls = .type "enumerate" := ⟨_, he, rfl⟩
    obtain ⟨oe, h1, h2⟩ := he'
    refine ⟨[(s.heap.objs.size + 1, oe), (s.heap.objs.size, oi)], ⟨⟨rfl, h2⟩, ⟨rfl, hic⟩, trivial⟩, fun p hp => ?_⟩
    rcases List.mem_cons.mp hp with rfl | hp
    · exact h1
    · rw [List.mem_singleton.mp hp]; exact hoi
  · intro b hb
    have hb' : b = s.heap.objs.size + 1 ∨ b = s.heap.objs.size := by simpa using hb
    rcases hb' with rfl | rfl
    · exact ⟨by simp, ktu_new F (Nat.le_add_right _ _)⟩
    · exact ⟨by simp, ktu_new F (Nat.le_refl _)⟩
  · intro b hb
    have hb' : b = s.heap.objs.size + 1 ∨ b = s.heap.objs.size := by simpa using hb
    rcases hb' with rfl | rfl
    · exact .inl (by simp)
    · exact .inl (by simp)
  · intro hI'
    have hb' : env.locals = s.heap.objs.size + 1 ∨ env.locals = s.heap.objs.size := by simpa using hI'
    rcases hb' with e | e
    · exact ktu_ne 1 hLs e
    · exact Nat.ne_of_lt hLs e
  · intro p hp hI'
    have hb' : p.1 = s.heap.objs.size + 1 ∨ p.1 = s.heap.objs.size := by simpa using hI'
    have hlp := Heap.lt_size (N p hp).1
    rcases hb' with e | e
    · exact ktu_ne 1 hlp e
    · exact Nat.ne_of_lt hlp e
  · exact ⟨⟨.none, hE⟩, hI⟩
  · rintro i v m₁ nx h tk its htk hin ⟨T, vals, rfl, ⟨t, x, hx, rfl⟩, hT⟩ hJ hits hsep F₁ N₁
    obtain ⟨o1, o2, rfl⟩ := objs_two hits
    obtain ⟨c, u, hc, rfl⟩ := ss_at hx
    exact turn i c u m₁ nx T t h tk _ o1 o2 hc htk hJ (fun p hp => Heap.lt_size (N p hp).1) (fun p hp => ⟨hsep p hp _ (.head _), hsep p hp _ (.tail _ (.head _))⟩) hT F₁ N₁
  · intro m₁ nx h tk htk hJ F₁ N₁
    exact done m₁ nx h tk htk (by rw [ss_size] at hJ; exact hJ) F₁ N₁
end
end Mine
end

section
open PySem PySem.W PyProof.Rows PySem.Spec PySem.Calls
set_option Elab.async false
set_option maxRecDepth 100000
set_option maxHeartbeats 8000000
namespace Mine
theorem fill4 : (fun (_ : OpenLaw) (_ : Params → Frag) => True) PySem.Challenge.rw_xw0305_01 hd.heap_1 := by
  k_fill
  trivial
local macro_rules | `(tactic| k_room) => `(tactic| ((simp only [ktrTop, depth_mark, depth_under_make, depth_under_kw, depth_in1, depth_deeper, depth_caller, recursionLimit]); omega))
local macro_rules | `(tactic| ktr_room) => `(tactic| k_room)
local macro_rules | `(tactic| k_units) => `(tactic| ((simp only [ktrTop, units_in1, units_deeper, Around.mark_units, units_caller, cLine]); omega))
local macro_rules | `(tactic| k_mem) => `(tactic| first | exact List.mem_cons_self | with_reducible assumption | (refine List.mem_cons_of_mem _ ?_; k_mem) | (refine List.mem_append.mpr (Or.inl ?_); k_mem) | (refine List.mem_append.mpr (Or.inr ?_); k_mem))
section
variable {prog : Program} {w : World} {A : Around} {E : Value → Shared → Prop} {s : Shared}
theorem len_ss {l : List (Fin 4)} {t : Tok} {Q : Value → Shared → Prop} (hl : l.length ≤ 1000) (h : Q (.int (l.length : Int) (s.toks + 1)) { s with toks := s.toks + 1 + 1 }) : wpAny (model prog w) A (call (.builtin "len") [.str (SS l) t]) Q E s :=
  P.len_str (by rw [ss_len]; omega) (by rw [ss_len]; exact h)
theorem len_s1 {i : Fin 4} {t : Tok} {Q : Value → Shared → Prop} (h : Q (.int 1 (s.toks + 1)) { s with toks := s.toks + 1 + 1 }) : wpAny (model prog w) A (call (.builtin "len") [.str (S1 i) t]) Q E s :=
  len_ss (l := [i]) (Nat.le_of_ble_eq_true rfl) h
theorem item_ss {l : List (Fin 4)} {k : Nat} {c : Fin 4} {t u : Tok} {Q : Value → Shared → Prop} (hl : l.length ≤ 1000) (hc : l[k]? = some c) (h : Q (.str (S1 c) s.toks) { s with toks := s.toks + 1 }) : wpAny (model prog w) A (getItem (.str (SS l) t) (.int (k : Int) u)) Q E s := by
  have hk : k < l.length := (List.getElem?_eq_some_iff.mp hc).1
  refine P.getItem_str (c := 97 + c.val) ?_ ?_ h
  · simp only [Bool.or_eq_false_iff, decide_eq_false_iff_not]
    omega
  · rw [ss_len]
    unfold seqIndex?
    simp only [show ¬ ((k : Int) < 0) by omega, if_false, show (0 : Int) ≤ (k : Int) by omega, show (k : Int) < (l.length : Int) by omega, decide_true, Bool.and_self, if_true, Option.bind_some, Int.toNat_natCast]
    unfold SS
    rw [List.getElem?_toArray, List.getElem?_map, hc]
    rfl
end
theorem join_ok (l : List (Fin 4)) (h : (l.map S1).length ≤ 8) : JoinOk (Str.ofString "") (l.map S1) = true := by
  unfold JoinOk
  rw [Bool.not_eq_true']
  refine PySem.StrLaws.joinFits (B := 1) (fun y hy => ?_) ?_
  · obtain ⟨c, _, rfl⟩ := List.mem_map.mp hy
    exact Nat.le_refl _
  · rw [show (Str.ofString "").length = 0 by decide +kernel]
    omega
theorem join_3 : ∀ a b c : Fin 4, Txt.join (Str.ofString "") [S1 a, S1 b, S1 c] = SS [a, b, c] := by decide +kernel
theorem join_4 : ∀ a b c d : Fin 4, Txt.join (Str.ofString "") [S1 a, S1 b, S1 c, S1 d] = SS [a, b, c, d] := by decide +kernel
theorem join_ss (l : List (Fin 4)) (h : l.length = 3 ∨ l.length = 4) : Txt.join (Str.ofString "") (l.map S1) = SS l := by
  match l, h with
  | [a, b, c], _ => exact join_3 a b c
  | [a, b, c, d], _ => exact join_4 a b c d
  | [], h => simp at h
  | [_], h => simp at h
  | [_, _], h => simp at h
  | _ :: _ :: _ :: _ :: _ :: _, h => simp at h
theorem item_s1 : ∀ j : Fin 4, Txt.item (S1 j) 0 = S1 j := by decide +kernel
section
local macro_rules | `(tactic| k_all) => `(tactic| assumption)
local macro_rules | `(tactic| walk_at "call builtin:len") => `(tactic| (k_here; (with_reducible show wpAny _ _ (call (Value.builtin "len") [Value.str (S1 _) _]) _ _ _); refine len_s1 ?_))
local macro_rules | `(tactic| ktr_enter) => `(tactic| (refine' code_defC ?k1 ?k2 ?k3 ?k4 ?k5 ?kA ?kF ?kK ?k6 ?k7 ?k8 ?k9 ?kB ?kD ?_ ?c2 ?c3 ?c4; (case kA => exact rfl); (case kF => exact rfl); (case kK => assumption); (case k1 => k_asm); (case k2 => k_asm); (case k3 => k_asm); (case k4 => k_asm); (case k5 => k_asm); (case k6 => k_is); (case k7 => k_is); (case k8 => ktr_room); (case k9 => exact BindsTo.of_eq rfl); (case kB => exact rfl); (case kD => decide +kernel); (case c2 => exact rfl); (case c3 => exact rfl); (case c4 => exact rfl); k_whole; intro g' L' h' tk' cells' FG' F' N' Y' B' X' T' l1; (have l9 : ∀ p ∈ _, (p : Addr × Obj).1 ≠ L' + 1 := fun p hp => Nat.ne_of_lt (Nat.lt_succ_of_lt (l1 p hp))); (try k_lt l1); k_cells Y'; (try simp only [List.cons_append, List.nil_append] at N'); (try dsimp only); (try k_fold)))
local macro_rules | `(tactic| walk_at "eval ListComp") => `(tactic| (k_here; refine hold_intro ?_))
local macro_rules | `(tactic| walk_at "eval ListComp Call cons") => `(tactic| (k_here; refine hold_intro ?_))
local macro_rules | `(tactic| walk_at "CompSrc") => `(tactic| (k_here; refine hold_intro ?_))
local macro_rules | `(tactic| walk_at "exec For Tuple Call") => `(tactic| (k_here; refine hold_intro ?_))
local macro_rules | `(tactic| walk_at "exec For Tuple Call cons nil") => `(tactic| (k_here; refine hold_intro ?_))
local macro_rules | `(tactic| walk_at "call type:enumerate") => `(tactic| (k_here; refine hold_intro ?_))
set_option maxHeartbeats 4000000 in
theorem repl_tell (w : World) (l : List (Fin 4)) (i j : Fin 4) (t u v : Tok) (news : List (Addr × Obj)) (h8 : l.length = 3 ∨ l.length = 4) :
    Tell w 320 10 (fun _ => True) [.str (SS l) t, .str (S1 i) u, .str (S1 j) v] news (fun news tl r => ∃ t', r = .str (SS (joinS l i j)) t') := by
  unfold Tell
  intro pp ll mean mg mb dp un gd cn cs ad ccd cl outer A₀ base h₀ L m s Q E B F X N T hk hd' hu htk hret
  refine wpAny_call ?_
  k_dflt ktr_enter
  refine noE ?_
  k_steps
  · exfalso
    have h1 := s1_ne i
    simp_all
  · rename_i g L₁ h₁ tk0 FG B₁ X₁ T₁ l1 l9 o1 d1 a1 D h2 od lo hs2 fs2 hi2 fi2 l2 h3 oc F₁ N₁ dc
    refine hold_out ?_
    refine wpAny_For ?_
    k_steps
    refine hold_out ?_
    refine enumS_loopT (l := [i]) (n0 := 0) (fun k m₁ nx => ∃ od, nx = (D, od) :: (L₁ + 1, oc) :: news ∧ m₁ (Str.ofString "text") = some (.str (SS l) t) ∧ m₁ (Str.ofString "news") = some (.str (S1 j) v) ∧ (k = 0 → Obj.IsDictOf (PySem.strKind prg w) od []) ∧ (k = 1 → ∃ tt, Obj.IsDictOf (PySem.strKind prg w) od [(S1 i, .str (S1 j) tt)])) rfl (Nat.zero_le _) F₁ N₁ ⟨od, rfl, rfl, rfl, fun _ => hs2, fun h => nomatch h⟩ ?_ ?_
    · rintro k c uu m₁ nx T₂ t₂ h₂ tk₂ I p1 p2 hc hle2 ⟨od₂, rfl, e1, e2, hd0, _⟩ hI hIn hT F₂ N₂
      obtain ⟨rfl, rfl⟩ : k = 0 ∧ c = i := by
        cases k with
        | zero => exact ⟨rfl, (Option.some.inj hc).symm⟩
        | succ k => exact nomatch hc
      have hd0 := hd0 rfl
      have F₃ := fr_ext (m' := fun y => if y = Str.ofString "news" then some (.str (S1 j) v) else if y = Str.ofString "text" then some (.str (SS l) t) else m₁ y) F₂ fun y => by rw [ife e1, ife e2]
      clear F₂
      have hl1 : (S1 j).length = 1 := rfl
      k_steps
      · have hD2 : ∀ p ∈ news, p.1 ≠ D := fun p hp => Nat.ne_of_lt (allLt_mem l2.2 p hp)
        refine setItem_K (enc := PyData.str) (knd := PySem.strKind prg w) (k := S1 c) (dv := .str (Txt.item (S1 j) 0)) (kvs := []) (D := []) (o := od₂) PyProof.V.same_str (strKind_is _ _ _ _) (.str _ _) (by k_asm) (by k_asm) (UpdF.tail (Ne.symm (hIn _ (.head _)).1) (UpdF.tail (Ne.symm (hIn _ (.head _)).2) (UpdF.head (fun p hp => by
          rcases List.mem_cons.mp hp with rfl | hp
          · exact Nat.ne_of_lt l2.1
          · exact hD2 p hp)))) hd0 .nil ?_ (by decide)
        intro h4 od3 F4 N4 hd4 hf4
        k_steps
        refine tend2 (by k_asm) N4 (.head _) (.tail _ (.head _)) (fun p hp => .tail _ (.tail _ hp)) (nx := (D, od3) :: (L₁ + 1, oc) :: news) (fun p hp => ?_) ⟨od3, rfl, rfl, rfl, (fun h => nomatch h), fun _ => ⟨tk, ?_⟩⟩
        · rcases List.mem_cons.mp hp with rfl | hp
          · exact hIn (D, od₂) (.head _)
          · exact hIn p (.tail _ hp)
        · have e : Txt.item (S1 j) 0 = S1 j := item_s1 j
          rw [← e]
          exact hd4
    · rintro m₁ nx h₂ tk₂ hle2 ⟨od₂, rfl, e1, e2, _, hd1⟩ F₂ N₂
      obtain ⟨tt, hd1⟩ := hd1 rfl
      have F₃ := fr_ext (m' := fun y => if y = Str.ofString "text" then some (.str (SS l) t) else m₁ y) F₂ fun y => by rw [ife e1]
      clear F₂
      dsimp only
      k_steps
      refine hold_out ?_
      refine listComp_S (h₀ := g) (L := L₁) (m := fun y => if y = Str.ofString "text" then some (.str (SS l) t) else m₁ y) (by with_unfolding_all rfl) (by decide) (by rfl) (by decide) (by rfl) ?_
      k_steps
      refine ⟨l, t, (D, od₂) :: (L₁ + 1, oc) :: news, fun k ys nw => nw = (D, od₂) :: (L₁ + 1, oc) :: news ∧ ∃ lt : List (Str × Tok), ys = strValues lt ∧ lt.map (·.1) = (joinS (l.take k) i j).map S1, rfl, rfl, by omega, F₃, N₂, ⟨rfl, [], rfl, rfl⟩, ?_, ?_⟩
      · rintro k ys nw c uu I oI C oC D5 m₂ h tk3 hc ⟨rfl, lt, rfl, hlt⟩ hC hx F3 N3 hn3 ⟨ne1, ne2, ne3⟩
        k_steps
        have hD : Heap.DictOf (PySem.strKind prg w) h D [(S1 i, .str (S1 j) tt)] := Heap.dictOf_iff.mpr ⟨od₂, (N3 _ (.tail _ (.tail _ (.tail _ (.head _))))).1, hd1⟩
        refine call_meetsIn PySem.F.slot_dict_get hD.typeIs PySem.F.entry_dict_get (PySem.F.args_dict_get_3 _ _ _) (meets_dict_get_default (PySem.strKind prg w) D (k := S1 c) (strKind_is _ _ _ _) lo _) ⟨_, hD.mapOf, ?_⟩
        have hv : ∃ t', ((valueAt [(S1 i, Value.str (S1 j) tt)] (S1 c)).getD (.str (S1 c) uu)) = .str (S1 (if c = i then j else c)) t' := by
          unfold valueAt
          by_cases e : c = i
          · subst e
            exact ⟨tt, by simp⟩
          · have h1 : ¬ (S1 i = S1 c) := fun h => e (s1_eq_of (by rw [h]; exact beq_self_eq_true _)).symm
            exact ⟨uu, by simp [e, h1]⟩
        obtain ⟨t', hv⟩ := hv
        rw [hv]
        show qk _ _
        refine CEnd.intro F3 N3 _ (own3 (.head _) (.tail _ (.head _)) (.tail _ (.tail _ (.head _)))) (fun p hp => .tail _ (.tail _ (.tail _ hp))) hn3 ⟨rfl, lt ++ [(S1 (if c = i then j else c), t')], ?_, ?_⟩
        · unfold strValues
          rw [List.map_append]
          rfl
        · have hk := (List.getElem?_eq_some_iff.mp hc)
          obtain ⟨hk1, hk2⟩ := hk
          rw [List.map_append, hlt, ← List.take_append_getElem hk1, hk2]
          unfold joinS
          rw [List.map_append, List.map_append]
          rfl
      · rintro ys nw D5 h tk3 ⟨rfl, lt, rfl, hlt⟩ F3 N3 hn3
        rw [List.take_length] at hlt
        dsimp only
        k_steps
        refine SC.join (l := lt) (texts := (joinS l i j).map S1) (news_list N3 (.head _)) hlt (join_ok _ ?_) ?_
        · rw [List.length_map]; unfold joinS; rw [List.length_map]; omega
        · intro t' k'
          rw [join_ss _ (by unfold joinS; rw [List.length_map]; exact h8)]
          k_steps
          refine tell_end0 hret (by k_asm) (by k_asm) (fun p hp => ?_) ⟨_, rfl⟩
          k_mem
end
end Mine
end

section
open PySem PySem.W PyProof.Rows PySem.Spec PySem.Calls
set_option Elab.async false
set_option maxRecDepth 100000
set_option maxHeartbeats 8000000
namespace Mine
theorem fill6 : (fun (_ : OpenLaw) (_ : Params → Frag) => True) PySem.Challenge.rw_xw0305_01 hd.heap_1 := by
  k_fill
  trivial
local macro_rules | `(tactic| k_room) => `(tactic| ((simp only [ktrTop, depth_mark, depth_under_make, depth_under_kw, depth_in1, depth_deeper, depth_caller, recursionLimit]); omega))
local macro_rules | `(tactic| ktr_room) => `(tactic| k_room)
local macro_rules | `(tactic| k_units) => `(tactic| ((simp only [ktrTop, units_in1, units_deeper, Around.mark_units, units_caller, cLine]); omega))
local macro_rules | `(tactic| k_mem) => `(tactic| first | exact List.mem_cons_self | with_reducible assumption | (refine List.mem_cons_of_mem _ ?_; k_mem) | (refine List.mem_append.mpr (Or.inl ?_); k_mem) | (refine List.mem_append.mpr (Or.inr ?_); k_mem))
section
local macro_rules | `(tactic| k_all) => `(tactic| assumption)
local macro_rules | `(tactic| walk_at "execs cons") => `(tactic| (k_here; refine gen_toks ?_; intro tk htk9; clear htk9; (try dsimp only); (rename News _ _ _ _ => N9); (try dsimp only at N9)))
set_option maxHeartbeats 1000000 in
theorem world_tell (w : World) (news : List (Addr × Obj)) :
    Tell w 352 20 (fun _ => True) [] news (fun news tl r => ∃ x, r = .ref x) := by
  unfold Tell
  intro pp ll mean mg mb dp un gd cn cs ad ccd cl outer A₀ base h₀ L m s Q E B F X N T hk hd' hu htk hret
  refine noE ?_
  k_dflt (refine' call_cls ?k1 ?k2 ?k3 ?k4 ?k5 ?k6 ?_; (case k1 => k_asm); (case k2 => k_asm); (case k3 => k_asm); (case k4 => k_is); (case k5 => k_is); (case k6 => k_is); k_whole; intro x' d' h' F' N' l1 l2; (refine' code_def ?k1 ?k2 ?k3 ?k4 ?k5 ?kA ?kF ?kK ?k6 ?k7 ?k8 ?k9 ?kB ?_ ?c2 ?c3 ?c4 ?c5; (case kA => exact rfl); (case kF => exact rfl); (case kK => assumption); (case k1 => k_asm); (case k2 => k_asm); (case k3 => k_asm); (case k4 => k_asm); (case k5 => k_asm); (case k6 => k_is); (case k7 => k_is); (case k8 => k_room); (case k9 => first | exact BindsTo.of_eq rfl | exact binds_K (by k_in) rfl (by k_is) rfl rfl rfl); (case c5 => decide); (case kB => exact locs rfl); (case c2 => exact rfl); (case c3 => exact rfl); (case c4 => exact rfl); k_whole; intro g' L' h' FG' F' N' B' X' T'; (try dsimp only); (try k_fold)))
  have n1 : ∀ p ∈ news, p.1 ≠ d' := fun p hp => Nat.ne_of_lt (l1 p hp)
  have n2 : ∀ p ∈ news, p.1 ≠ x' := fun p hp => Nat.ne_of_lt (Nat.lt_trans (l1 p hp) l2)
  k_lt2 l2
  k_steps
  refine tell_end0 hret (by k_asm) (by k_asm) (fun p hp => ?_) ⟨_, rfl⟩
  k_mem
end
end Mine
end

section
open PySem PySem.W PyProof.Rows PySem.Spec PySem.Calls
set_option Elab.async false
set_option maxRecDepth 100000
set_option maxHeartbeats 8000000
namespace Mine
theorem fill5 : (fun (_ : OpenLaw) (_ : Params → Frag) => True) PySem.Challenge.rw_xw0305_01 hd.heap_1 := by
  k_fill
  trivial
local macro_rules | `(tactic| k_room) => `(tactic| ((simp only [ktrTop, depth_mark, depth_under_make, depth_under_kw, depth_in1, depth_deeper, depth_caller, recursionLimit]); omega))
local macro_rules | `(tactic| ktr_room) => `(tactic| k_room)
local macro_rules | `(tactic| k_units) => `(tactic| ((simp only [ktrTop, units_in1, units_deeper, Around.mark_units, units_caller, cLine]); omega))
local macro_rules | `(tactic| k_mem) => `(tactic| first | exact List.mem_cons_self | with_reducible assumption | (refine List.mem_cons_of_mem _ ?_; k_mem) | (refine List.mem_append.mpr (Or.inl ?_); k_mem) | (refine List.mem_append.mpr (Or.inr ?_); k_mem))
section
local macro_rules | `(tactic| walk_at "subscriptTail") => `(tactic| (k_here; (with_reducible show wpAny _ _ (subscriptTail _ _ (Value.ref _) (Value.int _ _)) _ _ _); (refine' item_at ?k1 ?k2 ?k3 ?k4 ?k5 ?_; (case k1 => k_asm); (case k2 => k_mem); (case k3 => first | decide | omega); (case k4 => first | decide | omega); (case k5 => first | exact rfl | assumption); k_whole)))
local macro_rules | `(tactic| walk_at "call ref") => `(tactic| (k_here; (with_reducible show wpAny _ _ (call (Value.ref 320) _) _ _ _); refine hold_intro ?_))
local macro_rules | `(tactic| walk_at "call ref") => `(tactic| (k_here; (with_reducible show wpAny _ _ (call (Value.ref 352) _) _ _ _); refine hold_intro ?_))
set_option maxHeartbeats 1000000 in
theorem joined_tell (w : World) (l : List (Fin 4)) (i j : Fin 4) (t u v : Tok) (news : List (Addr × Obj)) (h8 : l.length = 3 ∨ l.length = 4) :
    Tell w 363 30 (fun _ => True) [.str (SS l) t, .str (S1 i) u, .str (S1 j) v] news (fun news tl r => ∃ t', r = .str (SS (joinS l i j)) t') := by
  unfold Tell
  intro pp ll mean mg mb dp un gd cn cs ad ccd cl outer A₀ base h₀ L m s Q E B F X N T hk hd' hu htk hret
  refine wpAny_call ?_
  k_dflt ktr_enter
  refine noE ?_
  k_steps
  refine hold_out ?_
  k_dflt (refine' tell_use (world_tell _ _) ?k1 ?k2 ?k3 ?k4 ?k5 ?k6 ?k7 ?k8 ?k9 ?_; (case k1 => k_asm); (case k2 => k_asm); (case k3 => k_asm); (case k4 => k_asm); (case k5 => k_asm); (case k6 => exact rfl); (case k7 => k_room); (case k8 => k_units); (case k9 => trivial))
  intro r9 tl9 h9 tk9 hkk F9 N9 hl9 ho9
  obtain ⟨x9, rfl⟩ := ho9
  replace N9 : News _ _ h9 news := fun p hp => N9 p (List.mem_append_left _ hp)
  try dsimp only
  k_steps
  refine hold_out ?_
  refine noE' ?_
  k_dflt (refine' tell_use (repl_tell _ l i j _ _ _ _ h8) ?k1 ?k2 ?k3 ?k4 ?k5 ?k6 ?k7 ?k8 ?k9 ?_; (case k1 => k_asm); (case k2 => k_asm); (case k3 => k_asm); (case k4 => k_asm); (case k5 => k_asm); (case k6 => exact rfl); (case k7 => k_room); (case k8 => k_units); (case k9 => trivial))
  intro r10 tl10 h10 tk10 hkk2 F10 N10 hl10 ho10
  obtain ⟨t10, rfl⟩ := ho10
  try dsimp only
  k_steps
  refine tell_end0 hret (by k_asm) (by k_asm) (fun p hp => ?_) ⟨_, rfl⟩
  k_mem
end
end Mine
end

section
open PySem PySem.W PyProof.Rows PySem.Spec PySem.Calls
set_option Elab.async false
set_option maxRecDepth 100000
set_option maxHeartbeats 8000000
namespace Mine
theorem fill7 : (fun (_ : OpenLaw) (_ : Params → Frag) => True) PySem.Challenge.rw_xw0305_01 hd.heap_1 := by
  k_fill
  trivial
local macro_rules | `(tactic| k_room) => `(tactic| ((simp only [ktrTop, depth_mark, depth_under_make, depth_under_kw, depth_in1, depth_deeper, depth_caller, recursionLimit]); omega))
local macro_rules | `(tactic| ktr_room) => `(tactic| k_room)
local macro_rules | `(tactic| k_units) => `(tactic| ((simp only [ktrTop, units_in1, units_deeper, Around.mark_units, units_caller, cLine]); omega))
local macro_rules | `(tactic| k_mem) => `(tactic| first | exact List.mem_cons_self | with_reducible assumption | (refine List.mem_cons_of_mem _ ?_; k_mem) | (refine List.mem_append.mpr (Or.inl ?_); k_mem) | (refine List.mem_append.mpr (Or.inr ?_); k_mem))
section
local macro_rules | `(tactic| walk_at "exec While") => `(tactic| (k_here; refine hold_intro ?_))
local macro_rules | `(tactic| walk_at "exec While BoolOp") => `(tactic| (k_here; refine hold_intro ?_))
set_option maxHeartbeats 1000000 in
theorem text_tell (w : World) (N : Int) (hN : 1 ≤ N ∧ N ≤ 9) (t : Tok) (news : List (Addr × Obj)) :
    Tell w 177 10 (fun _ => True) [.int N t] news (fun news tl r => ∃ (x : Str) (t' : Tok), r = .str x t' ∧ x.length = 1) := by
  unfold Tell
  intro pp ll mean mg mb dp un gd cn cs ad ccd cl outer A₀ base h₀ L m s Q E B F X N₀ T hk hd' hu htk hret
  refine wpAny_call ?_
  k_dflt ktr_enter
  refine noE ?_
  k_steps
  refine hold_out ?_
  (rename Fr _ _ _ _ => F₁)
  (rename News _ _ _ _ => N₁)
  refine While_inv (n₀ := 1) (fun n m₂ nx => ∃ (tt tu tv : Tok) (x : Str) (lf : Int), m₂ (Str.ofString "number") = some (.int N tv) ∧ m₂ (Str.ofString "left") = some (.int lf tt) ∧ m₂ (Str.ofString "found") = some (.str x tu) ∧ (∀ p ∈ news, p ∈ nx) ∧ ((n = 1 ∧ lf = N ∧ x = Str.ofString "") ∨ (n = 0 ∧ lf = 0 ∧ x.length = 1))) F₁ N₁ ?_ ?_ (hE := PassesOwn.never)
  · refine ⟨_, _, _, _, _, rfl, rfl, rfl, ?_, .inl ⟨rfl, ?_, rfl⟩⟩
    · intro p hp; k_mem
    · rw [if_neg (by omega)]
  rintro n₂ m₂ nx h₅ tk₅ F₅ N₅ ⟨tt, tu, tv, x, lf, a1, a2, a3, hnx, hJ⟩
  have F₆ : Fr _ _ h₅ (fun y => if y = Str.ofString "found" then some (.str x tu) else if y = Str.ofString "left" then some (.int lf tt) else if y = Str.ofString "number" then some (.int N tv) else m₂ y) := fr_ext F₅ fun y => by rw [ife a1, ife a2, ife a3]
  clear F₅
  have h0 : (Str.ofString "").length = 0 := by decide +kernel
  rcases hJ with ⟨rfl, rfl, rfl⟩ | ⟨rfl, rfl, hx⟩
  · k_steps
    · refine WhileStep.intro (by k_asm) (by k_asm) (n' := 0) (by omega) ⟨_, _, _, _, _, rfl, rfl, rfl, hnx, .inr ⟨rfl, ?_, ?_⟩⟩
      · rw [Int.fdiv_eq_ediv_of_nonneg _ (by decide)]; omega
      · show ({ cps := #[_] } ++ Str.ofString "" : Str).length = 1
        rw [Str.append_right_empty (by rw [h0]; rfl)]
        rfl
    all_goals (exfalso; omega)
  · k_steps
    · exfalso
      have e : x = Str.ofString "" := eq_of_beq (by assumption)
      rw [e, h0] at hx
      exact nomatch hx
    · exact tell_end0 hret (by k_asm) (by k_asm) hnx ⟨x, tu, rfl, hx⟩
end
end Mine
end

section
open PySem PySem.W PyProof.Rows PySem.Spec PySem.Calls
set_option Elab.async false
set_option maxRecDepth 100000
set_option maxHeartbeats 8000000
namespace Mine
theorem fill10 : (fun (_ : OpenLaw) (_ : Params → Frag) => True) PySem.Challenge.rw_xw0305_01 hd.heap_1 := by
  k_fill
  trivial
local macro_rules | `(tactic| k_room) => `(tactic| ((simp only [ktrTop, depth_mark, depth_under_make, depth_under_kw, depth_in1, depth_deeper, depth_caller, recursionLimit]); omega))
local macro_rules | `(tactic| ktr_room) => `(tactic| k_room)
local macro_rules | `(tactic| k_units) => `(tactic| ((simp only [ktrTop, units_in1, units_deeper, Around.mark_units, units_caller, cLine]); omega))
local macro_rules | `(tactic| k_mem) => `(tactic| first | exact List.mem_cons_self | with_reducible assumption | (refine List.mem_cons_of_mem _ ?_; k_mem) | (refine List.mem_append.mpr (Or.inl ?_); k_mem) | (refine List.mem_append.mpr (Or.inr ?_); k_mem))
section
local macro_rules | `(tactic| k_all) => `(tactic| assumption)
local macro_rules | `(tactic| walk_at "exec For Tuple Name") => `(tactic| (k_here; refine hold_intro ?_))
local macro_rules | `(tactic| walk_at "exec For") => `(tactic| (k_here; refine hold_intro ?_))
def fnd (many : Int) (i : Nat) : Int := match i with | 0 => 1 | 1 => many | _ => many * 2
abbrev tupOf (vs : Array Value) (n : Nat) : Obj := { cls := .type "tuple", data := .seq vs n }
abbrev arrD (w : World) (num : Int) (x : Str) (b D : Addr) (a0 a1 a2 a3 a4 a5 a6 a7 a8 a9 : Tok) : Obj :=
  dictOf [⟨PyData.keyHash w.params (Str.ofString "word"), .str (Str.ofString "word") a0, .str (Str.ofString "ARRAY") a1⟩, ⟨PyData.keyHash w.params (Str.ofString "number"), .str (Str.ofString "number") a2, .int num a3⟩, ⟨PyData.keyHash w.params (Str.ofString "mark"), .str (Str.ofString "mark") a4, .int 0 a5⟩, ⟨PyData.keyHash w.params (Str.ofString "told"), .str (Str.ofString "told") a6, .str x a7⟩, ⟨PyData.keyHash w.params (Str.ofString "bounds"), .str (Str.ofString "bounds") a8, .ref b⟩, ⟨PyData.keyHash w.params (Str.ofString "items"), .str (Str.ofString "items") a9, .ref D⟩] 6
set_option maxHeartbeats 1000000 in
theorem size_tell (w : World) (many : Int) (hm : 0 ≤ many ∧ many ≤ 100) (p q b : Addr) (n1 n2 n3 : Nat) (t1 t2 t3 t4 : Tok) (news : List (Addr × Obj)) (hb : (b, listOf #[.ref p, .ref q] n1) ∈ news) (hp : (p, tupOf #[.int 1 t1, .int many t2] n2) ∈ news) (hq : (q, tupOf #[.int 1 t3, .int 2 t4] n3) ∈ news) :
    Tell w 255 8 (fun _ => True) [.ref b] news (fun news tl r => tl = [] ∧ ∃ t, r = .int (many * 2) t) := by
  unfold Tell
  intro pp ll mean mg mb dp un gd cn cs ad ccd cl outer A₀ base h₀ L m s Q E B F X N T hk hd' hu htk hret
  refine wpAny_call ?_
  k_dflt ktr_enter
  refine noE ?_
  k_steps
  refine hold_out ?_
  refine wpAny_For ?_
  k_steps
  (rename Fr _ _ _ _ => F₁)
  (rename News _ _ _ _ => N₁)
  refine list_loopT (vs := [.ref p, .ref q]) (n := n1) (n0 := 0) (fun i m₁ nx => nx = news ∧ ∃ t, m₁ (Str.ofString "found") = some (.int (fnd many i) t)) rfl (Nat.zero_le _) F₁ N₁ (fun i m nx h => h.1 ▸ hb) ⟨rfl, _, rfl⟩ ?_ ?_
  · rintro i v m₁ nx h tk I o hv hle ⟨rfl, t, e1⟩ hI hIn F₂ N₂
    have F₃ := fr_ext (m' := fun y => if y = Str.ofString "found" then some (.int (fnd many i) t) else m₁ y) F₂ fun y => by rw [ife e1]
    clear F₂
    match i, hv with
    | 0, hv =>
      obtain rfl : Value.ref p = v := Option.some.inj hv
      have hT : IsTup h p #[.int 1 t1, .int many t2] := ⟨_, (N₂ _ (.tail _ hp)).1, rfl, n2, rfl⟩
      have F₃ := F₃
      unfold fnd at F₃
      k_steps
      refine TEnd.next (by k_asm) (by k_asm) nx (fun p hp => List.mem_append_left nx hp) (fun p hp => .tail _ hp) (fun p hp q hq => by rw [List.mem_singleton.mp hq]; exact hIn p hp) ⟨rfl, _, (congrArg (fun z => some (Value.int z _)) (?_ : _ = fnd many (0 + 1)) : some (Value.int _ _) = _)⟩
      show 1 * (many - 1 + 1) = many
      omega
    | 1, hv =>
      obtain rfl : Value.ref q = v := Option.some.inj hv
      have hT : IsTup h q #[.int 1 t3, .int 2 t4] := ⟨_, (N₂ _ (.tail _ hq)).1, rfl, n3, rfl⟩
      have F₃ := F₃
      unfold fnd at F₃
      k_steps
      refine TEnd.next (by k_asm) (by k_asm) nx (fun p hp => List.mem_append_left nx hp) (fun p hp => .tail _ hp) (fun p hp q hq => by rw [List.mem_singleton.mp hq]; exact hIn p hp) ⟨rfl, _, (congrArg (fun z => some (Value.int z _)) (?_ : _ = fnd many (1 + 1)) : some (Value.int _ _) = _)⟩
      show many * (2 - 1 + 1) = many * 2
      rfl
  · rintro m₁ nx h tk hle ⟨rfl, t, e1⟩ F₂ N₂
    have F₃ := fr_ext (m' := fun y => if y = Str.ofString "found" then some (.int (many * 2) t) else m₁ y) F₂ fun y => by rw [ife (show m₁ (Str.ofString "found") = some (.int (many * 2) t) from e1)]
    clear F₂
    dsimp only
    k_steps
    exact tell_end0 hret (by k_asm) (by k_asm) (fun p hp => hp) ⟨rfl, _, rfl⟩
end
end Mine
end

section
open PySem PySem.W PyProof.Rows PySem.Spec PySem.Calls
set_option Elab.async false
set_option maxRecDepth 100000
set_option maxHeartbeats 8000000
namespace Mine
theorem fill9 : (fun (_ : OpenLaw) (_ : Params → Frag) => True) PySem.Challenge.rw_xw0305_01 hd.heap_1 := by
  k_fill
  trivial
local macro_rules | `(tactic| k_room) => `(tactic| ((simp only [ktrTop, depth_mark, depth_under_make, depth_under_kw, depth_in1, depth_deeper, depth_caller, recursionLimit]); omega))
local macro_rules | `(tactic| ktr_room) => `(tactic| k_room)
theorem units_makes (A : Around) (args : Args) : (A.under (.builtin "type.__call__" args)).units = A.units + 1 := by
  show A.units + (Code.builtin "type.__call__" args).cUnits = _
  rfl
local macro_rules | `(tactic| k_units) => `(tactic| ((simp only [ktrTop, units_makes, units_in1, units_deeper, Around.mark_units, units_caller, cLine]); omega))
local macro_rules | `(tactic| k_mem) => `(tactic| first | exact List.mem_cons_self | with_reducible assumption | (refine List.mem_cons_of_mem _ ?_; k_mem) | (refine List.mem_append.mpr (Or.inl ?_); k_mem) | (refine List.mem_append.mpr (Or.inr ?_); k_mem))
section
local macro_rules | `(tactic| k_all) => `(tactic| assumption)
local macro_rules | `(tactic| walk_at "call ref") => `(tactic| (k_here; (with_reducible show wpAny _ _ (call (Value.ref 255) _) _ _ _); refine hold_intro ?_))
local macro_rules | `(tactic| walk_at "binaryOp Mult ref int") => `(tactic| (k_here; refine hold_intro ?_))
def ArrOut (w : World) (num : Int) (x : Str) (b : Addr) (tl : List (Addr × Obj)) (r : Value) : Prop := ∃ (y d D : Addr) (a0 a1 a2 a3 a4 a5 a6 a7 a8 a9 : Tok) (its : List Value), r = .ref y ∧ @LT.lt Nat _ d y ∧ @LT.lt Nat _ y D ∧ tl = [(D, listOf its.toArray 0), (y, instObj 208 d), (d, arrD w num x b D a0 a1 a2 a3 a4 a5 a6 a7 a8 a9)]
theorem arr_end {w : World} {num : Int} {x : Str} {b : Addr} {h₀ : Heap} {L : Addr} {m : Str → Option Value} {news : List (Addr × Obj)} {s : Shared} {Q : Value → Shared → Prop}
    (hret : ∀ r tl h' tk', Fr h₀ L h' m → News h₀ L h' (news ++ tl) → (∀ q ∈ news, ∀ p ∈ tl, q.1 ≠ p.1) → Outs (fun _ tl r => ArrOut w num x b tl r) news tl r → Q r { s with heap := h', toks := tk' })
    {y d D : Addr} {a0 a1 a2 a3 a4 a5 a6 a7 a8 a9 : Tok} {its : List Value} {h' : Heap} {tk' : Nat} {q : Addr × Obj} (F : Fr h₀ L h' m) (N : News h₀ L h' ((D, listOf its.toArray 0) :: q :: (y, instObj 208 d) :: (d, arrD w num x b D a0 a1 a2 a3 a4 a5 a6 a7 a8 a9) :: news))
    (l1 : ∀ z ∈ news, z.1 < d) (l2 : d < y) (l3 : y < D) : Q (.ref y) { s with heap := h', toks := tk' } := by
  refine hret _ [(D, listOf its.toArray 0), (y, instObj 208 d), (d, arrD w num x b D a0 a1 a2 a3 a4 a5 a6 a7 a8 a9)] _ _ F (fun p hp => N p ?_) (fun z hz => own3 (P := fun p => z.1 ≠ p.1) (Nat.ne_of_lt (Nat.lt_trans (Nat.lt_trans (l1 z hz) l2) l3)) (Nat.ne_of_lt (Nat.lt_trans (l1 z hz) l2)) (Nat.ne_of_lt (l1 z hz))) ⟨y, d, D, a0, a1, a2, a3, a4, a5, a6, a7, a8, a9, its, rfl, l2, l3, rfl⟩
  rcases List.mem_append.mp hp with hp | hp
  · exact .tail _ (.tail _ (.tail _ (.tail _ hp)))
  · simp only [List.mem_cons, List.not_mem_nil, or_false] at hp ⊢
    grind
set_option maxHeartbeats 1000000 in
theorem array_tell (w : World) (num many : Int) (x : Str) (p q b : Addr) (n1 n2 n3 : Nat) (t1 t2 t3 t4 t5 t6 t7 : Tok) (news : List (Addr × Obj)) (hm : many = 3 ∨ many = 6) (hb : (b, listOf #[.ref p, .ref q] n1) ∈ news) (hp : (p, tupOf #[.int 1 t4, .int many t5] n2) ∈ news) (hq : (q, tupOf #[.int 1 t6, .int 2 t7] n3) ∈ news) :
    Tell w 208 25 (fun _ => True) [.int num t1, .str x t2, .ref b, .str (Str.ofString "") t3] news (fun _ tl r => ArrOut w num x b tl r) := by
  unfold Tell
  intro pp ll mean mg mb dp un gd cn cs ad ccd cl outer A₀ base h₀ L m s Q E B F X N T hk hd' hu htk hret
  refine noE ?_
  k_dflt (refine' call_cls ?k1 ?k2 ?k3 ?k4 ?k5 ?k6 ?_; (case k1 => k_asm); (case k2 => k_asm); (case k3 => k_asm); (case k4 => k_is); (case k5 => k_is); (case k6 => k_is); k_whole; intro x' d' h' F' N' l1 l2; (refine' code_def ?k1 ?k2 ?k3 ?k4 ?k5 ?kA ?kF ?kK ?k6 ?k7 ?k8 ?k9 ?kB ?_ ?c2 ?c3 ?c4 ?c5; (case kA => exact rfl); (case kF => exact rfl); (case kK => assumption); (case k1 => k_asm); (case k2 => k_asm); (case k3 => k_asm); (case k4 => k_asm); (case k5 => k_asm); (case k6 => k_is); (case k7 => k_is); (case k8 => k_room); (case k9 => first | exact BindsTo.of_eq rfl | exact binds_K (by k_in) rfl (by k_is) rfl rfl rfl); (case c5 => decide); (case kB => exact locs rfl); (case c2 => exact rfl); (case c3 => exact rfl); (case c4 => exact rfl); k_whole; intro g' L' h' FG' F' N' B' X' T'; (try dsimp only); (try k_fold)))
  have n1 : ∀ p ∈ news, p.1 ≠ d' := fun p hp => Nat.ne_of_lt (l1 p hp)
  have n2 : ∀ p ∈ news, p.1 ≠ x' := fun p hp => Nat.ne_of_lt (Nat.lt_trans (l1 p hp) l2)
  k_lt2 l2
  k_steps
  refine hold_out ?_
  refine noE' ?_
  have hx : ∀ z ∈ news, ∀ a b c : Addr × Obj, z ∈ a :: b :: c :: news := fun z hz _ _ _ => .tail _ (.tail _ (.tail _ hz))
  k_dflt (refine' tell_use (size_tell _ many (by omega) p q b _ _ _ _ _ _ _ _ (hx _ hb _ _ _) (hx _ hp _ _ _) (hx _ hq _ _ _)) ?k1 ?k2 ?k3 ?k4 ?k5 ?k6 ?k7 ?k8 ?k9 ?_; (case k1 => k_asm); (case k2 => k_asm); (case k3 => k_asm); (case k4 => k_asm); (case k5 => k_asm); (case k6 => exact rfl); (case k7 => k_room); (case k8 => k_units); (case k9 => trivial))
  intro r9 tl9 h9 tk9 hkk F9 N9 hl9 ho9
  obtain ⟨rfl, t9, rfl⟩ := ho9
  rw [List.append_nil] at N9
  try dsimp only
  k_steps
  refine hold_out ?_
  refine noE' ?_
  refine KMa.mul (vs := [.str (Str.ofString "") t3]) (ws := List.replicate (many * 2).toNat (.str (Str.ofString "") t3)) (by k_asm) (by k_asm) (news_list (by k_asm) (vs := [.str (Str.ofString "") t3]) (n := 0) (by k_mem)) (by omega) (by omega) (by show 1 * _ ≤ _; omega) ?_ ?_
  · rcases hm with rfl | rfl <;> rfl
  intro D h10 F10 N10 l10
  k_lt l10
  k_steps
  exact arr_end hret (by k_asm) (by k_asm) l1 l2 l10.2.1
end
end Mine
end

section
open PySem PySem.W PyProof.Rows PySem.Spec PySem.Calls
set_option Elab.async false
set_option maxRecDepth 100000
set_option maxHeartbeats 400000
namespace Mine
theorem turn_two0 (elt t1 i1 t2 i2 : Expr) (ifs : List Expr) (scope : Scope) (pos : Pos) (it acc : Value) (env : Env) :
    PySem.compTurn (.ListComp elt [⟨t1, i1, [], 0⟩, ⟨t2, i2, ifs, 0⟩] scope pos) 0 it acc env = (standAt i1.pos >>= fun _ => pyNext it >>= fun r => match r with
      | none => pure (.done .next)
      | some v => letOwnedTupleGo t1 it v >>= fun _ => assign t1 env v >>= fun _ => eval i2 env >>= fun x => standAt i2.pos >>= fun _ => foldedSetIterable i2 env x >>= fun x =>
        holding [x] (pyIter x) >>= fun it2 => runOwn (.compStart (.ListComp elt [⟨t1, i1, [], 0⟩, ⟨t2, i2, ifs, 0⟩] scope pos) 1 it2 acc env) env >>= fun _ =>
          again (.compLoop (.ListComp elt [⟨t1, i1, [], 0⟩, ⟨t2, i2, ifs, 0⟩] scope pos) 0 it acc env)) := by rfl
theorem turn_two1 (elt t1 i1 t2 i2 : Expr) (ifs : List Expr) (scope : Scope) (pos : Pos) (it acc : Value) (env : Env) :
    PySem.compTurn (.ListComp elt [⟨t1, i1, [], 0⟩, ⟨t2, i2, ifs, 0⟩] scope pos) 1 it acc env = (do
      standAt i2.pos
      match ← pyNext it with
      | none => pure (.done .next)
      | some v =>
        letOwnedTupleGo t2 it v
        assign t2 env v
        let mut ok := true
        for c in ifs do
          if ok then ok ← isTrue c env (eval c env)
        if ok then
          (do let _ ← call (.builtin "list.append") [acc, ← eval elt env])
        again (.compLoop (.ListComp elt [⟨t1, i1, [], 0⟩, ⟨t2, i2, ifs, 0⟩] scope pos) 1 it acc env)) := by rfl
abbrev two (elt : Expr) (x : Str) (px : Pos) (i1 : Expr) (y : Str) (py : Pos) (i2 : Expr) (ifs : List Expr) (scope : Scope) (pos : Pos) : Expr := .ListComp elt [⟨.Name x px, i1, [], 0⟩, ⟨.Name y py, i2, ifs, 0⟩] scope pos
section
variable {prog : Program} {w : World} {A : Around} {E : Value → Shared → Prop} {R : Result → Shared → Prop} {s : Shared}
variable {elt i1 i2 : Expr} {x y : Str} {px py : Pos} {ifs : List Expr} {scope : Scope} {pos : Pos} {it acc : Value} {env : Env}
theorem start_two1 (h0 : codeAny (model prog w) A (.compLoop (two elt x px i1 y py i2 ifs scope pos) 1 it acc env) R s)
    (h : wpAny (model prog w) A (pyIter it) (fun it' s' => codeAny (model prog w) A (.compLoop (two elt x px i1 y py i2 ifs scope pos) 1 it' acc env) R s') (notedBy (model prog w) A env fun x s' => R (.error x) s') s) :
    codeAny (model prog w) A (.compStart (two elt x px i1 y py i2 ifs scope pos) 1 it acc env) R s := by
  refine codeAny_of_tree ?_
  show wpAny _ _ ((compStart (two elt x px i1 y py i2 ifs scope pos) 1 it acc env).onRaise (fun x => do noteFrame x env; standAt theWindowsPlace)) _ _ s
  refine wpAny_notedAt ?_
  unfold compStart
  show wpAny _ _ (ask >>= _) _ _ s
  refine wpAny_bind (wpAny_askSetting (wpAny_ite ?_))
  split
  · first
      | exact wpAny_bind (wpAny_pure (wpAny_pure (And.intro rfl h0)))
      | exact wpAny_pure (And.intro rfl h0)
  · first
      | exact wpAny_bind (wpAny_rule (wpAny_bind (wpAny_standAt (wpAny_bind (wpAny_mono h (fun it' s' h' => wpAny_pure (And.intro rfl h')) fun _ _ x => x)))))
      | (refine wpAny_bind (wpAny_rule ?_); show wpAny _ _ (standAt i2.pos >>= _) _ _ s; exact wpAny_bind (wpAny_standAt (wpAny_bind (wpAny_mono h (fun it' s' h' => wpAny_pure (And.intro rfl h')) fun _ _ x => x))))
theorem start_two0 (h0 : codeAny (model prog w) A (.compLoop (two elt x px i1 y py i2 ifs scope pos) 0 it acc env) R s)
    (h : wpAny (model prog w) A (pyIter it) (fun it' s' => codeAny (model prog w) A (.compLoop (two elt x px i1 y py i2 ifs scope pos) 0 it' acc env) R s') (notedBy (model prog w) A env fun x s' => R (.error x) s') s) :
    codeAny (model prog w) A (.compStart (two elt x px i1 y py i2 ifs scope pos) 0 it acc env) R s := codeAny_compStart_list h0 h
theorem loop_two1 (I : Nat → Shared → Prop)
    (turn : ∀ n s, I n s → wpAny (model prog w) A (pyNext it) (fun r s₁ => match r with
      | none => R (.ok .next) s₁
      | some v => wpAny (model prog w) A (assign (.Name y py) env v) (fun _ s₂ =>
          wpAny (model prog w) A (forIn ifs true fun c r => if r = true then do let ok ← isTrue c env (eval c env); pure (ForInStep.yield ok) else pure (ForInStep.yield r)) (fun ok s₃ =>
            if ok = true then wpAny (model prog w) A (eval elt env) (fun x s₄ =>
              wpAny (model prog w) A (call (.builtin "list.append") [acc, x]) (fun _ s₅ => ∃ m, m < n ∧ I m s₅) (notedBy (model prog w) A env fun e s' => R (.error e) s') s₄) (notedBy (model prog w) A env fun e s' => R (.error e) s') s₃
            else ∃ m, m < n ∧ I m s₃) (notedBy (model prog w) A env fun e s' => R (.error e) s') s₂) (notedBy (model prog w) A env fun e s' => R (.error e) s') s₁) (notedBy (model prog w) A env fun e s' => R (.error e) s') s)
    (n : Nat) (h : I n s) (ht : ∀ v, letOwnedTupleGo (.Name y py) it v = pure () := by intro _; rfl) :
    codeAny (model prog w) A (.compLoop (two elt x px i1 y py i2 ifs scope pos) 1 it acc env) R s := by
  refine codeAny_loop rfl I (fun n s hI => ?_) n h
  show wpAny _ A ((compTurn (two elt x px i1 y py i2 ifs scope pos) 1 it acc env).onRaise (fun x => do noteFrame x env; theTreesLotGoes x)) _ _ s
  refine wpAny_noted ?_
  rw [turn_two1]
  refine wpAny_bind (wpAny_standAt (wpAny_bind (wpAny_mono (turn n s hI) (fun r s₁ h₁ => ?_) fun _ _ h' => h')))
  cases r with
  | none => exact wpAny_pure h₁
  | some v =>
    refine wpAny_bind (wpAny_of_eq (ht v) ?_)
    refine wpAny_bind (wpAny_mono h₁ (fun _ s₂ h₂ => wpAny_bind (wpAny_mono h₂ (fun ok s₃ h₃ => ?_) fun _ _ h' => h')) fun _ _ h' => h')
    cases ok with
    | false => exact wpAny_pure ⟨rfl, h₃⟩
    | true =>
      exact wpAny_bind (wpAny_bind (wpAny_mono h₃ (fun x s₄ h₄ => wpAny_bind (wpAny_mono h₄ (fun _ s₅ h₅ => wpAny_pure (wpAny_pure ⟨rfl, h₅⟩)) fun _ _ h' => h')) fun _ _ h' => h'))
theorem loop_two0 (I : Nat → Shared → Prop)
    (turn : ∀ n s, I n s → wpAny (model prog w) A (pyNext it) (fun r s₁ => match r with
      | none => R (.ok .next) s₁
      | some v => wpAny (model prog w) A (assign (.Name x px) env v) (fun _ s₂ => wpAny (model prog w) A (eval i2 env) (fun xv s₃ => wpAny (model prog w) A (pyIter xv) (fun it2 s₄ =>
          codeAny (model prog w) A (.compStart (two elt x px i1 y py i2 ifs scope pos) 1 it2 acc env) (fun r s' => match r with | .ok _ => ∃ m, m < n ∧ I m s' | .error e => cameBackBy (model prog w) A env (notedBy (model prog w) A env fun e s' => R (.error e) s') e s') s₄)
            (notedBy (model prog w) A env fun e s' => R (.error e) s') s₃) (notedBy (model prog w) A env fun e s' => R (.error e) s') s₂) (notedBy (model prog w) A env fun e s' => R (.error e) s') s₁) (notedBy (model prog w) A env fun e s' => R (.error e) s') s)
    (n : Nat) (h : I n s) (hs : ∀ v, foldedSetIterable i2 env v = pure v := by intro _; rfl) (ht : ∀ v, letOwnedTupleGo (.Name x px) it v = pure () := by intro _; rfl) :
    codeAny (model prog w) A (.compLoop (two elt x px i1 y py i2 ifs scope pos) 0 it acc env) R s := by
  refine codeAny_loop rfl I (fun n s hI => ?_) n h
  show wpAny _ A ((compTurn (two elt x px i1 y py i2 ifs scope pos) 0 it acc env).onRaise (fun x => do noteFrame x env; theTreesLotGoes x)) _ _ s
  refine wpAny_noted ?_
  rw [turn_two0]
  refine wpAny_bind (wpAny_standAt (wpAny_bind (wpAny_mono (turn n s hI) (fun r s₁ h₁ => ?_) fun _ _ h' => h')))
  cases r with
  | none => exact wpAny_pure h₁
  | some v =>
    refine wpAny_bind (wpAny_of_eq (ht v) ?_)
    refine wpAny_bind (wpAny_mono h₁ (fun _ s₂ h₂ => ?_) fun _ _ h' => h')
    refine wpAny_bind (wpAny_mono h₂ (fun xv s₃ h₃ => ?_) fun _ _ h' => h')
    refine wpAny_bind (wpAny_standAt ?_)
    refine wpAny_bind (wpAny_of_eq (hs xv) ?_)
    refine wpAny_bind (wpAny_holding (wpAny_mono h₃ (fun it2 s₄ h₄ => ?_) fun _ _ h' => h'))
    refine wpAny_bind (wpAny_runOwn (h := none) (codeAny_mono h₄ (fun r s₅ h₅ => ?_)))
    cases r with
    | ok f => exact wpAny_pure ⟨rfl, h₅⟩
    | error e => exact h₅
end
end Mine
end

section
open PySem PySem.W PyProof.Rows PySem.Spec PySem.Calls
set_option Elab.async false
set_option maxRecDepth 100000
set_option maxHeartbeats 800000
namespace Mine
open LCg in
theorem inner_two {prog : Program} {w : World} {A : Around} {s : Shared} {env : Env} {h₀ : Heap} {L : Addr} {m : Str → Option Value}
    {elt i1 i2 : Expr} {x y : Str} {px py : Pos} {ifs : List Expr} {scope : Scope} {cl : List (Str × Addr)} {pos : Pos} {R : Result → Shared → Prop}
    {I I2 C D : Addr} {oI : Obj} {fp2 : List Addr} {n2 : Nat} {P2 : Nat → Value → Prop} {St2 : Nat → Heap → Prop} {S2 : List (Addr × Obj) → Prop} {v : Value} {nw0 : List (Addr × Obj)} {ys0 : List Value} {m0 : Str → Option Value} {hp : Heap} {tk0 : Nat}
    (W : Walks prog w A I2 fp2 [I2] n2 P2 St2) (hIo : ∀ i h, St2 i h → ∃ o, h.get? I2 = some o)
    (hSt : ∀ i h h' o nw, St2 i h → h.get? I2 = some o → h'.get? I2 = some o → (∀ b o, h₀.get? b = some o → h'.get? b = some o) → News h₀ L h' nw → S2 nw → St2 i h')
    (hkind : scope.kind = .function) (hy : scope.names.lookup y = some .local) (hxy : x ≠ y) (hst : St2 0 hp) (hCf : C ∉ fp2) (hDf : D ∉ fp2)
    (nI2L : L ≠ I2) (hI₀ : h₀.get? I2 = none) (hIL : I ≠ L) (hI1₀ : h₀.get? I = none) (hCL : C ≠ L) (hC₀ : h₀.get? C = none) (hDL : D ≠ L) (hD₀ : h₀.get? D = none)
    (e1 : I2 ≠ I) (e2 : I2 ≠ C) (e3 : I2 ≠ D) (e4 : I ≠ C) (e5 : I ≠ D) (e6 : C ≠ D)
    (F : Fr h₀ L hp m) (N : News h₀ L hp ((I, oI) :: (D, lst ys0) :: nw0)) (off : ∀ p ∈ nw0, p.1 ≠ I2 ∧ p.1 ≠ I ∧ p.1 ≠ C ∧ p.1 ≠ D) (hn0 : hp.Ns C m0) (hx0 : m0 x = some v)
    (J2 : Nat → List Value → List (Addr × Obj) → Prop) (h0 : J2 0 ys0 nw0) (hJS : ∀ j ys nw, J2 j ys nw → S2 nw) (hJl : ∀ j ys nw, J2 j ys nw → ys.length ≤ 1000)
    (step : ∀ j ys nw v2 oI2 oC m₃ h tk, j < n2 → P2 j v2 → J2 j ys nw → NsObj oC m₃ → m₃ x = some v → m₃ y = some v2 → Fr h₀ L h m → News h₀ L h ((I2, oI2) :: (I, oI) :: (C, oC) :: (D, lst ys) :: nw) → (∀ p ∈ nw, p.1 ≠ I2 ∧ p.1 ≠ I ∧ p.1 ≠ C ∧ p.1 ≠ D) →
      wpAny (model prog w) A (forIn ifs true fun c r => if r = true then do let ok ← isTrue c (compEnvC scope cl C env) (eval c (compEnvC scope cl C env)); pure (ForInStep.yield ok) else pure (ForInStep.yield r)) (fun ok s₃ =>
        if ok = true then wpAny (model prog w) A (eval elt (compEnvC scope cl C env)) (CEnd h₀ L m [(I2, oI2), (I, oI), (C, oC), (D, lst ys)] (fun yv nw' => J2 (j + 1) (ys ++ [yv]) nw') { s with heap := h, toks := tk }) (fun _ _ => False) s₃
        else CEnd h₀ L m [(I2, oI2), (I, oI), (C, oC), (D, lst ys)] (fun _ nw' => J2 (j + 1) ys nw') { s with heap := h, toks := tk } .none s₃) (fun _ _ => False) { s with heap := h, toks := tk })
    (fin : ∀ ys nw h tk m', J2 n2 ys nw → Fr h₀ L h m → News h₀ L h ((I, oI) :: (D, lst ys) :: nw) → (∀ p ∈ nw, p.1 ≠ I2 ∧ p.1 ≠ I ∧ p.1 ≠ C ∧ p.1 ≠ D) → h.Ns C m' → R (.ok .next) { s with heap := h, toks := tk }) :
    codeAny (model prog w) A (.compStart (two elt x px i1 y py i2 ifs scope pos) 1 (.ref I2) (.ref D) (compEnvC scope cl C env)) R { s with heap := hp, toks := tk0 } := by
  have loop : codeAny (model prog w) A (.compLoop (two elt x px i1 y py i2 ifs scope pos) 1 (.ref I2) (.ref D) (compEnvC scope cl C env)) R { s with heap := hp, toks := tk0 } := by
    refine loop_two1 (fun k s' => ∃ h' tk j ys nw m', s' = { s with heap := h', toks := tk } ∧ j ≤ n2 ∧ k = n2 + 1 - j ∧ St2 j h' ∧ Fr h₀ L h' m ∧ h'.Ns C m' ∧ m' x = some v ∧ News h₀ L h' ((I, oI) :: (D, lst ys) :: nw) ∧ (∀ p ∈ nw, p.1 ≠ I2 ∧ p.1 ≠ I ∧ p.1 ≠ C ∧ p.1 ≠ D) ∧ J2 j ys nw) ?_ (n2 + 1)
      ⟨hp, tk0, 0, ys0, nw0, m0, rfl, Nat.zero_le _, rfl, hst, F, hn0, hx0, N, off, h0⟩
    rintro k s' ⟨h', tk, j, ys, nw, m', rfl, hj, rfl, hst', F', hn', hx', N', off', hJ⟩
    by_cases hlt : j < n2
    · refine W.item j _ _ _ hlt hst' fun v2 h₂ tk₂ hPv hst₂ hk₂ => ?_
      refine wpAny_assign_Name (wpAny_storeName_local (lookup_relabel_local hy) (hn'.at' fun o e => hk₂ _ o (by simpa using Ne.symm e2) e) (fun h₃ hn₃ hs₃ => ?_) (by simp [compEnvC, relabel, hkind]))
      have hst₃ : St2 (j + 1) h₃ := W.frame _ _ _ hst₂ fun b hb o e => hs₃.extBut b o (fun q => hCf (by have q' : b = C := q; rw [← q']; exact hb)) e
      obtain ⟨oI2, heI⟩ := hIo _ _ hst₃
      obtain ⟨oC, heC, hoC⟩ := ns_obj hn₃
      have F₃ : Fr h₀ L h₃ m := (fr_but F' hk₂ nI2L hI₀).change hs₃ hCL hC₀
      have N₂ : News h₀ L h₂ ((I, oI) :: (D, lst ys) :: nw) := news_but N' hk₂ fun p hp => by
        rcases List.mem_cons.mp hp with rfl | hp
        · exact Ne.symm e1
        · rcases List.mem_cons.mp hp with rfl | hp
          · exact Ne.symm e3
          · exact (off' p hp).1
      have nC : ∀ p ∈ (I, oI) :: (D, lst ys) :: nw, p.1 ≠ C := fun p hp => by
        rcases List.mem_cons.mp hp with rfl | hp
        · exact e4
        · rcases List.mem_cons.mp hp with rfl | hp
          · exact Ne.symm e6
          · exact (off' p hp).2.2.1
      have N₃' : News h₀ L h₃ ((I, oI) :: (D, lst ys) :: nw) := fun p hp => ⟨hs₃.extBut _ _ (nC p hp) (N₂ p hp).1, (N₂ p hp).2⟩
      have N₃ : News h₀ L h₃ ((I2, oI2) :: (I, oI) :: (C, oC) :: (D, lst ys) :: nw) := fun p hp => by
        rcases List.mem_cons.mp hp with rfl | hp
        · exact ⟨heI, Ne.symm nI2L, hI₀⟩
        · rcases List.mem_cons.mp hp with rfl | hp
          · exact N₃' _ (.head _)
          · rcases List.mem_cons.mp hp with rfl | hp
            · exact ⟨heC, hCL, hC₀⟩
            · exact N₃' p (.tail _ hp)
      have hx₃ : (fun z => if z = y then some v2 else m' z) x = some v := by show (if x = y then _ else _) = _; rw [if_neg hxy]; exact hx'
      have back : ∀ {h₄ : Heap} {nw₄ : List (Addr × Obj)}, Fr h₀ L h₄ m → News h₀ L h₄ ([(I2, oI2), (I, oI), (C, oC), (D, lst ys)] ++ nw₄) → S2 nw₄ → St2 (j + 1) h₄ := fun {h₄ nw₄} F₄ N₄ hS =>
        hSt _ _ _ _ nw₄ hst₃ heI (N₄ (I2, oI2) (.head _)).1 F₄.keep (fun p hp => N₄ p (List.mem_append_right _ hp)) hS
      refine noE' (wpAny_mono (step j ys nw v2 oI2 oC _ h₃ _ hlt hPv hJ hoC hx₃ (by simp) F₃ N₃ off') (fun ok s₄ h₄ => ?_) fun _ _ e => e)
      cases ok with
      | true =>
        rw [if_pos rfl] at h₄
        rw [if_pos rfl]
        refine noE' (wpAny_mono h₄ (fun yv s₅ h₅ => ?_) fun _ _ e => e)
        obtain ⟨h₅, tk₅, nw₅, rfl, F₅, N₅, off₅, J₅⟩ := h₅
        have zD := (N₅ (D, lst ys) (.tail _ (.tail _ (.tail _ (.head _))))).1
        have zC := (N₅ (C, oC) (.tail _ (.tail _ (.head _)))).1
        have hst₅ := back F₅ N₅ (hJS _ _ _ J₅)
        refine append_at (hsz := by show ys.toArray.size ≤ sizeLine; rw [List.size_toArray, sizeLine_eq]; have := hJl _ _ _ hJ; omega) zD fun h₆ hs₆ hD₆ => ?_
        have off6 : ∀ p ∈ nw₅, p.1 ≠ I2 ∧ p.1 ≠ I ∧ p.1 ≠ C ∧ p.1 ≠ D := fun p hp => ⟨off₅ p hp _ (.head _), off₅ p hp _ (.tail _ (.head _)), off₅ p hp _ (.tail _ (.tail _ (.head _))), off₅ p hp _ (.tail _ (.tail _ (.tail _ (.head _))))⟩
        refine ⟨n2 + 1 - (j + 1), by omega, h₆, tk₅, j + 1, ys ++ [yv], nw₅, _, rfl, hlt, rfl, W.frame _ _ _ hst₅ fun b hb o e => hs₆.extBut b o (fun q => hDf (q ▸ hb)) e, F₅.change hs₆ hDL hD₀, (hoC.ns zC).sameBut hs₆ e6, hx₃, fun p hp => ?_, off6, J₅⟩
        rcases List.mem_cons.mp hp with rfl | hp
        · exact ⟨hs₆.extBut _ _ e5 (N₅ (I, oI) (.tail _ (.head _))).1, hIL, hI1₀⟩
        · rcases List.mem_cons.mp hp with rfl | hp
          · exact ⟨hD₆.trans (congrArg some (lst_snoc ys yv)), hDL, hD₀⟩
          · exact ⟨hs₆.extBut _ _ (off6 p hp).2.2.2 (N₅ p (List.mem_append_right _ hp)).1, (N₅ p (List.mem_append_right _ hp)).2⟩
      | false =>
        rw [if_neg (by decide)] at h₄
        rw [if_neg (by decide)]
        obtain ⟨h₅, tk₅, nw₅, rfl, F₅, N₅, off₅, J₅⟩ := h₄
        have zC := (N₅ (C, oC) (.tail _ (.tail _ (.head _)))).1
        refine ⟨n2 + 1 - (j + 1), by omega, h₅, tk₅, j + 1, ys, nw₅, _, rfl, hlt, rfl, back F₅ N₅ (hJS _ _ _ J₅), F₅, hoC.ns zC, hx₃, fun p hp => ?_, fun p hp => ⟨off₅ p hp _ (.head _), off₅ p hp _ (.tail _ (.head _)), off₅ p hp _ (.tail _ (.tail _ (.head _))), off₅ p hp _ (.tail _ (.tail _ (.tail _ (.head _))))⟩, J₅⟩
        rcases List.mem_cons.mp hp with rfl | hp
        · exact N₅ _ (.tail _ (.head _))
        · rcases List.mem_cons.mp hp with rfl | hp
          · exact N₅ _ (.tail _ (.tail _ (.tail _ (.head _))))
          · exact N₅ p (List.mem_append_right _ hp)
    · obtain rfl : j = n2 := Nat.le_antisymm hj (Nat.not_lt.mp hlt)
      refine W.done _ _ _ hst' fun h₂ tk₂ hk₂ => ?_
      refine fin ys nw h₂ tk₂ m' hJ (fr_but F' hk₂ nI2L hI₀) (news_but N' hk₂ fun p hp => ?_) off' (hn'.at' fun o e => hk₂ _ o (by simpa using Ne.symm e2) e)
      rcases List.mem_cons.mp hp with rfl | hp
      · exact Ne.symm e1
      · rcases List.mem_cons.mp hp with rfl | hp
        · exact Ne.symm e3
        · exact (off' p hp).1
  exact start_two1 loop (W.self 0 _ _ _ hst loop)
end Mine
end

section
open PySem PySem.W PyProof.Rows PySem.Spec PySem.Calls
set_option Elab.async false
set_option maxRecDepth 100000
set_option maxHeartbeats 800000
namespace Mine
/-- what a comprehension may walk over -/
def Src (prog : Program) (w : World) (A : Around) (h₀ : Heap) (L : Addr) (S : List (Addr × Obj) → Prop) (n : Nat) (P : Nat → Value → Prop) (xv : Value) (s₁ : Shared) : Prop :=
  ∃ (o : Obj) (fp : List Addr) (St : Nat → Heap → Prop), (∀ (E Q' : Value → Shared → Prop), Q' (.ref s₁.heap.objs.size) { s₁ with heap := s₁.heap.push o } → wpAny (model prog w) A (pyIter xv) Q' E s₁) ∧
    Walks prog w A s₁.heap.objs.size (s₁.heap.objs.size :: fp) [s₁.heap.objs.size] n P St ∧ (∀ b ∈ fp, @LT.lt Nat _ b s₁.heap.objs.size) ∧ (∀ b ∈ fp, ∀ nw, S nw → ∃ o : Obj, (b, o) ∈ nw) ∧ (∀ i h, St i h → ∃ o, h.get? s₁.heap.objs.size = some o) ∧
    (∀ i h h' o nw, St i h → h.get? s₁.heap.objs.size = some o → h'.get? s₁.heap.objs.size = some o → (∀ b o, h₀.get? b = some o → h'.get? b = some o) → News h₀ L h' nw → S nw → St i h') ∧ St 0 (s₁.heap.push o)
section
variable {prog : Program} {w : World} {A : Around} {h₀ : Heap} {L : Addr} {m : Str → Option Value} {s₁ : Shared}
theorem Src.list {ax : Addr} {its : List Value} {k : Nat} {news : List (Addr × Obj)} (hh : A.handled = none) (N : News h₀ L s₁.heap news) (hm : (ax, listOf its.toArray k) ∈ news) :
    Src prog w A h₀ L (fun nw => (ax, listOf its.toArray k) ∈ nw) its.toArray.size (fun i v => its.toArray[i]? = some v) (.ref ax) s₁ := by
  have hl : s₁.heap.IsList ax its.toArray := ⟨_, (N _ hm).1, rfl, _, rfl⟩
  have hlt : ax < s₁.heap.objs.size := Heap.lt_size (N _ hm).1
  refine ⟨_, [ax], _, fun E Q' q => wpAny_pyIter_list hl q, Walks.list hh s₁.heap.objs.size ax (Nat.ne_of_lt hlt) its.toArray, fun b hb => by rw [List.mem_singleton.mp hb]; exact hlt, fun b hb nw hS => by rw [List.mem_singleton.mp hb]; exact ⟨_, hS⟩, fun i h st => by obtain ⟨o, e, _⟩ := st.1; exact ⟨o, e⟩, ?_, ⟨⟨_, Heap.get?_push_size _ rfl, rfl, rfl⟩, hl.push _⟩⟩
  intro i h h' o nw st e e' k N' S
  exact ⟨by obtain ⟨o', q, r⟩ := st.1; rw [e] at q; cases q; exact ⟨o, e', r⟩, ⟨_, (N' _ S).1, rfl, _, rfl⟩⟩
theorem Src.text {l : List (Fin 4)} {t : Tok} (hh : A.handled = none) : Src prog w A h₀ L (fun _ => True) (SS l).cps.size (SignAt (SS l)) (.str (SS l) t) s₁ := by
  refine ⟨_, [], _, fun E Q' q => wpAny_pyIter_ascii (ss_ascii l) q, Walks.strAscii hh _ (SS l) t, (fun b hb => nomatch hb), (fun b hb => nomatch hb), fun i h st => by obtain ⟨o, e, _⟩ := st; exact ⟨o, e⟩, ?_, ⟨_, Heap.get?_push_size _ rfl, rfl, rfl⟩⟩
  intro i h h' o nw st e e' _ _ _
  obtain ⟨o', q, r⟩ := st
  rw [e] at q; cases q
  exact ⟨o, e', r⟩
end
def InStep (prog : Program) (w : World) (A : Around) (h₀ : Heap) (L : Addr) (m : Str → Option Value) (env : Env) (elt : Expr) (x y : Str) (ifs : List Expr) (scope : Scope) (cl : List (Str × Addr)) (s : Shared) (v : Value) (I : Addr) (oI : Obj) (C D : Addr) (n2 : Nat) (P2 : Nat → Value → Prop) (J2 : Nat → List Value → List (Addr × Obj) → Prop) : Prop :=
  ∀ I2 j ys nw v2 oI2 oC m₃ h tk, j < n2 → P2 j v2 → J2 j ys nw → LCg.NsObj oC m₃ → m₃ x = some v → m₃ y = some v2 → Fr h₀ L h m → News h₀ L h ((I2, oI2) :: (I, oI) :: (C, oC) :: (D, LCg.lst ys) :: nw) → (∀ p ∈ nw, p.1 ≠ I2 ∧ p.1 ≠ I ∧ p.1 ≠ C ∧ p.1 ≠ D) →
      wpAny (model prog w) A (forIn ifs true fun c r => if r = true then do let ok ← isTrue c (compEnvC scope cl C env) (eval c (compEnvC scope cl C env)); pure (ForInStep.yield ok) else pure (ForInStep.yield r)) (fun ok s₃ =>
        if ok = true then wpAny (model prog w) A (eval elt (compEnvC scope cl C env)) (CEnd h₀ L m [(I2, oI2), (I, oI), (C, oC), (D, LCg.lst ys)] (fun yv nw' => J2 (j + 1) (ys ++ [yv]) nw') { s with heap := h, toks := tk }) (fun _ _ => False) s₃
        else CEnd h₀ L m [(I2, oI2), (I, oI), (C, oC), (D, LCg.lst ys)] (fun _ nw' => J2 (j + 1) ys nw') { s with heap := h, toks := tk } .none s₃) (fun _ _ => False) { s with heap := h, toks := tk }
def OutAt (prog : Program) (w : World) (A : Around) (h₀ : Heap) (L : Addr) (m : Str → Option Value) (env : Env) (elt : Expr) (x y : Str) (ifs : List Expr) (scope : Scope) (cl : List (Str × Addr)) (s : Shared) (v : Value) (ys : List Value) (I : Addr) (oI : Obj) (C : Addr) (oC : Obj) (D : Addr) (Jn : List Value → List (Addr × Obj) → Prop) (xv : Value) (s₃ : Shared) : Prop :=
  ∃ (h₃ : Heap) (tk₃ : Nat) (nw₃ : List (Addr × Obj)) (n2 : Nat) (P2 : Nat → Value → Prop) (S2 : List (Addr × Obj) → Prop) (J2 : Nat → List Value → List (Addr × Obj) → Prop), s₃ = { s with heap := h₃, toks := tk₃ } ∧ Fr h₀ L h₃ m ∧ News h₀ L h₃ ((I, oI) :: (C, oC) :: (D, LCg.lst ys) :: nw₃) ∧ (∀ p ∈ nw₃, p.1 ≠ I ∧ p.1 ≠ C ∧ p.1 ≠ D) ∧ Src prog w A h₀ L S2 n2 P2 xv s₃ ∧ J2 0 ys nw₃ ∧ (∀ j ys nw, J2 j ys nw → S2 nw) ∧ (∀ j ys nw, J2 j ys nw → ys.length ≤ 1000) ∧
    InStep prog w A h₀ L m env elt x y ifs scope cl s v I oI C D n2 P2 J2 ∧ (∀ ys nw, J2 n2 ys nw → Jn ys nw)
def TwoAt (prog : Program) (w : World) (A : Around) (h₀ : Heap) (L : Addr) (m : Str → Option Value) (env : Env) (elt : Expr) (x y : Str) (i2 : Expr) (ifs : List Expr) (scope : Scope) (cl : List (Str × Addr)) (Q : Value → Shared → Prop) (xv : Value) (s₁ : Shared) : Prop :=
  ∃ (n : Nat) (P : Nat → Value → Prop) (S : List (Addr × Obj) → Prop) (news : List (Addr × Obj)) (J : Nat → List Value → List (Addr × Obj) → Prop), Src prog w A h₀ L S n P xv s₁ ∧ Fr h₀ L s₁.heap m ∧ News h₀ L s₁.heap news ∧ J 0 [] news ∧ (∀ i ys nw, J i ys nw → S nw) ∧
    (∀ i ys nw v I oI C oC D m₂ h tk, i < n → P i v → J i ys nw → LCg.NsObj oC m₂ → m₂ x = some v → Fr h₀ L h m → News h₀ L h ((I, oI) :: (C, oC) :: (D, LCg.lst ys) :: nw) → (∀ p ∈ nw, p.1 ≠ I ∧ p.1 ≠ C ∧ p.1 ≠ D) →
      wpAny (model prog w) A (eval i2 (compEnvC scope cl C env)) (OutAt prog w A h₀ L m env elt x y ifs scope cl s₁ v ys I oI C oC D (J (i + 1))) (fun _ _ => False) { s₁ with heap := h, toks := tk }) ∧
    (∀ ys nw D h tk, J n ys nw → Fr h₀ L h m → News h₀ L h ((D, LCg.lst ys) :: nw) → (∀ p ∈ nw, p.1 ≠ D) → Q (.ref D) { s₁ with heap := h, toks := tk })
open LCg in
theorem block_two {prog : Program} {w : World} {A : Around} {E : Value → Shared → Prop} {s₂ : Shared} {env : Env} {h₀ : Heap} {L : Addr} {m : Str → Option Value}
    {elt i1 i2 : Expr} {x y : Str} {px py : Pos} {ifs : List Expr} {scope : Scope} {cl : List (Str × Addr)} {pos : Pos} {I : Addr} {fp : List Addr} {n : Nat} {P : Nat → Value → Prop} {St : Nat → Heap → Prop} {S : List (Addr × Obj) → Prop} {news : List (Addr × Obj)}
    {RR : Value → Addr → Result → Shared → Prop}
    (W : Walks prog w A I (I :: fp) [I] n P St) (hIo : ∀ i h, St i h → ∃ o, h.get? I = some o)
    (hSt : ∀ i h h' o nw, St i h → h.get? I = some o → h'.get? I = some o → (∀ b o, h₀.get? b = some o → h'.get? b = some o) → News h₀ L h' nw → S nw → St i h')
    (hcell : ∀ y ∈ scope.names, y.2 ≠ .cell) (hkind : scope.kind = .function) (hx : scope.names.lookup x = some .local) (hy : scope.names.lookup y = some .local) (hxy : x ≠ y) (hst : St 0 s₂.heap) (hfp : ∀ b ∈ I :: fp, @LT.lt Nat _ b s₂.heap.objs.size)
    (F : Fr h₀ L s₂.heap m) (N : News h₀ L s₂.heap news) (hIL : L ≠ I) (hI₀ : h₀.get? I = none) (off : ∀ p ∈ news, p.1 ≠ I)
    (J : Nat → List Value → List (Addr × Obj) → Prop) (hJ0 : J 0 [] news) (hJS : ∀ i ys nw, J i ys nw → S nw)
    (step : ∀ i ys nw v I oI C oC D m₂ h tk, i < n → P i v → J i ys nw → NsObj oC m₂ → m₂ x = some v → Fr h₀ L h m → News h₀ L h ((I, oI) :: (C, oC) :: (D, lst ys) :: nw) → (∀ p ∈ nw, p.1 ≠ I ∧ p.1 ≠ C ∧ p.1 ≠ D) →
      wpAny (model prog w) A (eval i2 (compEnvC scope cl C env)) (OutAt prog w A h₀ L m env elt x y ifs scope cl s₂ v ys I oI C oC D (J (i + 1))) (fun _ _ => False) { s₂ with heap := h, toks := tk })
    (hs2 : ∀ e x, foldedSetIterable i2 e x = pure x)
    (hRR : ∀ D C h tk m' ys news', Fr h₀ L h m → News h₀ L h ((D, lst ys) :: news') → (∀ p ∈ news', p.1 ≠ D) → h.Ns C m' → h₀.get? C = none → h₀.get? D = none → C ≠ L → D ≠ L → C ≠ D → (∀ p ∈ news', p.1 ≠ C) → J n ys news' → RR (.ref D) C (.ok .next) { s₂ with heap := h, toks := tk }) :
    wpAny (model prog w) A (newList []) (fun acc s₃ => wpAny (model prog w) A (newFunctionEnv scope env.globals cl [] env.qual none .none (some env)) (fun cenv s₄ =>
      codeAny (model prog w) A (.compStart (two elt x px i1 y py i2 ifs scope pos) 0 (.ref I) acc { cenv with scope := relabel scope env }) (RR acc cenv.locals) s₄) E s₃) E s₂ := by
  refine wpAny_newObj_type (wpAny_newFunctionEnv hcell (by intro y hy; simp at hy) (fun h₁ hns₁ hsb₁ => ?_) hkind)
  dsimp only at hns₁ hsb₁ ⊢
  generalize hH2 : s₂.heap.push { cls := .type "list", dict := none, data := .seq ([] : List Value).toArray } = H2 at hns₁ hsb₁ ⊢
  have hC : H2.objs.size = s₂.heap.objs.size + 1 := by rw [← hH2, Heap.size_push]
  have hDC : s₂.heap.objs.size ≠ H2.objs.size := by rw [hC]; exact Nat.ne_of_lt (Nat.lt_succ_self _)
  have below : ∀ b, b < s₂.heap.objs.size → b ≠ H2.objs.size ∧ b ≠ s₂.heap.objs.size := fun b hb => ⟨by rw [hC]; exact Nat.ne_of_lt (Nat.lt_succ_of_lt hb), Nat.ne_of_lt hb⟩
  have hDf : s₂.heap.objs.size ∉ I :: fp := fun hm => Nat.lt_irrefl _ (hfp _ hm)
  have hCf : H2.objs.size ∉ I :: fp := fun hm => by have := hfp _ hm; rw [hC] at this; exact Nat.lt_irrefl _ (Nat.lt_of_succ_lt this)
  have hIlt : I < s₂.heap.objs.size := hfp I (.head _)
  have old : ∀ b o, s₂.heap.get? b = some o → h₁.get? b = some o := fun b o e => hsb₁.extBut b o (below b (Heap.lt_size e)).1 (Heap.get?_push_of_some _ (hH2 ▸ Heap.get?_push_of_some _ e))
  have hacc : h₁.get? s₂.heap.objs.size = some (lst []) := hsb₁.extBut _ _ hDC (Heap.get?_push_of_some _ (hH2 ▸ Heap.get?_push_size _ rfl))
  have hst₁ : St 0 h₁ := W.frame _ _ _ hst fun b _ o e => old b o e
  have fresh : ∀ a, s₂.heap.objs.size ≤ a → s₂.heap.get? a = none := fun a ha => by
    cases e : s₂.heap.get? a with
    | none => rfl
    | some o' => exact absurd (Heap.lt_size e) (Nat.not_lt.mpr ha)
  have fresh₀ : ∀ a, s₂.heap.objs.size ≤ a → h₀.get? a = none := fun a ha => by
    cases e : h₀.get? a with
    | none => rfl
    | some o' => have := F.keep a o' e; rw [fresh a ha] at this; cases this
  have hD₀ : h₀.get? s₂.heap.objs.size = none := fresh₀ _ (Nat.le_refl _)
  have hC₀ : h₀.get? H2.objs.size = none := fresh₀ _ (by rw [hC]; exact Nat.le_succ _)
  have hLlt : L < s₂.heap.objs.size := F.ns.lt
  have hDL : s₂.heap.objs.size ≠ L := Ne.symm (below L hLlt).2
  have hCL : H2.objs.size ≠ L := Ne.symm (below L hLlt).1
  have hCI : I ≠ H2.objs.size := (below I hIlt).1
  have hDI : I ≠ s₂.heap.objs.size := (below I hIlt).2
  have off₀ : ∀ p ∈ news, p.1 ≠ I ∧ p.1 ≠ H2.objs.size ∧ p.1 ≠ s₂.heap.objs.size := fun p hp => ⟨off p hp, (below _ (Heap.lt_size (N p hp).1)).1, (below _ (Heap.lt_size (N p hp).1)).2⟩
  have loop : ∀ s₃ : Shared, s₃ = { s₂ with heap := h₁, toks := s₂.toks + ([] : List (Str × Value)).length } →
      codeAny (model prog w) A (.compLoop (two elt x px i1 y py i2 ifs scope pos) 0 (.ref I) (.ref s₂.heap.objs.size) (compEnvC scope cl H2.objs.size env))
        (RR (.ref s₂.heap.objs.size) H2.objs.size) s₃ := by
    rintro s₃ rfl
    refine loop_two0 (fun k s' => ∃ h' tk i ys m' nw, s' = { s₂ with heap := h', toks := tk } ∧ i ≤ n ∧ k = n + 1 - i ∧ St i h' ∧ Fr h₀ L h' m ∧ h'.Ns H2.objs.size m' ∧ News h₀ L h' ((s₂.heap.objs.size, lst ys) :: nw) ∧
        (∀ p ∈ nw, p.1 ≠ I ∧ p.1 ≠ H2.objs.size ∧ p.1 ≠ s₂.heap.objs.size) ∧ J i ys nw) ?_ (n + 1)
      ⟨h₁, _, 0, [], _, news, rfl, Nat.zero_le _, rfl, hst₁, F.keeps old, hns₁, fun p hp => ?_, off₀, hJ0⟩ (hs2 _)
    · rintro k s' ⟨h', tk, i, ys, m', nw, rfl, hi, rfl, hst', F', hn', N', off', hJ⟩
      by_cases hlt : i < n
      · refine W.item i _ _ _ hlt hst' fun v h₂ tk₂ hPv hst₂ hk₂ => ?_
        refine wpAny_assign_Name (wpAny_storeName_local (lookup_relabel_local hx) (hn'.at' fun o e => hk₂ _ o (by simpa using Ne.symm hCI) e) (fun h₃ hn₃ hs₃ => ?_) (by simp [compEnvC, relabel, hkind]))
        have hst₃ : St (i + 1) h₃ := W.frame _ _ _ hst₂ fun b hb o e => hs₃.extBut b o (fun q => hCf (by have q' : b = H2.objs.size := q; rw [← q']; exact hb)) e
        obtain ⟨oI, heI⟩ := hIo _ _ hst₃
        obtain ⟨oC, heC, hoC⟩ := ns_obj hn₃
        have F₃ : Fr h₀ L h₃ m := (fr_but F' hk₂ hIL hI₀).change hs₃ hCL hC₀
        have N₂ : News h₀ L h₂ ((s₂.heap.objs.size, lst ys) :: nw) := news_but N' hk₂ fun p hp => by
          rcases List.mem_cons.mp hp with rfl | hp
          · exact Ne.symm hDI
          · exact (off' p hp).1
        have N₃ : News h₀ L h₃ ((I, oI) :: (H2.objs.size, oC) :: (s₂.heap.objs.size, lst ys) :: nw) := fun p hp => by
          rcases List.mem_cons.mp hp with rfl | hp
          · exact ⟨heI, Ne.symm hIL, hI₀⟩
          · rcases List.mem_cons.mp hp with rfl | hp
            · exact ⟨heC, hCL, hC₀⟩
            · have z := N₂ p hp
              refine ⟨hs₃.extBut _ _ ?_ z.1, z.2⟩
              rcases List.mem_cons.mp hp with rfl | hp
              · exact hDC
              · exact (off' p hp).2.1
        refine noE' (wpAny_mono (step i ys nw v I oI H2.objs.size oC s₂.heap.objs.size _ h₃ _ hlt hPv hJ hoC (by simp) F₃ N₃ off') (fun xv s₄ h₄ => ?_) fun _ _ e => e)
        obtain ⟨h₄, tk₄, nw₄, n2, P2, S2, J2, rfl, F₄, N₄, off₄, ⟨o2, fp2, St2, hit2, W2, hfp2, hfs2, hIo2, hSt2, st2⟩, hJ2, hJS2, hJl2, hin, hout⟩ := h₄
        refine hit2 _ _ ?_
        dsimp only at W2 hfp2 hIo2 hSt2 st2 ⊢
        have lt4 : ∀ p ∈ (I, oI) :: (H2.objs.size, oC) :: (s₂.heap.objs.size, lst ys) :: nw₄, p.1 < h₄.objs.size := fun p hp => Heap.lt_size (N₄ p hp).1
        have gI := Nat.ne_of_gt (lt4 (I, oI) (.head _))
        have gC := Nat.ne_of_gt (lt4 (H2.objs.size, oC) (.tail _ (.head _)))
        have gD := Nat.ne_of_gt (lt4 (s₂.heap.objs.size, lst ys) (.tail _ (.tail _ (.head _))))
        have up4 : ∀ b o', h₄.get? b = some o' → (h₄.push o2).get? b = some o' := fun b o' e => Heap.get?_push_of_some _ e
        have zC := (N₄ (H2.objs.size, oC) (.tail _ (.head _))).1
        have N₅ := N₄.grown up4
        refine inner_two (s := s₂) (v := v) (m0 := fun z => if z = x then some v else m' z) (ys0 := ys) (nw0 := nw₄) (oI := oI) W2 hIo2 hSt2 hkind hy hxy st2 ?_ ?_ (Nat.ne_of_lt F₄.ns.lt) (next_is_new F₄) (Ne.symm hIL) hI₀ hCL hC₀ hDL hD₀ gI gC gD hCI hDI (Ne.symm hDC) (F₄.keeps up4) (fun p hp => ?_) (fun p hp => ⟨Nat.ne_of_lt (lt4 p (.tail _ (.tail _ (.tail _ hp)))), (off₄ p hp).1, (off₄ p hp).2.1, (off₄ p hp).2.2⟩) (hoC.ns (up4 _ _ zC)) (by simp) J2 hJ2 hJS2 hJl2 (fun j ys nw v2 oI2 oC m₃ h tk a b c d e f g k l => hin _ j ys nw v2 oI2 oC m₃ h tk a b c d e f g k l) ?_
        · intro hm
          rcases List.mem_cons.mp hm with e | hm
          · exact gC e.symm
          · obtain ⟨o', ho'⟩ := hfs2 _ hm nw₄ (hJS2 _ _ _ hJ2)
            exact (off₄ _ ho').2.1 rfl
        · intro hm
          rcases List.mem_cons.mp hm with e | hm
          · exact gD e.symm
          · obtain ⟨o', ho'⟩ := hfs2 _ hm nw₄ (hJS2 _ _ _ hJ2)
            exact (off₄ _ ho').2.2 rfl
        · rcases List.mem_cons.mp hp with rfl | hp
          · exact N₅ _ (.head _)
          · exact N₅ p (.tail _ (.tail _ hp))
        · intro ys₆ nw₆ h₆ tk₆ m₆ hJ₆ F₆ N₆ off₆ hn₆
          have J₆ := hout _ _ hJ₆
          refine ⟨n + 1 - (i + 1), by omega, h₆, tk₆, i + 1, ys₆, m₆, nw₆, rfl, hlt, rfl, hSt _ _ _ _ nw₆ hst₃ heI (N₆ (I, oI) (.head _)).1 F₆.keep (fun p hp => N₆ p (.tail _ (.tail _ hp))) (hJS _ _ _ J₆), F₆, hn₆, fun p hp => N₆ p (.tail _ hp), fun p hp => (off₆ p hp).2, J₆⟩
      · obtain rfl : i = n := Nat.le_antisymm hi (Nat.not_lt.mp hlt)
        refine W.done _ _ _ hst' fun h₂ tk₂ hk₂ => ?_
        exact hRR _ _ h₂ tk₂ _ ys nw (fr_but F' hk₂ hIL hI₀) (news_but N' hk₂ fun p hp => by
          rcases List.mem_cons.mp hp with rfl | hp
          · exact Ne.symm hDI
          · exact (off' p hp).1) (fun p hp => (off' p hp).2.2) (hn'.at' fun o e => hk₂ _ o (by simpa using Ne.symm hCI) e) hC₀ hD₀ hCL hDL (Ne.symm hDC) (fun p hp => (off' p hp).2.1) hJ
    · rcases List.mem_cons.mp hp with rfl | hp
      · exact ⟨hacc, hDL, hD₀⟩
      · exact ⟨old _ _ (N p hp).1, (N p hp).2⟩
  exact start_two0 (loop _ rfl) (W.self 0 _ _ _ hst₁ (loop _ rfl))
open LCg in
theorem listComp_two {prog : Program} {w : World} {A : Around} {E : Value → Shared → Prop} {s : Shared} {env : Env} {h₀ : Heap} {L : Addr} {m : Str → Option Value}
    {elt i1 i2 : Expr} {x y : Str} {px py : Pos} {ifs : List Expr} {scope : Scope} {cl : List (Str × Addr)} {pos : Pos} {Q : Value → Shared → Prop}
    (hclos : closureFor scope env = pure cl) (hcell : ∀ y ∈ scope.names, y.2 ≠ .cell) (hkind : scope.kind = .function)
    (hnames : ∀ y ∈ scope.names, y.2 = .local → scope.names.lookup y.1 = some .local) (hx : scope.names.lookup x = some .local) (hy : scope.names.lookup y = some .local) (hxy : x ≠ y)
    (h : wpAny (model prog w) A (eval i1 env) (TwoAt prog w A h₀ L m env elt x y i2 ifs scope cl Q) E s)
    (hs : ∀ x, foldedSetIterable i1 env x = pure x := by intro _; rfl) (hs2 : ∀ e x, foldedSetIterable i2 e x = pure x := by intro _ _; rfl) :
    wpAny (model prog w) A (eval (two elt x px i1 y py i2 ifs scope pos) env) Q E s := by
  unfold two
  rw [eval_ListComp]
  refine wpAny_comprehension_free (use := none) rfl hs hclos hkind hnames (wpAny_mono h (fun xv s₂ h₁ => ?_) fun _ _ e => e)
  obtain ⟨n, P, S, news, J, ⟨o, fp, St, hit, W, hfp, hfs, hIo, hSt, st⟩, F₀, N₀, hJ0, hJS, step, fin⟩ := h₁
  refine hit _ _ ?_
  have up : ∀ b o', s₂.heap.get? b = some o' → (s₂.heap.push o).get? b = some o' := fun b o' e => Heap.get?_push_of_some _ e
  have F := F₀.keeps up
  have N := N₀.grown up
  have hI₀ : h₀.get? s₂.heap.objs.size = none := next_is_new F₀
  have hIL : L ≠ s₂.heap.objs.size := Nat.ne_of_lt F₀.ns.lt
  have off : ∀ p ∈ news, p.1 ≠ s₂.heap.objs.size := fun p hp => Nat.ne_of_lt (Heap.lt_size (N₀ p hp).1)
  refine block_two W hIo hSt hcell hkind hx hy hxy st (fun b hb => ?_) F N hIL hI₀ off J hJ0 hJS step hs2 ?_
  · show @LT.lt Nat _ b (s₂.heap.push _).objs.size
    rw [Heap.size_push]
    rcases List.mem_cons.mp hb with rfl | hb
    · exact Nat.lt_succ_self _
    · exact Nat.lt_succ_of_lt (hfp b hb)
  · intro D C h tk m' ys news' F' N' o1 hn hC₀ hD₀ hCL hDL hCD offC hJ
    refine ⟨m', hn, fun h'' hs'' => fin ys news' D h'' tk hJ (F'.change hs'' hCL hC₀) (fun p hp => ?_) o1⟩
    refine ⟨hs''.extBut _ _ ?_ (N' p hp).1, (N' p hp).2⟩
    rcases List.mem_cons.mp hp with rfl | hp
    · exact Ne.symm hCD
    · exact offC p hp
end Mine
end

section
open PySem PySem.W PyProof.Rows PySem.Spec PySem.Calls
set_option Elab.async false
set_option maxRecDepth 100000
set_option maxHeartbeats 800000
namespace Mine
def flatD (ts : List (Int × Str)) : List Dat := ts.flatMap fun p => [Dat.int p.1, Dat.str p.2]
theorem flatD_len : ∀ ts : List (Int × Str), (flatD ts).length = 2 * ts.length
  | [] => rfl
  | p :: ts => by
    have := flatD_len ts
    unfold flatD at this ⊢
    rw [List.flatMap_cons, List.length_append, this]
    show 2 + 2 * ts.length = 2 * (ts.length + 1)
    omega
theorem flatD_snoc (ts : List (Int × Str)) (p : Int × Str) : flatD (ts ++ [p]) = flatD ts ++ [Dat.int p.1, Dat.str p.2] := by
  unfold flatD
  rw [List.flatMap_append]
  rfl
theorem own4 {a b c d : Addr × Obj} {P : Addr × Obj → Prop} (h1 : P a) (h2 : P b) (h3 : P c) (h4 : P d) : ∀ p ∈ [a, b, c, d], P p := fun p hp => by
  rcases List.mem_cons.mp hp with rfl | hp
  · exact h1
  · exact own3 h2 h3 h4 p hp
section
variable {prog : Program} {w : World} {A : Around} {h₀ : Heap} {L : Addr} {m : Str → Option Value} {env : Env} {scope : Scope} {cl : List (Str × Addr)} {s₁ : Shared} {x y : Str} {Q : Value → Shared → Prop}
theorem comp_name {C : Addr} {oC : Obj} {m₂ : Str → Option Value} {z : Str} {p : Pos} {v : Value} {E : Value → Shared → Prop} (hC : LCg.NsObj oC m₂) (hg : s₁.heap.get? C = some oC) (hkind : scope.kind = .function) (hz : scope.names.lookup z = some .local) (hv : m₂ z = some v) (h : Q v s₁) (hd : (z == ("__debug__" : Str)) = false) :
    wpAny (model prog w) A (eval (.Name z p) (compEnvC scope cl C env)) Q E s₁ :=
  wpAny_Name (wpAny_loadName_local hkind (lookup_relabel_local hz) (hC.ns hg) hv h) hd
theorem flat_two {p1 p2 : Pos} {l : Addr} {vs : List Value} {n : Nat} {ts : List (Int × Str)} {news : List (Addr × Obj)} (hh : A.handled = none) (F : Fr h₀ L s₁.heap m) (N : News h₀ L s₁.heap news) (hl : (l, listOf vs.toArray n) ∈ news) (hd : DatAll news vs (ts.map tieD)) (h8 : ts.length ≤ 8)
    (hkind : scope.kind = .function) (hx : scope.names.lookup x = some .local) (hy : scope.names.lookup y = some .local) (hdx : (x == ("__debug__" : Str)) = false) (hdy : (y == ("__debug__" : Str)) = false)
    (fin : ∀ ys D h tk, DatAll news ys (flatD ts) → Fr h₀ L h m → News h₀ L h ((D, listOf ys.toArray ys.length) :: news) → (∀ p ∈ news, p.1 ≠ D) → Q (.ref D) { s₁ with heap := h, toks := tk }) :
    TwoAt prog w A h₀ L m env (.Name y p1) x y (.Name x p2) [] scope cl Q (.ref l) s₁ := by
  have hvl := hd.length
  rw [List.length_map] at hvl
  refine ⟨_, _, _, news, fun i ys nw => nw = news ∧ DatAll news ys (flatD (ts.take i)), Src.list hh N hl, F, N, ⟨rfl, .nil⟩, fun i ys nw h => h.1 ▸ hl, ?_, ?_⟩
  · rintro i ys nw v I oI C oC D m₂ h tk hi hv ⟨rfl, hys⟩ hC hxv F₂ N₂ hoff
    have hit : i < ts.length := by
      rw [List.size_toArray] at hi
      omega
    have hv' : vs[i]? = some v := by simpa using hv
    obtain ⟨v', hv'', hDi⟩ := hd.get (k := i) (by rw [List.length_map]; exact hit)
    have ev : v' = v := Option.some.inj (hv''.symm.trans hv')
    subst ev
    rw [List.getElem_map] at hDi
    obtain ⟨r, rt, ru, rn, rfl, hr⟩ := tie_out hDi
    refine comp_name hC (N₂ _ (.tail _ (.head _))).1 hkind hx hxv ?_ hdx
    have hyl := hys.length
    rw [flatD_len, List.length_take] at hyl
    refine ⟨h, tk, nw, _, _, _, fun j ys' nw' => nw' = nw ∧ DatAll nw ys' (flatD (ts.take i) ++ ([Dat.int ts[i].1, Dat.str ts[i].2]).take j), rfl, F₂, N₂, hoff, Src.list (its := [.int ts[i].1 rt, .str ts[i].2 ru]) (k := rn) hh (s₁ := { s₁ with heap := h, toks := tk }) N₂ (.tail _ (.tail _ (.tail _ hr))), ⟨rfl, by rw [List.take_zero, List.append_nil]; exact hys⟩, fun j ys nw h => h.1 ▸ hr, ?_, ?_, ?_⟩
    · rintro j ys' nw' ⟨rfl, hy'⟩
      have := hy'.length
      rw [List.length_append, flatD_len, List.length_take, List.length_take] at this
      simp only [List.length_cons, List.length_nil] at this
      omega
    · rintro I2 j ys' nw' v2 oI2 oC' m₃ h3 tk3 hj hv2 ⟨rfl, hy'⟩ hC' hx' hy'' F₃ N₃ hoff3
      refine wpAny_tests_nil ?_
      rw [if_pos rfl]
      refine comp_name hC' (N₃ _ (.tail _ (.tail _ (.head _)))).1 hkind hy hy'' ?_ hdy
      refine CEnd.intro F₃ N₃ nw' (own4 (.head _) (.tail _ (.head _)) (.tail _ (.tail _ (.head _))) (.tail _ (.tail _ (.tail _ (.head _))))) (fun p hp => .tail _ (.tail _ (.tail _ (.tail _ hp)))) (fun p hp q hq => ?_) ⟨rfl, ?_⟩
      · obtain ⟨a1, a2, a3, a4⟩ := hoff3 p hp
        exact own4 (P := fun q => p.1 ≠ q.1) a1 a2 a3 a4 q hq
      · have hj' : j < 2 := hj
        match j, hj', hv2, hy' with
        | 0, _, hv2, hy' =>
          obtain rfl : Value.int ts[i].1 rt = v2 := Option.some.inj hv2
          exact hy'.append (es := [Dat.int ts[i].1]) (.one (.int _ _)) |> fun z => by simpa using z
        | 1, _, hv2, hy' =>
          obtain rfl : Value.str ts[i].2 ru = v2 := Option.some.inj hv2
          exact hy'.append (es := [Dat.str ts[i].2]) (.one (.str _ _)) |> fun z => by simpa using z
    · rintro ys' nw' ⟨rfl, hy'⟩
      refine ⟨rfl, ?_⟩
      rw [← List.take_append_getElem hit, flatD_snoc]
      exact hy'
  · rintro ys nw D h tk ⟨rfl, hys⟩ F₂ N₂ hoff
    rw [List.size_toArray, hvl, List.take_length] at hys
    exact fin ys D h tk hys F₂ N₂ hoff
end
theorem listComp_twoF {prog : Program} {w : World} {A : Around} {E : Value → Shared → Prop} {s : Shared} {env : Env} {h₀ : Heap} {L : Addr} {m : Str → Option Value}
    {elt i1 i2 : Expr} {x y : Str} {px py : Pos} {ifs : List Expr} {scope : Scope} {cl : List (Str × Addr)} {pos : Pos} {Q : Value → Shared → Prop} (_F : Fr h₀ L s.heap m)
    (hclos : closureFor scope env = pure cl) (hcell : ∀ y ∈ scope.names, y.2 ≠ .cell) (hkind : scope.kind = .function)
    (hnames : ∀ y ∈ scope.names, y.2 = .local → scope.names.lookup y.1 = some .local) (hx : scope.names.lookup x = some .local) (hy : scope.names.lookup y = some .local) (hxy : x ≠ y)
    (hs : ∀ x, foldedSetIterable i1 env x = pure x) (hs2 : ∀ e x, foldedSetIterable i2 e x = pure x)
    (h : wpAny (model prog w) A (eval i1 env) (TwoAt prog w A h₀ L m env elt x y i2 ifs scope cl Q) E s) :
    wpAny (model prog w) A (eval (two elt x px i1 y py i2 ifs scope pos) env) Q E s := listComp_two hclos hcell hkind hnames hx hy hxy h hs hs2
end Mine
end

section
open PySem PySem.W PyProof.Rows PySem.Spec PySem.Calls
set_option Elab.async false
set_option maxRecDepth 100000
set_option maxHeartbeats 8000000
namespace Mine
theorem fill8 : (fun (_ : OpenLaw) (_ : Params → Frag) => True) PySem.Challenge.rw_xw0305_01 hd.heap_1 := by
  k_fill
  trivial
local macro_rules | `(tactic| k_room) => `(tactic| ((simp only [ktrTop, depth_mark, depth_under_make, depth_under_kw, depth_in1, depth_deeper, depth_caller, recursionLimit]); omega))
local macro_rules | `(tactic| ktr_room) => `(tactic| k_room)
local macro_rules | `(tactic| k_units) => `(tactic| ((simp only [ktrTop, units_in1, units_deeper, Around.mark_units, units_caller, cLine]); omega))
local macro_rules | `(tactic| k_mem) => `(tactic| first | exact List.mem_cons_self | with_reducible assumption | (refine List.mem_cons_of_mem _ ?_; k_mem) | (refine List.mem_append.mpr (Or.inl ?_); k_mem) | (refine List.mem_append.mpr (Or.inr ?_); k_mem))
theorem flat_any {news news' : List (Addr × Obj)} : ∀ {ts : List (Int × Str)} {ys : List Value}, DatAll news ys (flatD ts) → DatAll news' ys (flatD ts)
  | [], ys, h => by cases h; exact .nil
  | p :: ts, ys, h => by
    have e : flatD (p :: ts) = Dat.int p.1 :: Dat.str p.2 :: flatD ts := rfl
    rw [e] at h ⊢
    cases h with
    | cons h1 r =>
      cases r with
      | cons h2 r =>
        cases h1
        cases h2
        exact .cons (.int _ _) (.cons (.str _ _) (flat_any r))
def RowsOut (w : World) (num : Int) (ts : List (Int × Str)) (tl : List (Addr × Obj)) (r : Value) : Prop := ∃ (y d b p q D : Addr) (x : Str) (n1 n2 n3 n4 : Nat) (t1 t2 t3 t4 a0 a1 a2 a3 a4 a5 a6 a7 a8 a9 : Tok) (ys : List Value), r = .ref y ∧
  tl = [(D, listOf ys.toArray n4), (y, instObj 208 d), (d, arrD w num x b D a0 a1 a2 a3 a4 a5 a6 a7 a8 a9), (b, listOf #[.ref p, .ref q] n1), (q, tupOf #[.int 1 t3, .int 2 t4] n2), (p, tupOf #[.int 1 t1, .int (ts.length : Int) t2] n3)] ∧ DatAll [] ys (flatD ts)
theorem rows_end {w : World} {num : Int} {ts : List (Int × Str)} {h₀ : Heap} {L : Addr} {m : Str → Option Value} {news any : List (Addr × Obj)} {s : Shared} {Q : Value → Shared → Prop}
    (hret : ∀ r tl h' tk', Fr h₀ L h' m → News h₀ L h' (news ++ tl) → (∀ q ∈ news, ∀ p ∈ tl, q.1 ≠ p.1) → Outs (fun _ tl r => RowsOut w num ts tl r) news tl r → Q r { s with heap := h', toks := tk' })
    {y d b p q D : Addr} {x : Str} {n1 n2 n3 n4 : Nat} {t1 t2 t3 t4 a0 a1 a2 a3 a4 a5 a6 a7 a8 a9 : Tok} {ys : List Value} {h' : Heap} {tk' : Nat} (F : Fr h₀ L h' m)
    (N : News h₀ L h' ((D, listOf ys.toArray n4) :: (y, instObj 208 d) :: (d, arrD w num x b D a0 a1 a2 a3 a4 a5 a6 a7 a8 a9) :: (b, listOf #[.ref p, .ref q] n1) :: (q, tupOf #[.int 1 t3, .int 2 t4] n2) :: (p, tupOf #[.int 1 t1, .int (ts.length : Int) t2] n3) :: news))
    (hys : DatAll any ys (flatD ts)) (ne : ∀ z ∈ news, z.1 ≠ D ∧ z.1 ≠ y ∧ z.1 ≠ d ∧ z.1 ≠ b ∧ z.1 ≠ q ∧ z.1 ≠ p) : Q (.ref y) { s with heap := h', toks := tk' } := by
  refine hret _ _ _ _ F (fun z hz => N z ?_) (fun z hz u hu => ?_) ⟨y, d, b, p, q, D, x, n1, n2, n3, n4, t1, t2, t3, t4, a0, a1, a2, a3, a4, a5, a6, a7, a8, a9, ys, rfl, rfl, flat_any hys⟩
  · simp only [List.mem_append, List.mem_cons, List.not_mem_nil, or_false] at hz ⊢
    rcases hz with h | h | h | h | h | h | h
    · exact .inr (.inr (.inr (.inr (.inr (.inr h)))))
    · exact .inl h
    · exact .inr (.inl h)
    · exact .inr (.inr (.inl h))
    · exact .inr (.inr (.inr (.inl h)))
    · exact .inr (.inr (.inr (.inr (.inl h))))
    · exact .inr (.inr (.inr (.inr (.inr (.inl h)))))
  · obtain ⟨e1, e2, e3, e4, e5, e6⟩ := ne z hz
    simp only [List.mem_cons, List.not_mem_nil, or_false] at hu
    rcases hu with rfl | rfl | rfl | rfl | rfl | rfl
    · exact e1
    · exact e2
    · exact e3
    · exact e4
    · exact e5
    · exact e6
section
local macro_rules | `(tactic| k_all) => `(tactic| assumption)
local macro_rules | `(tactic| walk_at "call ref") => `(tactic| (k_here; (with_reducible show wpAny _ _ (call (Value.ref 177) _) _ _ _); refine hold_intro ?_))
local macro_rules | `(tactic| walk_at "call ref") => `(tactic| (k_here; (with_reducible show wpAny _ _ (call (Value.ref 208) _) _ _ _); refine hold_intro ?_))
local macro_rules | `(tactic| walk_at "eval ListComp") => `(tactic| (k_here; refine hold_intro ?_))
local macro_rules | `(tactic| walk_at "eval ListComp Name cons") => `(tactic| (k_here; refine hold_intro ?_))
set_option maxHeartbeats 1000000 in
theorem rows_array_tell (w : World) (l : Addr) (n : Nat) (vs : List Value) (ts : List (Int × Str)) (t : Tok) (news : List (Addr × Obj)) (hl : (l, listOf vs.toArray n) ∈ news) (hd : DatAll news vs (ts.map tieD)) (h36 : ts.length = 3 ∨ ts.length = 6) :
    Tell w 284 30 (fun _ => True) [.ref l, .int 1 t] news (fun _ tl r => RowsOut w 1 ts tl r) := by
  unfold Tell
  intro pp ll mean mg mb dp un gd cn cs ad ccd cl outer A₀ base h₀ L m s Q E B F X N₀ T hk hd' hu htk hret
  have hvl := hd.length
  rw [List.length_map] at hvl
  obtain ⟨v0, hv0, hD0⟩ := hd.get (k := 0) (by rw [List.length_map]; omega)
  rw [List.getElem_map] at hD0
  obtain ⟨r, rt, ru, rn, rfl, hr⟩ := tie_out hD0
  refine wpAny_call ?_
  k_dflt ktr_enter
  refine noE ?_
  k_steps
  refine call_len_list (news_list (by k_asm) (vs := vs) (n := n) (l := l) (by k_mem)) (by rw [List.size_toArray]; omega) ?_
  rw [List.size_toArray, hvl]
  k_steps
  refine item_at (vs := vs) (n := n) (k := 0) (by k_asm) (by k_mem) (by decide) (by decide) hv0 ?_
  k_steps
  refine hold_out ?_
  k_dflt (refine' tell_use (text_tell _ (ts.length : Int) (by omega) _ _) ?k1 ?k2 ?k3 ?k4 ?k5 ?k6 ?k7 ?k8 ?k9 ?_; (case k1 => k_asm); (case k2 => k_asm); (case k3 => k_asm); (case k4 => k_asm); (case k5 => k_asm); (case k6 => exact rfl); (case k7 => k_room); (case k8 => k_units); (case k9 => trivial))
  intro r9 tl9 h9 tk9 hkk F9 N9 hl9 ho9
  obtain ⟨x9, t9, rfl, hx9⟩ := ho9
  replace N9 : News _ _ h9 news := fun p hp => N9 p (List.mem_append_left _ (.tail _ hp))
  try dsimp only
  k_steps
  refine hold_out ?_
  k_dflt (refine' tell_use (text_tell _ 2 (by decide) _ _) ?k1 ?k2 ?k3 ?k4 ?k5 ?k6 ?k7 ?k8 ?k9 ?_; (case k1 => k_asm); (case k2 => k_asm); (case k3 => k_asm); (case k4 => k_asm); (case k5 => k_asm); (case k6 => exact rfl); (case k7 => k_room); (case k8 => k_units); (case k9 => trivial))
  intro r10 tl10 h10 tk10 hkk2 F10 N10 hl10 ho10
  obtain ⟨x10, t10, rfl, hx10⟩ := ho10
  replace N10 : News _ _ h10 news := fun p hp => N10 p (List.mem_append_left _ hp)
  try dsimp only
  k_steps
  refine hold_out ?_
  rename_i p hh1 lp q hh2 lq b hh3 F11 N11 lall
  k_dflt (refine' tell_use (array_tell _ 1 (ts.length : Int) _ p q b _ _ _ _ _ _ _ _ _ _ _ (by omega) (.head _) (.tail _ (.tail _ (.head _))) (.tail _ (.head _))) ?k1 ?k2 ?k3 ?k4 ?k5 ?k6 ?k7 ?k8 ?k9 ?_; (case k1 => k_asm); (case k2 => k_asm); (case k3 => k_asm); (case k4 => k_asm); (case k5 => k_asm); (case k6 => exact rfl); (case k7 => k_room); (case k8 => k_units); (case k9 => trivial))
  intro r12 tl12 h12 tk12 hkk3 F12 N12 hl12 ho12
  obtain ⟨y, d, Di, a0, a1, a2, a3, a4, a5, a6, a7, a8, a9, its, rfl, lt1, lt2, rfl⟩ := ho12
  try dsimp only
  k_steps
  refine hold_out ?_
  (rename News _ _ _ _ => N13)
  refine listComp_twoF (by k_asm) (by with_unfolding_all rfl) (by decide) (by rfl) (by decide) (by rfl) (by rfl) (by decide) (by intro _; rfl) (by intro _ _; rfl) ?_
  k_steps
  refine flat_two (ts := ts) rfl (by k_asm) (by k_asm) (l := l) (vs := vs) (n := n) (by k_mem) (DatAll.mono (fun p hp => by k_mem) hd) (by omega) (by rfl) (by rfl) (by rfl) (by decide) (by decide) ?_
  intro ys Dn h14 tk14 hys F14 N14 hoff14
  dsimp only
  have nb := fun z hz => hl12 (b, listOf #[.ref p, .ref q] 0) (.head _) z hz
  have nq := fun z hz => hl12 _ (.tail _ (.head _)) z hz
  have np := fun z hz => hl12 _ (.tail _ (.tail _ (.head _))) z hz
  have nn := fun z hz u hu => hl12 z (.tail _ (.tail _ (.tail _ hz))) u hu
  have f1 : @Ne Nat b d := nb _ (.tail _ (.tail _ (.head _)))
  have f2 : @Ne Nat q d := nq _ (.tail _ (.tail _ (.head _)))
  have f3 : @Ne Nat p d := np _ (.tail _ (.tail _ (.head _)))
  have f4 : @Ne Nat Dn d := Ne.symm (hoff14 (d, _) (List.mem_append_right _ (.tail _ (.tail _ (.head _)))))
  have f5 : ∀ z ∈ news, z.1 ≠ d := fun z hz => nn z hz _ (.tail _ (.tail _ (.head _)))
  have N15 : News _ _ h14 ((Dn, listOf ys.toArray ys.length) :: (y, instObj 208 d) :: (d, arrD w 1 (x9 ++ Str.ofString "," ++ x10) b Di a0 a1 a2 a3 a4 a5 a6 a7 a8 a9) :: (b, listOf #[.ref p, .ref q] 0) :: (q, _) :: (p, _) :: news) := fun z hz => N14 z (by
    simp only [List.mem_cons, List.mem_append, List.not_mem_nil, or_false, List.cons_append] at hz ⊢
    rcases hz with h | h | h | h | h | h | h
    · exact .inl h
    · exact .inr (.inr (.inr (.inr (.inr (.inr (.inl h))))))
    · exact .inr (.inr (.inr (.inr (.inr (.inr (.inr h))))))
    · exact .inr (.inl h)
    · exact .inr (.inr (.inl h))
    · exact .inr (.inr (.inr (.inl h)))
    · exact .inr (.inr (.inr (.inr (.inl h)))))
  clear N14
  unfold arrD at N15
  k_steps
  refine rows_end hret (by k_asm) (by k_asm) hys fun z hz => ⟨?_, ?_, f5 z hz, Nat.ne_of_lt (allLt_mem lall.2.2 z hz), Nat.ne_of_lt (allLt_mem lq.2 z hz), Nat.ne_of_lt (lp z hz)⟩
  · exact hoff14 z (List.mem_append_left _ (.tail _ (.tail _ (.tail _ hz))))
  · exact nn z hz _ (.tail _ (.head _))
end
end Mine
end

section
open PySem PySem.W PyProof.Rows PySem.Spec PySem.Calls
set_option Elab.async false
set_option maxRecDepth 100000
set_option maxHeartbeats 400000
namespace Mine
def SrcR2 (prog : Program) (w : World) (A : Around) (h₀ : Heap) (L : Addr) (m : Str → Option Value) (env : Env) (elt : Expr) (x : Str) (scope : Scope) (cl : List (Str × Addr)) (Q : Value → Shared → Prop) (xv : Value) (s₁ : Shared) : Prop :=
  ∃ (r : Addr) (b : Int) (t u v : Tok) (n : Nat) (news : List (Addr × Obj)) (J : Nat → List Value → List (Addr × Obj) → Prop), xv = .ref r ∧ A.handled = none ∧ IsRange s₁.heap r 0 b 2 t u v ∧ Builtin.Range.small 0 b 2 = true ∧ Builtin.Range.rangeSize 0 b 2 = ((n : Nat) : Int) ∧ n ≤ 1000 ∧ Fr h₀ L s₁.heap m ∧ News h₀ L s₁.heap news ∧ J 0 [] news ∧
      (∀ i t ys nw I oI C oC D m₂ h tk, i < n → J i ys nw → LCg.NsObj oC m₂ → m₂ x = some (.int (2 * (i : Int)) t) → Fr h₀ L h m → News h₀ L h ((I, oI) :: (C, oC) :: (D, LCg.lst ys) :: nw) → (∀ p ∈ nw, ∀ q ∈ [(I, oI), (C, oC), (D, LCg.lst ys)], p.1 ≠ q.1) → ((@Ne Nat I C) ∧ (@Ne Nat I D) ∧ (@Ne Nat C D)) →
        wpAny (model prog w) A (eval elt (compEnvC scope cl C env)) (CEnd h₀ L m [(I, oI), (C, oC), (D, LCg.lst ys)] (fun y nw' => J (i + 1) (ys ++ [y]) nw') { s₁ with heap := h, toks := tk }) (fun _ _ => False) { s₁ with heap := h, toks := tk }) ∧
      (∀ ys nw D h tk, J n ys nw → Fr h₀ L h m → News h₀ L h ((D, LCg.lst ys) :: nw) → (∀ p ∈ nw, p.1 ≠ D) → Q (.ref D) { s₁ with heap := h, toks := tk })
theorem listComp_R2 {prog : Program} {w : World} {A : Around} {E : Value → Shared → Prop} {s : Shared} {env : Env} {h₀ : Heap} {L : Addr} {m : Str → Option Value} {elt iter : Expr} {x : Str} {px : Pos} {scope : Scope} {cl : List (Str × Addr)} {pos : Pos} {Q : Value → Shared → Prop} (_F : Fr h₀ L s.heap m)
    (hclos : closureFor scope env = pure cl) (hcell : ∀ y ∈ scope.names, y.2 ≠ .cell) (hkind : scope.kind = .function)
    (hnames : ∀ y ∈ scope.names, y.2 = .local → scope.names.lookup y.1 = some .local) (hx : scope.names.lookup x = some .local) (hs : ∀ x, foldedSetIterable iter env x = pure x)
    (h : wpAny (model prog w) A (eval iter env) (SrcR2 prog w A h₀ L m env elt x scope cl Q) E s) :
    wpAny (model prog w) A (eval (.ListComp elt [⟨.Name x px, iter, [], 0⟩] scope pos) env) Q E s := by
  refine listComp_W (h₀ := h₀) (L := L) (m := m) hclos hcell hkind hnames hx (wpAny_mono h (fun xv s₁ h₁ => ?_) fun _ _ e => e) hs
  obtain ⟨r, b, t, u, v, n, news, J, rfl, hh, hr, hsm, hn, hl, F, N, h0, step, fin⟩ := h₁
  refine ⟨_, n, _, _, news, fun Q' q => wpAny_pyIter_range hr hsm q, (Walks.range hh s₁.heap.objs.size 0 2 n).bound, hl, fun i h st => ⟨_, st⟩, fun i h h' o st e e' => ?_, ?_, F, N, ?_⟩
  · have st' : h.get? s₁.heap.objs.size = some _ := st
    show h'.get? s₁.heap.objs.size = some _
    rw [e', ← e]; exact st'
  · show IsRangeIter _ _ _ _ _
    rw [hn]
    simpa using Heap.get?_push_size _ rfl
  · refine comp_ind (J := J) (n := n) (fun _ _ _ _ => trivial) ?_ ?_ _ 0 [] news (by simp) h0
    · rintro i ys nw v' I oI C oC D m₂ h tk hi ⟨_, t', rfl⟩ j hC hx F' N' hn' ne
      exact step i t' ys nw I oI C oC D m₂ h tk hi j hC (by rw [hx]; congr 2; omega) F' N' hn' ne
    · intro ys nw j D h tk F' N' off
      exact fin ys nw D h tk j F' N' (off_one off)
end Mine
end

section
open PySem PySem.W PyProof.Rows PySem.Spec PySem.Calls
set_option Elab.async false
set_option maxRecDepth 100000
set_option maxHeartbeats 8000000
namespace Mine
theorem fill11 : (fun (_ : OpenLaw) (_ : Params → Frag) => True) PySem.Challenge.rw_xw0305_01 hd.heap_1 := by
  k_fill
  trivial
local macro_rules | `(tactic| k_room) => `(tactic| ((simp only [ktrTop, depth_mark, depth_under_make, depth_under_kw, depth_in1, depth_deeper, depth_caller, recursionLimit]); omega))
local macro_rules | `(tactic| ktr_room) => `(tactic| k_room)
local macro_rules | `(tactic| k_units) => `(tactic| ((simp only [ktrTop, units_makes, units_in1, units_deeper, Around.mark_units, units_caller, cLine]); omega))
local macro_rules | `(tactic| k_mem) => `(tactic| first | exact List.mem_cons_self | with_reducible assumption | (refine List.mem_cons_of_mem _ ?_; k_mem) | (refine List.mem_append.mpr (Or.inl ?_); k_mem) | (refine List.mem_append.mpr (Or.inr ?_); k_mem))
theorem flatD_at : ∀ (ts : List (Int × Str)) (i : Nat) (h : i < ts.length), ((flatD ts).drop (2 * i)).take 2 = [Dat.int ts[i].1, Dat.str ts[i].2]
  | [], _, h => absurd h (Nat.not_lt_zero _)
  | p :: ts, 0, _ => rfl
  | p :: ts, i + 1, h => by
    have e : flatD (p :: ts) = Dat.int p.1 :: Dat.str p.2 :: flatD ts := rfl
    rw [e, show 2 * (i + 1) = 2 * i + 1 + 1 by omega, List.drop_succ_cons, List.drop_succ_cons]
    exact flatD_at ts i (Nat.lt_of_succ_lt_succ h)
theorem range_two : ∀ k : Fin 9, Builtin.Range.small 0 ((2 * k.val : Nat) : Int) 2 = true ∧ Builtin.Range.rangeSize 0 ((2 * k.val : Nat) : Int) 2 = (k.val : Int) := by decide +kernel
section
local macro_rules | `(tactic| walk_at "subscriptTail Attribute Slice ref ref") => `(tactic| (k_here; refine hold_intro ?_))
local macro_rules | `(tactic| ktr_enter) => `(tactic| (refine' code_defC ?k1 ?k2 ?k3 ?k4 ?k5 ?kA ?kF ?kK ?k6 ?k7 ?k8 ?k9 ?kB ?kD ?_ ?c2 ?c3 ?c4; (case kA => exact rfl); (case kF => exact rfl); (case kK => assumption); (case k1 => k_asm); (case k2 => k_asm); (case k3 => k_asm); (case k4 => k_asm); (case k5 => k_asm); (case k6 => k_is); (case k7 => k_is); (case k8 => ktr_room); (case k9 => exact BindsTo.of_eq rfl); (case kB => exact rfl); (case kD => decide +kernel); (case c2 => exact rfl); (case c3 => exact rfl); (case c4 => exact rfl); k_whole; intro g' L' h' tk' cells' FG' F' N' Y' B' X' T' l1; (have l9 : ∀ p ∈ _, (p : Addr × Obj).1 ≠ L' + 1 := fun p hp => Nat.ne_of_lt (Nat.lt_succ_of_lt (l1 p hp))); (have l8 : ∀ p ∈ _, (p : Addr × Obj).1 ≠ L' + 2 := fun p hp => Nat.ne_of_lt (Nat.lt_succ_of_lt (Nat.lt_succ_of_lt (l1 p hp)))); (try k_lt l1); k_cells Y'; (try simp only [List.cons_append, List.nil_append] at N'); (try dsimp only); (try k_fold)))
local macro_rules | `(tactic| k_all) => `(tactic| assumption)
local macro_rules | `(tactic| walk_at "eval ListComp") => `(tactic| (k_here; refine hold_intro ?_))
local macro_rules | `(tactic| walk_at "eval ListComp Subscript cons") => `(tactic| (k_here; refine hold_intro ?_))
set_option maxHeartbeats 1000000 in
theorem rows_of_tell (w : World) (num : Int) (ts : List (Int × Str)) (y d b p q D : Addr) (x : Str) (n1 n2 n3 n4 : Nat) (t1 t2 t3 t4 a0 a1 a2 a3 a4 a5 a6 a7 a8 a9 : Tok) (ys : List Value) (news : List (Addr × Obj)) (h8 : ts.length ≤ 8) (hYm : (y, instObj 208 d) ∈ news) (hdm : (d, dictOf [⟨PyData.keyHash w.params (Str.ofString "word"), .str (Str.ofString "word") a0, .str (Str.ofString "ARRAY") a1⟩, ⟨PyData.keyHash w.params (Str.ofString "number"), .str (Str.ofString "number") a2, .int num a3⟩, ⟨PyData.keyHash w.params (Str.ofString "mark"), .str (Str.ofString "mark") a4, .int 0 a5⟩, ⟨PyData.keyHash w.params (Str.ofString "told"), .str (Str.ofString "told") a6, .str x a7⟩, ⟨PyData.keyHash w.params (Str.ofString "bounds"), .str (Str.ofString "bounds") a8, .ref b⟩, ⟨PyData.keyHash w.params (Str.ofString "items"), .str (Str.ofString "items") a9, .ref D⟩] 6) ∈ news)
    (hBm : (b, listOf #[.ref p, .ref q] n1) ∈ news) (hQm : (q, tupOf #[.int 1 t3, .int 2 t4] n2) ∈ news) (hDm : (D, listOf ys.toArray n4) ∈ news) (hys : DatAll [] ys (flatD ts)) :
    Tell w 289 10 (fun _ => True) [.ref y] news (fun news tl r => DatIn (news ++ tl) r (.list (ts.map tieD))) := by
  unfold Tell
  intro pp ll mean mg mb dp un gd cn cs ad ccd cl outer A₀ base h₀ L m s Q E B F X N T hk hd' hu htk hret
  refine wpAny_call ?_
  have hyl := hys.length
  rw [flatD_len] at hyl
  k_dflt ktr_enter
  refine noE ?_
  k_steps
  refine item_at (vs := [.ref p, .ref q]) (n := n1) (l := b) (k := 1) (by k_asm) (.tail _ (.tail _ hBm)) (by decide) (by decide) rfl ?_
  (try dsimp only)
  k_steps
  (try dsimp only)
  refine item_at (vs := [.ref p, .ref q]) (n := n1) (l := b) (k := 1) (by k_asm) (.tail _ (.tail _ hBm)) (by decide) (by decide) rfl ?_
  (try dsimp only)
  k_steps
  (try dsimp only)
  refine hold_out ?_
  refine listComp_R2 (by k_asm) (by with_unfolding_all rfl) (by decide) (by rfl) (by decide) (by rfl) (by intro _; rfl) ?_
  k_steps
  (try dsimp only)
  refine call_len_list (news_list (by k_asm) (vs := ys) (n := n4) (l := D) (.tail _ (.tail _ hDm))) (by rw [List.size_toArray]; omega) ?_
  rw [List.size_toArray, hyl]
  k_steps
  (try dsimp only)
  rename_i g L₁ h₁ tk0 FG B₁ X₁ T₁ l1 l9 l8 o1 o2 d1 d2 tkA h2 oW F₁ N₁ dW h3 tk4 t1' u1' v1' hR F₂ N₂ hst
  have d2' : o2.data = .cell (some (.ref y)) := d2
  obtain ⟨hsm, hsz⟩ := range_two ⟨ts.length, by omega⟩
  refine ⟨_, _, _, _, _, ts.length, (L₁ + 1 + 1, oW) :: (L₁ + 1, o2) :: news, fun i ys' nw => ∃ tl, nw = tl ++ ((L₁ + 1 + 1, oW) :: (L₁ + 1, o2) :: news) ∧ (∀ p ∈ tl, ∀ q ∈ news, q.1 ≠ p.1) ∧ DatAll nw ys' ((ts.take i).map tieD), rfl, rfl, hR, hsm, hsz, by omega, by k_asm, by k_asm, ⟨[], rfl, (fun _ h => nomatch h), .nil⟩, ?_, ?_⟩
  · rintro i t9 ys' nw I oI C oC D9 m₂ h9 tk9 hi ⟨tl, rfl, htl, hys'⟩ hC hx F3 N3 hn3 ⟨ne1, ne2, ne3⟩
    k_steps
    have hMD : ∀ a b c : Addr × Obj, (D, listOf ys.toArray n4) ∈ a :: b :: c :: (tl ++ ((L₁ + 1 + 1, oW) :: (L₁ + 1, o2) :: news)) := fun _ _ _ => .tail _ (.tail _ (.tail _ (List.mem_append_right _ (.tail _ (.tail _ hDm)))))
    refine kms_slice_lit (F3) (N3) (news_list N3 (vs := ys) (n := n4) (l := D) (hMD _ _ _)) (lo := some (2 * (i : Int))) (hi := some (2 * (i : Int) + (2 - 1 + 1))) (.int _ _) (.int _ _) (zs := (ys.drop (2 * i)).take 2) ?_ ?_ (by with_unfolding_all rfl) (by intro _; with_unfolding_all rfl) (by rw [List.size_toArray, sizeLine_eq]; omega)
    · show kms_pick ys (some (2 * (i : Int))) (some (2 * (i : Int) + (2 - 1 + 1))) = _
      simp only [kms_pick, kms_lo, kms_hi]
      rw [if_neg (by omega), if_neg (by omega)]
      have q1 : min (2 * (i : Int)).toNat ys.length = 2 * i := by omega
      have q2 : min (2 * (i : Int) + (2 - 1 + 1)).toNat ys.length = 2 * i + 2 := by omega
      rw [q1, q2, show 2 * i + 2 - 2 * i = 2 by omega]
    intro D4 h10 F10 N10 l10
    have hz : DatAll [] ((ys.drop (2 * i)).take 2) [Dat.int ts[i].1, Dat.str ts[i].2] := by
      rw [← flatD_at ts i hi]
      exact datAll_take 2 (datAll_drop (2 * i) hys)
    refine CEnd.intro F10 N10 ((D4, listOf ((ys.drop (2 * i)).take 2).toArray 0) :: (tl ++ ((L₁ + 1 + 1, oW) :: (L₁ + 1, o2) :: news))) (own3 (by k_mem) (by k_mem) (by k_mem)) (fun p hp => ?_) (fun p hp q hq => ?_) ⟨(D4, listOf ((ys.drop (2 * i)).take 2).toArray 0) :: tl, rfl, fun p hp q hq => ?_, ?_⟩
    · rcases List.mem_cons.mp hp with rfl | hp
      · exact .head _
      · exact .tail _ (.tail _ (.tail _ (.tail _ hp)))
    · rcases List.mem_cons.mp hp with rfl | hp
      · exact own3 (P := fun q => D4 ≠ q.1) (Ne.symm (Nat.ne_of_lt (l10 _ (.head _)))) (Ne.symm (Nat.ne_of_lt (l10 _ (.tail _ (.head _))))) (Ne.symm (Nat.ne_of_lt (l10 _ (.tail _ (.tail _ (.head _)))))) q hq
      · exact hn3 p hp q hq
    · rcases List.mem_cons.mp hp with rfl | hp
      · exact Nat.ne_of_lt (l10 q (.tail _ (.tail _ (.tail _ (List.mem_append_right _ (.tail _ (.tail _ hq)))))))
      · exact htl p hp q hq
    · rw [← List.take_append_getElem hi, List.map_append]
      exact (DatAll.mono (fun p hp => .tail _ hp) hys').append (.one (.list (.head _) (DatAll.mono (fun p hp => absurd hp List.not_mem_nil) hz)))
  · rintro ys' nw D9 h9 tk9 ⟨tl, rfl, htl, hys'⟩ F3 N3 hn3
    rw [List.take_length] at hys'
    dsimp only
    k_steps
    refine hret _ ((D9, LCg.lst ys') :: (tl ++ [(L₁ + 1 + 1, oW), (L₁ + 1, o2)])) _ _ (by k_asm) (fun p hp => ?_) (fun q hq p hp => ?_) ?_
    · refine (by k_asm : News h₀ L h9 ((D9, LCg.lst ys') :: (tl ++ ((L₁ + 1 + 1, oW) :: (L₁ + 1, o2) :: news)))) p ?_
      simp only [List.mem_append, List.mem_cons, List.not_mem_nil, or_false] at hp ⊢
      grind
    · have e1 := htl
      have e2 := hn3 q (List.mem_append_right _ (.tail _ (.tail _ hq)))
      have e3 := l9 q hq
      have e4 : q.1 ≠ L₁ + 1 + 1 := l8 q hq
      have e5 := fun h => htl p h q hq
      simp only [List.mem_append, List.mem_cons, List.not_mem_nil, or_false] at hp
      rcases hp with rfl | h | rfl | rfl
      · exact e2
      · exact e5 h
      · exact e4
      · exact e3
    · refine DatIn.list (n := ys'.length) (List.mem_append_right _ (.head _)) (DatAll.mono (fun p hp => ?_) hys')
      simp only [List.mem_append, List.mem_cons, List.not_mem_nil, or_false] at hp ⊢
      grind
end
end Mine
end

section
open PySem PySem.W PyProof.Rows PySem.Spec PySem.Calls
set_option Elab.async false
set_option maxRecDepth 100000
set_option maxHeartbeats 8000000
namespace Mine
theorem fill12 : (fun (_ : OpenLaw) (_ : Params → Frag) => True) PySem.Challenge.rw_xw0305_01 hd.heap_1 := by
  k_fill
  trivial
local macro_rules | `(tactic| k_room) => `(tactic| ((simp only [ktrTop, depth_mark, depth_under_make, depth_under_kw, depth_in1, depth_deeper, depth_caller, recursionLimit]); omega))
local macro_rules | `(tactic| ktr_room) => `(tactic| k_room)
local macro_rules | `(tactic| k_units) => `(tactic| ((simp only [ktrTop, units_makes, units_in1, units_deeper, Around.mark_units, units_caller, cLine]); omega))
local macro_rules | `(tactic| k_mem) => `(tactic| first | exact List.mem_cons_self | with_reducible assumption | (refine List.mem_cons_of_mem _ ?_; k_mem) | (refine List.mem_append.mpr (Or.inl ?_); k_mem) | (refine List.mem_append.mpr (Or.inr ?_); k_mem))
section
local macro_rules | `(tactic| k_all) => `(tactic| assumption)
local macro_rules | `(tactic| walk_at "call ref") => `(tactic| (k_here; (with_reducible show wpAny _ _ (call (Value.ref 208) _) _ _ _); refine hold_intro ?_))
local macro_rules | `(tactic| walk_at "call type:list") => `(tactic| (k_here; refine hold_intro ?_))
def CopyOut (w : World) (num : Int) (x : Str) (b : Addr) (tl : List (Addr × Obj)) (r : Value) : Prop := ∃ (y d D : Addr) (k : Nat) (a0 a1 a2 a3 a4 a5 a6 a7 a8 a9 : Tok) (its : List Value), r = .ref y ∧ @LT.lt Nat _ d y ∧ @LT.lt Nat _ y D ∧ tl = [(D, listOf its.toArray k), (y, instObj 208 d), (d, arrD w num x b D a0 a1 a2 a3 a4 a5 a6 a7 a8 a9)]
theorem copy_end {w : World} {num : Int} {x : Str} {b : Addr} {h₀ : Heap} {L : Addr} {m : Str → Option Value} {news : List (Addr × Obj)} {s : Shared} {Q : Value → Shared → Prop}
    (hret : ∀ r tl h' tk', Fr h₀ L h' m → News h₀ L h' (news ++ tl) → (∀ q ∈ news, ∀ p ∈ tl, q.1 ≠ p.1) → Outs (fun _ tl r => CopyOut w num x b tl r) news tl r → Q r { s with heap := h', toks := tk' })
    {y d D : Addr} {k : Nat} {a0 a1 a2 a3 a4 a5 a6 a7 a8 a9 : Tok} {its : List Value} {h' : Heap} {tk' : Nat} (F : Fr h₀ L h' m) (N : News h₀ L h' ((D, listOf its.toArray k) :: (y, instObj 208 d) :: (d, arrD w num x b D a0 a1 a2 a3 a4 a5 a6 a7 a8 a9) :: news))
    (n1 : ∀ z ∈ news, z.1 ≠ d) (n2 : ∀ z ∈ news, z.1 ≠ y) (n3 : ∀ z ∈ news, z.1 ≠ D) (l2 : d < y) (l3 : y < D) : Q (.ref y) { s with heap := h', toks := tk' } := by
  refine hret _ [(D, listOf its.toArray k), (y, instObj 208 d), (d, arrD w num x b D a0 a1 a2 a3 a4 a5 a6 a7 a8 a9)] _ _ F (fun p hp => N p ?_) (fun z hz => own3 (P := fun p => z.1 ≠ p.1) (n3 z hz) (n2 z hz) (n1 z hz)) ⟨y, d, D, k, a0, a1, a2, a3, a4, a5, a6, a7, a8, a9, its, rfl, l2, l3, rfl⟩
  rcases List.mem_append.mp hp with hp | hp
  · exact .tail _ (.tail _ (.tail _ hp))
  · simp only [List.mem_cons, List.not_mem_nil, or_false] at hp ⊢
    grind
set_option maxHeartbeats 1000000 in
theorem copy_tell (w : World) (num num2 many : Int) (hm : many = 3 ∨ many = 6) (y d b p q D : Addr) (x : Str) (n1 n2 n3 n4 : Nat) (t0 t1 t2 t3 t4 a0 a1 a2 a3 a4 a5 a6 a7 a8 a9 : Tok) (ys : List Value) (news : List (Addr × Obj)) (hy8 : ys.length ≤ 100) (hYm : (y, instObj 208 d) ∈ news) (hdm : (d, dictOf [⟨PyData.keyHash w.params (Str.ofString "word"), .str (Str.ofString "word") a0, .str (Str.ofString "ARRAY") a1⟩, ⟨PyData.keyHash w.params (Str.ofString "number"), .str (Str.ofString "number") a2, .int num a3⟩, ⟨PyData.keyHash w.params (Str.ofString "mark"), .str (Str.ofString "mark") a4, .int 0 a5⟩, ⟨PyData.keyHash w.params (Str.ofString "told"), .str (Str.ofString "told") a6, .str x a7⟩, ⟨PyData.keyHash w.params (Str.ofString "bounds"), .str (Str.ofString "bounds") a8, .ref b⟩, ⟨PyData.keyHash w.params (Str.ofString "items"), .str (Str.ofString "items") a9, .ref D⟩] 6) ∈ news)
    (hBm : (b, listOf #[.ref p, .ref q] n1) ∈ news) (hQm : (q, tupOf #[.int 1 t3, .int 2 t4] n2) ∈ news) (hPm : (p, tupOf #[.int 1 t1, .int many t2] n3) ∈ news) (hDm : (D, listOf ys.toArray n4) ∈ news) :
    Tell w 269 40 (fun _ => True) [.ref y, .int num2 t0] news (fun _ tl r => CopyOut w num2 x b tl r) := by
  unfold Tell
  intro pp ll mean mg mb dp un gd cn cs ad ccd cl outer A₀ base h₀ L m s Q E B F X N T hk hd' hu htk hret
  refine wpAny_call ?_
  k_dflt ktr_enter
  refine noE ?_
  k_steps
  refine hold_out ?_
  k_dflt (refine' tell_use (array_tell _ num2 many _ p q b _ _ _ _ _ _ _ _ _ _ _ hm hBm hPm hQm) ?k1 ?k2 ?k3 ?k4 ?k5 ?k6 ?k7 ?k8 ?k9 ?_; (case k1 => k_asm); (case k2 => k_asm); (case k3 => k_asm); (case k4 => k_asm); (case k5 => k_asm); (case k6 => exact rfl); (case k7 => k_room); (case k8 => k_units); (case k9 => trivial))
  intro r12 tl12 h12 tk12 hkk3 F12 N12 hl12 ho12
  obtain ⟨y2, d2, Di, c0, c1, c2, c3, c4, c5, c6, c7, c8, c9, its, rfl, lt1, lt2, rfl⟩ := ho12
  try dsimp only
  k_steps
  try dsimp only
  have nn := fun z hz u hu => hl12 z hz u hu
  have f1 : ∀ z ∈ news, z.1 ≠ d2 := fun z hz => nn z hz _ (.tail _ (.tail _ (.head _)))
  have f2 : ∀ z ∈ news, z.1 ≠ y2 := fun z hz => nn z hz _ (.tail _ (.head _))
  (rename News _ _ _ _ => N13)
  have N15 := (fun z hz => N13 z (by
    simp only [List.mem_cons, List.mem_append, List.not_mem_nil, or_false] at hz ⊢
    grind) : News _ _ _ ((y2, instObj 208 d2) :: (d2, arrD w num2 x b Di c0 c1 c2 c3 c4 c5 c6 c7 c8 c9) :: news))
  clear N13
  unfold arrD at N15
  refine hold_out ?_
  refine kup_listOf (by k_asm) (by k_asm) (its2 := ys.toArray) (n2 := n4) (b := D) (.tail _ (.tail _ hDm)) (zs := ys) rfl ?_ (by show ys.length ≤ sizeLine; rw [sizeLine_eq]; omega)
  intro D3 c h14 F14 N14 l14
  k_lt l14
  k_steps
  exact copy_end hret (by k_asm) (by k_asm) f1 f2 (fun z hz => Nat.ne_of_lt (allLt_mem l14.2.2 z hz)) lt1 l14.1
end
end Mine
end

section
open PySem PySem.W PyProof.Rows PySem.Spec PySem.Calls
set_option Elab.async false
set_option maxRecDepth 100000
set_option maxHeartbeats 8000000
namespace Mine
theorem fill13 : (fun (_ : OpenLaw) (_ : Params → Frag) => True) PySem.Challenge.rw_xw0305_01 hd.heap_1 := by
  k_fill
  trivial
local macro_rules | `(tactic| k_room) => `(tactic| ((simp only [ktrTop, depth_mark, depth_under_make, depth_under_kw, depth_in1, depth_deeper, depth_caller, recursionLimit]); omega))
local macro_rules | `(tactic| ktr_room) => `(tactic| k_room)
local macro_rules | `(tactic| k_units) => `(tactic| ((simp only [ktrTop, units_makes, units_in1, units_deeper, Around.mark_units, units_caller, cLine]); omega))
local macro_rules | `(tactic| k_mem) => `(tactic| first | exact List.mem_cons_self | with_reducible assumption | (refine List.mem_cons_of_mem _ ?_; k_mem) | (refine List.mem_append.mpr (Or.inl ?_); k_mem) | (refine List.mem_append.mpr (Or.inr ?_); k_mem))
section
local macro_rules | `(tactic| k_all) => `(tactic| assumption)
local macro_rules | `(tactic| walk_at "call ref") => `(tactic| (k_here; (with_reducible show wpAny _ _ (call (Value.ref 289) _) _ _ _); refine hold_intro ?_))
local macro_rules | `(tactic| walk_at "call ref") => `(tactic| (k_here; (with_reducible show wpAny _ _ (call (Value.ref 269) _) _ _ _); refine hold_intro ?_))
local macro_rules | `(tactic| walk_at "call ref") => `(tactic| (k_here; (with_reducible show wpAny _ _ (call (Value.ref 303) _) _ _ _); refine hold_intro ?_))
local macro_rules | `(tactic| walk_at "eval ListComp") => `(tactic| (k_here; refine hold_intro ?_))
local macro_rules | `(tactic| walk_at "eval ListComp Name cons") => `(tactic| (k_here; refine hold_intro ?_))
def SortOut (w : World) (num : Int) (ts : List (Int × Str)) (tl : List (Addr × Obj)) (r : Value) : Prop := ∃ (y d D b : Addr) (x : Str) (k : Nat) (a0 a1 a2 a3 a4 a5 a6 a7 a8 a9 : Tok) (us : List Value) (ts' : List (Int × Str)), r = .ref y ∧ tl = [(D, listOf us.toArray k), (y, instObj 208 d), (d, arrD w num x b D a0 a1 a2 a3 a4 a5 a6 a7 a8 a9)] ∧ DatAll [] us (flatD ts') ∧ ts'.Perm ts ∧ ts'.Pairwise (fun a b => a.1 ≤ b.1)
theorem sort_end {w : World} {num : Int} {ts ts' : List (Int × Str)} {x : Str} {b : Addr} {h₀ : Heap} {L : Addr} {m : Str → Option Value} {news tl9 any : List (Addr × Obj)} {s : Shared} {Q : Value → Shared → Prop}
    (hret : ∀ r tl h' tk', Fr h₀ L h' m → News h₀ L h' (news ++ tl) → (∀ q ∈ news, ∀ p ∈ tl, q.1 ≠ p.1) → Outs (fun _ tl r => SortOut w num ts tl r) news tl r → Q r { s with heap := h', toks := tk' })
    {y d D : Addr} {k : Nat} {a0 a1 a2 a3 a4 a5 a6 a7 a8 a9 : Tok} {us : List Value} {h' : Heap} {tk' : Nat} (F : Fr h₀ L h' m) (N : News h₀ L h' ((D, listOf us.toArray k) :: (y, instObj 208 d) :: (d, arrD w num x b D a0 a1 a2 a3 a4 a5 a6 a7 a8 a9) :: (news ++ tl9)))
    (n1 : ∀ z ∈ news, z.1 ≠ d) (n2 : ∀ z ∈ news, z.1 ≠ y) (n3 : ∀ z ∈ news, z.1 ≠ D) (hus : DatAll any us (flatD ts')) (hp : ts'.Perm ts) (hs : ts'.Pairwise (fun a b => a.1 ≤ b.1)) : Q (.ref y) { s with heap := h', toks := tk' } := by
  refine hret _ [(D, listOf us.toArray k), (y, instObj 208 d), (d, arrD w num x b D a0 a1 a2 a3 a4 a5 a6 a7 a8 a9)] _ _ F (fun p hp => N p ?_) (fun z hz => own3 (P := fun p => z.1 ≠ p.1) (n3 z hz) (n2 z hz) (n1 z hz)) ⟨y, d, D, b, x, k, a0, a1, a2, a3, a4, a5, a6, a7, a8, a9, us, ts', rfl, rfl, flat_any hus, hp, hs⟩
  rcases List.mem_append.mp hp with hp | hp
  · exact .tail _ (.tail _ (.tail _ (List.mem_append_left _ hp)))
  · simp only [List.mem_cons, List.not_mem_nil, or_false] at hp ⊢
    grind
set_option maxHeartbeats 2000000 in
theorem sort_tell (w : World) (num num2 many : Int) (ts : List (Int × Str)) (h36 : ts.length = 3 ∨ ts.length = 6) (hmany : many = (ts.length : Int)) (y d b p q D : Addr) (x : Str) (n1 n2 n3 n4 : Nat) (t0 t1 t2 t3 t4 u1 u2 a0 a1 a2 a3 a4 a5 a6 a7 a8 a9 : Tok) (ys : List Value) (news : List (Addr × Obj)) (hYm : (y, instObj 208 d) ∈ news) (hdm : (d, dictOf [⟨PyData.keyHash w.params (Str.ofString "word"), .str (Str.ofString "word") a0, .str (Str.ofString "ARRAY") a1⟩, ⟨PyData.keyHash w.params (Str.ofString "number"), .str (Str.ofString "number") a2, .int num a3⟩, ⟨PyData.keyHash w.params (Str.ofString "mark"), .str (Str.ofString "mark") a4, .int 0 a5⟩, ⟨PyData.keyHash w.params (Str.ofString "told"), .str (Str.ofString "told") a6, .str x a7⟩, ⟨PyData.keyHash w.params (Str.ofString "bounds"), .str (Str.ofString "bounds") a8, .ref b⟩, ⟨PyData.keyHash w.params (Str.ofString "items"), .str (Str.ofString "items") a9, .ref D⟩] 6) ∈ news)
    (hBm : (b, listOf #[.ref p, .ref q] n1) ∈ news) (hQm : (q, tupOf #[.int 1 t3, .int 2 t4] n2) ∈ news) (hPm : (p, tupOf #[.int 1 t1, .int many t2] n3) ∈ news) (hDm : (D, listOf ys.toArray n4) ∈ news) (hys : DatAll [] ys (flatD ts)) :
    Tell w 315 60 (fun _ => True) [.ref y, .int 1 u1, .bool false, .int num2 u2] news (fun _ tl r => SortOut w num2 ts tl r) := by
  unfold Tell
  intro pp ll mean mg mb dp un gd cn cs ad ccd cl outer A₀ base h₀ L m s Q E B F X N T hk hd' hu htk hret
  have hyl := hys.length
  rw [flatD_len] at hyl
  refine wpAny_call ?_
  k_dflt ktr_enter
  refine noE ?_
  k_steps
  try dsimp only
  refine hold_out ?_
  k_dflt (refine' tell_use (rows_of_tell _ num ts y d b p q D x n1 n2 n3 n4 t1 t2 t3 t4 a0 a1 a2 a3 a4 a5 a6 a7 a8 a9 ys _ (by omega) hYm hdm hBm hQm hDm hys) ?k1 ?k2 ?k3 ?k4 ?k5 ?k6 ?k7 ?k8 ?k9 ?_; (case k1 => k_asm); (case k2 => k_asm); (case k3 => k_asm); (case k4 => k_asm); (case k5 => k_asm); (case k6 => exact rfl); (case k7 => k_room); (case k8 => k_units); (case k9 => trivial))
  intro r9 tl9 h9 tk9 hkk F9 N9 hl9 ho9
  obtain ⟨R0, us, un2, rfl, hax, hus⟩ := dat_list ho9
  try dsimp only
  have hin : ∀ z ∈ news, z ∈ news ++ tl9 := fun z hz => List.mem_append_left _ hz
  k_steps
  try dsimp only
  refine item_at (vs := [.ref p, .ref q]) (n := n1) (l := b) (k := 1) (by k_asm) (hin _ hBm) (by decide) (by decide) rfl ?_
  try dsimp only
  k_steps
  try dsimp only
  obtain ⟨v0, hv0, hD0⟩ := hus.get (k := 0) (by rw [List.length_map]; omega)
  rw [List.getElem_map] at hD0
  obtain ⟨r0, rt, ru, rn, rfl, hr0⟩ := tie_out hD0
  refine item_at (vs := us) (n := un2) (l := R0) (k := 0) (by k_asm) hax (by decide) (by decide) hv0 ?_
  try dsimp only
  k_steps
  try dsimp only
  refine hold_out ?_
  k_dflt (refine' tell_use (copy_tell _ num num2 many (by omega) y d b p q D x n1 n2 n3 n4 u2 t1 t2 t3 t4 a0 a1 a2 a3 a4 a5 a6 a7 a8 a9 ys (news ++ tl9) (by omega) (hin _ hYm) (hin _ hdm) (hin _ hBm) (hin _ hQm) (hin _ hPm) (hin _ hDm)) ?k1 ?k2 ?k3 ?k4 ?k5 ?k6 ?k7 ?k8 ?k9 ?_; (case k1 => k_asm); (case k2 => k_asm); (case k3 => k_asm); (case k4 => k_asm); (case k5 => k_asm); (case k6 => exact rfl); (case k7 => k_room); (case k8 => k_units); (case k9 => trivial))
  intro r10 tl10 h10 tk10 hkk2 F10 N10 hl10 ho10
  obtain ⟨y2, d2, D2, kc, c0, c1, c2, c3, c4, c5, c6, c7, c8, c9, its, rfl, lt1, lt2, rfl⟩ := ho10
  try dsimp only
  k_steps
  try dsimp only
  refine hold_out ?_
  refine listComp_twoF (by k_asm) (by with_unfolding_all rfl) (by decide) (by rfl) (by decide) (by rfl) (by rfl) (by decide) (by intro _; rfl) (by intro _ _; rfl) ?_
  k_steps
  try dsimp only
  refine hold_out ?_
  refine noE' ?_
  have hin2 : ∀ z ∈ news ++ tl9, z ∈ (news ++ tl9) ++ [(D2, listOf its.toArray kc), (y2, instObj 208 d2), (d2, arrD w num2 x b D2 c0 c1 c2 c3 c4 c5 c6 c7 c8 c9)] := fun z hz => List.mem_append_left _ hz
  k_dflt (refine' tell_use (sorted_rows_tell _ R0 un2 us ts _ _ (hin2 _ hax) (DatAll.mono hin2 hus) (by omega)) ?k1 ?k2 ?k3 ?k4 ?k5 ?k6 ?k7 ?k8 ?k9 ?_; (case k1 => k_asm); (case k2 => k_asm); (case k3 => k_asm); (case k4 => k_asm); (case k5 => k_asm); (case k6 => exact rfl); (case k7 => k_room); (case k8 => k_units); (case k9 => trivial))
  intro r11 tl11 h11 tk11 hkk3 F11 N11 hl11 ho11
  obtain ⟨R1, vs1, k1, ts', rfl, rfl, hperm, hsort, hvs1⟩ := ho11
  try dsimp only
  k_steps
  try dsimp only
  have hlen' := hperm.length_eq
  (rename News _ _ _ _ => N12)
  refine flat_two (ts := ts') rfl (by k_asm) (by k_asm) (l := R1) (vs := vs1) (n := k1) (List.mem_append_right _ (.head _)) (DatAll.mono (fun p hp => List.mem_append_left _ hp) hvs1) (by omega) (by rfl) (by rfl) (by rfl) (by decide) (by decide) ?_
  intro ys2 Dn h14 tk14 hys2 F14 N14 hoff14
  have f1 : ∀ z ∈ news ++ tl9, z.1 ≠ d2 := fun z hz => hl10 z hz _ (.tail _ (.tail _ (.head _)))
  have f2 : ∀ z ∈ news ++ tl9, z.1 ≠ y2 := fun z hz => hl10 z hz _ (.tail _ (.head _))
  have f3 : ∀ z ∈ news ++ tl9, z.1 ≠ Dn := fun z hz => hoff14 z (List.mem_append_left _ (List.mem_append_left _ hz))
  have f4 : @Ne Nat Dn d2 := Ne.symm (hoff14 (d2, _) (List.mem_append_left _ (List.mem_append_right _ (.tail _ (.tail _ (.head _))))))
  have N15 := (fun z hz => N14 z (by
    simp only [List.mem_cons, List.mem_append, List.not_mem_nil, or_false] at hz ⊢
    grind) : News _ _ h14 ((Dn, listOf ys2.toArray ys2.length) :: (y2, instObj 208 d2) :: (d2, arrD w num2 x b D2 c0 c1 c2 c3 c4 c5 c6 c7 c8 c9) :: (news ++ tl9)))
  clear N14
  unfold arrD at N15
  try dsimp only
  k_steps
  exact sort_end hret (by k_asm) (by k_asm) (fun z hz => f1 z (List.mem_append_left _ hz)) (fun z hz => f2 z (List.mem_append_left _ hz)) (fun z hz => f3 z (List.mem_append_left _ hz)) hys2 hperm hsort
end
end Mine
end

section
open PySem PySem.W PyProof.Rows PySem.Spec PySem.Calls
set_option Elab.async false
set_option maxRecDepth 100000
set_option maxHeartbeats 800000
namespace Mine
/-- the signs met so far, each once -/
def met : List (Fin 4) → List (Fin 4)
  | [] => []
  | c :: l => if (met l).contains c then met l else c :: met l
def metUpto (l : List (Fin 4)) (i : Nat) : List (Fin 4) := met (l.take i).reverse
theorem met_len : ∀ l : List (Fin 4), (met l).length ≤ l.length
  | [] => Nat.le_refl _
  | c :: l => by
    have := met_len l
    unfold met
    split
    · exact Nat.le_succ_of_le this
    · exact Nat.succ_le_succ this
theorem metUpto_succ {l : List (Fin 4)} {i : Nat} {c : Fin 4} (h : l[i]? = some c) : metUpto l (i + 1) = if (metUpto l i).contains c then metUpto l i else c :: metUpto l i := by
  unfold metUpto
  obtain ⟨hi, rfl⟩ := List.getElem?_eq_some_iff.mp h
  rw [← List.take_append_getElem hi, List.reverse_append]
  rfl
def inMet (l : List (Fin 4)) (k : Str) : Bool := l.any fun c => S1 c == k
theorem inMet_succ (l : List (Fin 4)) (c : Fin 4) (k : Str) : inMet (if l.contains c then l else c :: l) k = (inMet l k || decide (k = S1 c)) := by
  unfold inMet
  by_cases h : l.contains c = true
  · rw [if_pos h]
    by_cases e : k = S1 c
    · subst e
      have : (l.any fun d => S1 d == S1 c) = true := List.any_eq_true.mpr ⟨c, by simpa using h, beq_self_eq_true _⟩
      rw [this]; rfl
    · simp [e]
  · rw [if_neg h, List.any_cons]
    by_cases e : k = S1 c
    · subst e
      simp
    · have hb : (S1 c == k) = false := by
        cases hx : (S1 c == k) with
        | false => rfl
        | true => exact absurd (eq_of_beq hx).symm e
      simp [hb, e]
theorem inMet_self (l : List (Fin 4)) (c : Fin 4) : inMet l (S1 c) = l.contains c := by
  unfold inMet
  cases h : l.contains c with
  | true => exact List.any_eq_true.mpr ⟨c, by simpa using h, beq_self_eq_true _⟩
  | false =>
    cases hx : (l.any fun d => S1 d == S1 c) with
    | false => rfl
    | true =>
      obtain ⟨d, hd, e⟩ := List.any_eq_true.mp hx
      have : d = c := by
        have e2 := e
        rw [s1_eq] at e2
        exact of_decide_eq_true e2
      subst this
      have : l.contains d = true := by simpa using hd
      rw [this] at h; exact nomatch h
theorem set_loop {prog : Program} {w : World} {A : Around} {R : Result → Shared → Prop} (hh : A.in1.handled = none) {l : List (Fin 4)} {t : Tok} {S I : Addr} (hSI : S ≠ I) (hl : l.length ≤ 8) :
    ∀ (k i : Nat) (s : Shared), l.length - i = k → i ≤ l.length → s.heap.IsStrIter I "str_ascii_iterator" (SS l) t i →
      s.heap.SetOf (PySem.strKind prog w) S (inMet (metUpto l i)) (metUpto l i).length →
      (∀ h' tk, (∀ b o, b ∉ [S, I] → s.heap.get? b = some o → h'.get? b = some o) → h'.SetOf (PySem.strKind prog w) S (inMet (metUpto l l.length)) (metUpto l l.length).length → R (.ok (.ret .none)) { s with heap := h', toks := tk }) →
      codeAny (model prog w) A (.builtin "set.update.loop" ⟨[.ref S, .ref I], []⟩) R s := by
  have W := Walks.strAscii (prog := prog) (w := w) hh I (SS l) t
  intro k
  induction k with
  | zero =>
    intro i s hk hi hst hS hR
    have hin : i = l.length := by omega
    subst hin
    refine codeAny_builtin PyProof.Rows.F.entry_set_update_loop ?_
    rw [Around.under_plainId PyProof.Rows.F.plain_set_update_loop _]
    show wpAny _ A.in1 (pyNext (.ref I) >>= _) _ _ s
    refine wpAny_bind (W.done s _ _ (by rw [ss_size]; exact hst) fun h' tk hm => ?_)
    show wpAny _ A.in1 (ret Value.none) _ _ _
    refine wpAny_pure (hR h' tk (fun b o hb e => hm b o (fun q => hb (.tail _ q)) e) ?_)
    obtain ⟨o, es, ep, tb, ho, rest⟩ := hS
    exact ⟨o, es, ep, tb, hm S _ (fun q => hSI (List.mem_singleton.mp q)) ho, rest⟩
  | succ k ih =>
    intro i s hk hi hst hS hR
    have hlt : i < l.length := by omega
    refine codeAny_builtin PyProof.Rows.F.entry_set_update_loop ?_
    rw [Around.under_plainId PyProof.Rows.F.plain_set_update_loop _]
    show wpAny _ A.in1 (pyNext (.ref I) >>= _) _ _ s
    refine wpAny_bind (W.item i s _ _ (by rw [ss_size]; exact hlt) hst fun v h₁ tk₁ hP hst' hm => ?_)
    obtain ⟨c, u, hc, rfl⟩ := ss_at hP
    have hS' : h₁.SetOf (PySem.strKind prog w) S (inMet (metUpto l i)) (metUpto l i).length := by
      obtain ⟨o, es, ep, tb, ho, rest⟩ := hS
      exact ⟨o, es, ep, tb, hm S _ (fun q => hSI (List.mem_singleton.mp q)) ho, rest⟩
    show wpAny _ A.in1 (holding [Value.str (S1 c) u] (setAdd S (.str (S1 c) u)) >>= _) _ _ _
    refine wpAny_bind (wpAny_holding ?_)
    unfold setAdd
    refine wpAny_holding ?_
    refine wpAny_bind ((PySem.strKind prog w).pyHash (k := S1 c) (strKind_is _ _ _ _) ?_)
    have hroom : (metUpto l i).length + 1 < scanBound := by
      have h1 := met_len (l.take i).reverse
      rw [List.length_reverse, List.length_take] at h1
      unfold metUpto scanBound
      omega
    refine wpAny_setAddHashed_of (knd := PySem.strKind prog w) (s := { s with heap := h₁, toks := tk₁ + 1 }) (strKind_is _ _ _ _) rfl hS' hroom fun h₂ hsb hS2 => ?_
    have hSi : h₂.SetOf (PySem.strKind prog w) S (inMet (metUpto l (i + 1))) (metUpto l (i + 1)).length :=
      SetOf_congr hS2 (fun k' => by rw [metUpto_succ hc, inMet_succ]) (by
        rw [metUpto_succ hc, inMet_self]
        by_cases hq : (metUpto l i).contains c = true
        · rw [if_pos hq, if_pos hq]
        · rw [if_neg hq, if_neg hq]; rfl)
    refine wpAny_pure ⟨plainId_quiet PyProof.Rows.F.plain_set_update_loop _, ih (i + 1) _ (by omega) hlt ?_ hSi fun h₃ tk₃ hk₃ hS₃ => ?_⟩
    · obtain ⟨o, ho, r⟩ := hst'
      exact ⟨o, hsb.extBut _ _ (Ne.symm hSI) ho, r⟩
    · refine hR h₃ tk₃ (fun b o hb e => hk₃ b o hb (hsb.extBut b o (fun q => hb (q ▸ .head _)) (hm b o (fun q => hb (.tail _ q)) e))) hS₃
end Mine
end

section
open PySem PySem.Builtin PySem.W PyProof.Rows PySem.Spec PySem.Calls
set_option Elab.async false
set_option maxRecDepth 100000
set_option maxHeartbeats 3200000
namespace Mine
theorem sub_str_set : isSubtype (.type "str") (.type "set") = pure false := by rw [isSubtype_type]; kernel_rfl
theorem sub_str_frozenset : isSubtype (.type "str") (.type "frozenset") = pure false := by rw [isSubtype_type]; kernel_rfl
theorem set_str {prog : Program} {w : World} {A : Around} {E : Value → Shared → Prop} {s : Shared} {l : List (Fin 4)} {t : Tok} {Q : Value → Shared → Prop} (hh : A.handled = none) (hl8 : l.length ≤ 8)
    (h : ∀ (h' : Heap) (tk : Nat), h'.SetOf (PySem.strKind prog w) s.heap.objs.size (inMet (metUpto l l.length)) (metUpto l l.length).length →
      (∀ b o, b < s.heap.objs.size → s.heap.get? b = some o → h'.get? b = some o) → Q (.ref s.heap.objs.size) { s with heap := h', toks := tk }) :
    wpAny (model prog w) A (call (.type "set") [.str (SS l) t]) Q E s := by
  obtain ⟨c, tl, hmro⟩ := PySem.F.called_set.mro
  have hmade := PySem.F.called_set.made
  have hsub := PySem.F.called_set.sub
  refine wpAny_call (codeAny_of_tree ?_)
  show wpAny _ _ (callAny (.type "set") _) _ _ _
  refine wpAny_pure ⟨Code.quiet_builtin _ (by decide +kernel), codeAny_builtin PySem.F.entry_type_call ?_⟩
  rw [Around.under_plain (weight_type_call_type "set" [.str (SS l) t] []) rfl]
  have h1 := PySem.F.called_set.notType
  have h2 := PySem.F.called_set.canCreate
  have hct := PySem.F.typeCall_set_1 (.str (SS l) t)
  repeat (any_goals (first | assumption | wp_step))
  refine codeAny_mono (code_set_new_1 (.str (SS l) t) (E := E) (Q₁ := fun obj s₁ => ∃ led : Bool, obj = .ref s.heap.objs.size ∧ s₁ = { s with heap := s.heap.push { cls := .type "set", dict := none, data := .set #[] 0 (.fresh 0 0 led) } }) fun led => ⟨led, rfl, rfl⟩) fun r s₁ hr => ?_
  cases r with
  | error e => exact hr
  | ok fl =>
    cases fl with
    | ret obj =>
      obtain ⟨led, rfl, rfl⟩ := hr
      have hS : (s.heap.push { cls := .type "set", dict := none, data := .set #[] 0 (.fresh 0 0 led) }).get? s.heap.objs.size = some { cls := .type "set", dict := none, data := .set #[] 0 (.fresh 0 0 led) } := Heap.get?_push_size _ rfl
      have hT : Shared.TypeIs { s with heap := s.heap.push { cls := .type "set", dict := none, data := .set #[] 0 (.fresh 0 0 led) } } (.ref s.heap.objs.size) "set" := ⟨_, hS, rfl⟩
      have hli := PySem.F.called_set.init.lookup
      have hbi := PySem.F.called_set.init.bind (.ref s.heap.objs.size)
      repeat (any_goals (first | assumption | wp_step))
      refine codeAny_mono (codeAny_call_builtin (R := wants (fun r s₂ => r = .none ∧ ∃ h' tk, s₂ = { s with heap := h', toks := tk } ∧
          h'.SetOf (PySem.strKind prog w) s.heap.objs.size (inMet (metUpto l l.length)) (metUpto l l.length).length ∧
          (∀ b o, b < s.heap.objs.size → s.heap.get? b = some o → h'.get? b = some o)) E) PySem.F.called_set.init.plain PySem.F.entry_set_init (check_set_init_1 hT ?_)) fun r₂ s₂ hr₂ => ?_
      · have hsls := sub_str_set
        have hslf := sub_str_frozenset
        have hty := typeIs_str { s with heap := s.heap.push { cls := .type "set", dict := none, data := .set #[] 0 (.fresh 0 0 led) } } (SS l) t
        have hne : (Value.type "str" == Value.type "dict") = false := by decide
        unfold Builtin.«set.__init__» noKeywords Builtin.Frozenset.updateFrom
        generalize hPI : pyIter = PI
        wp_walk
        subst hPI
        refine wpAny_pyIter_ascii (ss_ascii l) ?_
        refine wpAny_bind (wpAny_runValue ?_)
        have hSI : s.heap.objs.size ≠ (s.heap.push { cls := .type "set", dict := none, data := .set #[] 0 (.fresh 0 0 led) }).objs.size := by
          rw [Heap.size_push]; exact Nat.ne_of_lt (Nat.lt_succ_self _)
        refine set_loop (l := l) (t := t) (by simp [hh]) hSI hl8 (l.length - 0) 0 _ (by omega) (Nat.zero_le _) ⟨_, Heap.get?_push_size _ rfl, rfl, rfl⟩ ?hS0 ?hR
        case hS0 =>
          have hget : ((s.heap.push { cls := .type "set", dict := none, data := .set #[] 0 (.fresh 0 0 led) }).push { cls := .type "str_ascii_iterator", data := .fields #[.str (SS l) t, .int 0 0] }).get? s.heap.objs.size
              = some { cls := .type "set", dict := none, data := .set #[] 0 (.fresh 0 0 led) } := Heap.get?_push_of_some _ hS
          exact SetOf_congr ((setObjOf_fresh (knd := PySem.strKind prog w) led).setOf hget (by unfold scanBound; omega)) (fun _ => rfl) rfl
        case hR =>
          intro h' tk hk hS'
          show wpAny _ _ _ _ _ _
          refine wpAny_pure ?_
          show wpAny _ _ (ret Value.none) _ _ _
          refine wpAny_pure ⟨rfl, h', tk, rfl, hS', fun b o hb e => ?_⟩
          have hb1 : b ≠ s.heap.objs.size := Nat.ne_of_lt hb
          have hb2 : b ≠ (s.heap.push { cls := .type "set", dict := none, data := .set #[] 0 (.fresh 0 0 led) }).objs.size := by
            rw [Heap.size_push]; exact Nat.ne_of_lt (Nat.lt_succ_of_lt hb)
          exact hk b o (by simp only [List.mem_cons, List.not_mem_nil, or_false, not_or]; exact ⟨hb1, hb2⟩) (Heap.get?_push_of_some _ (Heap.get?_push_of_some _ e))
      · cases r₂ with
        | error e => exact hr₂
        | ok fl₂ =>
          cases fl₂ with
          | ret r =>
            obtain ⟨rfl, h', tk, rfl, hS', hk'⟩ := hr₂
            repeat (any_goals (first | assumption | wp_step))
            exact h _ _ hS' hk'
          | _ => exact hr₂
    | _ => exact hr
end Mine
end

section
open PySem PySem.W PyProof.Rows PySem.Spec PySem.Calls
set_option Elab.async false
set_option maxRecDepth 100000
set_option maxHeartbeats 800000
namespace Mine
section
variable {prog : Program} {w : World} {A : Around} {E : Value → Shared → Prop} {s : Shared} {h₀ : Heap} {L : Addr} {m : Str → Option Value} {news : List (Addr × Obj)}
theorem set_news {l : List (Fin 4)} {t : Tok} {Q : Value → Shared → Prop} (hh : A.handled = none) (hl8 : l.length ≤ 8) (F : Fr h₀ L s.heap m) (N : News h₀ L s.heap news)
    (h : ∀ D h' tk, Fr h₀ L h' m → News h₀ L h' news → h'.SetOf (PySem.strKind prog w) D (inMet (metUpto l l.length)) (metUpto l l.length).length → Q (.ref D) { s with heap := h', toks := tk }) :
    wpAny (model prog w) A (call (.type "set") [.str (SS l) t]) Q E s :=
  set_str hh hl8 fun h' tk hS hk => h _ h' tk (F.keeps fun b o e => hk b o (Heap.lt_size e) e) (N.grown fun b o e => hk b o (Heap.lt_size e) e) hS
theorem len_set {a : Addr} {f : Str → Bool} {n : Nat} {Q : Value → Shared → Prop} (hS : s.heap.SetOf (PySem.strKind prog w) a f n) (hn8 : n ≤ 1000) (h : Q (.int (n : Int) (s.toks + 1)) { s with toks := s.toks + 1 + 1 }) :
    wpAny (model prog w) A (call (.builtin "len") [.ref a]) Q E s := by
  obtain ⟨o, es, ep, tb, ho, hex, hd, hel, hmem, hb, hf, hn⟩ := hS
  refine call_len_set ho hex hd hf (by omega) ?_
  rw [hn]
  exact h
end
/-- len(set(signs)), as the count of unlike signs -/
theorem met_three (a b c : Fin 4) : (metUpto [a, b, c] 3).length = ([a, b, c].eraseDups).length := by revert a b c; decide +kernel
end Mine
end

section
open PySem PySem.W PyProof.Rows PySem.Spec PySem.Calls
set_option Elab.async false
set_option maxRecDepth 100000
set_option maxHeartbeats 8000000
namespace Mine
def lawBody : List Stmt := match PySem.Challenge.pw_xw0305_01.main.body.getLast? with | some (.FunctionDef _ _ b _ _ _ _ _ _ _) => b | _ => []
def lawScope : Scope := match PySem.Challenge.pw_xw0305_01.main.body.getLast? with | some (.FunctionDef _ _ _ _ _ _ s _ _ _) => s | _ => default
def lawEnv (fa L : Addr) (ccd : Value) : Env := envOfC (Str.ofString "law") lawScope L fa ccd
/-- what a part of law's body answers, from any state that C allows -/
def Seg (w : World) (k : Nat) (C : (h₀ : Heap) → (m : Str → Option Value) → (news : List (Addr × Obj)) → (L : Addr) → (tk : Nat) → Prop) : Prop :=
  ∀ (pp : Program) (ll : List Str) (mean : ExcName → Option Value) (mg mb : Str → Option Value) (fa L : Addr) (ccd : Value) (A₀ : Around) (base h₀ : Heap) (m : Str → Option Value) (s : Shared) (news : List (Addr × Obj)) (Q : Flow → Shared → Prop) (E : Value → Shared → Prop),
    Below A₀ base [] h₀ → Fr h₀ L s.heap m → (hd.heap_1 w.params).In h₀ → News h₀ L s.heap news → Top pp ll mean mg mb h₀ → C h₀ m news L s.toks →
    (∀ h' tk m', Fr h₀ L h' m' → Q (.ret (.bool true)) { s with heap := h', toks := tk }) →
    wpAny (model prg w) (callerA.deeper (lawEnv fa L ccd)) (execs (lawBody.drop k) (lawEnv fa L ccd)) Q E s
end Mine
end

section
open PySem PySem.W PyProof.Rows PySem.Spec PySem.Calls
set_option Elab.async false
set_option maxRecDepth 100000
set_option maxHeartbeats 800000
namespace Mine
theorem s2_inj : ∀ a b c d : Fin 4, S2 a b = S2 c d → a = c ∧ b = d := by decide +kernel
theorem tieD_inj {t u : Tie} (h : tieD (tieS t) = tieD (tieS u)) : t = u := by
  obtain ⟨w, a, b⟩ := t
  obtain ⟨v, c, d⟩ := u
  unfold tieD tieS at h
  simp only [Dat.list.injEq, List.cons.injEq, Dat.int.injEq, Dat.str.injEq, and_true] at h
  obtain ⟨rfl, h2⟩ := h
  obtain ⟨rfl, rfl⟩ := s2_inj _ _ _ _ h2
  rfl
theorem tie_mem {t : Tie} {ks : List Tie} : tieD (tieS t) ∈ (ks.map tieS).map tieD ↔ t ∈ ks := by
  simp only [List.map_map, List.mem_map, Function.comp]
  constructor
  · rintro ⟨u, hu, e⟩
    exact tieD_inj e ▸ hu
  · exact fun h => ⟨t, h, rfl⟩
theorem s2_ok : ∀ a b : Fin 4, PyData.strOk (S2 a b) = true := by decide +kernel
theorem tieD_ok (t : Tie) : kqdOk 8 (tieD (tieS t)) = true := by
  unfold tieD tieS
  simp [kqdOk, s2_ok]
theorem tie_ok {ks : List Tie} : ∀ d ∈ (ks.map tieS).map tieD, kqdOk 8 d = true := fun d hd => by
  rw [List.map_map] at hd
  obtain ⟨p, _, rfl⟩ := List.mem_map.mp hd
  exact tieD_ok p
def IsSeq (o : Obj) : Prop := ∃ vs n, o.data = .seq vs n
mutual
theorem datIn_seq {news news' : List (Addr × Obj)} (hs : ∀ p ∈ news, IsSeq p.2 → p ∈ news') : ∀ {v : Value} {d : Dat}, DatIn news v d → DatIn news' v d
  | _, _, .none => .none
  | _, _, .bool b => .bool b
  | _, _, .int i t => .int i t
  | _, _, .str x t => .str x t
  | _, _, .bytes b t => .bytes b t
  | _, _, .tuple h r => .tuple (hs _ h ⟨_, _, rfl⟩) (datAll_seq hs r)
  | _, _, .list h r => .list (hs _ h ⟨_, _, rfl⟩) (datAll_seq hs r)
theorem datAll_seq {news news' : List (Addr × Obj)} (hs : ∀ p ∈ news, IsSeq p.2 → p ∈ news') : ∀ {vs : List Value} {ds : List Dat}, DatAll news vs ds → DatAll news' vs ds
  | _, _, .nil => .nil
  | _, _, .cons h r => .cons (datIn_seq hs h) (datAll_seq hs r)
end
theorem not_seq {o : Obj} {v : Option Value} (h : o.data = .cell v) : ¬ IsSeq o := fun ⟨_, _, e⟩ => by rw [h] at e; cases e
theorem off_cell {c : Addr} {o : Obj} {v : Option Value} {r : List (Addr × Obj)} (h : o.data = .cell v) : ∀ p ∈ (c, o) :: r, IsSeq p.2 → p ∈ r := fun p hp hs => by
  rcases List.mem_cons.mp hp with rfl | hp
  · exact (not_seq h hs).elim
  · exact hp
theorem lots_map {α β : Type} (f : α → β) : ∀ (xs : List α) (n : Nat), lots (xs.map f) n = (lots xs n).map (List.map f)
  | [], 0 => rfl
  | _ :: _, 0 => rfl
  | [], _ + 1 => rfl
  | x :: xs, n + 1 => by
    rw [List.map_cons, lots, lots, lots_map f xs n, lots_map f xs (n + 1), List.map_append, List.map_map, List.map_map]
    rfl
section
variable {prog : Program} {w : World} {A : Around} {E : Value → Shared → Prop} {s : Shared}
/-- a sign of a text of signs -/
theorem item_sub {value slice : PySem.Expr} {l : List (Fin 4)} {k : Nat} {c : Fin 4} {j : Int} {t u : Tok} {Q : Value → Shared → Prop} (hj : j = (k : Int)) (hl : l.length ≤ 1000) (hc : l[k]? = some c) (h : Q (.str (S1 c) s.toks) { s with toks := s.toks + 1 })
    (hs : subscripted slice false (.str (SS l) t) (.int j u) = operate [.str (SS l) t, .int j u] (getItem (.str (SS l) t) (.int j u)) := by with_unfolding_all rfl) :
    wpAny (model prog w) A (subscriptTail value slice (.str (SS l) t) (.int j u)) Q E s := by
  subst hj
  exact tail_any (typeIs_str _ _ _) F.slot_str_getitem.lookup (item_ss hl hc h) hs
/-- the first sign and the second of two -/
theorem item_two0 {value slice : PySem.Expr} {a b : Fin 4} {t u : Tok} {Q : Value → Shared → Prop} (h : Q (.str (S1 a) s.toks) { s with toks := s.toks + 1 })
    (hs : subscripted slice false (.str (S2 a b) t) (.int 0 u) = operate [.str (S2 a b) t, .int 0 u] (getItem (.str (S2 a b) t) (.int 0 u)) := by with_unfolding_all rfl) :
    wpAny (model prog w) A (subscriptTail value slice (.str (S2 a b) t) (.int 0 u)) Q E s := item_sub (l := [a, b]) (k := 0) rfl (Nat.le_of_ble_eq_true rfl) rfl h hs
theorem item_two1 {value slice : PySem.Expr} {a b : Fin 4} {t u : Tok} {Q : Value → Shared → Prop} (h : Q (.str (S1 b) s.toks) { s with toks := s.toks + 1 })
    (hs : subscripted slice false (.str (S2 a b) t) (.int 1 u) = operate [.str (S2 a b) t, .int 1 u] (getItem (.str (S2 a b) t) (.int 1 u)) := by with_unfolding_all rfl) :
    wpAny (model prog w) A (subscriptTail value slice (.str (S2 a b) t) (.int 1 u)) Q E s := item_sub (l := [a, b]) (k := 1) rfl (Nat.le_of_ble_eq_true rfl) rfl h hs
end
end Mine
end

section
open PySem PySem.W PyProof.Rows PySem.Spec PySem.Calls
set_option Elab.async false
set_option maxRecDepth 100000
set_option maxHeartbeats 8000000
namespace Mine
theorem fill20 : (fun (_ : OpenLaw) (_ : Params → Frag) => True) PySem.Challenge.rw_xw0305_01 hd.heap_1 := by
  k_fill
  trivial
local macro_rules | `(tactic| k_room) => `(tactic| ((simp only [ktrTop, depth_mark, depth_under_make, depth_under_kw, depth_in1, depth_deeper, depth_caller, recursionLimit]); omega))
local macro_rules | `(tactic| ktr_room) => `(tactic| k_room)
local macro_rules | `(tactic| k_units) => `(tactic| ((simp only [ktrTop, units_makes, units_in1, units_deeper, Around.mark_units, units_caller, cLine]); omega))
local macro_rules | `(tactic| k_mem) => `(tactic| first | exact List.mem_cons_self | with_reducible assumption | (refine List.mem_cons_of_mem _ ?_; k_mem) | (refine List.mem_append.mpr (Or.inl ?_); k_mem) | (refine List.mem_append.mpr (Or.inr ?_); k_mem))
section
local macro_rules | `(tactic| k_all) => `(tactic| assumption)
local macro_rules | `(tactic| walk_at "subscriptTail") => `(tactic| (k_here; refine hold_intro ?_))
local macro_rules | `(tactic| walk_at "execs cons") => `(tactic| (k_here; refine gen_toks ?_; intro tk htk9; (try dsimp only at htk9)))
local macro_rules | `(tactic| walk_at "execs nil") => `(tactic| (k_here; refine gen_toks ?_; intro tk htk9; (try dsimp only at htk9)))
local macro_rules | `(tactic| walk_at "exec For Name Name") => `(tactic| (k_here; refine hold_intro ?_))
local macro_rules | `(tactic| walk_at "exec For Name Name cons nil") => `(tactic| (k_here; refine hold_intro ?_))
local macro_rules | `(tactic| walk_at "pyIter ref") => `(tactic| (k_here; refine hold_intro ?_))
local macro_rules | `(tactic| walk_at "compareOp NotIn ref ref") => `(tactic| (k_here; refine hold_intro ?_))
local macro_rules | `(tactic| walk_at "call ref") => `(tactic| (k_here; (with_reducible show wpAny _ _ (call (Value.ref 375) _) _ _ _); refine hold_intro ?_))
local macro_rules | `(tactic| walk_at "call builtin:max") => `(tactic| (k_here; refine hold_intro ?_))
def C13 (ts ks : List Tie) (_h₀ : Heap) (m : Str → Option Value) (news : List (Addr × Obj)) (_L : Addr) (_tk : Nat) : Prop := ∃ (tl kl : Addr) (vs us : List Value) (n k : Nat), m (Str.ofString "ties") = some (.ref tl) ∧ m (Str.ofString "kept") = some (.ref kl) ∧
  (tl, listOf vs.toArray n) ∈ news ∧ (kl, listOf us.toArray k) ∈ news ∧ DatAll news vs ((ts.map tieS).map tieD) ∧ DatAll news us ((ks.map tieS).map tieD)
open Classical in
set_option maxHeartbeats 4000000 in
theorem seg13 (w : World) (ts ks : List Tie) (ht8 : ts.length ≤ 8) (hk8 : ks.length ≤ 8) (hk : ∀ p ∈ ks, p.2.1 ≠ p.2.2) (hlaw : ∀ t ∈ ts, t ∉ ks → ∃ ws, way ks t.2.1 t.2.2 = some ws ∧ ws ≠ [] ∧ ∀ x ∈ ws, x ≤ t.1) : Seg w 13 (C13 ts ks) := by
  intro pp ll mean mg mb fa L ccd A₀ base h₀ m s news Q E B F X N T hC hret
  obtain ⟨tl, kl, vs, us, n, k, e1, e2, htl, hkl, hts, hks⟩ := hC
  refine noE ?_
  have F₁ := fr_ext (m' := fun y => if y = Str.ofString "ties" then some (.ref tl) else if y = Str.ofString "kept" then some (.ref kl) else m y) F fun y => by rw [ife e2, ife e1]
  clear F
  unfold lawEnv
  have hS : lawBody.drop 13 = lawBody.drop 13 := rfl
  conv at hS => rhs; whnf
  rw [hS]
  clear hS
  have hE : lawScope = lawScope := rfl
  conv at hE => rhs; whnf
  rw [hE]
  clear hE
  k_steps
  refine hold_out ?_
  refine wpAny_For ?_
  k_steps
  refine hold_out ?_
  refine list_loopT (n0 := s.toks) (fun i m₁ nx => nx = news ∧ m₁ (Str.ofString "kept") = some (.ref kl)) rfl (Nat.le_refl _) (by k_asm) (by k_asm) (fun i m nx j => j.1 ▸ htl) ⟨rfl, rfl⟩ ?_ ?_
  · rintro i v m₁ nx h tk I o hv hle2 ⟨rfl, e3⟩ hI hIn F₂ N₂
    have hvl := hts.length
    rw [List.length_map, List.length_map] at hvl
    have hit : i < ts.length := by
      have := (List.getElem?_eq_some_iff.mp hv).1
      omega
    obtain ⟨v', hv', hDi⟩ := hts.get (k := i) (by rw [List.length_map, List.length_map]; exact hit)
    have ev : v' = v := Option.some.inj (hv'.symm.trans hv)
    subst ev
    rw [List.getElem_map, List.getElem_map] at hDi
    have hlaw := hlaw ts[i] (List.getElem_mem hit)
    generalize hti : ts[i] = t at *
    obtain ⟨wt, a, b⟩ := t
    have hDi0 := hDi
    obtain ⟨r, rt, ru, rn, rfl, hr⟩ := tie_out hDi
    have F₃ := fr_ext (m' := fun y => if y = Str.ofString "kept" then some (.ref kl) else m₁ y) F₂ fun y => by rw [ife e3]
    clear F₂
    k_steps
    refine hold_out ?_
    refine kqd_notIn (by k_asm) (List.mem_cons_of_mem _ hkl) rfl rfl hks (fun p hp => .tail _ hp) hDi0 (fun p hp => .tail _ hp) tie_ok (tieD_ok _) (by k_units) ?_
    by_cases hm : (wt, a, b) ∈ ks
    · rw [decide_eq_true (tie_mem.mpr hm)]
      k_steps
      exact TEnd.next (by k_asm) (by k_asm) nx (fun p hp => by rw [List.mem_singleton.mp hp]; exact .head _) (fun p hp => .tail _ hp) (fun p hp q hq => by rw [List.mem_singleton.mp hq]; exact hIn p hp) ⟨rfl, rfl⟩
    · rw [decide_eq_false (fun h => hm (tie_mem.mp h))]
      obtain ⟨ws, hw, hw0, hwm⟩ := hlaw hm
      k_steps
      refine hold_out ?_
      refine item_at (k := 1) (by k_asm) (.tail _ hr) (by decide) (by decide) rfl ?_
      k_steps
      refine hold_out ?_
      refine item_two0 ?_
      k_steps
      refine hold_out ?_
      refine item_at (k := 1) (by k_asm) (.tail _ hr) (by decide) (by decide) rfl ?_
      k_steps
      refine hold_out ?_
      refine item_two1 ?_
      k_steps
      refine hold_out ?_
      k_dflt (refine' tell_use (way_tell w (ks.length + 1) ks (Nat.lt_succ_self _) hk8 hk kl k us a b _ _ ((I, o) :: nx) (.tail _ hkl) (DatAll.mono (fun p hp => .tail _ hp) hks)) ?k1 ?k2 ?k3 ?k4 ?k5 ?k6 ?k7 ?k8 ?k9 ?_; (case k1 => k_asm); (case k2 => k_asm); (case k3 => k_asm); (case k4 => k_asm); (case k5 => k_asm); (case k6 => exact rfl); (case k7 => k_room); (case k8 => k_units); (case k9 => exact ⟨(show @LT.lt Nat _ _ _ by (try dsimp only); omega), (show @LT.lt Nat _ _ _ by (try dsimp only); omega)⟩))
      intro r9 tl9 h9 tk9 hkk F9 N9 hl9 ho9
      rw [hw] at ho9
      obtain ⟨D, us9, kk, rfl, rfl, hus⟩ := ho9
      (try dsimp only)
      k_steps
      refine hold_out ?_
      (rename News _ _ _ _ => N10)
      refine kso_max (by k_asm) N10 (news_list (vs := us9) (n := kk) N10 (List.mem_append_right _ (.head _))) hus (List.length_pos_iff.mpr hw0) rfl ?_
      intro h11 M t11 tk11 F11 N11 hM hMle
      have hMw := hwm M hM
      try dsimp only
      k_steps
      refine hold_out ?_
      refine item_at (vs := [.int wt rt, .str (S2 a b) ru]) (n := rn) (k := 0) (by k_asm) (List.mem_append_left _ (.tail _ hr)) (by decide) (by decide) rfl ?_
      k_steps
      try dsimp only
      exact TEnd.next (by k_asm) (by k_asm) nx (fun p hp => by rw [List.mem_singleton.mp hp]; exact .head _) (fun p hp => List.mem_append_left _ (.tail _ hp)) (fun p hp q hq => by rw [List.mem_singleton.mp hq]; exact hIn p hp) ⟨rfl, rfl⟩
  · rintro m₁ nx h tk hle2 ⟨rfl, e3⟩ F₂ N₂
    dsimp only
    k_steps
    exact hret _ _ _ F₂
end
end Mine
end

section
open PySem PySem.W PyProof.Rows PySem.Spec PySem.Calls
set_option Elab.async false
set_option maxRecDepth 100000
set_option maxHeartbeats 8000000
namespace Mine
theorem fill21 : (fun (_ : OpenLaw) (_ : Params → Frag) => True) PySem.Challenge.rw_xw0305_01 hd.heap_1 := by
  k_fill
  trivial
theorem lots_sub {α : Type} : ∀ (xs : List α) (n : Nat) (l : List α), l ∈ lots xs n → l.Sublist xs
  | [], 0, l, h => by rw [List.mem_singleton.mp h]; exact List.nil_sublist _
  | _ :: _, 0, l, h => by rw [List.mem_singleton.mp h]; exact List.nil_sublist _
  | [], _ + 1, _, h => nomatch h
  | x :: xs, n + 1, l, h => by
    unfold lots at h
    rcases List.mem_append.mp h with h | h
    · obtain ⟨l', h1, rfl⟩ := List.mem_map.mp h
      exact (lots_sub xs n l' h1).cons_cons x
    · exact (lots_sub xs (n + 1) l h).cons x
local macro_rules | `(tactic| k_room) => `(tactic| ((simp only [ktrTop, depth_mark, depth_under_make, depth_under_kw, depth_in1, depth_deeper, depth_caller, recursionLimit]); omega))
local macro_rules | `(tactic| ktr_room) => `(tactic| k_room)
local macro_rules | `(tactic| k_units) => `(tactic| ((simp only [ktrTop, units_makes, units_in1, units_deeper, Around.mark_units, units_caller, cLine]); omega))
local macro_rules | `(tactic| k_mem) => `(tactic| first | exact List.mem_cons_self | with_reducible assumption | (refine List.mem_cons_of_mem _ ?_; k_mem) | (refine List.mem_append.mpr (Or.inl ?_); k_mem) | (refine List.mem_append.mpr (Or.inr ?_); k_mem))
theorem boolsAre_snoc : ∀ {vs : List Value} {bs : List Bool}, LSm.BoolsAre vs bs → ∀ b : Bool, LSm.BoolsAre (vs ++ [.bool b]) (bs ++ [b])
  | _, _, .nil, b => .cons b .nil
  | _, _, .cons c r, b => .cons c (boolsAre_snoc r b)
section
local macro_rules | `(tactic| k_all) => `(tactic| assumption)
local macro_rules | `(tactic| walk_at "exec For Name Call") => `(tactic| (k_here; refine hold_intro ?_))
local macro_rules | `(tactic| walk_at "exec For Name Call cons nil") => `(tactic| (k_here; refine hold_intro ?_))
local macro_rules | `(tactic| walk_at "pyIter ref") => `(tactic| (k_here; refine hold_intro ?_))
local macro_rules | `(tactic| walk_at "call builtin:len") => `(tactic| (k_here; refine hold_intro ?_))
local macro_rules | `(tactic| walk_at "call ref") => `(tactic| (k_here; (with_reducible show wpAny _ _ (call (Value.ref 375) _) _ _ _); refine hold_intro ?_))
local macro_rules | `(tactic| walk_at "call ref") => `(tactic| (k_here; (with_reducible show wpAny _ _ (call (Value.ref 368) _) _ _ _); refine hold_intro ?_))
local macro_rules | `(tactic| walk_at "eval ListComp") => `(tactic| (k_here; refine hold_intro ?_))
local macro_rules | `(tactic| walk_at "eval ListComp Compare cons") => `(tactic| (k_here; refine hold_intro ?_))
local macro_rules | `(tactic| walk_at "eval ListComp Subscript cons") => `(tactic| (k_here; refine hold_intro ?_))
local macro_rules | `(tactic| walk_at "CompSrc") => `(tactic| (k_here; refine hold_intro ?_))
local macro_rules | `(tactic| walk_at "call builtin:sum") => `(tactic| (k_here; refine hold_intro ?_))
local macro_rules | `(tactic| walk_at "call builtin:all") => `(tactic| (k_here; refine hold_intro ?_))
local macro_rules | `(tactic| walk_at "subscriptTail") => `(tactic| (k_here; refine hold_intro ?_))
local macro_rules | `(tactic| walk_at "execs cons") => `(tactic| (k_here; refine gen_toks ?_; intro tk htk9; (try dsimp only at htk9)))
local macro_rules | `(tactic| walk_at "execs nil") => `(tactic| (k_here; refine gen_toks ?_; intro tk htk9; (try dsimp only at htk9)))
def C11 (l : List (Fin 4)) (ts ks : List Tie) (_h₀ : Heap) (m : Str → Option Value) (news : List (Addr × Obj)) (L : Addr) (_tk : Nat) : Prop := ∃ (tl kl : Addr) (vs us : List Value) (n k : Nat) (oP oL : Obj) (vL : Option Value) (tP : Tok) (rest : List (Addr × Obj)), m (Str.ofString "ties") = some (.ref tl) ∧ m (Str.ofString "kept") = some (.ref kl) ∧
  news = (L + 1 + 1 + 1 + 1 + 1, oL) :: rest ∧ (∀ p ∈ rest, p.1 ≠ L + 1 + 1 + 1 + 1 + 1) ∧ oL.data = .cell vL ∧ (L + 1 + 1, oP) ∈ rest ∧ oP.data = .cell (some (.str (SS l) tP)) ∧
  (tl, listOf vs.toArray n) ∈ rest ∧ (kl, listOf us.toArray k) ∈ rest ∧ DatAll rest vs ((ts.map tieS).map tieD) ∧ DatAll rest us ((ks.map tieS).map tieD)
open Classical in
set_option maxHeartbeats 4000000 in
theorem seg11 (w : World) (l : List (Fin 4)) (i0 : Fin 4) (ts ks : List Tie) (hl34 : l.length = 3 ∨ l.length = 4) (hi0 : l[0]? = some i0) (ht6 : ts.length ≤ 6) (hk8 : ks.length + 1 = l.length) (hk : ∀ p ∈ ks, p.2.1 ≠ p.2.2) (htn : ∀ p ∈ ts, p.2.1 ≠ p.2.2) (hlaw : ∀ t ∈ ts, t ∉ ks → ∃ ws, way ks t.2.1 t.2.2 = some ws ∧ ws ≠ [] ∧ ∀ x ∈ ws, x ≤ t.1)
    (hlot : ∀ lot ∈ lots ts (l.length - 1), (lot.map (·.1)).sum < (ks.map (·.1)).sum → ∃ c ∈ l, way lot i0 c = none) : Seg w 11 (C11 l ts ks) := by
  intro pp ll mean mg mb fa L ccd A₀ base h₀ m s news Q E B F X N T hC hret
  obtain ⟨tl, kl, vs, us, n, k, oP, oL, vL, tP, rest, e1, e2, rfl, hoff, dL, hP, dP, htl, hkl, hts, hks⟩ := hC
  refine noE ?_
  have F₁ := fr_ext (m' := fun y => if y = Str.ofString "ties" then some (.ref tl) else if y = Str.ofString "kept" then some (.ref kl) else m y) F fun y => by rw [ife e2, ife e1]
  clear F
  have h13 := seg13 w ts ks (by omega) (by omega) hk hlaw pp ll mean mg mb fa L ccd A₀ base h₀
  unfold lawEnv at h13 ⊢
  have hS : lawBody.drop 11 = lawBody.drop 11 := rfl
  conv at hS => rhs; whnf
  rw [hS]
  clear hS
  have hE : lawScope = lawScope := rfl
  conv at hE => rhs; whnf
  rw [hE] at h13 ⊢
  clear hE
  k_steps
  refine hold_out ?_
  have hul := hks.length
  rw [List.length_map, List.length_map] at hul
  have hvl := hts.length
  rw [List.length_map, List.length_map] at hvl
  have hun : News h₀ L s.heap rest := fun p hp => N p (.tail _ hp)
  refine call_len_list (news_list hun hkl) (by rw [List.size_toArray]; omega) ?_
  rw [List.size_toArray, hul]
  k_steps
  refine hold_out ?_
  refine len_ss (l := l) (by omega) ?_
  k_steps
  · exfalso
    omega
  refine hold_out ?_
  refine wpAny_For ?_
  k_steps
  refine hold_out ?_
  refine len_ss (l := l) (by omega) ?_
  k_steps
  refine hold_out ?_
  rw [show ((l.length : Int) - 1) = ((l.length - 1 : Nat) : Int) by omega]
  k_dflt (refine' tell_use (lots_tell w ((ts.map tieS).map tieD) (by rw [List.length_map, List.length_map]; omega) tl n vs (l.length - 1) _ ((L + 1 + 1 + 1 + 1 + 1, oL) :: rest) (.tail _ htl) (DatAll.mono (fun p hp => .tail _ hp) hts)) ?k1 ?k2 ?k3 ?k4 ?k5 ?k6 ?k7 ?k8 ?k9 ?_; (case k1 => k_asm); (case k2 => k_asm); (case k3 => k_asm); (case k4 => k_asm); (case k5 => k_asm); (case k6 => exact rfl); (case k7 => (try simp only [List.length_map]); k_room); (case k8 => (try simp only [List.length_map]); k_units); (case k9 => trivial))
  intro r9 tl9 h9 tk9 hkk F9 N9 hl9 ho9
  obtain ⟨ax, zs, zn, rfl, hax, hzs⟩ := dat_list ho9
  have hax : (ax, listOf zs.toArray zn) ∈ rest ++ tl9 := off_cell dL _ hax ⟨_, _, rfl⟩
  have hzs := datAll_seq (news' := rest ++ tl9) (off_cell dL) hzs
  rw [lots_map, lots_map] at hzs
  have hoff9 : ∀ p ∈ rest ++ tl9, p.1 ≠ L + 1 + 1 + 1 + 1 + 1 := fun p hp => (List.mem_append.mp hp).elim (hoff p) fun hp => Ne.symm (hl9 _ (.head _) p hp)
  have hin : ∀ p ∈ rest, p ∈ rest ++ tl9 := fun p hp => List.mem_append_left _ hp
  have N9 : News h₀ L h9 ((L + 1 + 1 + 1 + 1 + 1, oL) :: (rest ++ tl9)) := N9
  generalize rest ++ tl9 = rs at *
  have hP := hin _ hP
  have htl := hin _ htl
  have hkl := hin _ hkl
  have hts := DatAll.mono hin hts
  have hks := DatAll.mono hin hks
  clear hl9 ho9 hun N hin hoff
  (try dsimp only)
  k_steps
  refine hold_out ?_
  refine list_loopT (vs := zs) (n := zn) (n0 := s.toks) (fun i m₁ nx => m₁ (Str.ofString "ties") = some (.ref tl) ∧ m₁ (Str.ofString "kept") = some (.ref kl) ∧ ∃ oL vL, nx = (L + 1 + 1 + 1 + 1 + 1, oL) :: rs ∧ oL.data = .cell vL) rfl (by dsimp only at *; omega) (by k_asm) (by k_asm) (fun i m nx j => ?_) ⟨rfl, rfl, oL, vL, rfl, dL⟩ ?_ ?_
  · obtain ⟨_, _, oL, vL, rfl, _⟩ := j
    exact .tail _ hax
  · rintro i v m₁ nx h tk2 I o hv hle2 ⟨f1, f2, oL2, vL2, rfl, dL2⟩ hI hIn F₂ N₂
    have hzl := hzs.length
    rw [List.length_map, List.length_map, List.length_map] at hzl
    have hit : i < (lots ts (l.length - 1)).length := by
      have := (List.getElem?_eq_some_iff.mp hv).1
      omega
    obtain ⟨v', hv', hDi⟩ := hzs.get (k := i) (by rw [List.length_map, List.length_map, List.length_map]; exact hit)
    have ev : v' = v := Option.some.inj (hv'.symm.trans hv)
    subst ev
    rw [List.getElem_map, List.getElem_map, List.getElem_map] at hDi
    have hlot := hlot _ (List.getElem_mem hit)
    have hlsub := lots_sub _ _ _ (List.getElem_mem hit)
    have hllen := lots_len _ _ _ (List.getElem_mem hit)
    generalize hti : (lots ts (l.length - 1))[i] = lot at *
    obtain ⟨rl, xs, xn, rfl, hr, hxs⟩ := dat_list hDi
    have F₃ := fr_ext (m' := fun y => if y = Str.ofString "ties" then some (.ref tl) else if y = Str.ofString "kept" then some (.ref kl) else m₁ y) F₂ fun y => by rw [ife f2, ife f1]
    clear F₂
    have hne : @Ne Nat I (L + 1 + 1 + 1 + 1 + 1) := Ne.symm (hIn _ (.head _))
    have hxl := hxs.length
    rw [List.length_map, List.length_map] at hxl
    have hllen8 := hlsub.length_le
    k_steps
    refine hold_out ?_
    (rename News _ _ _ _ => N5)
    refine LCg.ListComp_U (F₀ := by k_asm) (by with_unfolding_all rfl) (by decide) (by rfl) (by decide) (by rfl) ?_
    k_steps
    refine hold_out ?_
    refine comp_ledger (its := xs) (k := xn) (fun i ys nw => nw = (I, o) :: (L + 1 + 1 + 1 + 1 + 1, _) :: rs ∧ IntsAre ys ((lot.take i).map (·.1))) rfl (by k_asm) N5 ?_ (by omega) ⟨rfl, .nil⟩ ?_ ?_
    · rintro i ys nw ⟨rfl, _⟩
      exact .tail _ (.tail _ hr)
    · rintro i ys nw v I2 oI C oC D m₂ h3 tk3 hv3 ⟨rfl, hys⟩ hC hx F3 N3 hn3 ⟨ne1, ne2, ne3⟩
      have hi : i < lot.length := hxl ▸ (List.getElem?_eq_some_iff.mp hv3).1
      obtain ⟨v', hv', hDi2⟩ := hxs.get (k := i) (by rw [List.length_map, List.length_map]; exact hi)
      have ev : v' = v := Option.some.inj (hv'.symm.trans hv3)
      subst ev
      rw [List.getElem_map, List.getElem_map] at hDi2
      obtain ⟨r4, rt4, ru4, rn4, rfl, hr4⟩ := tie_out hDi2
      k_steps
      refine hold_out ?_
      (try dsimp only)
      refine item_at (vs := [.int lot[i].1 rt4, .str (tieS lot[i]).2 ru4]) (n := rn4) (k := 0) N3 (.tail _ (.tail _ (.tail _ (.tail _ (.tail _ hr4))))) (by decide) (by decide) rfl ?_
      refine CEnd.intro F3 N3 _ (own3 (.head _) (.tail _ (.head _)) (.tail _ (.tail _ (.head _)))) (fun p hp => .tail _ (.tail _ (.tail _ hp))) hn3 ⟨rfl, ?_⟩
      rw [← List.take_append_getElem hi, List.map_append]
      exact hys.append (.cons _ _ .nil)
    · rintro ys nw D h3 tk3 ⟨rfl, hys⟩ F3 N3 hn3
      rw [hxl, List.take_length] at hys
      dsimp only
      k_steps
      refine hold_out ?_
      refine sumK rfl F3 N3 (news_list N3 (.head _)) hys ?_
      intro h6 tk6 t6 F6 N6
      replace N6 : News h₀ L h6 ((I, o) :: (L + 1 + 1 + 1 + 1 + 1, _) :: rs) := fun p hp => N6 p (.tail _ hp)
      clear F3 N3 hn3
      (try dsimp only)
      k_steps
      refine hold_out ?_
      refine LCg.ListComp_U (F₀ := by k_asm) (by with_unfolding_all rfl) (by decide) (by rfl) (by decide) (by rfl) ?_
      k_steps
      refine hold_out ?_
      refine comp_ledger (its := us) (k := k) (fun i ys nw => nw = (I, o) :: (L + 1 + 1 + 1 + 1 + 1, _) :: rs ∧ IntsAre ys ((ks.take i).map (·.1))) rfl (by k_asm) N6 ?_ (by omega) ⟨rfl, .nil⟩ ?_ ?_
      · rintro i ys nw ⟨rfl, _⟩
        exact .tail _ (.tail _ hkl)
      · rintro i ys nw v I2 oI C oC D m₂ h3 tk3 hv3 ⟨rfl, hys⟩ hC hx F3 N3 hn3 ⟨ne1, ne2, ne3⟩
        have hi : i < ks.length := hul ▸ (List.getElem?_eq_some_iff.mp hv3).1
        obtain ⟨v', hv', hDi2⟩ := hks.get (k := i) (by rw [List.length_map, List.length_map]; exact hi)
        have ev : v' = v := Option.some.inj (hv'.symm.trans hv3)
        subst ev
        rw [List.getElem_map, List.getElem_map] at hDi2
        obtain ⟨r4, rt4, ru4, rn4, rfl, hr4⟩ := tie_out hDi2
        k_steps
        refine hold_out ?_
        (try dsimp only)
        refine item_at (vs := [.int ks[i].1 rt4, .str (tieS ks[i]).2 ru4]) (n := rn4) (k := 0) N3 (.tail _ (.tail _ (.tail _ (.tail _ (.tail _ hr4))))) (by decide) (by decide) rfl ?_
        refine CEnd.intro F3 N3 _ (own3 (.head _) (.tail _ (.head _)) (.tail _ (.tail _ (.head _)))) (fun p hp => .tail _ (.tail _ (.tail _ hp))) hn3 ⟨rfl, ?_⟩
        rw [← List.take_append_getElem hi, List.map_append]
        exact hys.append (.cons _ _ .nil)
      · rintro ys nw D h3 tk3 ⟨rfl, hys⟩ F3 N3 hn3
        rw [hul, List.take_length] at hys
        dsimp only
        k_steps
        refine hold_out ?_
        refine sumK rfl F3 N3 (news_list N3 (.head _)) hys ?_
        intro h7 tk7 t7 F7 N7
        replace N7 : News h₀ L h7 ((I, o) :: (L + 1 + 1 + 1 + 1 + 1, _) :: rs) := fun p hp => N7 p (.tail _ hp)
        clear F3 N3 hn3
        (try dsimp only)
        have fin2 : ∀ (h8 : Heap) (tk8 : Nat) (o8 : Obj) (v8 : Option Value), Fr h₀ L h8 (fun y => if y = Str.ofString "ties" then some (.ref tl) else if y = Str.ofString "kept" then some (.ref kl) else m₁ y) → News h₀ L h8 ((I, o) :: (L + 1 + 1 + 1 + 1 + 1, o8) :: rs) → o8.data = .cell v8 →
            TEnd h₀ L [(I, o)] (fun m₁ nx => m₁ (Str.ofString "ties") = some (.ref tl) ∧ m₁ (Str.ofString "kept") = some (.ref kl) ∧ ∃ oL vL, nx = (L + 1 + 1 + 1 + 1 + 1, oL) :: rs ∧ oL.data = .cell vL) { heap := h, gens := s.gens, drawn := s.drawn, toks := tk2, os := s.os } (fun f s' => match f with
              | Flow.next => wpAny (model prg w) (callerA.deeper (lawEnv fa L ccd)) (execs (lawBody.drop 13) (lawEnv fa L ccd)) Q (fun _ _ => False) s'
              | f => Q f s') .next { heap := h8, gens := s.gens, drawn := s.drawn, toks := tk8, os := s.os } := fun h8 tk8 o8 v8 F8 N8 d8 =>
          TEnd.next F8 N8 ((L + 1 + 1 + 1 + 1 + 1, o8) :: rs) (fun p hp => by rw [List.mem_singleton.mp hp]; exact .head _) (fun p hp => .tail _ hp) (fun p hp q hq => by
            rw [List.mem_singleton.mp hq]
            rcases List.mem_cons.mp hp with rfl | hp
            · exact Ne.symm hne
            · exact hIn p (.tail _ hp)) ⟨rfl, rfl, o8, v8, rfl, d8⟩
        k_steps
        · refine hold_out ?_
          refine noE' ?_
          have hlot := hlot (by assumption)
          obtain ⟨c0, hc0, hway0⟩ := hlot
          refine listComp_S (h₀ := h₀) (L := L) (m := fun y => if y = Str.ofString "ties" then some (.ref tl) else if y = Str.ofString "kept" then some (.ref kl) else m₁ y) (by with_unfolding_all rfl) (by decide) (by rfl) (by decide) (by rfl) ?_
          k_steps
          refine ⟨l, tP, (I, o) :: (L + 1 + 1 + 1 + 1 + 1, _) :: rs, fun i ys nw => nw = (I, o) :: (L + 1 + 1 + 1 + 1 + 1, _) :: rs ∧ LSm.BoolsAre ys ((l.take i).map fun c => (way lot i0 c).isSome), rfl, rfl, by omega, F7, N7, ⟨rfl, .nil⟩, ?_, ?_⟩
          · rintro i ys nw c uu I2 oI C oC D5 m₂ h3 tk3 hc ⟨rfl, hys⟩ hC hx F3 N3 hn3 ⟨ne1, ne2, ne3⟩
            k_steps
            refine hold_out ?_
            refine item_sub (l := l) (k := 0) rfl (by omega) hi0 ?_
            k_steps
            refine hold_out ?_
            refine noE' ?_
            k_dflt (refine' tell_use (way_tell w (lot.length + 1) lot (Nat.lt_succ_self _) (by omega) (fun p hp => htn p (hlsub.subset hp)) rl xn xs i0 c _ _ ((I2, oI) :: (C, oC) :: (D5, LCg.lst ys) :: (I, o) :: (L + 1 + 1 + 1 + 1 + 1, _) :: rs) (.tail _ (.tail _ (.tail _ (.tail _ (.tail _ hr))))) (DatAll.mono (fun p hp => .tail _ (.tail _ (.tail _ (.tail _ (.tail _ hp))))) hxs)) ?k1 ?k2 ?k3 ?k4 ?k5 ?k6 ?k7 ?k8 ?k9 ?_; (case k1 => k_asm); (case k2 => k_asm); (case k3 => k_asm); (case k4 => k_asm); (case k5 => k_asm); (case k6 => exact rfl); (case k7 => k_room); (case k8 => k_units); (case k9 => exact ⟨(show @LT.lt Nat _ _ _ by (try dsimp only); omega), (show @LT.lt Nat _ _ _ by (try dsimp only); omega)⟩))
            intro r9 tl9 h9 tk9 hkk F9 N9 hl9 ho9
            replace N9 : News h₀ L h9 ((I2, oI) :: (C, oC) :: (D5, LCg.lst ys) :: (I, o) :: (L + 1 + 1 + 1 + 1 + 1, _) :: rs) := fun p hp => N9 p (List.mem_append_left _ hp)
            have hic := (List.getElem?_eq_some_iff.mp hc)
            obtain ⟨hi, hic⟩ := hic
            have hend : ∀ b : Bool, b = (way lot i0 c).isSome → LSm.BoolsAre (ys ++ [.bool b]) ((l.take (i + 1)).map fun c => (way lot i0 c).isSome) := by
              rintro b rfl
              rw [← List.take_append_getElem hi, List.map_append, hic]
              exact boolsAre_snoc hys _
            (try dsimp only)
            cases hw : way lot i0 c with
            | none =>
              rw [hw] at ho9 hend
              obtain ⟨rfl, rfl⟩ := ho9
              k_steps
              exact CEnd.intro F9 N9 _ (own3 (.head _) (.tail _ (.head _)) (.tail _ (.tail _ (.head _)))) (fun p hp => .tail _ (.tail _ (.tail _ hp))) hn3 ⟨rfl, hend false rfl⟩
            | some ws =>
              rw [hw] at ho9 hend
              obtain ⟨D, us9, kk, rfl, rfl, hus⟩ := ho9
              k_steps
              exact CEnd.intro F9 N9 _ (own3 (.head _) (.tail _ (.head _)) (.tail _ (.tail _ (.head _)))) (fun p hp => .tail _ (.tail _ (.tail _ hp))) hn3 ⟨rfl, hend true rfl⟩
          · rintro ys nw D5 h3 tk3 ⟨rfl, hys⟩ F3 N3 hn3
            rw [List.take_length] at hys
            dsimp only
            k_steps
            refine hold_out ?_
            refine LSm.all_bools F3 N3 rfl (news_list N3 (.head _)) hys ?_
            intro h8 tk8 F8 N8
            rw [show ((l.map fun c => (way lot i0 c).isSome).all id) = false by
              rw [List.all_eq_false]
              exact ⟨(way lot i0 c0).isSome, List.mem_map.mpr ⟨c0, hc0, rfl⟩, by rw [hway0]; decide⟩]
            (try dsimp only)
            k_steps
            exact fin2 _ _ _ _ F8 (fun p hp => N8 p (.tail _ hp)) (by assumption)
        · exact fin2 _ _ _ _ F7 N7 (by assumption)
  · rintro m₁ nx h tk hle2 ⟨f1, f2, oL2, vL2, rfl, dL2⟩ F₂ N₂
    dsimp only
    exact h13 m₁ _ _ Q _ B F₂ X N₂ T ⟨tl, kl, vs, us, n, k, f1, f2, .tail _ htl, .tail _ hkl, DatAll.mono (fun p hp => .tail _ hp) hts, DatAll.mono (fun p hp => .tail _ hp) hks⟩ fun h' tk m' F' => hret h' tk m' F'
end
end Mine
end

section
open PySem PySem.W PyProof.Rows PySem.Spec PySem.Calls
set_option Elab.async false
namespace Mine
/-- the count of unlike signs -/
def dist (l : List (Fin 4)) : Nat := (metUpto l l.length).length
abbrev KS := List (Fin 4) × List Tie
def kstep (st : KS) (t : Tie) : KS := match st.1[t.2.1.val]?, st.1[t.2.2.val]? with
  | some x, some y => if x = y then st else (joinS st.1 x y, st.2 ++ [t])
  | _, _ => st
def krus (l : List (Fin 4)) (ts : List Tie) : KS := ts.foldl kstep (l, [])
theorem kstep_len (st : KS) (t : Tie) : (kstep st t).1.length = st.1.length := by
  unfold kstep
  split
  · split
    · rfl
    · show (joinS _ _ _).length = _
      unfold joinS
      rw [List.length_map]
  · rfl
theorem krus_snoc (l : List (Fin 4)) (ts : List Tie) (t : Tie) : krus l (ts ++ [t]) = kstep (krus l ts) t := by
  unfold krus
  rw [List.foldl_append]
  rfl
theorem foldl_len : ∀ (ts : List Tie) (st : KS), (ts.foldl kstep st).1.length = st.1.length
  | [], _ => rfl
  | t :: ts, st => by rw [List.foldl_cons, foldl_len ts, kstep_len]
theorem krus_len (l : List (Fin 4)) (ts : List Tie) : (krus l ts).1.length = l.length := foldl_len ts _
theorem kstep_kept (st : KS) (t : Tie) : (kstep st t).2.length ≤ st.2.length + 1 := by
  unfold kstep
  split
  · split
    · exact Nat.le_succ _
    · show (st.2 ++ [t]).length ≤ _
      rw [List.length_append]
      exact Nat.le_refl _
  · exact Nat.le_succ _
theorem foldl_kept : ∀ (ts : List Tie) (st : KS), (ts.foldl kstep st).2.length ≤ st.2.length + ts.length
  | [], _ => Nat.le_refl _
  | t :: ts, st => by
    rw [List.foldl_cons, List.length_cons]
    have := foldl_kept ts (kstep st t)
    have := kstep_kept st t
    omega
theorem krus_kept (l : List (Fin 4)) (ts : List Tie) : (krus l ts).2.length ≤ ts.length := by
  have := foldl_kept ts (l, [])
  simpa [krus] using this
end Mine
end

section
open PySem PySem.W PyProof.Rows PySem.Spec PySem.Calls
set_option Elab.async false
set_option maxRecDepth 100000
set_option maxHeartbeats 8000000
namespace Mine
theorem fill22 : (fun (_ : OpenLaw) (_ : Params → Frag) => True) PySem.Challenge.rw_xw0305_01 hd.heap_1 := by
  k_fill
  trivial
local macro_rules | `(tactic| k_room) => `(tactic| ((simp only [ktrTop, depth_mark, depth_under_make, depth_under_kw, depth_in1, depth_deeper, depth_caller, recursionLimit]); omega))
local macro_rules | `(tactic| ktr_room) => `(tactic| k_room)
local macro_rules | `(tactic| k_units) => `(tactic| ((simp only [ktrTop, units_makes, units_in1, units_deeper, Around.mark_units, units_caller, cLine]); omega))
local macro_rules | `(tactic| k_mem) => `(tactic| first | exact List.mem_cons_self | with_reducible assumption | (refine List.mem_cons_of_mem _ ?_; k_mem) | (refine List.mem_append.mpr (Or.inl ?_); k_mem) | (refine List.mem_append.mpr (Or.inr ?_); k_mem))
/-- the places' signs -/
def plc (l : List (Fin 4)) : Prop := l = [0, 1, 2] ∨ l = [0, 1, 2, 3]
open PySem.Builtin PySem.Builtin.Str in
theorem plc_occ3 : ∀ c : Fin 4, c.val < 3 → occurrences (SS [0, 1, 2]) (S1 c) 0 (SS [0, 1, 2]).length 1 = [c.val] := by decide +kernel
open PySem.Builtin PySem.Builtin.Str in
theorem plc_occ4 : ∀ c : Fin 4, c.val < 4 → occurrences (SS [0, 1, 2, 3]) (S1 c) 0 (SS [0, 1, 2, 3]).length 1 = [c.val] := by decide +kernel
theorem plc_index {prog : Program} {w : World} {A : Around} {E : Value → Shared → Prop} {s : Shared} {l : List (Fin 4)} {c : Fin 4} {t u : Tok} {Q : Value → Shared → Prop} (hl : plc l) (hc : c.val < l.length) (h : Q (.int (c.val : Int) s.toks) { s with toks := s.toks + 1 }) :
    wpAny (model prog w) A (call (.builtin "str.index") [.str (SS l) t, .str (S1 c) u]) Q E s := by
  rcases hl with rfl | rfl
  · exact SC.index (plc_occ3 c hc) h
  · exact SC.index (plc_occ4 c hc) h
theorem s1_bne_t : ∀ x y : Fin 4, (S1 x != S1 y) = true → x ≠ y := by decide +kernel
theorem s1_bne_f : ∀ x y : Fin 4, (S1 x != S1 y) = false → x = y := by decide +kernel
section
local macro_rules | `(tactic| k_all) => `(tactic| assumption)
local macro_rules | `(tactic| walk_at "exec For Name Name") => `(tactic| (k_here; refine hold_intro ?_))
local macro_rules | `(tactic| walk_at "exec For Name Name cons nil") => `(tactic| (k_here; refine hold_intro ?_))
local macro_rules | `(tactic| walk_at "pyIter ref") => `(tactic| (k_here; refine hold_intro ?_))
local macro_rules | `(tactic| walk_at "call builtin:len") => `(tactic| (k_here; refine hold_intro ?_))
local macro_rules | `(tactic| walk_at "call builtin:str.index") => `(tactic| (k_here; refine hold_intro ?_))
local macro_rules | `(tactic| walk_at "call type:set") => `(tactic| (k_here; refine hold_intro ?_))
local macro_rules | `(tactic| walk_at "binaryOp Add ref ref") => `(tactic| (k_here; refine hold_intro ?_))
local macro_rules | `(tactic| walk_at "call ref") => `(tactic| (k_here; (with_reducible show wpAny _ _ (call (Value.ref 363) _) _ _ _); refine hold_intro ?_))
local macro_rules | `(tactic| walk_at "subscriptTail") => `(tactic| (k_here; refine hold_intro ?_))
local macro_rules | `(tactic| walk_at "execs cons") => `(tactic| (k_here; refine gen_toks ?_; intro tk htk9; (try dsimp only at htk9)))
local macro_rules | `(tactic| walk_at "execs nil") => `(tactic| (k_here; refine gen_toks ?_; intro tk htk9; (try dsimp only at htk9)))
def C9 (l : List (Fin 4)) (ts : List Tie) (_h₀ : Heap) (m : Str → Option Value) (news : List (Addr × Obj)) (L : Addr) (_tk : Nat) : Prop := ∃ (tl : Addr) (vs : List Value) (n : Nat) (oP oL : Obj) (vL : Option Value) (tP : Tok) (rest : List (Addr × Obj)), m (Str.ofString "ties") = some (.ref tl) ∧
  news = (L + 1 + 1 + 1 + 1 + 1, oL) :: rest ∧ (∀ p ∈ rest, p.1 ≠ L + 1 + 1 + 1 + 1 + 1) ∧ oL.data = .cell vL ∧ (L + 1 + 1, oP) ∈ rest ∧ oP.data = .cell (some (.str (SS l) tP)) ∧
  (tl, listOf vs.toArray n) ∈ rest ∧ DatAll rest vs ((ts.map tieS).map tieD)
set_option maxHeartbeats 4000000 in
theorem seg9 (w : World) (l : List (Fin 4)) (hpl : plc l) (i0 : Fin 4) (ts : List Tie) (hi0 : l[0]? = some i0) (ht6 : ts.length ≤ 6) (htn : ∀ p ∈ ts, p.2.1 ≠ p.2.2 ∧ p.2.1.val < l.length ∧ p.2.2.val < l.length)
    (hchk : ∀ i < ts.length, dist (krus l (ts.take (i + 1))).1 + (krus l (ts.take (i + 1))).2.length = l.length)
    (hk8 : (krus l ts).2.length + 1 = l.length) (hk : ∀ p ∈ (krus l ts).2, p.2.1 ≠ p.2.2) (hlaw : ∀ t ∈ ts, t ∉ (krus l ts).2 → ∃ ws, way (krus l ts).2 t.2.1 t.2.2 = some ws ∧ ws ≠ [] ∧ ∀ x ∈ ws, x ≤ t.1)
    (hlot : ∀ lot ∈ lots ts (l.length - 1), (lot.map (·.1)).sum < ((krus l ts).2.map (·.1)).sum → ∃ c ∈ l, way lot i0 c = none) : Seg w 9 (C9 l ts) := by
  have hl34 : l.length = 3 ∨ l.length = 4 := by rcases hpl with rfl | rfl <;> simp
  intro pp ll mean mg mb fa L ccd A₀ base h₀ m s news Q E B F X N T hC hret
  obtain ⟨tl, vs, n, oP, oL, vL, tP, rest, e1, rfl, hoff, dL, hP, dP, htl, hts⟩ := hC
  refine noE ?_
  have F₁ := fr_ext (m' := fun y => if y = Str.ofString "ties" then some (.ref tl) else m y) F fun y => by rw [ife e1]
  clear F
  have h11 := seg11 w l i0 ts (krus l ts).2 hl34 hi0 ht6 hk8 hk (fun p hp => (htn p hp).1) hlaw hlot pp ll mean mg mb fa L ccd A₀ base h₀
  have hvl := hts.length
  rw [List.length_map, List.length_map] at hvl
  unfold lawEnv at h11 ⊢
  have hS : lawBody.drop 9 = lawBody.drop 9 := rfl
  conv at hS => rhs; whnf
  rw [hS]
  clear hS
  have hE : lawScope = lawScope := rfl
  conv at hE => rhs; whnf
  rw [hE] at h11 ⊢
  clear hE
  k_steps
  refine hold_out ?_
  refine wpAny_For ?_
  k_steps
  refine hold_out ?_
  rename_i kl0 _ ltk _ _ _ _ _ _ Fk Nk tk0 htk0
  refine list_loopT (vs := vs) (n := n) (n0 := s.toks) (fun i m₁ nx => m₁ (Str.ofString "ties") = some (.ref tl) ∧ ∃ kl us k tS, m₁ (Str.ofString "signs") = some (.str (SS (krus l (ts.take i)).1) tS) ∧ m₁ (Str.ofString "kept") = some (.ref kl) ∧ nx = (kl, listOf us.toArray k) :: (L + 1 + 1 + 1 + 1 + 1, oL) :: rest ∧ (@Ne Nat kl (L + 1 + 1 + 1 + 1 + 1)) ∧ DatAll rest us (((krus l (ts.take i)).2.map tieS).map tieD)) rfl (by dsimp only at *; omega) (by k_asm) (news := (kl0, listOf #[] 0) :: (L + 1 + 1 + 1 + 1 + 1, oL) :: rest) (fun p hp => Nk p (.tail _ hp)) (fun i m nx j => ?_) ⟨rfl, kl0, [], 0, tP, rfl, rfl, rfl, Ne.symm (Nat.ne_of_lt ltk.1), .nil⟩ ?_ ?_
  · obtain ⟨_, kl, us, k, tS, _, _, rfl, _⟩ := j
    exact .tail _ (.tail _ htl)
  · rintro i v m₁ nx h tk2 I o hv hle2 ⟨f1, kl, us, k, tS, f2, f3, rfl, hklne, hus⟩ hI hIn F₂ N₂
    have hit : i < ts.length := by
      have := (List.getElem?_eq_some_iff.mp hv).1
      omega
    obtain ⟨v', hv', hDi⟩ := hts.get (k := i) (by rw [List.length_map, List.length_map]; exact hit)
    have ev : v' = v := Option.some.inj (hv'.symm.trans hv)
    subst ev
    rw [List.getElem_map, List.getElem_map] at hDi
    have hchk := hchk i hit
    have hsn : krus l (ts.take (i + 1)) = kstep (krus l (ts.take i)) ts[i] := by rw [← List.take_append_getElem hit, krus_snoc]
    rw [hsn] at hchk
    have hg := krus_len l (ts.take i)
    have hkd := krus_kept l (ts.take i)
    have hkd6 : (ts.take i).length ≤ ts.length := List.length_take_le' ..
    have htin := htn ts[i] (List.getElem_mem hit)
    rw [hsn]
    generalize krus l (ts.take i) = st at *
    obtain ⟨g, kd⟩ := st
    generalize hti : ts[i] = t at *
    obtain ⟨wt, a, b⟩ := t
    obtain ⟨hab, ha, hb⟩ := htin
    obtain ⟨r, rt, ru, rn, rfl, hr⟩ := tie_out hDi
    have F₃ := fr_ext (m' := fun y => if y = Str.ofString "signs" then some (.str (SS g) tS) else if y = Str.ofString "kept" then some (.ref kl) else if y = Str.ofString "ties" then some (.ref tl) else m₁ y) F₂ fun y => by rw [ife f1, ife f3, ife f2]
    clear F₂
    dsimp only at ha hb hg hkd hus
    obtain ⟨x, hx⟩ : ∃ x, g[a.val]? = some x := ⟨_, List.getElem?_eq_getElem (by omega)⟩
    obtain ⟨y, hy⟩ : ∃ y, g[b.val]? = some y := ⟨_, List.getElem?_eq_getElem (by omega)⟩
    have hgl : g.length ≤ 1000 := by omega
    have hkst : kstep (g, kd) (wt, a, b) = if x = y then (g, kd) else (joinS g x y, kd ++ [(wt, a, b)]) := by
      unfold kstep
      simp only [hx, hy]
    rw [hkst] at hchk ⊢
    k_steps
    refine hold_out ?_
    refine item_at (k := 1) (by k_asm) (by k_mem) (by decide) (by decide) rfl ?_
    k_steps
    refine hold_out ?_
    refine item_two0 ?_
    k_steps
    refine hold_out ?_
    refine plc_index hpl ha ?_
    k_steps
    refine hold_out ?_
    refine item_sub rfl hgl hx ?_
    k_steps
    refine hold_out ?_
    refine item_at (k := 1) (by k_asm) (by k_mem) (by decide) (by decide) rfl ?_
    k_steps
    refine hold_out ?_
    refine item_two1 ?_
    k_steps
    refine hold_out ?_
    refine plc_index hpl hb ?_
    k_steps
    refine hold_out ?_
    refine item_sub rfl hgl hy ?_
    k_steps
    · have hxy : x ≠ y := s1_bne_t x y (by assumption)
      rw [if_neg hxy] at hchk ⊢
      refine hold_out ?_
      refine noE' ?_
      k_dflt (refine' tell_use (joined_tell w g x y _ _ _ _ (by omega)) ?k1 ?k2 ?k3 ?k4 ?k5 ?k6 ?k7 ?k8 ?k9 ?_; (case k1 => k_asm); (case k2 => k_asm); (case k3 => k_asm); (case k4 => k_asm); (case k5 => k_asm); (case k6 => exact rfl); (case k7 => k_room); (case k8 => k_units); (case k9 => trivial))
      intro r9 tl9 h9 tk9 hkk F9 N9 hl9 ho9
      obtain ⟨t9, rfl⟩ := ho9
      replace N9 : News h₀ L h9 ((I, o) :: (kl, listOf us.toArray k) :: (L + 1 + 1 + 1 + 1 + 1, oL) :: rest) := fun p hp => N9 p (List.mem_append_left _ (.tail _ hp))
      (try dsimp only)
      k_steps
      refine hold_out ?_
      refine noE' ?_
      (rename News _ _ _ _ => N10)
      have husl := hus.length
      rw [List.length_map, List.length_map] at husl
      refine kmk_add_lit (zs := us ++ [.ref r]) (by k_asm) (by k_asm) (news_list (vs := us) (n := k) N10 (by k_mem)) (news_list (vs := [.ref r]) (n := 0) N10 (by k_mem)) rfl ?_ (by simp only [List.length_append, List.length_cons, List.length_nil, sizeLine_eq]; omega)
      intro D4 h10 F10 N11 l10
      (try dsimp only)
      k_steps
      refine hold_out ?_
      refine noE' ?_
      (rename News _ _ _ _ => N12)
      have hjl : (joinS g x y).length = l.length := by rw [← hg]; unfold joinS; rw [List.length_map]
      refine set_news rfl (by omega) (by k_asm) (N12) ?_
      intro D5 h13 tk13 F13 N13 hS13
      (try dsimp only)
      k_steps
      refine hold_out ?_
      refine noE' ?_
      refine len_set hS13 (by have : (metUpto (joinS g x y) (joinS g x y).length).length ≤ _ := met_len _; rw [List.length_reverse, List.length_take] at this; omega) ?_
      k_steps
      refine hold_out ?_
      refine noE' ?_
      refine len_ss (l := l) (by omega) ?_
      k_steps
      refine hold_out ?_
      refine noE' ?_
      refine call_len_list (news_list (vs := us ++ [.ref r]) (n := 0) N13 (by k_mem)) (by rw [List.size_toArray, List.length_append, List.length_singleton]; omega) ?_
      rw [List.size_toArray, List.length_append, List.length_singleton, husl]
      have hchk2 : (metUpto (joinS g x y) (joinS g x y).length).length + (kd.length + 1) = l.length := by
        have := hchk
        simp only [List.length_append, List.length_singleton] at this
        exact this
      k_steps
      · exfalso
        omega
      try dsimp only
      have hDI : @Ne Nat D4 I := Ne.symm (Nat.ne_of_lt (l10 (I, o) (by k_mem)))
      have hDL : @Ne Nat D4 (L + 1 + 1 + 1 + 1 + 1) := Ne.symm (Nat.ne_of_lt (l10 (L + 1 + 1 + 1 + 1 + 1, oL) (by k_mem)))
      refine TEnd.next (by k_asm) N13 ((D4, listOf (us ++ [Value.ref r]).toArray 0) :: (L + 1 + 1 + 1 + 1 + 1, oL) :: rest) (fun p hp => by rw [List.mem_singleton.mp hp]; k_mem) (fun p hp => ?_) (fun p hp q hq => ?_) ⟨rfl, D4, us ++ [Value.ref r], 0, _, rfl, rfl, rfl, hDL, ?_⟩
      · rcases List.mem_cons.mp hp with rfl | hp
        · k_mem
        · rcases List.mem_cons.mp hp with rfl | hp <;> k_mem
      · rw [List.mem_singleton.mp hq]
        rcases List.mem_cons.mp hp with rfl | hp
        · exact hDI
        · exact hIn p (.tail _ hp)
      · rw [List.map_append, List.map_append]
        exact hus.append (.one hDi)
    · have hxy : x = y := s1_bne_f x y (by assumption)
      rw [if_pos hxy] at hchk ⊢
      refine hold_out ?_
      refine noE' ?_
      (rename News _ _ _ _ => N12)
      have husl := hus.length
      rw [List.length_map, List.length_map] at husl
      refine set_news rfl (by omega) (by k_asm) (N12) ?_
      intro D5 h13 tk13 F13 N13 hS13
      (try dsimp only)
      k_steps
      refine hold_out ?_
      refine noE' ?_
      refine len_set hS13 (by have : (metUpto g g.length).length ≤ _ := met_len _; rw [List.length_reverse, List.length_take] at this; omega) ?_
      k_steps
      refine hold_out ?_
      refine noE' ?_
      refine len_ss (l := l) (by omega) ?_
      k_steps
      refine hold_out ?_
      refine noE' ?_
      refine call_len_list (news_list (vs := us) (n := k) N13 (by k_mem)) (by rw [List.size_toArray]; omega) ?_
      rw [List.size_toArray, husl]
      have hchk2 : (metUpto g g.length).length + kd.length = l.length := hchk
      k_steps
      · exfalso
        omega
      try dsimp only
      refine TEnd.next (by k_asm) N13 ((kl, listOf us.toArray k) :: (L + 1 + 1 + 1 + 1 + 1, oL) :: rest) (fun p hp => by rw [List.mem_singleton.mp hp]; k_mem) (fun p hp => ?_) (fun p hp q hq => ?_) ⟨rfl, kl, us, k, tS, rfl, rfl, rfl, hklne, hus⟩
      · k_mem
      · rw [List.mem_singleton.mp hq]
        exact hIn p hp
  · rintro m₁ nx h tk hle2 ⟨f1, kl, us, k, tS, f2, f3, rfl, hklne, hus⟩ F₂ N₂
    dsimp only
    rw [hvl, List.take_length] at hus
    refine h11 m₁ _ ((L + 1 + 1 + 1 + 1 + 1, oL) :: (kl, listOf us.toArray k) :: rest) Q _ B F₂ X (fun p hp => N₂ p ?_) T ⟨tl, kl, vs, us, n, k, oP, oL, vL, tP, _, f1, f3, rfl, fun p hp => ?_, dL, .tail _ hP, dP, .tail _ htl, .head _, DatAll.mono (fun p hp => .tail _ hp) hts, DatAll.mono (fun p hp => .tail _ hp) hus⟩ fun h' tk m' F' => hret h' tk m' F'
    · simp only [List.mem_cons] at hp ⊢
      grind
    · rcases List.mem_cons.mp hp with rfl | hp
      · exact hklne
      · exact hoff p hp
end
end Mine
end

section
open PySem PySem.W PyProof.Rows PySem.Spec PySem.Calls
set_option Elab.async false
set_option maxRecDepth 100000
namespace Mine
/-- the road through the asks of a sort, by a given answer -/
def runN {α : Type} (n : Nat) (lt : Nat → Nat → Bool) : KasT α → Option α
  | .ret a => some a
  | .ask i j k => if i < n ∧ j < n ∧ i ≠ j then runN n lt (k (lt i j)) else none
def permsF : Nat → List Nat → List (List Nat)
  | 0, _ => [[]]
  | n + 1, l => l.flatMap fun x => (permsF n (l.erase x)).map (x :: ·)
theorem mem_permsF : ∀ (n : Nat) (l q : List Nat), q.Perm l → l.length = n → q ∈ permsF n l
  | 0, l, q, h, e => by
    obtain rfl := List.length_eq_zero_iff.mp e
    rw [h.eq_nil]
    exact .head _
  | n + 1, l, q, h, e => by
    cases q with
    | nil => rw [← h.length_eq] at e; exact nomatch e
    | cons x q =>
      obtain ⟨hx, hq⟩ := List.cons_perm_iff_perm_erase.mp h
      unfold permsF
      refine List.mem_flatMap.mpr ⟨x, hx, List.mem_map.mpr ⟨q, mem_permsF n _ q hq ?_, rfl⟩⟩
      rw [List.length_erase_of_mem hx, e]
      rfl
def ltOf (q : List Nat) (i j : Nat) : Bool := decide (q.idxOf i < q.idxOf j)
def sortsTo (n : Nat) (q : List Nat) : Bool := match runN n (ltOf q) (kas_sort n) with
  | some p => p.toList == q
  | none => false
theorem sorts3 : (permsF 3 [0, 1, 2]).all (sortsTo 3) = true := by decide +kernel
theorem sorts6 : (permsF 6 [0, 1, 2, 3, 4, 5]).all (sortsTo 6) = true := by decide +kernel
theorem sorts_run {n : Nat} (hn : n = 3 ∨ n = 6) {q : List Nat} (hq : q.Perm (List.range n)) : ∃ p, runN n (ltOf q) (kas_sort n) = some p ∧ p.toList = q := by
  have h : sortsTo n q = true := by
    rcases hn with rfl | rfl
    · exact List.all_eq_true.mp sorts3 q (mem_permsF 3 _ q hq rfl)
    · exact List.all_eq_true.mp sorts6 q (mem_permsF 6 _ q hq rfl)
  unfold sortsTo at h
  split at h
  · next p hp => exact ⟨p, hp, eq_of_beq h⟩
  · exact nomatch h
theorem runN_congr {α : Type} {n : Nat} {lt lt' : Nat → Nat → Bool} (h : ∀ i j, i < n → j < n → i ≠ j → lt i j = lt' i j) : ∀ t : KasT α, runN n lt t = runN n lt' t
  | .ret _ => rfl
  | .ask i j k => by
    unfold runN
    split
    · next hc => rw [h i j hc.1 hc.2.1 hc.2.2]; exact runN_congr h _
    · rfl
theorem run_kasWp {α : Type} {n : Nat} {lt : Nat → Nat → Bool} {cmp : Nat → Nat → (Bool → Shared → Prop) → Shared → Prop} {s : Shared} (hc : ∀ i j C, i < n → j < n → i ≠ j → C (lt i j) s → cmp i j C s) {Q : α → Shared → Prop} :
    ∀ (t : KasT α) (a : α), runN n lt t = some a → Q a s → t.kasWp cmp Q s
  | .ret b, a, h, hq => by
    obtain rfl := Option.some.inj h
    exact hq
  | .ask i j k, a, h, hq => by
    unfold runN at h
    split at h
    · next hb => exact hc i j _ hb.1 hb.2.1 hb.2.2 (run_kasWp hc (k (lt i j)) a h hq)
    · exact nomatch h
/-- the places in the order of their keys -/
def order (n : Nat) (K : Nat → Int) : List Nat := (List.range n).mergeSort fun i j => decide (K i ≤ K j)
theorem order_perm (n : Nat) (K : Nat → Int) : (order n K).Perm (List.range n) := List.mergeSort_perm _ _
theorem order_sorted (n : Nat) (K : Nat → Int) : (order n K).Pairwise fun i j => K i ≤ K j := by
  have := List.pairwise_mergeSort (le := fun i j => decide (K i ≤ K j)) (fun a b c h1 h2 => by simp only [decide_eq_true_eq] at *; omega) (fun a b => by simp only [Bool.or_eq_true, decide_eq_true_eq]; omega) (List.range n)
  exact this.imp fun h => of_decide_eq_true h
theorem order_lt {n : Nat} {K : Nat → Int} (hK : ∀ i j, i < n → j < n → K i = K j → i = j) {i j : Nat} (hi : i < n) (hj : j < n) (hij : i ≠ j) : decide (K i < K j) = ltOf (order n K) i j := by
  have hp := order_perm n K
  have mi : (order n K).idxOf i < (order n K).length := List.idxOf_lt_length_iff.mpr (hp.mem_iff.mpr (List.mem_range.mpr hi))
  have mj : (order n K).idxOf j < (order n K).length := List.idxOf_lt_length_iff.mpr (hp.mem_iff.mpr (List.mem_range.mpr hj))
  have hs := List.pairwise_iff_getElem.mp (order_sorted n K)
  have ei := List.getElem_idxOf mi
  have ej := List.getElem_idxOf mj
  have hne : K i ≠ K j := fun e => hij (hK i j hi hj e)
  unfold ltOf
  by_cases h : (order n K).idxOf i < (order n K).idxOf j
  · have := hs _ _ mi mj h
    rw [ei, ej] at this
    rw [decide_eq_true h, decide_eq_true (by omega)]
  · by_cases h2 : (order n K).idxOf j < (order n K).idxOf i
    · have := hs _ _ mj mi h2
      rw [ei, ej] at this
      rw [decide_eq_false h, decide_eq_false (by omega)]
    · have e : (order n K).idxOf i = (order n K).idxOf j := by omega
      have : i = j := by
        rw [← ei, ← ej]
        simp only [e]
      exact absurd this hij
theorem kas_order {n : Nat} (hn : n = 3 ∨ n = 6) {K : Nat → Int} (hK : ∀ i j, i < n → j < n → K i = K j → i = j) {cmp : Nat → Nat → (Bool → Shared → Prop) → Shared → Prop} {s : Shared}
    (hc : ∀ i j C, i < n → j < n → i ≠ j → C (decide (K i < K j)) s → cmp i j C s) {Q : Array Nat → Shared → Prop} (hQ : ∀ p : Array Nat, p.toList = order n K → Q p s) : (kas_sort n).kasWp cmp Q s := by
  obtain ⟨p, hp, e⟩ := sorts_run hn (order_perm n K)
  rw [← runN_congr (lt := fun i j => decide (K i < K j)) fun i j hi hj hij => order_lt hK hi hj hij] at hp
  exact run_kasWp hc _ p hp (hQ p e)
end Mine
end

section
open PySem PySem.W PyProof.Rows PySem.Spec PySem.Calls
set_option Elab.async false
set_option maxRecDepth 100000
set_option maxHeartbeats 800000
namespace Mine
theorem s2_lt : ∀ a b c d : Fin 4, decide ((S2 a b).cps.toList < (S2 c d).cps.toList) = decide (4 * a.val + b.val < 4 * c.val + d.val) := by decide +kernel
def tkey (t : Tie) : Int := 16 * t.1 + ((4 * t.2.1.val + t.2.2.val : Nat) : Int)
theorem tkey_inj {t u : Tie} (h : tkey t = tkey u) : t = u := by
  obtain ⟨w, a, b⟩ := t
  obtain ⟨v, c, d⟩ := u
  unfold tkey at h
  dsimp only at h
  have ha := a.isLt
  have hb := b.isLt
  have hc := c.isLt
  have hd := d.isLt
  have e1 : w = v := by omega
  have e2 : a.val = c.val := by omega
  have e3 : b.val = d.val := by omega
  rw [e1, Fin.ext e2, Fin.ext e3]
theorem tie_cmp (t u : Tie) : tieLt (tieS t) (tieS u) = decide (tkey t < tkey u) := by
  obtain ⟨w, a, b⟩ := t
  obtain ⟨v, c, d⟩ := u
  unfold tieLt tieS tkey
  dsimp only
  have ha := a.isLt
  have hb := b.isLt
  have hc := c.isLt
  have hd := d.isLt
  split
  · next e =>
    subst e
    rw [s2_lt]
    by_cases h : 4 * a.val + b.val < 4 * c.val + d.val
    · rw [decide_eq_true h, decide_eq_true (by omega)]
    · rw [decide_eq_false h, decide_eq_false (by omega)]
  · next e =>
    by_cases h : w < v
    · rw [decide_eq_true h, decide_eq_true (by omega)]
    · rw [decide_eq_false h, decide_eq_false (by omega)]
def tK (ts : List Tie) (i : Nat) : Int := tkey (ts.getD i default)
/-- the ties in the order of sorted() -/
def tsort (ts : List Tie) : List Tie := (order ts.length (tK ts)).map fun i => ts.getD i default
theorem map_getD {α : Type} (d : α) : ∀ l : List α, (List.range l.length).map (fun i => l.getD i d) = l := fun l => by
  refine List.ext_getElem (by simp) fun i h1 h2 => ?_
  simp [h2]
theorem tsort_perm (ts : List Tie) : (tsort ts).Perm ts := by
  have h := (order_perm ts.length (tK ts)).map fun i => ts.getD i default
  rw [map_getD] at h
  exact h
theorem tsort_sorted (ts : List Tie) : (tsort ts).Pairwise fun t u => tkey t ≤ tkey u := by
  unfold tsort
  rw [List.pairwise_map]
  exact order_sorted ts.length (tK ts)
theorem tsort_eq {ts rs : List Tie} (h : ts.Perm rs) : tsort ts = tsort rs :=
  List.Perm.eq_of_pairwise (le := fun t u => tkey t ≤ tkey u) (fun _ _ _ _ h1 h2 => tkey_inj (Int.le_antisymm h1 h2)) (tsort_sorted ts) (tsort_sorted rs) (((tsort_perm ts).trans h).trans (tsort_perm rs).symm)
theorem datAll_pick {news : List (Addr × Obj)} {vs : List Value} {ts : List Tie} (hd : DatAll news vs ((ts.map tieS).map tieD)) : ∀ q : List Nat, (∀ i ∈ q, i < ts.length) → DatAll news (q.map fun i => vs.getD i Value.none) (((q.map fun i => ts.getD i default).map tieS).map tieD)
  | [], _ => .nil
  | i :: q, h => by
    have hi := h i (.head _)
    obtain ⟨v, hv, hD⟩ := hd.get (k := i) (by rw [List.length_map, List.length_map]; exact hi)
    rw [List.getElem_map, List.getElem_map] at hD
    refine .cons ?_ (datAll_pick hd q fun j hj => h j (.tail _ hj))
    have e1 : vs.getD i Value.none = v := by rw [List.getD_eq_getElem?_getD, hv]; rfl
    have e2 : ts.getD i default = ts[i] := by simp [hi]
    show DatIn news (vs.getD i Value.none) (tieD (tieS (ts.getD i default)))
    rw [e1, e2]
    exact hD
section
variable {prog : Program} {w : World} {A : Around} {E : Value → Shared → Prop} {s : Shared} {h₀ : Heap} {L l : Addr} {m : Str → Option Value} {news : List (Addr × Obj)} {vs : List Value} {n : Nat} {Q : Value → Shared → Prop}
theorem looks_list {h : Heap} {a : Addr} {o : Obj} (ho : h.get? a = some o) (hc : o.cls = .type "list") : Looks (model prog w) h (typeOf (.ref a)) (.type "list") :=
  fun _ _ _ _ k q => wpAny_typeOf ⟨o, k _ _ ho, hc⟩ q
theorem sorted_ties {ts : List Tie} (F : Fr h₀ L s.heap m) (N : News h₀ L s.heap news) (hm : (l, listOf vs.toArray n) ∈ news) (hd : DatAll news vs ((ts.map tieS).map tieD)) (h36 : ts.length = 3 ∨ ts.length = 6)
    (hnd : ∀ i j (hi : i < ts.length) (hj : j < ts.length), i ≠ j → ts[i].2 ≠ ts[j].2) (hu : A.in1.in1.units < cLine)
    (h : ∀ D us c h', Fr h₀ L h' m → News h₀ L h' ((D, listOf us.toArray c) :: news) → (∀ q ∈ news, q.1 < D) → DatAll news us (((tsort ts).map tieS).map tieD) → Q (.ref D) { s with heap := h' }) :
    wpAny (model prog w) A (call (.builtin "sorted") [.ref l]) Q E s := by
  have hvl := hd.length
  rw [List.length_map, List.length_map] at hvl
  have hget : ∀ i, (hi : i < ts.length) → ∃ a t u k, vs.getD i Value.none = .ref a ∧ vs[i]? = some (.ref a) ∧ (a, listOf #[.int ts[i].1 t, .str (S2 ts[i].2.1 ts[i].2.2) u] k) ∈ news := fun i hi => by
    obtain ⟨v, hv, hD⟩ := hd.get (k := i) (by rw [List.length_map, List.length_map]; exact hi)
    rw [List.getElem_map, List.getElem_map] at hD
    obtain ⟨a, t, u, k, rfl, hr⟩ := tie_out hD
    exact ⟨a, t, u, k, by rw [List.getD_eq_getElem?_getD, hv]; rfl, hv, hr⟩
  refine kas_sorted (T := .type "list") F N (news_list N hm) (by omega) (by omega) (fun h' F' N' v hv => ?_) (by rfl) ?_
  · obtain ⟨i, hi, rfl⟩ := List.mem_iff_getElem.mp hv
    obtain ⟨a, t, u, k, _, e, hr⟩ := hget i (by omega)
    rw [List.getElem?_eq_getElem hi] at e
    rw [Option.some.inj e]
    exact looks_list (N' _ hr).1 rfl
  · intro D e1 h' F' N' l1
    rw [hvl]
    refine kas_order h36 (K := tK ts) (fun i j hi hj e => ?_) (fun i j C hi hj hij hC => ?_) fun p hp => ?_
    · have e := tkey_inj e
      simp only [List.getD_eq_getElem?_getD, List.getElem?_eq_getElem hi, List.getElem?_eq_getElem hj, Option.getD_some] at e
      by_cases hij : i = j
      · exact hij
      · exact absurd (congrArg Prod.snd e) (hnd i j hi hj hij)
    · obtain ⟨a, t, u, k, ea, _, ha⟩ := hget i hi
      obtain ⟨b, t2, u2, k2, eb, _, hb⟩ := hget j hj
      unfold kas_ask
      rw [ea, eb]
      refine keyLt_tie hu (N' _ (.tail _ ha)).1 rfl rfl (N' _ (.tail _ hb)).1 rfl rfl (fun e => ?_) ?_
      · obtain ⟨e2, e3⟩ := s2_inj _ _ _ _ e
        exact hnd i j hi hj hij (Prod.ext e2 e3)
      · have e3 := tie_cmp ts[i] ts[j]
        unfold tK at hC
        simp only [List.getD_eq_getElem?_getD, List.getElem?_eq_getElem hi, List.getElem?_eq_getElem hj, Option.getD_some] at hC
        rw [← e3] at hC
        exact hC
    · rw [hp]
      refine KasFin.intro F' N' (.head fun q hq => Nat.ne_of_lt (l1 q hq)) fun h2 c F2 N2 => ?_
      refine h D _ c h2 F2 N2 l1 (datAll_pick hd _ fun i hi => ?_)
      exact List.mem_range.mp ((order_perm ts.length (tK ts)).mem_iff.mp hi)
end
end Mine
end

section
open PySem PySem.W PyProof.Rows PySem.Spec PySem.Calls
set_option Elab.async false
set_option maxRecDepth 100000
set_option maxHeartbeats 8000000
namespace Mine
theorem fill23 : (fun (_ : OpenLaw) (_ : Params → Frag) => True) PySem.Challenge.rw_xw0305_01 hd.heap_1 := by
  k_fill
  trivial
local macro_rules | `(tactic| k_room) => `(tactic| ((simp only [ktrTop, depth_mark, depth_under_make, depth_under_kw, depth_in1, depth_deeper, depth_caller, recursionLimit]); omega))
local macro_rules | `(tactic| ktr_room) => `(tactic| k_room)
local macro_rules | `(tactic| k_units) => `(tactic| ((simp only [ktrTop, units_makes, units_in1, units_deeper, Around.mark_units, units_caller, cLine]); omega))
local macro_rules | `(tactic| k_mem) => `(tactic| first | exact List.mem_cons_self | with_reducible assumption | (refine List.mem_cons_of_mem _ ?_; k_mem) | (refine List.mem_append.mpr (Or.inl ?_); k_mem) | (refine List.mem_append.mpr (Or.inr ?_); k_mem))
theorem datAll_ints : ∀ {vs : List Value} {ns : List Int}, IntsAre vs ns → DatAll [] vs (ns.map Dat.int)
  | _, _, .nil => .nil
  | _, _, .cons i t r => .cons (.int i t) (datAll_ints r)
theorem ints_ok {ns : List Int} : ∀ d ∈ ns.map Dat.int, kqdOk 8 d = true := fun d hd => by
  obtain ⟨i, _, rfl⟩ := List.mem_map.mp hd
  simp [kqdOk]
section
local macro_rules | `(tactic| k_all) => `(tactic| assumption)
local macro_rules | `(tactic| walk_at "call builtin:sorted") => `(tactic| (k_here; refine hold_intro ?_))
local macro_rules | `(tactic| walk_at "compareOp NotEq ref ref") => `(tactic| (k_here; refine hold_intro ?_))
local macro_rules | `(tactic| walk_at "execs cons") => `(tactic| (k_here; refine gen_toks ?_; intro tk htk9; (try dsimp only at htk9)))
local macro_rules | `(tactic| walk_at "execs nil") => `(tactic| (k_here; refine hold_intro ?_))
def C8 (l : List (Fin 4)) (ts rs : List Tie) (_h₀ : Heap) (m : Str → Option Value) (news : List (Addr × Obj)) (L : Addr) (_tk : Nat) : Prop := ∃ (tl rl wl : Addr) (vs us ws : List Value) (n k j : Nat) (oP oL : Obj) (vL : Option Value) (tP : Tok) (rest : List (Addr × Obj)), m (Str.ofString "ties") = some (.ref tl) ∧ m (Str.ofString "rows") = some (.ref rl) ∧ m (Str.ofString "weights") = some (.ref wl) ∧
  news = (L + 1 + 1 + 1 + 1 + 1, oL) :: rest ∧ (∀ p ∈ rest, p.1 ≠ L + 1 + 1 + 1 + 1 + 1) ∧ oL.data = .cell vL ∧ (L + 1 + 1, oP) ∈ rest ∧ oP.data = .cell (some (.str (SS l) tP)) ∧
  (tl, listOf vs.toArray n) ∈ rest ∧ DatAll rest vs ((ts.map tieS).map tieD) ∧ (rl, listOf us.toArray k) ∈ rest ∧ DatAll rest us ((rs.map tieS).map tieD) ∧ (wl, listOf ws.toArray j) ∈ rest ∧ IntsAre ws (ts.map (·.1))
open Classical in
set_option maxHeartbeats 4000000 in
theorem seg8 (w : World) (l : List (Fin 4)) (ts rs : List Tie) (h36 : ts.length = 3 ∨ ts.length = 6) (hperm : ts.Perm rs) (hsort : (ts.map (·.1)).Pairwise (· ≤ ·)) (hnd : ∀ us : List Tie, us.Perm rs → ∀ i j (hi : i < us.length) (hj : j < us.length), i ≠ j → us[i].2 ≠ us[j].2)
    (h9 : Seg w 9 (C9 l ts)) : Seg w 8 (C8 l ts rs) := by
  intro pp ll mean mg mb fa L ccd A₀ base h₀ m s news Q E B F X N T hC hret
  obtain ⟨tl, rl, wl, vs, us, ws, n, k, j, oP, oL, vL, tP, rest, e1, e2, e3, rfl, hoff, dL, hP, dP, htl, hts, hrl, hrs, hwl, hws⟩ := hC
  refine noE ?_
  have F₁ := fr_ext (m' := fun y => if y = Str.ofString "ties" then some (.ref tl) else if y = Str.ofString "rows" then some (.ref rl) else if y = Str.ofString "weights" then some (.ref wl) else m y) F fun y => by rw [ife e3, ife e2, ife e1]
  clear F
  have h9 := h9 pp ll mean mg mb fa L ccd A₀ base h₀
  have hplen := hperm.length_eq
  unfold lawEnv at h9 ⊢
  have hS : lawBody.drop 8 = lawBody.drop 8 := rfl
  conv at hS => rhs; whnf
  rw [hS]
  clear hS
  have hE : lawScope = lawScope := rfl
  conv at hE => rhs; whnf
  rw [hE] at h9 ⊢
  clear hE
  k_steps
  refine hold_out ?_
  refine kso_sorted F₁ N (news_list N (.tail _ hwl)) hws (by rw [List.length_map]; omega) ?_
  intro D vs1 ns1 c1 h1 F2 N2 l1 hi1 hl1 hp1 hs1 _
  obtain rfl : ns1 = ts.map (·.1) := hp1.eq_of_pairwise (fun _ _ _ _ h1 h2 => Int.le_antisymm h1 h2) hs1 hsort
  (try dsimp only)
  k_steps
  refine hold_out ?_
  refine kqd_ne N2 (.tail _ (.tail _ hwl)) rfl rfl (datAll_ints hws) (fun _ h => nomatch h) (.head _) rfl rfl (datAll_ints hi1) (fun _ h => nomatch h) ints_ok ints_ok (by k_units) ?_
  rw [decide_eq_true rfl]
  k_steps
  refine hold_out ?_
  (rename News _ _ _ _ => N3)
  refine sorted_ties (by k_asm) N3 (.tail _ (.tail _ htl)) (DatAll.mono (fun p hp => .tail _ (.tail _ hp)) hts) h36 (hnd ts hperm) (by k_units) ?_
  intro D2 us2 c2 h4 F4 N4 l4 hd4
  (try dsimp only)
  k_steps
  refine hold_out ?_
  refine sorted_ties (by k_asm) N4 (.tail _ (.tail _ (.tail _ hrl))) (DatAll.mono (fun p hp => .tail _ (.tail _ (.tail _ hp))) hrs) (by omega) (hnd rs (.refl _)) (by k_units) ?_
  intro D3 us3 c3 h5 F5 N5 l5 hd5
  (try dsimp only)
  k_steps
  refine hold_out ?_
  refine kqd_ne N5 (.tail _ (.head _)) rfl rfl hd4 (fun p hp => .tail _ (.tail _ hp)) (.head _) rfl rfl hd5 (fun p hp => .tail _ hp) tie_ok tie_ok (by k_units) ?_
  rw [tsort_eq hperm, decide_eq_true rfl]
  k_steps
  refine hold_out ?_
  refine wpAny_execs_nil ?_
  (try dsimp only)
  (rename News _ _ _ _ => N6)
  (rename Fr _ _ _ _ => F6)
  have N7 : News h₀ L _ ((L + 1 + 1 + 1 + 1 + 1, oL) :: rest) := fun p hp => N6 p (.tail _ (.tail _ (.tail _ hp)))
  refine h9 _ _ _ Q _ B F6 X N7 T ⟨tl, vs, n, oP, oL, vL, tP, rest, rfl, rfl, hoff, dL, hP, dP, htl, hts⟩ fun h' tk m' F' => hret h' tk m' F'
end
end Mine
end

section
open PySem PySem.W PyProof.Rows PySem.Spec PySem.Calls
set_option Elab.async false
set_option maxRecDepth 100000
set_option maxHeartbeats 400000
namespace Mine
section
variable {prog : Program} {w : World} {A : Around} {h₀ : Heap} {L : Addr} {m : Str → Option Value} {env : Env} {elt : Expr} {x y : Str} {scope : Scope} {cl : List (Str × Addr)}
theorem comp_ledgerA {s₁ : Shared} {ax : Addr} {its : List Value} {k : Nat} {news : List (Addr × Obj)} {Q : Flow → Shared → Prop} (J : Nat → List Value → List (Addr × Obj) → Prop)
    (hh : A.handled = none) (F : Fr h₀ L s₁.heap m) (N : News h₀ L s₁.heap news) (hm : ∀ i ys nw, J i ys nw → (ax, listOf its.toArray k) ∈ nw) (hsz : its.length ≤ 1000) (h0 : J 0 [] news)
    (step : ∀ i ys nw v I oI C oC D m₂ h tk, its[i]? = some v → J i ys nw → LCg.NsObj oC m₂ → m₂ x = some v → Fr h₀ L h m → News h₀ L h ((I, oI) :: (C, oC) :: (D, LCg.lst ys) :: nw) → (∀ p ∈ nw, ∀ q ∈ [(I, oI), (C, oC), (D, LCg.lst ys)], p.1 ≠ q.1) → ((@Ne Nat I C) ∧ (@Ne Nat I D) ∧ (@Ne Nat C D)) →
      wpAny (model prog w) A (eval elt (compEnvC scope cl C env)) (CEnd h₀ L m [(I, oI), (C, oC), (D, LCg.lst ys)] (fun y nw' => J (i + 1) (ys ++ [y]) nw') { s₁ with heap := h, toks := tk }) (fun _ _ => False) { s₁ with heap := h, toks := tk })
    (fin : ∀ ys nw D h tk, J its.length ys nw → Fr h₀ L h (fun z => if z = y then some (.ref D) else m z) → News h₀ L h ((D, LCg.lst ys) :: nw) → (∀ p ∈ nw, p.1 ≠ D) → Q .next { s₁ with heap := h, toks := tk }) :
    LCg.CompSrc prog w A h₀ L m env elt x scope cl (fun s₂ => LCg.FinA h₀ L m s₂ y Q) (.ref ax) s₁ := by
  refine LCg.CompSrc.ledger hh F N (hm _ _ _ h0) (by rw [List.size_toArray, sizeLine_eq]; omega) fun g => ?_
  refine comp_ind (s := { s₁ with heap := g }) (J := J) (n := its.toArray.size) (fun i ys nw j => .inr ⟨_, hm _ _ _ j, rfl, _, rfl⟩) ?_ ?_ _ 0 [] news (by simp) h0
  · intro i ys nw v I oI C oC D m₂ h tk hi hv
    exact step i ys nw v I oI C oC D m₂ h tk (by simpa using hv)
  · intro ys nw j D h tk F' N' off
    exact fin ys nw D h tk (by simpa using j) F' N' (off_one off)
theorem comp_rangeA {s₁ : Shared} {r : Addr} {t u v₀ : Tok} {n : Nat} {b : Int} {news : List (Addr × Obj)} {Q : Flow → Shared → Prop} (J : Nat → List Value → List (Addr × Obj) → Prop)
    (hh : A.handled = none) (F : Fr h₀ L s₁.heap m) (N : News h₀ L s₁.heap news) (hr : IsRange s₁.heap r 0 b 1 t u v₀) (hsm : Builtin.Range.small 0 b 1 = true) (hn : Builtin.Range.rangeSize 0 b 1 = ((n : Nat) : Int)) (hsz : n ≤ 1000) (h0 : J 0 [] news)
    (step : ∀ i t ys nw I oI C oC D m₂ h tk, i < n → J i ys nw → LCg.NsObj oC m₂ → m₂ x = some (.int (i : Int) t) → Fr h₀ L h m → News h₀ L h ((I, oI) :: (C, oC) :: (D, LCg.lst ys) :: nw) → (∀ p ∈ nw, ∀ q ∈ [(I, oI), (C, oC), (D, LCg.lst ys)], p.1 ≠ q.1) → ((@Ne Nat I C) ∧ (@Ne Nat I D) ∧ (@Ne Nat C D)) →
      wpAny (model prog w) A (eval elt (compEnvC scope cl C env)) (CEnd h₀ L m [(I, oI), (C, oC), (D, LCg.lst ys)] (fun y nw' => J (i + 1) (ys ++ [y]) nw') { s₁ with heap := h, toks := tk }) (fun _ _ => False) { s₁ with heap := h, toks := tk })
    (fin : ∀ ys nw D h tk, J n ys nw → Fr h₀ L h (fun z => if z = y then some (.ref D) else m z) → News h₀ L h ((D, LCg.lst ys) :: nw) → (∀ p ∈ nw, p.1 ≠ D) → Q .next { s₁ with heap := h, toks := tk }) :
    LCg.CompSrc prog w A h₀ L m env elt x scope cl (fun s₂ => LCg.FinA h₀ L m s₂ y Q) (.ref r) s₁ := by
  refine LCg.CompSrc.range hh F N hr hsm hn (by rw [sizeLine_eq]; omega) fun g => ?_
  refine comp_ind (s := { s₁ with heap := g }) (J := J) (n := n) (fun _ _ _ _ => trivial) ?_ ?_ _ 0 [] news (by simp) h0
  · rintro i ys nw v I oI C oC D m₂ h tk hi ⟨t', rfl⟩ j hC hx
    exact step i t' ys nw I oI C oC D m₂ h tk hi j hC (by rw [hx, Int.zero_add])
  · intro ys nw j D h tk F' N' off
    exact fin ys nw D h tk j F' N' (off_one off)
end
section
variable {prog : Program} {w : World} {A : Around} {E : Value → Shared → Prop} {s : Shared} {env : Env} {h₀ : Heap} {L : Addr} {m : Str → Option Value}
theorem assignComp_W {elt iter : Expr} {x y : Str} {px py : Pos} {scope : Scope} {cl : List (Str × Addr)} {pos spos : Pos} {Q : Flow → Shared → Prop} (hLe : env.locals = L)
    (hsw : swapsWith (.ListComp elt [⟨.Name x px, iter, [], 0⟩] scope pos) (some (.Name y py)) spos.line env = pure true)
    (hclos : closureFor scope env = pure cl) (hcell : ∀ y ∈ scope.names, y.2 ≠ .cell) (hkind : scope.kind = .function)
    (hnames : ∀ y ∈ scope.names, y.2 = .local → scope.names.lookup y.1 = some .local) (hx : scope.names.lookup x = some .local)
    (hy : env.kindOf y = some .local) (hp : (env.scope.kind == .class || (env.scope.kind == .module && env.locals != env.globals)) = false)
    (h : wpAny (model prog w) A (eval iter env) (fun xv s₁ => ∃ (o : Obj) (n : Nat) (P : Nat → Value → Prop) (St : Nat → Heap → Prop) (news : List (Addr × Obj)),
      (∀ Q' : Value → Shared → Prop, Q' (.ref s₁.heap.objs.size) { s₁ with heap := s₁.heap.push o } → wpAny (model prog w) A (pyIter xv) Q' E s₁) ∧ Walks prog w A s₁.heap.objs.size [s₁.heap.objs.size] [s₁.heap.objs.size] n P St ∧ n ≤ 1000 ∧
      (∀ i h, St i h → ∃ o, h.get? s₁.heap.objs.size = some o) ∧ (∀ i h h' o, St i h → h.get? s₁.heap.objs.size = some o → h'.get? s₁.heap.objs.size = some o → St i h') ∧ St 0 (s₁.heap.push o) ∧ Fr h₀ L s₁.heap m ∧ News h₀ L s₁.heap news ∧
      LCg.CompRest prog w A h₀ L m env elt x scope cl { s₁ with heap := s₁.heap.push o } (fun _ => True) P (LCg.FinA h₀ L m { s₁ with heap := s₁.heap.push o } y Q) n 0 [] news) E s)
    (hs : ∀ x, foldedSetIterable iter env x = pure x := by intro _; rfl) :
    wpAny (model prog w) A (exec (.Assign [.Name y py] (.ListComp elt [⟨.Name x px, iter, [], 0⟩] scope pos) spos) env) Q E s := by
  subst hLe
  rw [exec_Assign_Name_used _ _ _ _ hsw]
  refine wpAny_bind (wpAny_standAt (wpAny_bind ?_))
  show wpAny _ A (do let _ ← comprehension (.ListComp elt [⟨.Name x px, iter, [], 0⟩] scope pos) scope env _ (newList []) false (eval iter env) (some (assign (.Name y py) env))) _ _ s
  refine wpAny_bind (wpAny_mono (wpAny_comprehension_free (use := some (assign (.Name y py) env)) (Q := fun _ s' => Q .next s') rfl hs hclos hkind hnames
    (wpAny_mono h (fun xv s₁ h₁ => ?_) fun _ _ e => e)) (fun _ s' hq => wpAny_pure (wpAny_pure hq)) fun _ _ e => e)
  obtain ⟨o, n, P, St, news, hit, W, hsz, hIo, hSt, st, F, N, R⟩ := h₁
  refine hit _ ?_
  have up : ∀ b o', s₁.heap.get? b = some o' → (s₁.heap.push o).get? b = some o' := fun b o' e => Heap.get?_push_of_some _ e
  refine LCg.block_U W (by rw [sizeLine_eq]; omega) hIo (fun i h h' o nw a b c _ _ _ => hSt i h h' o a b c) hcell hkind hx st (fun b hb => ?_)
    (F.keeps up) (N.grown up) (Nat.ne_of_lt F.ns.lt) (next_is_new F) (fun p hp => Nat.ne_of_lt (Heap.lt_size (N p hp).1)) trivial R ?_
  · rw [List.mem_singleton.mp hb]
    show s₁.heap.objs.size < (s₁.heap.push _).objs.size
    rw [Heap.size_push]; exact Nat.lt_succ_self _
  · intro D C h' tk m' ys news' F' N' o1 hn hC₀ hD₀ hCL hDL hCD offC fin
    show wpAny _ A (assign (.Name y py) env (.ref D)) _ _ _
    refine wpAny_assign_Name (wpAny_storeName_local hy F'.ns (fun h₂ hn₂ hs₂ => ?_) hp)
    have hL₀ : h₀.get? env.locals = none := Heap.get?_none_of_le F'.above
    have F₂ : Fr h₀ env.locals h₂ (fun z => if z = y then some (.ref D) else m z) := ⟨hn₂, fun b o e => hs₂.extBut b o (fun q => by rw [q, hL₀] at e; cases e) (F'.keep b o e), F'.above⟩
    refine ⟨m', hn.sameBut hs₂ hCL, fun h'' hs'' => fin D h'' _ (F₂.change hs'' hCL hC₀) (fun p hp => ?_) o1⟩
    have z : h₂.get? p.1 = some p.2 := hs₂.extBut _ _ (N' p hp).2.1 (N' p hp).1
    refine ⟨hs''.extBut _ _ ?_ z, (N' p hp).2⟩
    rcases List.mem_cons.mp hp with rfl | hp
    · exact Ne.symm hCD
    · exact offC p hp
def SrcR2A (prog : Program) (w : World) (A : Around) (h₀ : Heap) (L : Addr) (m : Str → Option Value) (env : Env) (elt : Expr) (x : Str) (scope : Scope) (cl : List (Str × Addr)) (y : Str) (Q : Flow → Shared → Prop) (xv : Value) (s₁ : Shared) : Prop :=
  ∃ (r : Addr) (b : Int) (t u v : Tok) (n : Nat) (news : List (Addr × Obj)) (J : Nat → List Value → List (Addr × Obj) → Prop), xv = .ref r ∧ A.handled = none ∧ IsRange s₁.heap r 0 b 2 t u v ∧ Builtin.Range.small 0 b 2 = true ∧ Builtin.Range.rangeSize 0 b 2 = ((n : Nat) : Int) ∧ n ≤ 1000 ∧ Fr h₀ L s₁.heap m ∧ News h₀ L s₁.heap news ∧ J 0 [] news ∧
      (∀ i t ys nw I oI C oC D m₂ h tk, i < n → J i ys nw → LCg.NsObj oC m₂ → m₂ x = some (.int (2 * (i : Int)) t) → Fr h₀ L h m → News h₀ L h ((I, oI) :: (C, oC) :: (D, LCg.lst ys) :: nw) → (∀ p ∈ nw, ∀ q ∈ [(I, oI), (C, oC), (D, LCg.lst ys)], p.1 ≠ q.1) → ((@Ne Nat I C) ∧ (@Ne Nat I D) ∧ (@Ne Nat C D)) →
        wpAny (model prog w) A (eval elt (compEnvC scope cl C env)) (CEnd h₀ L m [(I, oI), (C, oC), (D, LCg.lst ys)] (fun y nw' => J (i + 1) (ys ++ [y]) nw') { s₁ with heap := h, toks := tk }) (fun _ _ => False) { s₁ with heap := h, toks := tk }) ∧
      (∀ ys nw D h tk, J n ys nw → Fr h₀ L h (fun z => if z = y then some (.ref D) else m z) → News h₀ L h ((D, LCg.lst ys) :: nw) → (∀ p ∈ nw, p.1 ≠ D) → Q .next { s₁ with heap := h, toks := tk })
theorem assignComp_R2 {elt iter : Expr} {x y : Str} {px py : Pos} {scope : Scope} {cl : List (Str × Addr)} {pos spos : Pos} {Q : Flow → Shared → Prop} (_F : Fr h₀ L s.heap m) (hLe : env.locals = L)
    (hsw : swapsWith (.ListComp elt [⟨.Name x px, iter, [], 0⟩] scope pos) (some (.Name y py)) spos.line env = pure true)
    (hclos : closureFor scope env = pure cl) (hcell : ∀ y ∈ scope.names, y.2 ≠ .cell) (hkind : scope.kind = .function)
    (hnames : ∀ y ∈ scope.names, y.2 = .local → scope.names.lookup y.1 = some .local) (hx : scope.names.lookup x = some .local)
    (hy : env.kindOf y = some .local) (hp : (env.scope.kind == .class || (env.scope.kind == .module && env.locals != env.globals)) = false) (hs : ∀ x, foldedSetIterable iter env x = pure x)
    (h : wpAny (model prog w) A (eval iter env) (SrcR2A prog w A h₀ L m env elt x scope cl y Q) E s) :
    wpAny (model prog w) A (exec (.Assign [.Name y py] (.ListComp elt [⟨.Name x px, iter, [], 0⟩] scope pos) spos) env) Q E s := by
  refine assignComp_W (h₀ := h₀) (L := L) (m := m) hLe hsw hclos hcell hkind hnames hx hy hp (wpAny_mono h (fun xv s₁ h₁ => ?_) fun _ _ e => e) hs
  obtain ⟨r, b, t, u, v, n, news, J, rfl, hh, hr, hsm, hn, hl, F, N, h0, step, fin⟩ := h₁
  refine ⟨_, n, _, _, news, fun Q' q => wpAny_pyIter_range hr hsm q, (Walks.range hh s₁.heap.objs.size 0 2 n).bound, hl, fun i h st => ⟨_, st⟩, fun i h h' o st e e' => ?_, ?_, F, N, ?_⟩
  · have st' : h.get? s₁.heap.objs.size = some _ := st
    show h'.get? s₁.heap.objs.size = some _
    rw [e', ← e]; exact st'
  · show IsRangeIter _ _ _ _ _
    rw [hn]
    simpa using Heap.get?_push_size _ rfl
  · refine comp_ind (J := J) (n := n) (fun _ _ _ _ => trivial) ?_ ?_ _ 0 [] news (by simp) h0
    · rintro i ys nw v' I oI C oC D m₂ h tk hi ⟨_, t', rfl⟩ j hC hx F' N' hn' ne
      exact step i t' ys nw I oI C oC D m₂ h tk hi j hC (by rw [hx]; congr 2; omega) F' N' hn' ne
    · intro ys nw j D h tk F' N' off
      exact fin ys nw D h tk j F' N' (off_one off)
end
end Mine
end

section
open PySem PySem.W PyProof.Rows PySem.Spec PySem.Calls
set_option Elab.async false
set_option maxRecDepth 100000
set_option maxHeartbeats 8000000
namespace Mine
theorem fill24 : (fun (_ : OpenLaw) (_ : Params → Frag) => True) PySem.Challenge.rw_xw0305_01 hd.heap_1 := by
  k_fill
  trivial
local macro_rules | `(tactic| k_room) => `(tactic| ((simp only [ktrTop, depth_mark, depth_under_make, depth_under_kw, depth_in1, depth_deeper, depth_caller, recursionLimit]); omega))
local macro_rules | `(tactic| ktr_room) => `(tactic| k_room)
local macro_rules | `(tactic| k_units) => `(tactic| ((simp only [ktrTop, units_makes, units_in1, units_deeper, Around.mark_units, units_caller, cLine]); omega))
local macro_rules | `(tactic| k_mem) => `(tactic| first | exact List.mem_cons_self | with_reducible assumption | (refine List.mem_cons_of_mem _ ?_; k_mem) | (refine List.mem_append.mpr (Or.inl ?_); k_mem) | (refine List.mem_append.mpr (Or.inr ?_); k_mem))
theorem flat_pair {news : List (Addr × Obj)} {ys : List Value} {ts : List (Int × Str)} (h : DatAll news ys (flatD ts)) {i : Nat} (hi : i < ts.length) : ∃ t u, ys[2 * i]? = some (.int ts[i].1 t) ∧ ys[2 * i + 1]? = some (.str ts[i].2 u) := by
  have h2 := datAll_take 2 (datAll_drop (2 * i) h)
  rw [flatD_at ts i hi] at h2
  have e0 : ((ys.drop (2 * i)).take 2)[0]? = ys[2 * i]? := by simp
  have e1 : ((ys.drop (2 * i)).take 2)[1]? = ys[2 * i + 1]? := by simp
  revert e0 e1
  generalize (ys.drop (2 * i)).take 2 = zs at h2
  intro e0 e1
  cases h2 with
  | cons a r =>
    cases r with
    | cons b r =>
      cases r
      cases a
      cases b
      exact ⟨_, _, e0.symm, e1.symm⟩
section
local macro_rules | `(tactic| k_all) => `(tactic| assumption)
local macro_rules | `(tactic| walk_at "call builtin:len") => `(tactic| (k_here; refine hold_intro ?_))
local macro_rules | `(tactic| walk_at "exec Assign cons ListComp") => `(tactic| (k_here; refine hold_intro ?_))
local macro_rules | `(tactic| walk_at "eval ListComp") => `(tactic| (k_here; refine hold_intro ?_))
local macro_rules | `(tactic| walk_at "eval ListComp List cons") => `(tactic| (k_here; refine hold_intro ?_))
local macro_rules | `(tactic| walk_at "eval ListComp Subscript cons") => `(tactic| (k_here; refine hold_intro ?_))
local macro_rules | `(tactic| walk_at "CompSrc") => `(tactic| (k_here; refine hold_intro ?_))
local macro_rules | `(tactic| walk_at "subscriptTail") => `(tactic| (k_here; refine hold_intro ?_))
local macro_rules | `(tactic| walk_at "exec If") => `(tactic| (k_here; refine hold_intro ?_))
local macro_rules | `(tactic| walk_at "execs cons") => `(tactic| (k_here; refine gen_toks ?_; intro tk htk9; (try dsimp only at htk9)))
local macro_rules | `(tactic| walk_at "execs nil") => `(tactic| (k_here; refine hold_intro ?_))
def C6 (l : List (Fin 4)) (ts rs : List Tie) (_h₀ : Heap) (m : Str → Option Value) (news : List (Addr × Obj)) (L : Addr) (_tk : Nat) : Prop := ∃ (rl il : Addr) (us iv : List Value) (k ki : Nat) (oI oP oL : Obj) (vL : Option Value) (tP : Tok) (rest : List (Addr × Obj)), m (Str.ofString "rows") = some (.ref rl) ∧
  news = (L + 1 + 1 + 1 + 1 + 1, oL) :: rest ∧ (∀ p ∈ rest, p.1 ≠ L + 1 + 1 + 1 + 1 + 1) ∧ oL.data = .cell vL ∧ (L + 1 + 1, oP) ∈ rest ∧ oP.data = .cell (some (.str (SS l) tP)) ∧ (L + 1 + 1 + 1 + 1, oI) ∈ rest ∧ oI.data = .cell (some (.ref il)) ∧
  (il, listOf iv.toArray ki) ∈ rest ∧ DatAll [] iv (flatD (ts.map tieS)) ∧ (rl, listOf us.toArray k) ∈ rest ∧ DatAll rest us ((rs.map tieS).map tieD)
set_option maxHeartbeats 4000000 in
theorem seg6 (w : World) (l : List (Fin 4)) (ts rs : List Tie) (h36 : ts.length = 3 ∨ ts.length = 6) (h8 : Seg w 8 (C8 l ts rs)) : Seg w 6 (C6 l ts rs) := by
  intro pp ll mean mg mb fa L ccd A₀ base h₀ m s news Q E B F X N T hC hret
  obtain ⟨rl, il, us, iv, k, ki, oI, oP, oL, vL, tP, rest, e1, rfl, hoff, dL, hP, dP, hI, dI, hil, hiv, hrl, hrs⟩ := hC
  refine noE ?_
  have F₁ := fr_ext (m' := fun y => if y = Str.ofString "rows" then some (.ref rl) else m y) F fun y => by rw [ife e1]
  clear F
  have h8 := h8 pp ll mean mg mb fa L ccd A₀ base h₀
  have hil2 := hiv.length
  rw [flatD_len, List.length_map] at hil2
  unfold lawEnv at h8 ⊢
  have hS : lawBody.drop 6 = lawBody.drop 6 := rfl
  conv at hS => rhs; whnf
  rw [hS]
  clear hS
  have hE : lawScope = lawScope := rfl
  conv at hE => rhs; whnf
  rw [hE] at h8 ⊢
  clear hE
  k_steps
  refine hold_out ?_
  refine assignComp_R2 F₁ rfl (by with_unfolding_all rfl) (by with_unfolding_all rfl) (by decide) (by rfl) (by decide) (by rfl) (by rfl) (by rfl) (by intro _; rfl) ?_
  k_steps
  refine hold_out ?_
  refine call_len_list (news_list (by k_asm) (vs := iv) (n := ki) (l := il) (.tail _ hil)) (by rw [List.size_toArray]; omega) ?_
  rw [List.size_toArray, hil2]
  k_steps
  rename_i h2 tk2 t1' u1' v1' hR F₂ N₂ hst
  obtain ⟨hsm, hsz⟩ := range_two ⟨ts.length, by omega⟩
  refine ⟨_, _, _, _, _, ts.length, _, fun i ys nw => ∃ tl, nw = (L + 1 + 1 + 1 + 1 + 1, oL) :: (tl ++ rest) ∧ (∀ p ∈ tl, p.1 ≠ L + 1 + 1 + 1 + 1 + 1) ∧ DatAll (tl ++ rest) ys (((ts.take i).map tieS).map tieD), rfl, rfl, hR, hsm, hsz, by omega, F₂, N₂, ⟨[], rfl, (fun _ h => nomatch h), .nil⟩, ?_, ?_⟩
  · rintro i t9 ys nw I oC2 C oC D9 m₂ h9 tk9 hi ⟨tl, rfl, htl, hys⟩ hC hx F3 N3 hn3 ⟨ne1, ne2, ne3⟩
    obtain ⟨ta, ua, ha, hb⟩ := flat_pair hiv (i := i) (by rw [List.length_map]; exact hi)
    rw [List.getElem_map] at ha hb
    have hMI : ∀ a b c d : Addr × Obj, ∀ p ∈ rest, p ∈ a :: b :: c :: d :: (tl ++ rest) := fun _ _ _ _ p hp => .tail _ (.tail _ (.tail _ (.tail _ (List.mem_append_right _ hp))))
    have hIm := hMI (I, oC2) (C, oC) (D9, LCg.lst ys) (L + 1 + 1 + 1 + 1 + 1, oL) _ hI
    k_steps
    refine hold_out ?_
    (try dsimp only)
    refine item_at (vs := iv) (n := ki) (k := 2 * (i : Int)) N3 (hMI _ _ _ _ _ hil) (by omega) (by omega) (by rw [show (2 * (i : Int)).toNat = 2 * i by omega]; exact ha) ?_
    k_steps
    refine hold_out ?_
    (try dsimp only)
    refine item_at (vs := iv) (n := ki) (k := 2 * (i : Int) + 1) N3 (hMI _ _ _ _ _ hil) (by omega) (by omega) (by rw [show (2 * (i : Int) + 1).toNat = 2 * i + 1 by omega]; exact hb) ?_
    k_steps
    rename_i D4 h10 F10 N10 l10
    (try dsimp only)
    refine CEnd.intro F10 N10 ((L + 1 + 1 + 1 + 1 + 1, oL) :: (((D4, listOf #[.int ts[i].1 ta, .str (tieS ts[i]).2 ua] 0) :: tl) ++ rest)) (own3 (.tail _ (.head _)) (.tail _ (.tail _ (.head _))) (.tail _ (.tail _ (.tail _ (.head _))))) (fun p hp => ?_) (fun p hp q hq => ?_) ⟨(D4, listOf #[.int ts[i].1 ta, .str (tieS ts[i]).2 ua] 0) :: tl, rfl, fun p hp => ?_, ?_⟩
    · rcases List.mem_cons.mp hp with rfl | hp
      · exact .tail _ (.tail _ (.tail _ (.tail _ (.head _))))
      · rcases List.mem_cons.mp hp with rfl | hp
        · exact .head _
        · exact .tail _ (.tail _ (.tail _ (.tail _ (.tail _ hp))))
    · rcases List.mem_cons.mp hp with rfl | hp
      · exact hn3 _ (.head _) q hq
      · rcases List.mem_cons.mp hp with rfl | hp
        · exact own3 (P := fun q => D4 ≠ q.1) (Ne.symm (Nat.ne_of_lt l10.1)) (Ne.symm (Nat.ne_of_lt l10.2.1)) (Ne.symm (Nat.ne_of_lt l10.2.2.1)) q hq
        · exact hn3 _ (.tail _ hp) q hq
    · rcases List.mem_cons.mp hp with rfl | hp
      · exact Ne.symm (Nat.ne_of_lt l10.2.2.2.1)
      · exact htl p hp
    · rw [← List.take_append_getElem hi, List.map_append, List.map_append]
      exact (DatAll.mono (fun p hp => .tail _ hp) hys).append (.one (.list (.head _) (.cons (.int _ _) (.cons (.str _ _) .nil))))
  · rintro ys nw D9 h9 tk9 ⟨tl, rfl, htl, hys⟩ F3 N3 hn3
    rw [List.take_length] at hys
    dsimp only
    have hoff3 : ∀ p ∈ (D9, LCg.lst ys) :: (tl ++ rest), p.1 ≠ L + 1 + 1 + 1 + 1 + 1 := fun p hp => by
      rcases List.mem_cons.mp hp with rfl | hp
      · exact Ne.symm (hn3 _ (.head _))
      · exact (List.mem_append.mp hp).elim (htl p) (hoff p)
    have N4 : News h₀ L h9 ((L + 1 + 1 + 1 + 1 + 1, oL) :: (D9, LCg.lst ys) :: (tl ++ rest)) := fun p hp => N3 p (by simp only [List.mem_cons, List.mem_append] at hp ⊢; grind)
    clear N3
    k_steps
    refine hold_out ?_
    refine LCg.Assign_ListComp_U (F₀ := by k_asm) (by rfl) (by with_unfolding_all rfl) (by with_unfolding_all rfl) (by decide) (by rfl) (by decide) (by rfl) (by rfl) (by rfl) ?_
    k_steps
    refine hold_out ?_
    have hyl := hys.length
    rw [List.length_map, List.length_map] at hyl
    refine comp_ledgerA (its := ys) (k := ys.length) (fun i ws nw => nw = (L + 1 + 1 + 1 + 1 + 1, oL) :: (D9, LCg.lst ys) :: (tl ++ rest) ∧ IntsAre ws ((ts.take i).map (·.1))) rfl (by k_asm) N4 ?_ (by omega) ⟨rfl, .nil⟩ ?_ ?_
    · rintro i ws nw ⟨rfl, _⟩
      exact .tail _ (.head _)
    · rintro i ws nw v I2 oI2 C oC D m₂ h3 tk3 hv3 ⟨rfl, hws⟩ hC hx F3 N3 hn5 ⟨ne1, ne2, ne3⟩
      have hi : i < ts.length := hyl ▸ (List.getElem?_eq_some_iff.mp hv3).1
      obtain ⟨v', hv', hDi2⟩ := hys.get (k := i) (by rw [List.length_map, List.length_map]; exact hi)
      have ev : v' = v := Option.some.inj (hv'.symm.trans hv3)
      subst ev
      rw [List.getElem_map, List.getElem_map] at hDi2
      obtain ⟨r4, rt4, ru4, rn4, rfl, hr4⟩ := tie_out hDi2
      k_steps
      refine hold_out ?_
      (try dsimp only)
      refine item_at (vs := [.int ts[i].1 rt4, .str (tieS ts[i]).2 ru4]) (n := rn4) (k := 0) N3 (.tail _ (.tail _ (.tail _ (.tail _ (.tail _ hr4))))) (by decide) (by decide) rfl ?_
      refine CEnd.intro F3 N3 _ (own3 (.head _) (.tail _ (.head _)) (.tail _ (.tail _ (.head _)))) (fun p hp => .tail _ (.tail _ (.tail _ hp))) hn5 ⟨rfl, ?_⟩
      rw [← List.take_append_getElem hi, List.map_append]
      exact hws.append (.cons _ _ .nil)
    · rintro ws nw D h3 tk3 ⟨rfl, hws⟩ F3 N3 hn5
      rw [hyl, List.take_length] at hws
      dsimp only
      have hin : ∀ p ∈ rest, p ∈ (D, LCg.lst ws) :: (D9, LCg.lst ys) :: (tl ++ rest) := fun p hp => .tail _ (.tail _ (List.mem_append_right _ hp))
      refine h8 _ _ ((L + 1 + 1 + 1 + 1 + 1, oL) :: (D, LCg.lst ws) :: (D9, LCg.lst ys) :: (tl ++ rest)) Q _ B F3 X (fun p hp => N3 p ?_) T ⟨D9, rl, D, ys, us, ws, ys.length, k, ws.length, oP, oL, vL, tP, _, rfl, rfl, rfl, rfl, fun p hp => ?_, dL, hin _ hP, dP, .tail _ (.head _), DatAll.mono (fun p hp => .tail _ (.tail _ hp)) hys, hin _ hrl, DatAll.mono hin hrs, .head _, hws⟩ fun h' tk m' F' => hret h' tk m' F'
      · simp only [List.mem_cons] at hp ⊢
        grind
      · rcases List.mem_cons.mp hp with rfl | hp
        · exact Ne.symm (hn5 _ (.head _))
        · exact hoff3 p hp
end
end Mine
end

section
open PySem PySem.W PyProof.Rows PySem.Spec PySem.Calls
set_option Elab.async false
set_option maxRecDepth 100000
set_option maxHeartbeats 8000000
namespace Mine
theorem fill25 : (fun (_ : OpenLaw) (_ : Params → Frag) => True) PySem.Challenge.rw_xw0305_01 hd.heap_1 := by
  k_fill
  trivial
local macro_rules | `(tactic| k_room) => `(tactic| ((simp only [ktrTop, depth_mark, depth_under_make, depth_under_kw, depth_in1, depth_deeper, depth_caller, recursionLimit]); omega))
local macro_rules | `(tactic| ktr_room) => `(tactic| k_room)
local macro_rules | `(tactic| k_units) => `(tactic| ((simp only [ktrTop, units_makes, units_in1, units_deeper, Around.mark_units, units_caller, cLine]); omega))
local macro_rules | `(tactic| k_mem) => `(tactic| first | exact List.mem_cons_self | with_reducible assumption | (refine List.mem_cons_of_mem _ ?_; k_mem) | (refine List.mem_append.mpr (Or.inl ?_); k_mem) | (refine List.mem_append.mpr (Or.inr ?_); k_mem))
theorem tieS_inj {t u : Tie} (h : tieS t = tieS u) : t = u := tieD_inj (congrArg tieD h)
open Classical in
theorem perm_tieS {ts' : List (Int × Str)} {rs : List Tie} (h : ts'.Perm (rs.map tieS)) : ∃ ts : List Tie, ts' = ts.map tieS ∧ ts.Perm rs := by
  let g : Int × Str → Tie := fun x => if e : ∃ t, tieS t = x then e.choose else default
  have hg : ∀ t, g (tieS t) = t := fun t => by
    have e : ∃ u, tieS u = tieS t := ⟨t, rfl⟩
    show (if e : ∃ u, tieS u = tieS t then e.choose else default) = t
    rw [dif_pos e]
    exact tieS_inj e.choose_spec
  refine ⟨ts'.map g, ?_, ?_⟩
  · rw [List.map_map]
    refine (List.map_id ts').symm.trans (List.map_congr_left fun x hx => ?_)
    obtain ⟨t, _, rfl⟩ := List.mem_map.mp (h.mem_iff.mp hx)
    show tieS t = tieS (g (tieS t))
    rw [hg]
  · have h2 := h.map g
    rw [List.map_map] at h2
    have e : rs.map (g ∘ tieS) = rs := (List.map_congr_left fun t _ => hg t).trans (List.map_id rs)
    rw [e] at h2
    exact h2
section
local macro_rules | `(tactic| k_all) => `(tactic| assumption)
local macro_rules | `(tactic| walk_at "call ref") => `(tactic| (k_here; (with_reducible show wpAny _ _ (call (Value.ref 284) _) _ _ _); refine hold_intro ?_))
local macro_rules | `(tactic| walk_at "call ref") => `(tactic| (k_here; (with_reducible show wpAny _ _ (call (Value.ref 315) _) _ _ _); refine hold_intro ?_))
local macro_rules | `(tactic| walk_at "exec Assign cons ListComp") => `(tactic| (k_here; refine hold_intro ?_))
local macro_rules | `(tactic| walk_at "storeName") => `(tactic| (k_here; refine hold_intro ?_))
local macro_rules | `(tactic| walk_at "execs cons") => `(tactic| (k_here; refine gen_toks ?_; intro tk htk9; (try dsimp only at htk9)))
def C5 (l : List (Fin 4)) (rs : List Tie) (_h₀ : Heap) (m : Str → Option Value) (news : List (Addr × Obj)) (L : Addr) (_tk : Nat) : Prop := ∃ (rl : Addr) (us : List Value) (k : Nat) (oI oP oL : Obj) (vL vI : Option Value) (tP : Tok) (rest : List (Addr × Obj)), m (Str.ofString "rows") = some (.ref rl) ∧
  news = (L + 1 + 1 + 1 + 1, oI) :: (L + 1 + 1 + 1 + 1 + 1, oL) :: rest ∧ (∀ p ∈ rest, p.1 ≠ L + 1 + 1 + 1 + 1 + 1 ∧ p.1 ≠ L + 1 + 1 + 1 + 1) ∧ oL.data = .cell vL ∧ oI.data = .cell vI ∧ (L + 1 + 1, oP) ∈ rest ∧ oP.data = .cell (some (.str (SS l) tP)) ∧
  (rl, listOf us.toArray k) ∈ rest ∧ DatAll rest us ((rs.map tieS).map tieD)
set_option maxHeartbeats 4000000 in
theorem seg5 (w : World) (l : List (Fin 4)) (rs : List Tie) (h36 : rs.length = 3 ∨ rs.length = 6) (h6 : ∀ ts : List Tie, ts.Perm rs → (ts.map (·.1)).Pairwise (· ≤ ·) → Seg w 6 (C6 l ts rs)) : Seg w 5 (C5 l rs) := by
  intro pp ll mean mg mb fa L ccd A₀ base h₀ m s news Q E B F X N T hC hret
  obtain ⟨rl, us, k, oI, oP, oL, vL, vI, tP, rest, e1, rfl, hoff, dL, dI, hP, dP, hrl, hrs⟩ := hC
  refine noE ?_
  have F₁ := fr_ext (m' := fun y => if y = Str.ofString "rows" then some (.ref rl) else m y) F fun y => by rw [ife e1]
  clear F
  have h6 := fun ts h1 h2 => h6 ts h1 h2 pp ll mean mg mb fa L ccd A₀ base h₀
  unfold lawEnv at h6 ⊢
  have hS : lawBody.drop 5 = lawBody.drop 5 := rfl
  conv at hS => rhs; whnf
  rw [hS]
  clear hS
  have hE : lawScope = lawScope := rfl
  conv at hE => rhs; whnf
  rw [hE] at h6 ⊢
  clear hE
  k_steps
  refine hold_out ?_
  k_dflt (refine' tell_use (rows_array_tell w rl k us (rs.map tieS) _ ((L + 1 + 1 + 1 + 1, oI) :: (L + 1 + 1 + 1 + 1 + 1, oL) :: rest) (.tail _ (.tail _ hrl)) (DatAll.mono (fun p hp => .tail _ (.tail _ hp)) hrs) (by rw [List.length_map]; exact h36)) ?k1 ?k2 ?k3 ?k4 ?k5 ?k6 ?k7 ?k8 ?k9 ?_; (case k1 => k_asm); (case k2 => k_asm); (case k3 => k_asm); (case k4 => k_asm); (case k5 => k_asm); (case k6 => exact rfl); (case k7 => k_room); (case k8 => k_units); (case k9 => trivial))
  intro r9 tl9 h9 tk9 hkk F9 N9 hl9 ho9
  obtain ⟨y, d, b, p, q, D, x, n1, n2, n3, n4, t1, t2, t3, t4, a0, a1, a2, a3, a4, a5, a6, a7, a8, a9, ys, rfl, rfl, hys⟩ := ho9
  (try dsimp only)
  k_steps
  refine hold_out ?_
  have hm6 : ∀ z, z ∈ [(D, listOf ys.toArray n4), (y, instObj 208 d), (d, arrD w 1 x b D a0 a1 a2 a3 a4 a5 a6 a7 a8 a9), (b, listOf #[.ref p, .ref q] n1), (q, tupOf #[.int 1 t3, .int 2 t4] n2), (p, tupOf #[.int 1 t1, .int ((rs.map tieS).length : Int) t2] n3)] → z ∈ (L + 1 + 1 + 1 + 1, oI) :: (L + 1 + 1 + 1 + 1 + 1, oL) :: rest ++ [(D, listOf ys.toArray n4), (y, instObj 208 d), (d, arrD w 1 x b D a0 a1 a2 a3 a4 a5 a6 a7 a8 a9), (b, listOf #[.ref p, .ref q] n1), (q, tupOf #[.int 1 t3, .int 2 t4] n2), (p, tupOf #[.int 1 t1, .int ((rs.map tieS).length : Int) t2] n3)] := fun z hz => List.mem_append_right _ hz
  k_dflt (refine' tell_use (sort_tell w 1 2 ((rs.map tieS).length : Int) (rs.map tieS) (by rw [List.length_map]; exact h36) rfl y d b p q D x n1 n2 n3 n4 a0 t1 t2 t3 t4 _ _ a0 a1 a2 a3 a4 a5 a6 a7 a8 a9 ys _ (hm6 _ (.tail _ (.head _))) (hm6 _ (.tail _ (.tail _ (.head _)))) (hm6 _ (.tail _ (.tail _ (.tail _ (.head _))))) (hm6 _ (.tail _ (.tail _ (.tail _ (.tail _ (.head _)))))) (hm6 _ (.tail _ (.tail _ (.tail _ (.tail _ (.tail _ (.head _))))))) (hm6 _ (.head _)) hys) ?k1 ?k2 ?k3 ?k4 ?k5 ?k6 ?k7 ?k8 ?k9 ?_; (case k1 => k_asm); (case k2 => k_asm); (case k3 => k_asm); (case k4 => k_asm); (case k5 => k_asm); (case k6 => exact rfl); (case k7 => k_room); (case k8 => k_units); (case k9 => trivial))
  intro r10 tl10 h10 tk10 hkk2 F10 N10 hl10 ho10
  obtain ⟨y2, d2, D2, b2, x2, k2, c0, c1, c2, c3, c4, c5, c6, c7, c8, c9, vs, ts', rfl, rfl, hvs, hperm, hsrt⟩ := ho10
  (try dsimp only)
  have N11 := (fun z hz => N10 z (by
    simp only [List.mem_cons, List.mem_append, List.not_mem_nil, or_false] at hz ⊢
    grind) : News h₀ L h10 ((y2, instObj 208 d2) :: (d2, arrD w 2 x2 b2 D2 c0 c1 c2 c3 c4 c5 c6 c7 c8 c9) :: (D2, listOf vs.toArray k2) :: (L + 1 + 1 + 1 + 1, oI) :: (L + 1 + 1 + 1 + 1 + 1, oL) :: rest))
  have g1 : @Ne Nat D2 (L + 1 + 1 + 1 + 1) := Ne.symm (hl10 _ (List.mem_append_left _ (.head _)) _ (.head _))
  have g2 : @Ne Nat D2 (L + 1 + 1 + 1 + 1 + 1) := Ne.symm (hl10 _ (List.mem_append_left _ (.tail _ (.head _))) _ (.head _))
  clear N9 N10 F9 hl10 hl9 hm6
  unfold arrD at N11
  k_steps
  refine hold_out ?_
  have N12 : News h₀ L h10 ((L + 1 + 1 + 1 + 1, oI) :: (L + 1 + 1 + 1 + 1 + 1, oL) :: (D2, listOf vs.toArray k2) :: rest) := fun z hz => N11 z (by
    simp only [List.mem_cons] at hz ⊢
    grind)
  clear N11
  (try dsimp only)
  have hoff2 : ∀ z ∈ (L + 1 + 1 + 1 + 1 + 1, oL) :: (D2, listOf vs.toArray k2) :: rest, z.1 ≠ L + 1 + 1 + 1 + 1 := fun z hz => by
    rcases List.mem_cons.mp hz with rfl | hz
    · exact Nat.succ_ne_self _
    · rcases List.mem_cons.mp hz with rfl | hz
      · exact g1
      · exact (hoff z hz).2
  refine storeX_C (c := L + 1 + 1 + 1 + 1) (o := oI) F10 N12 (by rfl) (.head hoff2) dI ?_
  intro h11 oI2 F11 N13 dI2
  obtain ⟨ts, rfl, hp2⟩ := perm_tieS hperm
  rw [List.pairwise_map] at hsrt
  refine h6 ts hp2 (by rw [List.pairwise_map]; exact hsrt) _ _ ((L + 1 + 1 + 1 + 1 + 1, oL) :: (L + 1 + 1 + 1 + 1, oI2) :: (D2, listOf vs.toArray k2) :: rest) Q _ B F11 X (fun z hz => N13 z ?_) T ⟨rl, D2, us, vs, k, k2, oI2, oP, oL, vL, tP, _, rfl, rfl, fun z hz => ?_, dL, .tail _ (.tail _ hP), dP, .head _, dI2, .tail _ (.head _), hvs, .tail _ (.tail _ hrl), DatAll.mono (fun p hp => .tail _ (.tail _ hp)) hrs⟩ fun h' tk m' F' => hret h' tk m' F'
  · simp only [List.mem_cons] at hz ⊢
    grind
  · rcases List.mem_cons.mp hz with rfl | hz
    · exact Ne.symm (Nat.succ_ne_self _)
    · rcases List.mem_cons.mp hz with rfl | hz
      · exact g2
      · exact (hoff z hz).1
end
end Mine
end

section
open PySem PySem.W PyProof.Rows PySem.Spec PySem.Calls
set_option Elab.async false
set_option maxRecDepth 100000
set_option maxHeartbeats 8000000
namespace Mine
theorem fill26 : (fun (_ : OpenLaw) (_ : Params → Frag) => True) PySem.Challenge.rw_xw0305_01 hd.heap_1 := by
  k_fill
  trivial
local macro_rules | `(tactic| k_room) => `(tactic| ((simp only [ktrTop, depth_mark, depth_under_make, depth_under_kw, depth_in1, depth_deeper, depth_caller, recursionLimit]); omega))
local macro_rules | `(tactic| ktr_room) => `(tactic| k_room)
local macro_rules | `(tactic| k_units) => `(tactic| ((simp only [ktrTop, units_makes, units_in1, units_deeper, Around.mark_units, units_caller, cLine]); omega))
local macro_rules | `(tactic| k_mem) => `(tactic| first | exact List.mem_cons_self | with_reducible assumption | (refine List.mem_cons_of_mem _ ?_; k_mem) | (refine List.mem_append.mpr (Or.inl ?_); k_mem) | (refine List.mem_append.mpr (Or.inr ?_); k_mem))
abbrev Pr := Fin 4 × Fin 4
def pairD (p : Pr) : Dat := .str (S2 p.1 p.2)
theorem pair_out {news : List (Addr × Obj)} {v : Value} {p : Pr} (h : DatIn news v (pairD p)) : ∃ t, v = .str (S2 p.1 p.2) t := by
  cases h
  exact ⟨_, rfl⟩
theorem range_one : ∀ k : Fin 9, Builtin.Range.small 0 (k.val : Int) 1 = true ∧ Builtin.Range.rangeSize 0 (k.val : Int) 1 = ((k.val : Nat) : Int) := by decide +kernel
theorem pow7 : ∀ i : Fin 6, (7 : Int) ^ i.val ≠ 0 ∧ ((7 : Int) ^ i.val).natAbs < 1073741824 := by decide +kernel
section
local macro_rules | `(tactic| k_all) => `(tactic| assumption)
local macro_rules | `(tactic| walk_at "call builtin:len") => `(tactic| (k_here; refine hold_intro ?_))
local macro_rules | `(tactic| walk_at "exec Assign cons ListComp") => `(tactic| (k_here; refine hold_intro ?_))
local macro_rules | `(tactic| walk_at "CompSrc") => `(tactic| (k_here; refine hold_intro ?_))
local macro_rules | `(tactic| walk_at "subscriptTail") => `(tactic| (k_here; refine hold_intro ?_))
local macro_rules | `(tactic| walk_at "binaryOp Pow int int") => `(tactic| (k_here; refine hold_intro ?_))
local macro_rules | `(tactic| walk_at "binaryOp FloorDiv int int") => `(tactic| (k_here; refine hold_intro ?_))
local macro_rules | `(tactic| walk_at "binaryOp Mod int int") => `(tactic| (k_here; refine hold_intro ?_))
local macro_rules | `(tactic| walk_at "execs cons") => `(tactic| (k_here; refine gen_toks ?_; intro tk htk9; (try dsimp only at htk9)))
def C4 (l : List (Fin 4)) (prs : List Pr) (_h₀ : Heap) (m : Str → Option Value) (news : List (Addr × Obj)) (L : Addr) (_tk : Nat) : Prop := ∃ (cl pl : Addr) (pv : List Value) (n k : Nat) (c0 c1 : Int) (t0 t1 : Tok) (oC oR oI oP oL : Obj) (vL vI : Option Value) (tP : Tok) (rest : List (Addr × Obj)),
  news = (L + 1 + 1 + 1 + 1, oI) :: (L + 1 + 1 + 1 + 1 + 1, oL) :: rest ∧ (∀ p ∈ rest, p.1 ≠ L + 1 + 1 + 1 + 1 + 1 ∧ p.1 ≠ L + 1 + 1 + 1 + 1) ∧ oL.data = .cell vL ∧ oI.data = .cell vI ∧ (L + 1 + 1, oP) ∈ rest ∧ oP.data = .cell (some (.str (SS l) tP)) ∧
  (L + 1, oC) ∈ rest ∧ oC.data = .cell (some (.ref cl)) ∧ (cl, listOf #[.int c0 t0, .int c1 t1] n) ∈ rest ∧ (L + 1 + 1 + 1, oR) ∈ rest ∧ oR.data = .cell (some (.ref pl)) ∧ (pl, listOf pv.toArray k) ∈ rest ∧ DatAll [] pv (prs.map pairD)
set_option maxHeartbeats 4000000 in
theorem seg4 (w : World) (l : List (Fin 4)) (prs : List Pr) (h36 : prs.length = 3 ∨ prs.length = 6) (h5 : ∀ rs : List Tie, rs.map (·.2) = prs → Seg w 5 (C5 l rs)) : Seg w 4 (C4 l prs) := by
  intro pp ll mean mg mb fa L ccd A₀ base h₀ m s news Q E B F X N T hC hret
  obtain ⟨cl, pl, pv, n, k, c0, c1, t0, t1, oC, oR, oI, oP, oL, vL, vI, tP, rest, rfl, hoff, dL, dI, hP, dP, hCm, dC, hcl, hR, dR, hpl, hpv⟩ := hC
  refine noE ?_
  have h5 := fun rs h1 => h5 rs h1 pp ll mean mg mb fa L ccd A₀ base h₀
  have hpl2 := hpv.length
  rw [List.length_map] at hpl2
  unfold lawEnv at h5 ⊢
  have hS : lawBody.drop 4 = lawBody.drop 4 := rfl
  conv at hS => rhs; whnf
  rw [hS]
  clear hS
  have hE : lawScope = lawScope := rfl
  conv at hE => rhs; whnf
  rw [hE] at h5 ⊢
  clear hE
  k_steps
  refine hold_out ?_
  refine LCg.Assign_ListComp_U (F₀ := by k_asm) (by rfl) (by with_unfolding_all rfl) (by with_unfolding_all rfl) (by decide) (by rfl) (by decide) (by rfl) (by rfl) (by rfl) ?_
  k_steps
  refine hold_out ?_
  refine call_len_list (news_list (by k_asm) (vs := pv) (n := k) (l := pl) (.tail _ (.tail _ hpl))) (by rw [List.size_toArray]; omega) ?_
  rw [List.size_toArray, hpl2]
  k_steps
  refine hold_out ?_
  rename_i h2 tk2 t1' u1' v1' hR2 F₂ N₂ hst
  obtain ⟨hsm, hsz⟩ := range_one ⟨prs.length, by omega⟩
  refine comp_rangeA (n := prs.length) (fun i ys nw => ∃ tl rs, nw = (L + 1 + 1 + 1 + 1, oI) :: (L + 1 + 1 + 1 + 1 + 1, oL) :: (tl ++ rest) ∧ (∀ p ∈ tl, p.1 ≠ L + 1 + 1 + 1 + 1 + 1 ∧ p.1 ≠ L + 1 + 1 + 1 + 1) ∧ rs.map (·.2) = prs.take i ∧ DatAll (tl ++ rest) ys ((rs.map tieS).map tieD)) rfl F₂ N₂ hR2 hsm hsz (by omega) ⟨[], [], rfl, (fun _ h => nomatch h), rfl, .nil⟩ ?_ ?_
  · rintro i t9 ys nw I oC2 C oC3 D9 m₂ h9 tk9 hi ⟨tl, rs, rfl, htl, hrs, hys⟩ hC hx F3 N3 hn3 ⟨ne1, ne2, ne3⟩
    obtain ⟨v, hv, hDv⟩ := hpv.get (k := i) (by rw [List.length_map]; exact hi)
    rw [List.getElem_map] at hDv
    obtain ⟨tv, rfl⟩ := pair_out hDv
    have hMI : ∀ a b c d e : Addr × Obj, ∀ p ∈ rest, p ∈ a :: b :: c :: d :: e :: (tl ++ rest) := fun _ _ _ _ _ p hp => .tail _ (.tail _ (.tail _ (.tail _ (.tail _ (List.mem_append_right _ hp)))))
    have hCm2 := hMI (I, oC2) (C, oC3) (D9, LCg.lst ys) (L + 1 + 1 + 1 + 1, oI) (L + 1 + 1 + 1 + 1 + 1, oL) _ hCm
    have hRm2 := hMI (I, oC2) (C, oC3) (D9, LCg.lst ys) (L + 1 + 1 + 1 + 1, oI) (L + 1 + 1 + 1 + 1 + 1, oL) _ hR
    k_steps
    refine hold_out ?_
    (try dsimp only)
    refine item_at (vs := [.int c0 t0, .int c1 t1]) (n := n) (k := 1) N3 (hMI _ _ _ _ _ _ hcl) (by decide) (by decide) rfl ?_
    k_steps
    refine hold_out ?_
    have hi6 : i < 6 := by omega
    refine pow_int_small (by omega) (by omega) (by decide) ?_
    rw [Int.toNat_natCast]
    obtain ⟨p1, p2⟩ := pow7 ⟨i, hi6⟩
    generalize hpw : (7 : Int) ^ i = pw at *
    have p1 : pw ≠ 0 := hpw ▸ p1
    have p2 : pw.natAbs < 1073741824 := hpw ▸ p2
    k_steps
    refine hold_out ?_
    refine floordiv_int p1 ?_ (Or.inl (PyProof.noPylong_small p2))
    k_steps
    refine hold_out ?_
    refine mod_int' (by decide) ?_
    k_steps
    refine hold_out ?_
    (try dsimp only)
    refine item_at (vs := pv) (n := k) (k := (i : Int)) N3 (hMI _ _ _ _ _ _ hpl) (by omega) (by omega) (by rw [Int.toNat_natCast]; exact hv) ?_
    generalize (c1.fdiv pw).fmod 7 = wt
    k_steps
    rename_i D4 h10 F10 N10 l10
    (try dsimp only)
    refine CEnd.intro F10 N10 ((L + 1 + 1 + 1 + 1, oI) :: (L + 1 + 1 + 1 + 1 + 1, oL) :: (((D4, listOf #[.int wt (tk9 + 1 + 1 + 1 + 1 + 1), .str (S2 prs[i].1 prs[i].2) tv] 0) :: tl) ++ rest)) (own3 (.tail _ (.head _)) (.tail _ (.tail _ (.head _))) (.tail _ (.tail _ (.tail _ (.head _))))) (fun p hp => ?_) (fun p hp q hq => ?_) ⟨(D4, listOf #[.int wt (tk9 + 1 + 1 + 1 + 1 + 1), .str (S2 prs[i].1 prs[i].2) tv] 0) :: tl, rs ++ [(wt, prs[i])], rfl, fun p hp => ?_, ?_, ?_⟩
    · rcases List.mem_cons.mp hp with rfl | hp
      · exact .tail _ (.tail _ (.tail _ (.tail _ (.head _))))
      · rcases List.mem_cons.mp hp with rfl | hp
        · exact .tail _ (.tail _ (.tail _ (.tail _ (.tail _ (.head _)))))
        · rcases List.mem_cons.mp hp with rfl | hp
          · exact .head _
          · exact .tail _ (.tail _ (.tail _ (.tail _ (.tail _ (.tail _ hp)))))
    · rcases List.mem_cons.mp hp with rfl | hp
      · exact hn3 _ (.head _) q hq
      · rcases List.mem_cons.mp hp with rfl | hp
        · exact hn3 _ (.tail _ (.head _)) q hq
        · rcases List.mem_cons.mp hp with rfl | hp
          · exact own3 (P := fun q => D4 ≠ q.1) (Ne.symm (Nat.ne_of_lt l10.1)) (Ne.symm (Nat.ne_of_lt l10.2.1)) (Ne.symm (Nat.ne_of_lt l10.2.2.1)) q hq
          · exact hn3 _ (.tail _ (.tail _ hp)) q hq
    · rcases List.mem_cons.mp hp with rfl | hp
      · exact ⟨Ne.symm (Nat.ne_of_lt l10.2.2.2.2.1), Ne.symm (Nat.ne_of_lt l10.2.2.2.1)⟩
      · exact htl p hp
    · rw [← List.take_append_getElem hi, List.map_append, hrs]
      rfl
    · rw [List.map_append, List.map_append]
      exact (DatAll.mono (fun p hp => .tail _ hp) hys).append (.one (.list (.head _) (.cons (.int _ _) (.cons (.str _ _) .nil))))
  · rintro ys nw D9 h9 tk9 ⟨tl, rs, rfl, htl, hrs, hys⟩ F3 N3 hn3
    rw [List.take_length] at hrs
    dsimp only
    have hin : ∀ p ∈ rest, p ∈ (D9, LCg.lst ys) :: (tl ++ rest) := fun p hp => .tail _ (List.mem_append_right _ hp)
    refine h5 rs hrs _ _ ((L + 1 + 1 + 1 + 1, oI) :: (L + 1 + 1 + 1 + 1 + 1, oL) :: (D9, LCg.lst ys) :: (tl ++ rest)) Q _ B F3 X (fun z hz => N3 z ?_) T ⟨D9, ys, ys.length, oI, oP, oL, vL, vI, tP, _, rfl, rfl, fun z hz => ?_, dL, dI, hin _ hP, dP, .head _, DatAll.mono (fun p hp => .tail _ hp) hys⟩ fun h' tk m' F' => hret h' tk m' F'
    · simp only [List.mem_cons] at hz ⊢
      grind
    · rcases List.mem_cons.mp hz with rfl | hz
      · exact ⟨Ne.symm (hn3 _ (.tail _ (.head _))), Ne.symm (hn3 _ (.head _))⟩
      · exact (List.mem_append.mp hz).elim (htl z) (hoff z)
end
end Mine
end

section
open PySem PySem.W PyProof.Rows PySem.Spec PySem.Calls
set_option Elab.async false
set_option maxRecDepth 100000
set_option maxHeartbeats 8000000
namespace Mine
theorem fill27 : (fun (_ : OpenLaw) (_ : Params → Frag) => True) PySem.Challenge.rw_xw0305_01 hd.heap_1 := by
  k_fill
  trivial
local macro_rules | `(tactic| k_room) => `(tactic| ((simp only [ktrTop, depth_mark, depth_under_make, depth_under_kw, depth_in1, depth_deeper, depth_caller, recursionLimit]); omega))
local macro_rules | `(tactic| ktr_room) => `(tactic| k_room)
local macro_rules | `(tactic| k_units) => `(tactic| ((simp only [ktrTop, units_makes, units_in1, units_deeper, Around.mark_units, units_caller, cLine]); omega))
local macro_rules | `(tactic| k_mem) => `(tactic| first | exact List.mem_cons_self | with_reducible assumption | (refine List.mem_cons_of_mem _ ?_; k_mem) | (refine List.mem_append.mpr (Or.inl ?_); k_mem) | (refine List.mem_append.mpr (Or.inr ?_); k_mem))
/-- the pairs of places in the order of the two loops -/
def prsIn (a : Fin 4) (l : List (Fin 4)) : List Pr := (l.filter fun b => decide (a < b)).map fun b => (a, b)
def prsOf (l k : List (Fin 4)) : List Pr := k.flatMap fun a => prsIn a l
theorem prsIn_len (a : Fin 4) (l : List (Fin 4)) : (prsIn a l).length ≤ l.length := by
  unfold prsIn
  rw [List.length_map]
  exact List.length_filter_le _ _
theorem prsOf_len (l : List (Fin 4)) : ∀ k : List (Fin 4), (prsOf l k).length ≤ k.length * l.length
  | [] => Nat.zero_le _
  | a :: k => by
    have h1 := prsOf_len l k
    have h2 := prsIn_len a l
    unfold prsOf at h1 ⊢
    rw [List.flatMap_cons, List.length_append, List.length_cons, Nat.succ_mul]
    omega
theorem s1_lt : ∀ a b : Fin 4, decide ((S1 a).cps.toList < (S1 b).cps.toList) = decide (a < b) := by decide +kernel
theorem s1_add : ∀ a b : Fin 4, S1 a ++ S1 b = S2 a b := by decide +kernel
section
local macro_rules | `(tactic| k_all) => `(tactic| assumption)
local macro_rules | `(tactic| walk_at "exec Assign cons ListComp") => `(tactic| (k_here; refine hold_intro ?_))
local macro_rules | `(tactic| walk_at "storeName") => `(tactic| (k_here; refine hold_intro ?_))
local macro_rules | `(tactic| walk_at "execs cons") => `(tactic| (k_here; refine gen_toks ?_; intro tk htk9; (try dsimp only at htk9)))
local macro_rules | `(tactic| walk_at "compareOp Lt str str") => `(tactic| (k_here; refine hold_intro ?_))
local macro_rules | `(tactic| walk_at "binaryOp Add str str") => `(tactic| (k_here; refine hold_intro ?_))
def C3 (l : List (Fin 4)) (_h₀ : Heap) (_m : Str → Option Value) (news : List (Addr × Obj)) (L : Addr) (_tk : Nat) : Prop := ∃ (cl : Addr) (n : Nat) (c0 c1 : Int) (t0 t1 : Tok) (oC oR oI oP oL : Obj) (vL vI vR : Option Value) (tP : Tok) (rest : List (Addr × Obj)),
  news = (L + 1 + 1 + 1, oR) :: (L + 1 + 1 + 1 + 1, oI) :: (L + 1 + 1 + 1 + 1 + 1, oL) :: rest ∧ (∀ p ∈ rest, p.1 ≠ L + 1 + 1 + 1 + 1 + 1 ∧ p.1 ≠ L + 1 + 1 + 1 + 1 ∧ p.1 ≠ L + 1 + 1 + 1) ∧ oL.data = .cell vL ∧ oI.data = .cell vI ∧ oR.data = .cell vR ∧ (L + 1 + 1, oP) ∈ rest ∧ oP.data = .cell (some (.str (SS l) tP)) ∧
  (L + 1, oC) ∈ rest ∧ oC.data = .cell (some (.ref cl)) ∧ (cl, listOf #[.int c0 t0, .int c1 t1] n) ∈ rest
set_option maxHeartbeats 4000000 in
theorem seg3 (w : World) (l : List (Fin 4)) (hpl : plc l) (h4 : Seg w 4 (C4 l (prsOf l l))) : Seg w 3 (C3 l) := by
  intro pp ll mean mg mb fa L ccd A₀ base h₀ m s news Q E B F X N T hC hret
  obtain ⟨cl, n, c0, c1, t0, t1, oC, oR, oI, oP, oL, vL, vI, vR, tP, rest, rfl, hoff, dL, dI, dR, hP, dP, hCm, dC, hcl⟩ := hC
  refine noE ?_
  have h4 := h4 pp ll mean mg mb fa L ccd A₀ base h₀
  unfold lawEnv at h4 ⊢
  have hS : lawBody.drop 3 = lawBody.drop 3 := rfl
  conv at hS => rhs; whnf
  rw [hS]
  clear hS
  have hE : lawScope = lawScope := rfl
  conv at hE => rhs; whnf
  rw [hE] at h4 ⊢
  clear hE
  k_steps
  refine hold_out ?_
  refine wpAny_Assign_Name ?_ (by with_unfolding_all rfl)
  refine listComp_twoF F (by with_unfolding_all rfl) (by decide) (by rfl) (by decide) (by rfl) (by rfl) (by decide) (by intro _; rfl) (by intro _ _; rfl) ?_
  k_steps
  have hl4 : l.length ≤ 4 := by rcases hpl with rfl | rfl <;> simp
  have hrest : ∀ p ∈ rest, p ∈ (L + 1 + 1 + 1, oR) :: (L + 1 + 1 + 1 + 1, oI) :: (L + 1 + 1 + 1 + 1 + 1, oL) :: rest := fun p hp => .tail _ (.tail _ (.tail _ hp))
  generalize hnw0 : (L + 1 + 1 + 1, oR) :: (L + 1 + 1 + 1 + 1, oI) :: (L + 1 + 1 + 1 + 1 + 1, oL) :: rest = nw0 at *
  refine ⟨_, _, _, nw0, fun i ys nw => nw = nw0 ∧ DatAll [] ys ((prsOf l (l.take i)).map pairD), Src.text rfl, F, N, ⟨rfl, .nil⟩, fun _ _ _ _ => trivial, ?_, ?_⟩
  · rintro i ys nw v I oI2 C oC2 D m₂ h tk hi hv ⟨rfl, hys⟩ hC hxv F₂ N₂ hoff2
    obtain ⟨c, u, hc, rfl⟩ := ss_at hv
    obtain ⟨hi2, hci⟩ := List.getElem?_eq_some_iff.mp hc
    have hPm : (L + 1 + 1, oP) ∈ (I, oI2) :: (C, oC2) :: (D, LCg.lst ys) :: nw := .tail _ (.tail _ (.tail _ (hrest _ hP)))
    k_steps
    refine ⟨h, tk, nw, _, _, _, fun j ys' nw' => nw' = nw ∧ DatAll [] ys' ((prsOf l (l.take i) ++ prsIn c (l.take j)).map pairD), rfl, F₂, N₂, hoff2, Src.text rfl, ⟨rfl, by rw [List.take_zero]; show DatAll [] ys ((prsOf l (l.take i) ++ []).map pairD); rw [List.append_nil]; exact hys⟩, fun _ _ _ _ => trivial, ?_, ?_, ?_⟩
    · rintro j ys' nw' ⟨rfl, hy'⟩
      have h1 := hy'.length
      have h2 := prsOf_len l (l.take i)
      have h3 := prsIn_len c (l.take j)
      have h4 := List.length_take_le' i l
      have h5 := List.length_take_le' j l
      rw [List.length_map, List.length_append] at h1
      have h6 : (l.take i).length * l.length ≤ 4 * 4 := Nat.mul_le_mul (by omega) hl4
      omega
    · rintro I2 j ys' nw' v2 oI3 oC3 m₃ h3 tk3 hj hv2 ⟨rfl, hy'⟩ hC' hx' hy'' F₃ N₃ hoff3
      obtain ⟨c2, u2, hc2, rfl⟩ := ss_at hv2
      obtain ⟨hj2, hcj⟩ := List.getElem?_eq_some_iff.mp hc2
      have hJ : prsIn c (l.take (j + 1)) = prsIn c (l.take j) ++ if decide (c < c2) = true then [(c, c2)] else [] := by
        unfold prsIn
        rw [← List.take_append_getElem hj2, hcj, List.filter_append, List.map_append]
        by_cases e : c < c2
        · rw [if_pos (decide_eq_true e)]
          simp [e]
        · rw [if_neg (by simpa using e)]
          simp [e]
      refine wpAny_tests_one ?_
      k_steps
      refine hold_out ?_
      refine PyProof.Rows.lt_str ?_
      rw [s1_lt]
      by_cases e : c < c2
      · rw [decide_eq_true e]
        k_steps
        refine hold_out ?_
        refine PyProof.Rows.add_str (fun t' tk' => ?_) (by show 1 + 1 ≤ sizeLine; rw [sizeLine_eq]; omega)
        rw [s1_add]
        refine CEnd.intro F₃ N₃ nw' (own4 (.head _) (.tail _ (.head _)) (.tail _ (.tail _ (.head _))) (.tail _ (.tail _ (.tail _ (.head _))))) (fun p hp => .tail _ (.tail _ (.tail _ (.tail _ hp)))) (fun p hp q hq => own4 (P := fun q => p.1 ≠ q.1) (hoff3 p hp).1 (hoff3 p hp).2.1 (hoff3 p hp).2.2.1 (hoff3 p hp).2.2.2 q hq) ⟨rfl, ?_⟩
        rw [hJ, if_pos (decide_eq_true e), ← List.append_assoc, List.map_append]
        exact hy'.append (.one (.str _ _))
      · rw [decide_eq_false e]
        k_steps
        refine CEnd.intro F₃ N₃ nw' (own4 (.head _) (.tail _ (.head _)) (.tail _ (.tail _ (.head _))) (.tail _ (.tail _ (.tail _ (.head _))))) (fun p hp => .tail _ (.tail _ (.tail _ (.tail _ hp)))) (fun p hp q hq => own4 (P := fun q => p.1 ≠ q.1) (hoff3 p hp).1 (hoff3 p hp).2.1 (hoff3 p hp).2.2.1 (hoff3 p hp).2.2.2 q hq) ⟨rfl, ?_⟩
        rw [hJ, if_neg (by simpa using e), List.append_nil]
        exact hy'
    · rintro ys' nw' ⟨rfl, hy'⟩
      refine ⟨rfl, ?_⟩
      rw [← List.take_append_getElem hi2, hci]
      unfold prsOf at hy' ⊢
      rw [List.flatMap_append]
      rw [ss_size, List.take_length] at hy'
      simpa using hy'
  · rintro ys nw D h tk ⟨rfl, hys⟩ F₂ N₂ hoff2
    rw [ss_size, List.take_length] at hys
    subst hnw0
    have N3 : News h₀ L h ((L + 1 + 1 + 1, oR) :: (L + 1 + 1 + 1 + 1, oI) :: (L + 1 + 1 + 1 + 1 + 1, oL) :: (D, listOf ys.toArray ys.length) :: rest) := fun z hz => N₂ z (by
      simp only [List.mem_cons] at hz ⊢
      grind)
    have hD1 : @Ne Nat D (L + 1 + 1 + 1) := Ne.symm (hoff2 _ (.head _))
    have hD2 : @Ne Nat D (L + 1 + 1 + 1 + 1) := Ne.symm (hoff2 _ (.tail _ (.head _)))
    have hD3 : @Ne Nat D (L + 1 + 1 + 1 + 1 + 1) := Ne.symm (hoff2 _ (.tail _ (.tail _ (.head _))))
    have hoff4 : ∀ z ∈ (L + 1 + 1 + 1 + 1, oI) :: (L + 1 + 1 + 1 + 1 + 1, oL) :: (D, listOf ys.toArray ys.length) :: rest, z.1 ≠ L + 1 + 1 + 1 := fun z hz => by
      rcases List.mem_cons.mp hz with rfl | hz
      · exact Nat.succ_ne_self _
      · rcases List.mem_cons.mp hz with rfl | hz
        · exact (show @Ne Nat (L + 1 + 1 + 1 + 1 + 1) (L + 1 + 1 + 1) from Nat.ne_of_gt (Nat.lt_succ_of_lt (Nat.lt_succ_self _)))
        · rcases List.mem_cons.mp hz with rfl | hz
          · exact hD1
          · exact (hoff z hz).2.2
    refine storeX_C (c := L + 1 + 1 + 1) (o := oR) F₂ N3 (by rfl) (.head hoff4) dR ?_
    intro h11 oR2 F11 N13 dR2
    dsimp only
    refine h4 _ _ ((L + 1 + 1 + 1 + 1, oI) :: (L + 1 + 1 + 1 + 1 + 1, oL) :: (L + 1 + 1 + 1, oR2) :: (D, listOf ys.toArray ys.length) :: rest) Q _ B F11 X (fun z hz => N13 z ?_) T ⟨cl, D, ys, n, ys.length, c0, c1, t0, t1, oC, oR2, oI, oP, oL, vL, vI, tP, _, rfl, fun z hz => ?_, dL, dI, .tail _ (.tail _ hP), dP, .tail _ (.tail _ hCm), dC, .tail _ (.tail _ hcl), .head _, dR2, .tail _ (.head _), hys⟩ fun h' tk m' F' => hret h' tk m' F'
    · simp only [List.mem_cons] at hz ⊢
      grind
    · rcases List.mem_cons.mp hz with rfl | hz
      · exact ⟨Nat.ne_of_lt (Nat.lt_succ_of_lt (Nat.lt_succ_self _)), Nat.ne_of_lt (Nat.lt_succ_self _)⟩
      · rcases List.mem_cons.mp hz with rfl | hz
        · exact ⟨hD3, hD2⟩
        · exact ⟨(hoff z hz).1, (hoff z hz).2.1⟩
end
end Mine
end

section
open PySem PySem.W PyProof.Rows PySem.Spec PySem.Calls
set_option Elab.async false
set_option maxRecDepth 100000
set_option maxHeartbeats 8000000
namespace Mine
theorem fill28 : (fun (_ : OpenLaw) (_ : Params → Frag) => True) PySem.Challenge.rw_xw0305_01 hd.heap_1 := by
  k_fill
  trivial
local macro_rules | `(tactic| k_room) => `(tactic| ((simp only [ktrTop, depth_mark, depth_under_make, depth_under_kw, depth_in1, depth_deeper, depth_caller, recursionLimit]); omega))
local macro_rules | `(tactic| ktr_room) => `(tactic| k_room)
local macro_rules | `(tactic| k_units) => `(tactic| ((simp only [ktrTop, units_makes, units_in1, units_deeper, Around.mark_units, units_caller, cLine]); omega))
local macro_rules | `(tactic| k_mem) => `(tactic| first | exact List.mem_cons_self | with_reducible assumption | (refine List.mem_cons_of_mem _ ?_; k_mem) | (refine List.mem_append.mpr (Or.inl ?_); k_mem) | (refine List.mem_append.mpr (Or.inr ?_); k_mem))
theorem two_ints {ys : List Value} {zs : List Int} {k : Nat} {a b : Int} {t u : Tok} (h : IntsAre ys zs) (hl : zs.length = k) (hk : k ≤ 2) : ∃ c0 c1 t0 t1, ys ++ ([Value.int a t, Value.int b u].drop k).toArray.toList = [Value.int c0 t0, Value.int c1 t1] := by
  cases h with
  | nil =>
    subst hl
    exact ⟨_, _, _, _, rfl⟩
  | cons i t' r =>
    cases r with
    | nil =>
      subst hl
      exact ⟨_, _, _, _, rfl⟩
    | cons j t2 r =>
      cases r with
      | nil =>
        subst hl
        exact ⟨_, _, _, _, rfl⟩
      | cons _ _ _ =>
        exfalso
        simp only [List.length_cons] at hl
        omega
theorem fmod_two (a : Int) : a.fmod 2 = 0 ∨ a.fmod 2 = 1 := by
  rw [Int.fmod_eq_emod_of_nonneg a (by decide)]
  omega
theorem slice_3 : Txt.slice (Str.ofString "abcd") none (some (3 + 0)) = SS [0, 1, 2] := by decide +kernel
theorem slice_4 : Txt.slice (Str.ofString "abcd") none (some (3 + 1)) = SS [0, 1, 2, 3] := by decide +kernel
theorem slice_str_to {prog : Program} {w : World} {A : Around} {E : Value → Shared → Prop} {h₁ : Heap} {g : Array GenState} {d : Drawn} {tk : Nat} {os : OsState} {P : Heap → Prop} {value slice : PySem.Expr} {x : Str} {t uj : Tok} {j : Int} {Q : Value → Shared → Prop} (hk : KeptH P) (hI : P h₁) (hsz : x.length ≤ sizeLine)
    (h : ∀ h' t' k, P h' → Q (.str (Txt.slice x none (some j)) t') ⟨h', g, d, k, os⟩)
    (hs : subscripted slice false (.str x t) (.ref h₁.objs.size) = operate [.ref h₁.objs.size, .str x t] (getItem (.str x t) (.ref h₁.objs.size)) := by with_unfolding_all rfl) :
    wpAny (model prog w) A (subscriptTail value slice (.str x t) (.ref h₁.objs.size)) Q E ⟨h₁.push { cls := .type "slice", data := .fields #[.none, .int j uj, .none] }, g, d, tk, os⟩ := by
  refine tail_any (typeIs_str _ _ _) F.slot_str_getitem.lookup (wpAny_getItem_str_slice (l := none) (u := some (j, uj)) (st := none) ⟨_, Heap.get?_push_size _ rfl, rfl, rfl⟩ rfl ?_) hs
  exact post_val_or_str ⟨Nat.le_trans (Txt.slice_le x _ _) hsz, fun t' k => h _ t' k (hk _ _ hI)⟩
theorem offs {c : Addr} {a1 a2 a3 a4 a5 : Addr} {o1 o2 o3 o4 o5 : Obj} (h1 : @Ne Nat a1 c) (h2 : @Ne Nat a2 c) (h3 : @Ne Nat a3 c) (h4 : @Ne Nat a4 c) (h5 : @Ne Nat a5 c) : ∀ p ∈ [(a1, o1), (a2, o2), (a3, o3), (a4, o4), (a5, o5)], p.1 ≠ c := fun p hp => by
  simp only [List.mem_cons, List.not_mem_nil, or_false] at hp
  rcases hp with rfl | rfl | rfl | rfl | rfl
  · exact h1
  · exact h2
  · exact h3
  · exact h4
  · exact h5
section
local macro_rules | `(tactic| walk_at "call builtin:len") => `(tactic| (k_here; refine hold_intro ?_))
local macro_rules | `(tactic| walk_at "eval ListComp") => `(tactic| (k_here; refine hold_intro ?_))
local macro_rules | `(tactic| walk_at "eval ListComp Call cons") => `(tactic| (k_here; refine hold_intro ?_))
local macro_rules | `(tactic| walk_at "CompSrc") => `(tactic| (k_here; refine hold_intro ?_))
local macro_rules | `(tactic| walk_at "binaryOp Add ref ref") => `(tactic| (k_here; refine hold_intro ?_))
local macro_rules | `(tactic| walk_at "binaryOp Mod int int") => `(tactic| (k_here; refine hold_intro ?_))
local macro_rules | `(tactic| walk_at "subscriptTail") => `(tactic| (k_here; refine hold_intro ?_))
local macro_rules | `(tactic| walk_at "subscriptTail Name Slice ref ref") => `(tactic| (k_here; refine hold_intro ?_))
local macro_rules | `(tactic| walk_at "execs cons") => `(tactic| (k_here; refine gen_toks ?_; intro tk htk9; (try dsimp only at htk9)))
def C0 (h₀ : Heap) (m : Str → Option Value) (news : List (Addr × Obj)) (L : Addr) (_tk : Nat) : Prop := ∃ (sl : Addr) (vs : List Value) (ns : List Int) (o1 o2 o3 o4 o5 : Obj) (v1 v2 v3 v4 v5 : Option Value), m (Str.ofString "script") = some (.ref sl) ∧
  news = [(L + 1 + 1 + 1 + 1 + 1, o5), (L + 1 + 1 + 1 + 1, o4), (L + 1 + 1 + 1, o3), (L + 1 + 1, o2), (L + 1, o1)] ∧ o1.data = .cell v1 ∧ o2.data = .cell v2 ∧ o3.data = .cell v3 ∧ o4.data = .cell v4 ∧ o5.data = .cell v5 ∧ h₀.IsList sl vs.toArray ∧ IntsAre vs ns ∧ vs.length ≤ 63
set_option maxHeartbeats 4000000 in
theorem seg0 (w : World) (h3 : ∀ l, plc l → Seg w 3 (C3 l)) : Seg w 0 C0 := by
  intro pp ll mean mg mb fa L ccd A₀ base h₀ m s news Q E B F X N T hC hret
  obtain ⟨sl, vs, ns, o1, o2, o3, o4, o5, v1, v2, v3, v4, v5, e1, rfl, d1, d2, d3, d4, d5, hsl, hns, h63⟩ := hC
  refine noE ?_
  have F₁ := fr_ext (m' := fun y => if y = Str.ofString "script" then some (.ref sl) else m y) F fun y => by rw [ife e1]
  clear F
  have h3 := fun l hl => h3 l hl pp ll mean mg mb fa L ccd A₀ base h₀
  unfold lawEnv at h3 ⊢
  have hS : lawBody.drop 0 = lawBody.drop 0 := rfl
  conv at hS => rhs; whnf
  rw [hS]
  clear hS
  have hE : lawScope = lawScope := rfl
  conv at hE => rhs; whnf
  rw [hE] at h3 ⊢
  clear hE
  k_steps
  refine hold_out ?_
  have hnl := hns.length
  (rename Fr _ _ _ _ => F2)
  (rename News _ _ _ _ => N2)
  refine LCg.ListComp_U F2 (by with_unfolding_all rfl) (by decide) (by rfl) (by decide) (by rfl) ?_
  k_steps
  refine hold_out ?_
  refine kms_slice_lit F2 N2 (stays_list F2.keep hsl) .none (.int _ _) (zs := vs.take 2) ?_ ?_ (by with_unfolding_all rfl) (by intro _; with_unfolding_all rfl) (by rw [List.size_toArray, sizeLine_eq]; omega)
  · show kms_pick vs none (some (2 : Int)) = _
    simp only [kms_pick, kms_lo, kms_hi, List.drop_zero, Nat.sub_zero]
    rw [if_neg (by omega)]
    exact kmk_take_min vs 2
  intro D3 h3' F3 N3 l3
  (try dsimp only)
  k_steps
  refine hold_out ?_
  have h2l : (vs.take 2).length ≤ 2 := List.length_take_le ..
  refine comp_ledger (its := vs.take 2) (k := 0) (fun i ys nw => nw = (D3, listOf (vs.take 2).toArray 0) :: _ ∧ ∃ zs : List Int, IntsAre ys zs ∧ zs.length = i) rfl F3 N3 ?_ (by omega) ⟨rfl, [], .nil, rfl⟩ ?_ ?_
  · rintro i ys nw ⟨rfl, _⟩
    exact .head _
  · rintro i ys nw v I oI C oC D m₂ h tk3 hv ⟨rfl, zs, hzs, hzl⟩ hC hx F4 N4 hn4 ⟨ne1, ne2, ne3⟩
    obtain ⟨n1, t1, rfl⟩ := IntsAre.all hns v (List.mem_of_mem_take (List.mem_of_getElem? hv))
    k_steps
    (rename Fr _ _ _ _ => F5)
    (rename News _ _ _ _ => N5)
    (try dsimp only)
    exact CEnd.intro F5 N5 _ (own3 (.head _) (.tail _ (.head _)) (.tail _ (.tail _ (.head _)))) (fun p hp => .tail _ (.tail _ (.tail _ hp))) hn4 ⟨rfl, zs ++ [_], hzs.append (.cons _ _ .nil), by rw [List.length_append, hzl]; rfl⟩
  · rintro ys nw D h tk3 ⟨rfl, zs, hzs, hzl⟩ F4 N4 hn4
    dsimp only
    k_steps
    refine hold_out ?_
    refine kms_slice_lit F4 N4 (stays_list F4.keep hsl) .none (.int _ _) (zs := vs.take 2) ?_ ?_ (by with_unfolding_all rfl) (by intro _; with_unfolding_all rfl) (by rw [List.size_toArray, sizeLine_eq]; omega)
    · show kms_pick vs none (some (2 : Int)) = _
      simp only [kms_pick, kms_lo, kms_hi, List.drop_zero, Nat.sub_zero]
      rw [if_neg (by omega)]
      exact kmk_take_min vs 2
    intro D4 h4 F5 N5 l5
    (try dsimp only)
    k_steps
    refine hold_out ?_
    refine call_len_list (news_list (vs := vs.take 2) (n := 0) N5 (.head _)) (by rw [List.size_toArray]; omega) ?_
    rw [List.size_toArray]
    k_steps
    refine hold_out ?_
    refine slice_from (k := (vs.take 2).length) rfl F5 N5 (.tail _ (.tail _ (.tail _ (.head _)))) (by simp) ?_
    intro D6 h6 F6 N6 l6
    (try dsimp only)
    k_steps
    refine hold_out ?_
    have hyl := hzs.length
    refine kmk_add_lit (zs := ys ++ _) F6 N6 (news_list (vs := ys) (n := ys.length) N6 (.tail _ (.tail _ (.head _)))) (news_list (n := 0) N6 (.head _)) rfl ?_ (by simp only [List.length_append, List.length_drop, List.length_cons, List.length_nil, sizeLine_eq]; omega)
    intro D7 h7 F7 N7 l7
    have hDl := l7 (L + 1 + 1 + 1 + 1 + 1, o5) (by simp)
    have hDl : @LT.lt Nat _ (L + 1 + 1 + 1 + 1 + 1) D7 := hDl
    obtain ⟨c0, c1, t0, t1, h01⟩ := two_ints hzs hzl h2l (a := 0) (b := 58) (t := s.toks) (u := s.toks + 1)
    have N8 : News h₀ L h7 [(L + 1, o1), (L + 1 + 1, o2), (L + 1 + 1 + 1, o3), (L + 1 + 1 + 1 + 1, o4), (L + 1 + 1 + 1 + 1 + 1, o5), (D7, listOf #[.int c0 t0, .int c1 t1] 0)] := fun z hz => N7 z (by
      rw [show (#[Value.int c0 t0, Value.int c1 t1] : Array Value) = ([Value.int c0 t0, Value.int c1 t1] : List Value).toArray from rfl, ← h01] at hz
      simp only [List.mem_cons, List.not_mem_nil, or_false] at hz ⊢
      rcases hz with h | h | h | h | h | h
      · exact .inr (.inr (.inr (.inr (.inr (.inr (.inr (.inr (.inr (.inr h)))))))))
      · exact .inr (.inr (.inr (.inr (.inr (.inr (.inr (.inr (.inr (.inl h)))))))))
      · exact .inr (.inr (.inr (.inr (.inr (.inr (.inr (.inr (.inl h))))))))
      · exact .inr (.inr (.inr (.inr (.inr (.inr (.inr (.inl h)))))))
      · exact .inr (.inr (.inr (.inr (.inr (.inr (.inl h))))))
      · exact .inl h)
    clear N7 N6 N5 N4 N3 F3 F4 F5 F6 l7 l6 l5 l3 hn4
    refine storeX_C (c := L + 1) (o := o1) F7 N8 (by rfl) (.head (offs (by have := hDl; omega) (by have := hDl; omega) (by have := hDl; omega) (by have := hDl; omega) (by have := hDl; omega))) d1 ?_
    intro h8 o1' F8 N9 d1'
    dsimp only at N9 ⊢
    k_steps
    refine hold_out ?_
    refine mod_int' (by decide) ?_
    have h01 : ([c0, c1].getD (Int.toNat 0) 0).fmod 2 = 0 ∨ ([c0, c1].getD (Int.toNat 0) 0).fmod 2 = 1 := fmod_two _
    generalize ([c0, c1].getD (Int.toNat 0) 0).fmod 2 = e at *
    (try dsimp only)
    k_steps
    refine hold_out ?_
    (try dsimp only)
    have hab : (Str.ofString "abcd").length ≤ sizeLine := by
      rw [sizeLine_eq]
      exact Nat.le_of_ble_eq_true (by decide +kernel)
    refine slice_str_to (P := fun h => Fr h₀ L h (fun y => if y = Str.ofString "usual" then some (.ref _) else if y = Str.ofString "script" then some (.ref sl) else m y) ∧ News h₀ L h [(L + 1, o1'), (L + 1 + 1, o2), (L + 1 + 1 + 1, o3), (L + 1 + 1 + 1 + 1, o4), (L + 1 + 1 + 1 + 1 + 1, o5), (D7, listOf #[.int c0 t0, .int c1 t1] 0)]) (fun h o hh => ⟨hh.1.keeps fun b o' e => Heap.get?_push_of_some _ e, hh.2.grown fun b o' e => Heap.get?_push_of_some _ e⟩) ⟨F8, N9⟩ hab ?_
    rintro h9 t9 k9 ⟨F10, N10⟩
    obtain ⟨l, hpl, hle⟩ : ∃ l, plc l ∧ Txt.slice (Str.ofString "abcd") none (some (3 + e)) = SS l := by
      rcases h01 with rfl | rfl
      · exact ⟨[0, 1, 2], .inl rfl, slice_3⟩
      · exact ⟨[0, 1, 2, 3], .inr rfl, slice_4⟩
    rw [hle]
    have N11 : News h₀ L h9 [(L + 1 + 1, o2), (L + 1, o1'), (L + 1 + 1 + 1, o3), (L + 1 + 1 + 1 + 1, o4), (L + 1 + 1 + 1 + 1 + 1, o5), (D7, listOf #[.int c0 t0, .int c1 t1] 0)] := fun z hz => N10 z (by
      simp only [List.mem_cons] at hz ⊢
      grind)
    clear N10
    refine storeX_C (c := L + 1 + 1) (o := o2) F10 N11 (by rfl) (.head (offs (by have := hDl; omega) (by have := hDl; omega) (by have := hDl; omega) (by have := hDl; omega) (by have := hDl; omega))) d2 ?_
    intro h11 o2' F11 N12 d2'
    dsimp only at N12 ⊢
    refine h3 l hpl _ _ [(L + 1 + 1 + 1, o3), (L + 1 + 1 + 1 + 1, o4), (L + 1 + 1 + 1 + 1 + 1, o5), (L + 1, o1'), (L + 1 + 1, o2'), (D7, listOf #[.int c0 t0, .int c1 t1] 0)] Q _ B F11 X (fun z hz => N12 z ?_) T ⟨D7, 0, c0, c1, t0, t1, o1', o3, o4, o2', o5, v5, v4, v3, t9, _, rfl, fun z hz => ?_, d5, d4, d3, .tail _ (.head _), d2', .head _, d1', .tail _ (.tail _ (.head _))⟩ fun h' tk m' F' => hret h' tk m' F'
    · simp only [List.mem_cons] at hz ⊢
      grind
    · simp only [List.mem_cons, List.not_mem_nil, or_false] at hz
      have := hDl
      rcases hz with rfl | rfl | rfl
      · exact ⟨(show @Ne Nat _ _ by dsimp only; omega), (show @Ne Nat _ _ by dsimp only; omega), (show @Ne Nat _ _ by dsimp only; omega)⟩
      · exact ⟨(show @Ne Nat _ _ by dsimp only; omega), (show @Ne Nat _ _ by dsimp only; omega), (show @Ne Nat _ _ by dsimp only; omega)⟩
      · exact ⟨(show @Ne Nat _ _ by dsimp only; omega), (show @Ne Nat _ _ by dsimp only; omega), (show @Ne Nat _ _ by dsimp only; omega)⟩
end
end Mine
end

section
open PySem PySem.W PyProof.Rows PySem.Spec PySem.Calls
set_option Elab.async false
set_option maxRecDepth 100000
namespace Mine
def lab (g : List (Fin 4)) (a : Fin 4) : Fin 4 := g.getD a.val 0
/-- Kruskal's road, by recursion -/
def kr : List (Fin 4) → List Tie → KS
  | g, [] => (g, [])
  | g, t :: ts => if lab g t.2.1 = lab g t.2.2 then kr g ts else ((kr (joinS g (lab g t.2.1) (lab g t.2.2)) ts).1, t :: (kr (joinS g (lab g t.2.1) (lab g t.2.2)) ts).2)
def okE (n : Nat) (ts : List Tie) : Prop := ∀ t ∈ ts, t.2.1.val < n ∧ t.2.2.val < n
theorem join_len (g : List (Fin 4)) (x y : Fin 4) : (joinS g x y).length = g.length := by
  unfold joinS
  rw [List.length_map]
theorem foldl_kr : ∀ (ts : List Tie) (g : List (Fin 4)) (k : List Tie), okE g.length ts → ts.foldl kstep (g, k) = ((kr g ts).1, k ++ (kr g ts).2)
  | [], g, k, _ => by
    rw [List.foldl_nil, kr, List.append_nil]
  | t :: ts, g, k, h => by
    obtain ⟨h1, h2⟩ := h t (.head _)
    have hs : kstep (g, k) t = if lab g t.2.1 = lab g t.2.2 then (g, k) else (joinS g (lab g t.2.1) (lab g t.2.2), k ++ [t]) := by
      unfold kstep lab
      simp only [List.getElem?_eq_getElem h1, List.getElem?_eq_getElem h2, List.getD_eq_getElem?_getD, Option.getD_some]
    rw [List.foldl_cons, hs]
    unfold kr
    split
    · exact foldl_kr ts g k fun u hu => h u (.tail _ hu)
    · rw [foldl_kr ts _ _ (by rw [join_len]; exact fun u hu => h u (.tail _ hu))]
      simp
theorem krus_kr {l : List (Fin 4)} {ts : List Tie} (h : okE l.length ts) : krus l ts = kr l ts := by
  unfold krus
  rw [foldl_kr ts l [] h]
  simp
theorem lab_join {g : List (Fin 4)} {a : Fin 4} (h : a.val < g.length) (x y : Fin 4) : lab (joinS g x y) a = if lab g a = x then y else lab g a := by
  unfold lab joinS
  simp only [List.getD_eq_getElem?_getD, List.getElem?_map, List.getElem?_eq_getElem h, Option.map_some, Option.getD_some]
theorem dj3 : ∀ p q r x y : Fin 4, x ≠ y → x ∈ [p, q, r] → y ∈ [p, q, r] → dist (joinS [p, q, r] x y) + 1 = dist [p, q, r] := by decide +kernel
theorem dj4 : ∀ p q r s x y : Fin 4, x ≠ y → x ∈ [p, q, r, s] → y ∈ [p, q, r, s] → dist (joinS [p, q, r, s] x y) + 1 = dist [p, q, r, s] := by decide +kernel
theorem dp3 : ∀ p q r : Fin 4, 1 ≤ dist [p, q, r] := by decide +kernel
theorem dp4 : ∀ p q r s : Fin 4, 1 ≤ dist [p, q, r, s] := by decide +kernel
theorem dc3 : ∀ p : Fin 4, dist [p, p, p] = 1 := by decide +kernel
theorem dc4 : ∀ p : Fin 4, dist [p, p, p, p] = 1 := by decide +kernel
def len34 (g : List (Fin 4)) : Prop := g.length = 3 ∨ g.length = 4
theorem len34_cases {g : List (Fin 4)} (h : len34 g) : (∃ p q r, g = [p, q, r]) ∨ ∃ p q r s, g = [p, q, r, s] := by
  match g, h with
  | [p, q, r], _ => exact .inl ⟨p, q, r, rfl⟩
  | [p, q, r, s], _ => exact .inr ⟨p, q, r, s, rfl⟩
  | [], h => simp [len34] at h
  | [_], h => simp [len34] at h
  | [_, _], h => simp [len34] at h
  | _ :: _ :: _ :: _ :: _ :: _, h => simp [len34] at h
theorem lab_mem {g : List (Fin 4)} {a : Fin 4} (h : a.val < g.length) : lab g a ∈ g := by
  unfold lab
  simp only [List.getD_eq_getElem?_getD, List.getElem?_eq_getElem h, Option.getD_some]
  exact List.getElem_mem h
theorem dist_join {g : List (Fin 4)} (hg : len34 g) {a b : Fin 4} (ha : a.val < g.length) (hb : b.val < g.length) (h : lab g a ≠ lab g b) : dist (joinS g (lab g a) (lab g b)) + 1 = dist g := by
  have h1 := lab_mem ha
  have h2 := lab_mem hb
  revert h h1 h2
  generalize lab g a = x
  generalize lab g b = y
  intro h h1 h2
  rcases len34_cases hg with ⟨p, q, r, rfl⟩ | ⟨p, q, r, s, rfl⟩
  · exact dj3 p q r x y h h1 h2
  · exact dj4 p q r s x y h h1 h2
theorem dist_pos {g : List (Fin 4)} (hg : len34 g) : 1 ≤ dist g := by
  rcases len34_cases hg with ⟨p, q, r, rfl⟩ | ⟨p, q, r, s, rfl⟩
  · exact dp3 p q r
  · exact dp4 p q r s
theorem dist_const {g : List (Fin 4)} (hg : len34 g) (h : ∀ a b : Fin 4, a.val < g.length → b.val < g.length → lab g a = lab g b) : dist g = 1 := by
  rcases len34_cases hg with ⟨p, q, r, rfl⟩ | ⟨p, q, r, s, rfl⟩
  · have h1 : p = q := h 0 1 (Nat.le_of_ble_eq_true rfl) (Nat.le_of_ble_eq_true rfl)
    have h2 : p = r := h 0 2 (Nat.le_of_ble_eq_true rfl) (Nat.le_of_ble_eq_true rfl)
    subst h1 h2
    exact dc3 p
  · have h1 : p = q := h 0 1 (Nat.le_of_ble_eq_true rfl) (Nat.le_of_ble_eq_true rfl)
    have h2 : p = r := h 0 2 (Nat.le_of_ble_eq_true rfl) (Nat.le_of_ble_eq_true rfl)
    have h3 : p = s := h 0 3 (Nat.le_of_ble_eq_true rfl) (Nat.le_of_ble_eq_true rfl)
    subst h1 h2 h3
    exact dc4 p
/-- what is taken, counted -/
theorem kr_count : ∀ (ts : List Tie) (g : List (Fin 4)), len34 g → okE g.length ts → (kr g ts).2.length + dist (kr g ts).1 = dist g
  | [], g, _, _ => by
    unfold kr
    exact Nat.zero_add _
  | t :: ts, g, hg, h => by
    obtain ⟨h1, h2⟩ := h t (.head _)
    have h' : okE g.length ts := fun u hu => h u (.tail _ hu)
    unfold kr
    split
    · exact kr_count ts g hg h'
    · next hne =>
      have hd := dist_join hg h1 h2 hne
      have hl := join_len g (lab g t.2.1) (lab g t.2.2)
      have ih := kr_count ts (joinS g (lab g t.2.1) (lab g t.2.2)) (by unfold len34; rw [hl]; exact hg) (by rw [hl]; exact h')
      simp only [List.length_cons]
      omega
theorem kr_len : ∀ (ts : List Tie) (g : List (Fin 4)), (kr g ts).1.length = g.length
  | [], g => by unfold kr; rfl
  | t :: ts, g => by
    unfold kr
    split
    · exact kr_len ts g
    · show (kr _ ts).1.length = _
      rw [kr_len ts, join_len]
theorem kr_sub : ∀ (ts : List Tie) (g : List (Fin 4)), (kr g ts).2.Sublist ts
  | [], g => by unfold kr; exact .refl _
  | t :: ts, g => by
    unfold kr
    split
    · exact (kr_sub ts g).cons t
    · exact (kr_sub ts _).cons_cons t
/-- equal signs stay equal -/
theorem kr_keep : ∀ (ts : List Tie) (g : List (Fin 4)), okE g.length ts → ∀ a b : Fin 4, a.val < g.length → b.val < g.length → lab g a = lab g b → lab (kr g ts).1 a = lab (kr g ts).1 b
  | [], g, _, a, b, _, _, e => by unfold kr; exact e
  | t :: ts, g, h, a, b, ha, hb, e => by
    have h' : okE g.length ts := fun u hu => h u (.tail _ hu)
    unfold kr
    split
    · exact kr_keep ts g h' a b ha hb e
    · refine kr_keep ts _ (by rw [join_len]; exact h') a b (by rw [join_len]; exact ha) (by rw [join_len]; exact hb) ?_
      rw [lab_join ha, lab_join hb, e]
/-- a tie that was met has equal signs -/
theorem kr_met : ∀ (ts : List Tie) (g : List (Fin 4)), okE g.length ts → ∀ t ∈ ts, lab (kr g ts).1 t.2.1 = lab (kr g ts).1 t.2.2
  | [], _, _, _, h => nomatch h
  | t :: ts, g, h, u, hu => by
    obtain ⟨h1, h2⟩ := h t (.head _)
    have h' : okE g.length ts := fun u hu => h u (.tail _ hu)
    unfold kr
    split
    · next e =>
      rcases List.mem_cons.mp hu with rfl | hu
      · exact kr_keep ts g h' _ _ h1 h2 e
      · exact kr_met ts g h' u hu
    · have h2' : okE (joinS g (lab g t.2.1) (lab g t.2.2)).length ts := by rw [join_len]; exact h'
      rcases List.mem_cons.mp hu with rfl | hu
      · refine kr_keep ts _ h2' _ _ (by rw [join_len]; exact h1) (by rw [join_len]; exact h2) ?_
        rw [lab_join h1, lab_join h2, if_pos rfl]
        split <;> rfl
      · exact kr_met ts _ h2' u hu
/-- the ties L hold all together that has unlike signs in g -/
def Conn (g : List (Fin 4)) (L : List Tie) : Prop := ∀ f : Fin 4 → Fin 4, (∀ a b : Fin 4, a.val < g.length → b.val < g.length → lab g a = lab g b → f a = f b) → (∀ e ∈ L, f e.2.1 = f e.2.2) → ∀ a b : Fin 4, a.val < g.length → b.val < g.length → f a = f b
theorem conn_join {g : List (Fin 4)} {t : Tie} {L : List Tie} (h1 : t.2.1.val < g.length) (h2 : t.2.2.val < g.length) (h : Conn g (t :: L)) : Conn (joinS g (lab g t.2.1) (lab g t.2.2)) L := by
  intro f hf hL a b ha hb
  rw [join_len] at ha hb
  refine h f (fun a b ha hb e => hf a b (by rw [join_len]; exact ha) (by rw [join_len]; exact hb) (by rw [lab_join ha, lab_join hb, e])) (fun e he => ?_) a b ha hb
  rcases List.mem_cons.mp he with rfl | he
  · refine hf _ _ (by rw [join_len]; exact h1) (by rw [join_len]; exact h2) ?_
    rw [lab_join h1, lab_join h2, if_pos rfl]
    split <;> rfl
  · exact hL e he
theorem conn_coarse {g : List (Fin 4)} {L : List Tie} {x y : Fin 4} (h : Conn g L) : Conn (joinS g x y) L := by
  intro f hf hL a b ha hb
  rw [join_len] at ha hb
  exact h f (fun a b ha hb e => hf a b (by rw [join_len]; exact ha) (by rw [join_len]; exact hb) (by rw [lab_join ha, lab_join hb, e])) hL a b ha hb
theorem conn_same {g : List (Fin 4)} {t : Tie} {L : List Tie} (h1 : t.2.1.val < g.length) (h2 : t.2.2.val < g.length) (e : lab g t.2.1 = lab g t.2.2) (h : Conn g (t :: L)) : Conn g L := by
  intro f hf hL a b ha hb
  refine h f hf (fun u hu => ?_) a b ha hb
  rcases List.mem_cons.mp hu with rfl | hu
  · exact hf _ _ h1 h2 e
  · exact hL u hu
theorem conn_many : ∀ (L : List Tie) (g : List (Fin 4)), len34 g → okE g.length L → Conn g L → dist g ≤ L.length + 1
  | [], g, hg, _, h => by
    rw [dist_const hg (h (lab g) (fun _ _ _ _ e => e) (fun _ h => nomatch h))]
    exact Nat.le_refl _
  | t :: L, g, hg, ho, h => by
    obtain ⟨h1, h2⟩ := ho t (.head _)
    have ho' : okE g.length L := fun u hu => ho u (.tail _ hu)
    by_cases e : lab g t.2.1 = lab g t.2.2
    · have := conn_many L g hg ho' (conn_same h1 h2 e h)
      rw [List.length_cons]
      omega
    · have hd := dist_join hg h1 h2 e
      have hl := join_len g (lab g t.2.1) (lab g t.2.2)
      have := conn_many L _ (by unfold len34; rw [hl]; exact hg) (by rw [hl]; exact ho') (conn_join h1 h2 h)
      rw [List.length_cons]
      omega
def wsum (L : List Tie) : Int := (L.map (·.1)).sum
theorem wsum_cons (t : Tie) (L : List Tie) : wsum (t :: L) = t.1 + wsum L := by
  unfold wsum
  rw [List.map_cons, List.sum_cons]
/-- no lot that holds all together is lighter -/
theorem kr_least : ∀ (ts : List Tie) (g : List (Fin 4)) (m : Int) (L : List Tie), len34 g → okE g.length ts → ts.Pairwise (fun a b => a.1 ≤ b.1) → (∀ t ∈ ts, m ≤ t.1) → L.Sublist ts → Conn g L →
    (kr g ts).2.length ≤ L.length ∧ m * ((L.length : Int) - ((kr g ts).2.length : Int)) ≤ wsum L - wsum (kr g ts).2
  | [], g, m, L, _, _, _, _, hL, _ => by
    obtain rfl := List.sublist_nil.mp hL
    unfold kr
    simp [wsum]
  | t :: ts, g, m, L, hg, ho, hs, hm, hL, hc => by
    obtain ⟨h1, h2⟩ := ho t (.head _)
    have ho' : okE g.length ts := fun u hu => ho u (.tail _ hu)
    obtain ⟨hs1, hs2⟩ := List.pairwise_cons.mp hs
    have hmt := hm t (.head _)
    have up : ∀ d : Int, 0 ≤ d → m * d ≤ t.1 * d := fun d hd => Int.mul_le_mul_of_nonneg_right hmt hd
    have hoL : okE g.length L := fun u hu => ho u (hL.subset hu)
    unfold kr
    by_cases e : lab g t.2.1 = lab g t.2.2
    · rw [if_pos e]
      cases hL with
      | cons _ hL =>
        obtain ⟨i1, i2⟩ := kr_least ts g t.1 L hg ho' hs2 hs1 hL hc
        exact ⟨i1, Int.le_trans (up _ (by omega)) i2⟩
      | cons_cons _ hL =>
        rename_i L'
        obtain ⟨i1, i2⟩ := kr_least ts g t.1 L' hg ho' hs2 hs1 hL (conn_same h1 h2 e hc)
        refine ⟨Nat.le_succ_of_le i1, ?_⟩
        rw [wsum_cons, List.length_cons]
        have h3 := up (((L'.length + 1 : Nat) : Int) - ((kr g ts).2.length : Int)) (by omega)
        have h4 : t.1 * (((L'.length + 1 : Nat) : Int) - ((kr g ts).2.length : Int)) = t.1 + t.1 * ((L'.length : Int) - ((kr g ts).2.length : Int)) := by
          rw [show (((L'.length + 1 : Nat) : Int) - ((kr g ts).2.length : Int)) = 1 + ((L'.length : Int) - ((kr g ts).2.length : Int)) by omega, Int.mul_add, Int.mul_one]
        omega
    · rw [if_neg e]
      have hl := join_len g (lab g t.2.1) (lab g t.2.2)
      have hg' : len34 (joinS g (lab g t.2.1) (lab g t.2.2)) := by unfold len34; rw [hl]; exact hg
      have ho2 : okE (joinS g (lab g t.2.1) (lab g t.2.2)).length ts := by rw [hl]; exact ho'
      have hd := dist_join hg h1 h2 e
      have hcnt := kr_count ts _ hg' ho2
      have hpos := dist_pos (g := (kr (joinS g (lab g t.2.1) (lab g t.2.2)) ts).1) (by unfold len34; rw [kr_len, hl]; exact hg)
      have hmany := conn_many L g hg hoL hc
      cases hL with
      | cons _ hL =>
        obtain ⟨i1, i2⟩ := kr_least ts _ t.1 L hg' ho2 hs2 hs1 hL (conn_coarse hc)
        generalize hK : kr (joinS g (lab g t.2.1) (lab g t.2.2)) ts = K at *
        dsimp only
        have i3 : K.2.length + 1 ≤ L.length := by omega
        refine ⟨by rw [List.length_cons]; exact i3, ?_⟩
        rw [wsum_cons, List.length_cons]
        have h3 := up ((L.length : Int) - ((K.2.length + 1 : Nat) : Int)) (by omega)
        have h4 : t.1 * ((L.length : Int) - ((K.2.length + 1 : Nat) : Int)) = t.1 * ((L.length : Int) - (K.2.length : Int)) - t.1 := by
          rw [show ((L.length : Int) - ((K.2.length + 1 : Nat) : Int)) = ((L.length : Int) - (K.2.length : Int)) - 1 by omega, Int.mul_sub, Int.mul_one]
        omega
      | cons_cons _ hL =>
        rename_i L'
        obtain ⟨i1, i2⟩ := kr_least ts _ t.1 L' hg' ho2 hs2 hs1 hL (conn_join h1 h2 hc)
        generalize hK : kr (joinS g (lab g t.2.1) (lab g t.2.2)) ts = K at *
        dsimp only
        refine ⟨Nat.succ_le_succ i1, ?_⟩
        rw [wsum_cons, wsum_cons, List.length_cons, List.length_cons]
        have h3 := up ((L'.length : Int) - (K.2.length : Int)) (by omega)
        rw [show (((L'.length + 1 : Nat) : Int) - ((K.2.length + 1 : Nat) : Int)) = ((L'.length : Int) - (K.2.length : Int)) by omega]
        omega
end Mine
end

section
open PySem PySem.W PyProof.Rows PySem.Spec PySem.Calls
set_option Elab.async false
set_option maxRecDepth 100000
namespace Mine
theorem wayN_sound : ∀ (n : Nat) (ts : List Tie) (i j : Fin 4) (ws : List Int), wayN n ts i j = some ws → ∀ f : Fin 4 → Fin 4, (∀ e ∈ ts, f e.2.1 = f e.2.2) → f i = f j
  | 0, ts, i, j, ws, h, f, hf => by
    unfold wayN at h
    split at h
    · next e => rw [e]
    · exact nomatch h
  | n + 1, ts, i, j, ws, h, f, hf => by
    unfold wayN at h
    split at h
    · next e => rw [e]
    · obtain ⟨k, hk, hh⟩ := List.exists_of_findSome?_eq_some h
      unfold turnW at hh
      split at hh
      · exact nomatch hh
      · next p hp =>
        have hpm : p ∈ ts := List.mem_of_getElem? hp
        split at hh
        · next hi =>
          obtain ⟨ws', h1, rfl⟩ := Option.map_eq_some_iff.mp hh
          have ih := wayN_sound n _ _ _ _ h1 f fun e he => hf e ((List.mem_append.mp he).elim List.mem_of_mem_take List.mem_of_mem_drop)
          rw [← ih]
          have hpe := hf p hpm
          by_cases e : i = p.2.1
          · rw [if_pos e, e, hpe]
          · rw [if_neg e, hi.resolve_left e, hpe]
        · exact nomatch hh
theorem exists_low : ∀ ts : List Tie, ∃ m : Int, ∀ t ∈ ts, m ≤ t.1
  | [] => ⟨0, fun _ h => nomatch h⟩
  | t :: ts => by
    obtain ⟨m, hm⟩ := exists_low ts
    refine ⟨min m t.1, fun u hu => ?_⟩
    rcases List.mem_cons.mp hu with rfl | hu
    · omega
    · have := hm u hu
      omega
theorem plc_mem {l : List (Fin 4)} (hl : plc l) (a : Fin 4) : a ∈ l ↔ a.val < l.length := by
  rcases hl with rfl | rfl
  · revert a; decide
  · revert a; decide
theorem plc_len {l : List (Fin 4)} (hl : plc l) : len34 l := by
  rcases hl with rfl | rfl
  · exact .inl rfl
  · exact .inr rfl
theorem plc_dist {l : List (Fin 4)} (hl : plc l) : dist l = l.length := by
  rcases hl with rfl | rfl <;> decide +kernel
theorem plc_inj {l : List (Fin 4)} (hl : plc l) (a b : Fin 4) (ha : a.val < l.length) (hb : b.val < l.length) (h : lab l a = lab l b) : a = b := by
  rcases hl with rfl | rfl
  · revert a b; decide
  · revert a b; decide
/-- of all lots of so many ties that hold all together none weighs less -/
theorem lot_law {l : List (Fin 4)} (hl : plc l) {i0 : Fin 4} (hi0 : l[0]? = some i0) {ts : List Tie} (ho : okE l.length ts) (hs : ts.Pairwise fun a b => a.1 ≤ b.1) (hk : (kr l ts).2.length + 1 = l.length) :
    ∀ lot ∈ lots ts (l.length - 1), wsum lot < wsum (kr l ts).2 → ∃ c ∈ l, way lot i0 c = none := by
  intro lot hlot hlt
  apply Classical.byContradiction
  intro hno
  obtain ⟨m, hm⟩ := exists_low ts
  have hc : Conn l lot := fun f hf hL a b ha hb => by
    have one : ∀ c : Fin 4, c.val < l.length → f i0 = f c := fun c hc => by
      cases hw : way lot i0 c with
      | none => exact absurd ⟨c, (plc_mem hl c).mpr hc, hw⟩ hno
      | some ws => exact wayN_sound _ _ _ _ _ hw f hL
    rw [← one a ha, ← one b hb]
  obtain ⟨h1, h2⟩ := kr_least ts l m lot (plc_len hl) ho hs hm (lots_sub _ _ _ hlot) hc
  have h3 := lots_len _ _ _ hlot
  have h4 : (lot.length : Int) - ((kr l ts).2.length : Int) = 0 := by omega
  rw [h4, Int.mul_zero] at h2
  omega
/-! the ways by ties taken -/
def wm (φ : Int → Int) (t : Tie) : Tie := (φ t.1, t.2)
theorem findSome_map {α β γ : Type} (g : β → γ) (f : α → Option β) : ∀ l : List α, (l.findSome? f).map g = l.findSome? fun x => (f x).map g
  | [] => rfl
  | x :: l => by
    rw [List.findSome?_cons, List.findSome?_cons]
    cases f x with
    | none => exact findSome_map g f l
    | some y => rfl
theorem wayN_map (φ : Int → Int) : ∀ (n : Nat) (ts : List Tie) (i j : Fin 4), wayN n (ts.map (wm φ)) i j = (wayN n ts i j).map (List.map φ)
  | 0, ts, i, j => by
    unfold wayN
    split <;> rfl
  | n + 1, ts, i, j => by
    unfold wayN
    split
    · rfl
    · rw [findSome_map, List.length_map]
      refine findSome_congr fun k _ => ?_
      unfold turnW
      rw [List.getElem?_map]
      cases ts[k]? with
      | none => rfl
      | some p =>
        show (if i = p.2.1 ∨ i = p.2.2 then _ else _) = Option.map _ (if i = p.2.1 ∨ i = p.2.2 then _ else _)
        split
        · rw [← List.map_take, ← List.map_drop, ← List.map_append]
          show (wayN n (List.map (wm φ) _) _ j).map _ = _
          rw [wayN_map φ n]
          show Option.map _ (Option.map _ (wayN n _ (if i = p.2.1 then p.2.2 else p.2.1) j)) = _
          cases wayN n (ts.take k ++ ts.drop (k + 1)) (if i = p.2.1 then p.2.2 else p.2.1) j <;> rfl
        · rfl
theorem way_map (φ : Int → Int) (ts : List Tie) (i j : Fin 4) : way (ts.map (wm φ)) i j = (way ts i j).map (List.map φ) := by
  unfold way
  rw [List.length_map]
  exact wayN_map φ _ ts i j
theorem kr_map (φ : Int → Int) : ∀ (ts : List Tie) (g : List (Fin 4)), kr g (ts.map (wm φ)) = ((kr g ts).1, (kr g ts).2.map (wm φ))
  | [], g => by unfold kr; rfl
  | t :: ts, g => by
    rw [List.map_cons]
    unfold kr
    show (if lab g t.2.1 = lab g t.2.2 then kr g (ts.map (wm φ)) else _) = _
    split
    · exact kr_map φ ts g
    · show ((kr (joinS g (lab g t.2.1) (lab g t.2.2)) (ts.map (wm φ))).1, wm φ t :: (kr (joinS g (lab g t.2.1) (lab g t.2.2)) (ts.map (wm φ))).2) = _
      rw [kr_map φ ts]
      rfl
theorem kr_idem : ∀ (ts : List Tie) (g : List (Fin 4)), kr g (kr g ts).2 = kr g ts
  | [], g => by unfold kr; rfl
  | t :: ts, g => by
    by_cases e : lab g t.2.1 = lab g t.2.2
    · have h : kr g (t :: ts) = kr g ts := by rw [kr, if_pos e]
      rw [h]
      exact kr_idem ts g
    · have h : kr g (t :: ts) = ((kr (joinS g (lab g t.2.1) (lab g t.2.2)) ts).1, t :: (kr (joinS g (lab g t.2.1) (lab g t.2.2)) ts).2) := by rw [kr, if_neg e]
      rw [h]
      show kr g (t :: (kr (joinS g (lab g t.2.1) (lab g t.2.2)) ts).2) = _
      rw [kr, if_neg e, kr_idem ts]
theorem kr_append : ∀ (a b : List Tie) (g : List (Fin 4)), kr g (a ++ b) = ((kr (kr g a).1 b).1, (kr g a).2 ++ (kr (kr g a).1 b).2)
  | [], b, g => by
    have h : kr g [] = (g, []) := by rw [kr]
    rw [List.nil_append, h]
    rfl
  | t :: a, b, g => by
    rw [List.cons_append, kr, kr]
    split
    · exact kr_append a b g
    · rw [kr_append a b]
      rfl
def idxT (K : List Pr) : List Tie := K.zipIdx.map fun p => ((p.2 : Int), p.1)
def chkWay (l : List (Fin 4)) (T : List Tie) (a b : Fin 4) : Bool := match way T a b with
  | none => false
  | some ws => !ws.isEmpty && (List.range (T.length + 1)).all fun p => !(lab (kr l (T.take p)).1 a == lab (kr l (T.take p)).1 b) || ws.all fun x => decide (0 ≤ x ∧ x < (p : Int))
def chk (l : List (Fin 4)) (K : List Pr) : Bool := !(kr l (idxT K)).2.length == K.length || l.all fun a => l.all fun b => a == b || chkWay l (idxT K) a b
def listsN {α : Type} : Nat → List α → List (List α)
  | 0, _ => [[]]
  | n + 1, xs => xs.flatMap fun x => (listsN n xs).map (x :: ·)
theorem mem_listsN {α : Type} {xs : List α} : ∀ (n : Nat) (K : List α), K.length = n → (∀ p ∈ K, p ∈ xs) → K ∈ listsN n xs
  | 0, K, h, _ => by
    obtain rfl := List.length_eq_zero_iff.mp h
    exact .head _
  | n + 1, [], h, _ => nomatch h
  | n + 1, x :: K, h, hK => by
    unfold listsN
    exact List.mem_flatMap.mpr ⟨x, hK x (.head _), List.mem_map.mpr ⟨K, mem_listsN n K (Nat.succ.inj h) fun p hp => hK p (.tail _ hp), rfl⟩⟩
theorem chk3 : (listsN 2 (prsOf [0, 1, 2] [0, 1, 2])).all (chk [0, 1, 2]) = true := by decide +kernel
theorem chk4 : (listsN 3 (prsOf [0, 1, 2, 3] [0, 1, 2, 3])).all (chk [0, 1, 2, 3]) = true := by decide +kernel
end Mine
end

section
open PySem PySem.W PyProof.Rows PySem.Spec PySem.Calls
set_option Elab.async false
set_option maxRecDepth 100000
namespace Mine
theorem prs_mem {l k : List (Fin 4)} {p : Pr} (h : p ∈ prsOf l k) : p.1 ∈ k ∧ p.2 ∈ l ∧ p.1 ≠ p.2 := by
  unfold prsOf at h
  obtain ⟨a, ha, hp⟩ := List.mem_flatMap.mp h
  unfold prsIn at hp
  obtain ⟨b, hb, rfl⟩ := List.mem_map.mp hp
  obtain ⟨hb1, hb2⟩ := List.mem_filter.mp hb
  refine ⟨ha, hb1, fun e => ?_⟩
  have hb2 : a < b := of_decide_eq_true hb2
  have e : a = b := e
  rw [e] at hb2
  exact absurd hb2 (Nat.lt_irrefl _)
theorem chk_all {l : List (Fin 4)} (hl : plc l) {K : List Pr} (hk : K.length + 1 = l.length) (hm : ∀ p ∈ K, p ∈ prsOf l l) : chk l K = true := by
  rcases hl with rfl | rfl
  · exact List.all_eq_true.mp chk3 K (mem_listsN 2 K (Nat.succ.inj hk) hm)
  · exact List.all_eq_true.mp chk4 K (mem_listsN 3 K (Nat.succ.inj hk) hm)
theorem chk_way {l : List (Fin 4)} {K : List Pr} (h : chk l K = true) (hk : (kr l (idxT K)).2.length = K.length) {a b : Fin 4} (ha : a ∈ l) (hb : b ∈ l) (hab : a ≠ b) : chkWay l (idxT K) a b = true := by
  unfold chk at h
  rw [beq_iff_eq.mpr hk] at h
  simp only [Bool.not_true, Bool.false_or] at h
  have h2 := List.all_eq_true.mp (List.all_eq_true.mp h a ha) b hb
  rcases Bool.or_eq_true_iff.mp h2 with h2 | h2
  · exact absurd (eq_of_beq h2) hab
  · exact h2
theorem idxT_len (K : List Pr) : (idxT K).length = K.length := by
  unfold idxT
  rw [List.length_map, List.length_zipIdx]
theorem idxT_map (K : List Tie) (φ : Int → Int) (hφ : ∀ i : Nat, (h : i < K.length) → φ (i : Int) = K[i].1) : (idxT (K.map (·.2))).map (wm φ) = K := by
  refine List.ext_getElem? fun i => ?_
  unfold idxT
  rw [List.getElem?_map, List.getElem?_map, List.getElem?_zipIdx, List.getElem?_map]
  by_cases h : i < K.length
  · rw [List.getElem?_eq_getElem h]
    have e := hφ i h
    show some (φ ((0 + i : Nat) : Int), K[i].2) = some K[i]
    rw [Nat.zero_add, e]
  · rw [List.getElem?_eq_none (Nat.le_of_not_lt h)]
    rfl
theorem way_law {l : List (Fin 4)} (hl : plc l) {ts : List Tie} (hp : ∀ t ∈ ts, t.2 ∈ prsOf l l) (hs : ts.Pairwise fun a b => a.1 ≤ b.1) (hk : (kr l ts).2.length + 1 = l.length) :
    ∀ t ∈ ts, t ∉ (kr l ts).2 → ∃ ws, way (kr l ts).2 t.2.1 t.2.2 = some ws ∧ ws ≠ [] ∧ ∀ x ∈ ws, x ≤ t.1 := by
  intro t ht hnt
  have hsub := kr_sub ts l
  obtain ⟨pre, post, rfl⟩ := List.append_of_mem ht
  have happ := kr_append pre (t :: post) l
  have hsame : lab (kr l pre).1 t.2.1 = lab (kr l pre).1 t.2.2 := by
    by_cases e : lab (kr l pre).1 t.2.1 = lab (kr l pre).1 t.2.2
    · exact e
    · exfalso
      apply hnt
      rw [happ, kr, if_neg e]
      exact List.mem_append_right _ (.head _)
  obtain ⟨_, _, hle⟩ := List.pairwise_append.mp hs
  have hidem := kr_idem (pre ++ t :: post) l
  have hsubp := kr_sub pre l
  have hidemp := kr_idem pre l
  generalize hK : (kr l (pre ++ t :: post)).2 = K at *
  have hKp : K = (kr l pre).2 ++ (kr (kr l pre).1 (t :: post)).2 := by rw [← hK, happ]
  generalize hKpre : (kr l pre).2 = Kp at *
  let φ : Int → Int := fun x => (K.map (·.1)).getD x.toNat 0
  have hφ : ∀ i : Nat, (h : i < K.length) → φ (i : Int) = K[i].1 := fun i h => by
    show (K.map (·.1)).getD (i : Int).toNat 0 = _
    rw [Int.toNat_natCast, List.getD_eq_getElem?_getD, List.getElem?_map, List.getElem?_eq_getElem h]
    rfl
  have hTm := idxT_map K φ hφ
  have hTl := idxT_len (K.map (·.2))
  rw [List.length_map] at hTl
  have hpk : ∀ p ∈ K.map (·.2), p ∈ prsOf l l := fun p hpm => by
    obtain ⟨u, hu, rfl⟩ := List.mem_map.mp hpm
    exact hp u (hsub.subset hu)
  have hchk := chk_all hl (K := K.map (·.2)) (by rw [List.length_map]; exact hk) hpk
  have hkT : (kr l (idxT (K.map (·.2)))).2.length = (K.map (·.2)).length := by
    have h1 := kr_map φ (idxT (K.map (·.2))) l
    rw [hTm, hidem] at h1
    have h2 := congrArg (fun z => z.2.length) h1
    dsimp only at h2
    rw [hK, List.length_map] at h2
    rw [List.length_map]
    exact h2.symm
  obtain ⟨m1, m2, m3⟩ := prs_mem (hp t ht)
  have hw := chk_way hchk hkT m1 m2 m3
  unfold chkWay at hw
  have hwm := way_map φ (idxT (K.map (·.2))) t.2.1 t.2.2
  rw [hTm] at hwm
  split at hw
  · exact nomatch hw
  · next ws hws =>
    rw [hws] at hwm
    obtain ⟨w1, w2⟩ := Bool.and_eq_true_iff.mp hw
    refine ⟨ws.map φ, hwm, fun e => ?_, fun y hy => ?_⟩
    · rw [List.map_eq_nil_iff.mp e] at w1
      exact nomatch w1
    · obtain ⟨x, hx, rfl⟩ := List.mem_map.mp hy
      have hlen : Kp.length ≤ K.length := by rw [hKp, List.length_append]; exact Nat.le_add_right _ _
      have h3 := List.all_eq_true.mp w2 Kp.length (List.mem_range.mpr (by omega))
      have htake : (kr l ((idxT (K.map (·.2))).take Kp.length)).1 = (kr l pre).1 := by
        have h1 := kr_map φ ((idxT (K.map (·.2))).take Kp.length) l
        rw [List.map_take, hTm] at h1
        have h5 : K.take Kp.length = Kp := by rw [hKp, List.take_left']; rfl
        rw [h5, hidemp] at h1
        exact (congrArg Prod.fst h1).symm
      rw [htake, beq_iff_eq.mpr hsame] at h3
      simp only [Bool.not_true, Bool.false_or] at h3
      obtain ⟨x0, xp⟩ := of_decide_eq_true (List.all_eq_true.mp h3 x hx)
      have hxn : x.toNat < Kp.length := by omega
      have hxK : x.toNat < K.length := by omega
      have e1 : φ x = K[x.toNat].1 := by rw [← hφ x.toNat hxK, Int.toNat_of_nonneg x0]
      have e2 : K[x.toNat] = Kp[x.toNat] := by
        simp only [hKp]
        rw [List.getElem_append_left hxn]
      rw [e1, e2]
      exact hle _ (hsubp.subset (List.getElem_mem hxn)) t (.head _)
/-- all that law asks -/
theorem law_plain {l : List (Fin 4)} (hl : plc l) {i0 : Fin 4} (hi0 : l[0]? = some i0) {ts rs : List Tie} (hrs : rs.map (·.2) = prsOf l l) (hperm : ts.Perm rs) (hsort : (ts.map (·.1)).Pairwise (· ≤ ·)) :
    (∀ p ∈ ts, p.2.1 ≠ p.2.2 ∧ p.2.1.val < l.length ∧ p.2.2.val < l.length) ∧ (∀ i < ts.length, dist (krus l (ts.take (i + 1))).1 + (krus l (ts.take (i + 1))).2.length = l.length) ∧
    (krus l ts).2.length + 1 = l.length ∧ (∀ p ∈ (krus l ts).2, p.2.1 ≠ p.2.2) ∧ (∀ t ∈ ts, t ∉ (krus l ts).2 → ∃ ws, way (krus l ts).2 t.2.1 t.2.2 = some ws ∧ ws ≠ [] ∧ ∀ x ∈ ws, x ≤ t.1) ∧
    (∀ lot ∈ lots ts (l.length - 1), (lot.map (·.1)).sum < ((krus l ts).2.map (·.1)).sum → ∃ c ∈ l, way lot i0 c = none) := by
  have hp : ∀ t ∈ ts, t.2 ∈ prsOf l l := fun t ht => by
    rw [← hrs]
    exact List.mem_map_of_mem (hperm.mem_iff.mp ht)
  have hin : ∀ t ∈ ts, t.2.1 ≠ t.2.2 ∧ t.2.1.val < l.length ∧ t.2.2.val < l.length := fun t ht => by
    obtain ⟨h1, h2, h3⟩ := prs_mem (hp t ht)
    exact ⟨h3, (plc_mem hl _).mp h1, (plc_mem hl _).mp h2⟩
  have ho : okE l.length ts := fun t ht => (hin t ht).2
  have hs : ts.Pairwise fun a b => a.1 ≤ b.1 := List.pairwise_map.mp hsort
  have hg := plc_len hl
  have hall : ∀ a b : Fin 4, a.val < l.length → b.val < l.length → a < b → lab (kr l ts).1 a = lab (kr l ts).1 b := fun a b ha hb hab => by
    have hm : (a, b) ∈ prsOf l l := List.mem_flatMap.mpr ⟨a, (plc_mem hl a).mpr ha, List.mem_map.mpr ⟨b, List.mem_filter.mpr ⟨(plc_mem hl b).mpr hb, decide_eq_true hab⟩, rfl⟩⟩
    rw [← hrs] at hm
    obtain ⟨t, ht, e⟩ := List.mem_map.mp hm
    have := kr_met ts l ho t (hperm.mem_iff.mpr ht)
    rw [e] at this
    exact this
  have hend : dist (kr l ts).1 = 1 := by
    refine dist_const (by unfold len34; rw [kr_len]; exact hg) fun a b ha hb => ?_
    rw [kr_len] at ha hb
    rcases Nat.lt_trichotomy a.val b.val with h | h | h
    · exact hall a b ha hb h
    · rw [Fin.ext h]
    · exact (hall b a hb ha h).symm
  have hcnt := kr_count ts l hg ho
  have hd := plc_dist hl
  have hk : (kr l ts).2.length + 1 = l.length := by omega
  rw [krus_kr ho]
  refine ⟨hin, fun i hi => ?_, hk, fun p hp => (hin p ((kr_sub ts l).subset hp)).1, way_law hl hp hs hk, lot_law hl hi0 ho hs hk⟩
  have ho2 : okE l.length (ts.take (i + 1)) := fun t ht => ho t (List.mem_of_mem_take ht)
  rw [krus_kr ho2]
  have := kr_count (ts.take (i + 1)) l hg ho2
  omega
end Mine
end

section
open PySem PySem.W PyProof.Rows PySem.Spec PySem.Calls
set_option Elab.async false
set_option maxRecDepth 100000
set_option maxHeartbeats 8000000
namespace Mine
theorem prs_nodup {l : List (Fin 4)} (hl : plc l) : (prsOf l l).Nodup := by
  rcases hl with rfl | rfl <;> decide +kernel
theorem prs_len {l : List (Fin 4)} (hl : plc l) : (prsOf l l).length = 3 ∨ (prsOf l l).length = 6 := by
  rcases hl with rfl | rfl
  · exact .inl (by decide +kernel)
  · exact .inr (by decide +kernel)
theorem plc_first {l : List (Fin 4)} (hl : plc l) : l[0]? = some 0 := by
  rcases hl with rfl | rfl <;> rfl
theorem law_seg (w : World) : Seg w 0 C0 := by
  refine seg0 w fun l hpl => seg3 w l hpl (seg4 w l (prsOf l l) (prs_len hpl) fun rs hrs => ?_)
  have hrl : rs.length = 3 ∨ rs.length = 6 := by
    have := prs_len hpl
    rw [← hrs, List.length_map] at this
    exact this
  refine seg5 w l rs hrl fun ts hperm hsort => ?_
  have htl : ts.length = 3 ∨ ts.length = 6 := by rw [hperm.length_eq]; exact hrl
  obtain ⟨h1, h2, h3, h4, h5, h6⟩ := law_plain hpl (plc_first hpl) hrs hperm hsort
  refine seg6 w l ts rs htl (seg8 w l ts rs htl hperm hsort (fun us hus i j hi hj hij e => ?_) (seg9 w l hpl 0 ts (plc_first hpl) (by omega) h1 h2 h3 h4 h5 h6))
  have hn : (us.map (·.2)).Nodup := by
    have hp2 := hus.map (·.2)
    rw [hrs] at hp2
    exact hp2.nodup_iff.mpr (prs_nodup hpl)
  have hi2 : i < (us.map (·.2)).length := by rw [List.length_map]; exact hi
  have hj2 : j < (us.map (·.2)).length := by rw [List.length_map]; exact hj
  have hne : ∀ a b, (ha : a < (us.map (·.2)).length) → (hb : b < (us.map (·.2)).length) → a < b → (us.map (·.2))[a] ≠ (us.map (·.2))[b] := fun a b ha hb hab => List.pairwise_iff_getElem.mp hn a b ha hb hab
  rcases Nat.lt_or_gt_of_ne hij with h | h
  · exact hne i j hi2 hj2 h (by rw [List.getElem_map, List.getElem_map]; exact e)
  · exact hne j i hj2 hi2 h (by rw [List.getElem_map, List.getElem_map]; exact e.symm)
end Mine
namespace Mine
/-! names taken, so that the head makes no twins of what it writes out: with them the compiled file is some 46 MB larger -/
def law_holds.tw4004503837415160738 : Unit := ()
def law_holds.tw5389484754426515990 : Unit := ()
def law_holds.tw15905663110009708171 : Unit := ()
def law_holds.tw21840994322534411 : Unit := ()
def law_holds.tw15759456685926392790 : Unit := ()
def law_holds.tw10188882097025765791 : Unit := ()
def law_holds.tw7606812619571510417 : Unit := ()
def law_holds.tw444819491889813252 : Unit := ()
def law_holds.tw17898386970248378688 : Unit := ()
def law_holds.tw3003183132222720875 : Unit := ()
def law_holds.tw16600156387650540106 : Unit := ()
def law_holds.tw4430104039458964525 : Unit := ()
def law_holds.tw13778614294919624647 : Unit := ()
def law_holds.tw11790664574121322394 : Unit := ()
def law_holds.tw11977050620070087417 : Unit := ()
def law_holds.tw881140697980615281 : Unit := ()
def law_holds.tw17683917514084196250 : Unit := ()
def law_holds.tw7443363072745177481 : Unit := ()
def law_holds.tw6410668804425169698 : Unit := ()
def law_holds.tw1685627985566243432 : Unit := ()
def law_holds.tw1973129929022764952 : Unit := ()
def law_holds.tw745255978533919091 : Unit := ()
def law_holds.tw3896150654470677357 : Unit := ()
def law_holds.tw3005452535816212104 : Unit := ()
def law_holds.tw1496123403401453975 : Unit := ()
def law_holds.tw14920527711883184719 : Unit := ()
def law_holds.tw13478230802861573701 : Unit := ()
def law_holds.tw1819975233463548508 : Unit := ()
def law_holds.tw2842810181116790245 : Unit := ()
def law_holds.tw5920216800500632969 : Unit := ()
def law_holds.tw2907507879108658156 : Unit := ()
def law_holds.tw13220211186989608806 : Unit := ()
def law_holds.tw8472228645029834797 : Unit := ()
def law_holds.tw12134408205421670959 : Unit := ()
def law_holds.tw12835091436910803158 : Unit := ()
def law_holds.tw7152603605065671595 : Unit := ()
def law_holds.tw6881874429007886204 : Unit := ()
def law_holds.tw576407869801174206 : Unit := ()
def law_holds.tw5451054884063135654 : Unit := ()
def law_holds.tw17899081815984039989 : Unit := ()
def law_holds.tw7604666192120794032 : Unit := ()
def law_holds.tw15829985883664642994 : Unit := ()
def law_holds.tw3046938939346580660 : Unit := ()
def law_holds.tw13958071646730322851 : Unit := ()
def law_holds.tw6265907326580845545 : Unit := ()
def law_holds.tw11017292853192552079 : Unit := ()
def law_holds.tw12296726922439171297 : Unit := ()
def law_holds.tw9069877914133315304 : Unit := ()
def law_holds.tw3366817510852727610 : Unit := ()
def law_holds.tw3329433664329059716 : Unit := ()
def law_holds.tw8763168800255643514 : Unit := ()
def law_holds.tw14746732674962391887 : Unit := ()
def law_holds.tw15694993059591697976 : Unit := ()
def law_holds.tw9682718004065560343 : Unit := ()
def law_holds.tw3882201998751590657 : Unit := ()
def law_holds.tw11133525997344109421 : Unit := ()
def law_holds.tw10516828495840041881 : Unit := ()
def law_holds.tw1832781179975386347 : Unit := ()
def law_holds.tw724200737284857819 : Unit := ()
def law_holds.tw4394118770596489903 : Unit := ()
def law_holds.tw1989176631692091739 : Unit := ()
def law_holds.tw6727219029552735585 : Unit := ()
def law_holds.tw17865009358878524859 : Unit := ()
def law_holds.tw8957123355933967898 : Unit := ()
def law_holds.tw6861490101519172755 : Unit := ()
def law_holds.tw18006792725990754497 : Unit := ()
def law_holds.tw2124134355350193313 : Unit := ()
def law_holds.tw12732824653754844360 : Unit := ()
def law_holds.tw8720880381367431298 : Unit := ()
def law_holds.tw16805829885119392726 : Unit := ()
def law_holds.tw1767730674963353768 : Unit := ()
def law_holds.tw1298917362307582566 : Unit := ()
def law_holds.tw10296202853966499060 : Unit := ()
def law_holds.tw11803358882649189518 : Unit := ()
def law_holds.tw14596297492920191028 : Unit := ()
def law_holds.tw10841264019214440115 : Unit := ()
def law_holds.tw16273140198857503625 : Unit := ()
def law_holds.tw7495221243884187115 : Unit := ()
def law_holds.tw10968802771074238664 : Unit := ()
def law_holds.tw2269544990204364226 : Unit := ()
def law_holds.tw3955097671198598788 : Unit := ()
def law_holds.tw1670043908289496885 : Unit := ()
def law_holds.tw8666519363043736892 : Unit := ()
def law_holds.tw11126432536435168541 : Unit := ()
def law_holds.tw9779807473162285230 : Unit := ()
def law_holds.tw3756308257209627903 : Unit := ()
def law_holds.tw13827650187945995790 : Unit := ()
def law_holds.tw8570087061310353148 : Unit := ()
def law_holds.tw17923851452625207687 : Unit := ()
def law_holds.tw14883556706271630602 : Unit := ()
def law_holds.tw4818577856007422655 : Unit := ()
def law_holds.tw12889673554181485818 : Unit := ()
def law_holds.tw14326059299131336239 : Unit := ()
def law_holds.tw3253820488102484341 : Unit := ()
def law_holds.tw4916342969005030805 : Unit := ()
def law_holds.tw18254337876149969668 : Unit := ()
def law_holds.tw17255088995462705879 : Unit := ()
def law_holds.tw2387193687640843687 : Unit := ()
def law_holds.tw16470317323979864763 : Unit := ()
def law_holds.tw18203989763732354715 : Unit := ()
def law_holds.tw15333956030411951890 : Unit := ()
def law_holds.tw6765152471904792315 : Unit := ()
def law_holds.tw14997073306097389879 : Unit := ()
def law_holds.tw15661869461025623997 : Unit := ()
def law_holds.tw784011647948385275 : Unit := ()
def law_holds.tw11182679623053108816 : Unit := ()
def law_holds.tw10188763426450519768 : Unit := ()
def law_holds.tw18269650602155537469 : Unit := ()
def law_holds.tw699380112222796084 : Unit := ()
def law_holds.tw7408322871517469003 : Unit := ()
def law_holds.tw15448297888555860652 : Unit := ()
def law_holds.tw4503035019201841076 : Unit := ()
def law_holds.tw16614716721108272449 : Unit := ()
def law_holds.tw1689763614830377041 : Unit := ()
def law_holds.tw14828999820898988419 : Unit := ()
def law_holds.tw18135211599370774712 : Unit := ()
def law_holds.tw1791086108937442324 : Unit := ()
def law_holds.tw15150646450996357022 : Unit := ()
def law_holds.tw9843604407834444796 : Unit := ()
def law_holds.tw7407239408455114201 : Unit := ()
def law_holds.tw17027635718292003107 : Unit := ()
def law_holds.tw3640318304813138149 : Unit := ()
def law_holds.tw6319992431348959543 : Unit := ()
def law_holds.tw15076190513448903066 : Unit := ()
def law_holds.tw9207643191828677137 : Unit := ()
def law_holds.tw10817052189556005596 : Unit := ()
def law_holds.tw16098122237329998606 : Unit := ()
def law_holds.tw4995542688137877417 : Unit := ()
def law_holds.tw11426015686315989412 : Unit := ()
def law_holds.tw12687621791434340054 : Unit := ()
def law_holds.tw9529696498207198238 : Unit := ()
def law_holds.tw15293083901398250104 : Unit := ()
def law_holds.tw4329158554759489670 : Unit := ()
def law_holds.tw5212653520564569363 : Unit := ()
def law_holds.tw8176227357466254829 : Unit := ()
def law_holds.tw7497986649931050792 : Unit := ()
def law_holds.tw498061464947678834 : Unit := ()
def law_holds.tw3438298445031660282 : Unit := ()
def law_holds.tw1778412455037948541 : Unit := ()
def law_holds.tw7820799176418779761 : Unit := ()
def law_holds.tw17911580528928914924 : Unit := ()
def law_holds.tw6723812968561706957 : Unit := ()
def law_holds.tw2295933128562542503 : Unit := ()
def law_holds.tw15609566024721092083 : Unit := ()
def law_holds.tw11924911360389889469 : Unit := ()
def law_holds.tw8249079356659094474 : Unit := ()
def law_holds.tw12456547296908542839 : Unit := ()
def law_holds.tw4146061822495498468 : Unit := ()
def law_holds.tw6677821561840896501 : Unit := ()
def law_holds.tw9634471323475708679 : Unit := ()
def law_holds.tw11881114122080957857 : Unit := ()
def law_holds.tw7472407996622490835 : Unit := ()
def law_holds.tw10024239376800412576 : Unit := ()
def law_holds.tw5731563423909890137 : Unit := ()
def law_holds.tw18388893480867403737 : Unit := ()
def law_holds.tw11470271118054631628 : Unit := ()
def law_holds.tw1035469204868569938 : Unit := ()
def law_holds.tw10812634152524527747 : Unit := ()
def law_holds.tw4593294709026258786 : Unit := ()
def law_holds.tw16406091861079842607 : Unit := ()
def law_holds.tw16947615914383616782 : Unit := ()
def law_holds.tw14872900085578418628 : Unit := ()
def law_holds.tw5274592661964301406 : Unit := ()
def law_holds.tw11690447701083486646 : Unit := ()
def law_holds.tw17974257514489008736 : Unit := ()
def law_holds.tw1335265377702380343 : Unit := ()
def law_holds.tw15352839923633478061 : Unit := ()
def law_holds.tw16873799427995575018 : Unit := ()
def law_holds.tw12476058986133298565 : Unit := ()
def law_holds.tw2055734563569237896 : Unit := ()
def law_holds.tw16883458599210261866 : Unit := ()
def law_holds.tw1909877003179415225 : Unit := ()
def law_holds.tw9992725586745946429 : Unit := ()
def law_holds.tw15617896438947887921 : Unit := ()
def law_holds.tw2643271747718453845 : Unit := ()
def law_holds.tw8266603773606604290 : Unit := ()
def law_holds.tw18326849912455186884 : Unit := ()
def law_holds.tw2557128651999224082 : Unit := ()
def law_holds.tw17274716441693411508 : Unit := ()
def law_holds.tw7304591109411159013 : Unit := ()
def law_holds.tw8984712037535005518 : Unit := ()
def law_holds.tw17253903310271361901 : Unit := ()
def law_holds.tw653560878884961445 : Unit := ()
def law_holds.tw9875236377963488844 : Unit := ()
def law_holds.tw18261290160731607033 : Unit := ()
def law_holds.tw13402424001964919149 : Unit := ()
def law_holds.tw8835965917227929528 : Unit := ()
def law_holds.tw6564709946809587534 : Unit := ()
def law_holds.tw2856731137302751260 : Unit := ()
def law_holds.tw11609493526922420660 : Unit := ()
def law_holds.tw4781243967656130014 : Unit := ()
def law_holds.tw5506821171919863439 : Unit := ()
def law_holds.tw7696488724909661519 : Unit := ()
def law_holds.tw8441880690091102137 : Unit := ()
def law_holds.tw8549365171731915398 : Unit := ()
def law_holds.tw6719018230134327050 : Unit := ()
def law_holds.tw3158129796062787159 : Unit := ()
def law_holds.tw2558664710541493025 : Unit := ()
def law_holds.tw13182730311906835528 : Unit := ()
def law_holds.tw10007947361888340627 : Unit := ()
def law_holds.tw11966672015165255308 : Unit := ()
def law_holds.tw2139172203440323022 : Unit := ()
def law_holds.tw4439653461905209652 : Unit := ()
def law_holds.tw3910120701321347557 : Unit := ()
def law_holds.tw15162217921772873613 : Unit := ()
def law_holds.tw10983241140555628109 : Unit := ()
def law_holds.tw15802469936163623734 : Unit := ()
def law_holds.tw13154458805202713791 : Unit := ()
def law_holds.tw519298541982818421 : Unit := ()
def law_holds.tw9255152265573255198 : Unit := ()
def law_holds.tw4441770287765753910 : Unit := ()
def law_holds.tw7019463264422422977 : Unit := ()
def law_holds.tw8040771413219435098 : Unit := ()
def law_holds.tw14498155544194170393 : Unit := ()
def law_holds.tw6776455111828631412 : Unit := ()
def law_holds.tw4581845663705801772 : Unit := ()
def law_holds.tw15472126771306010800 : Unit := ()
def law_holds.tw13028658284911697911 : Unit := ()
def law_holds.tw8369274380968253667 : Unit := ()
def law_holds.tw17993387198741990920 : Unit := ()
def law_holds.tw14991590004735058009 : Unit := ()
def law_holds.tw11846676642670509255 : Unit := ()
def law_holds.tw16468938527912476164 : Unit := ()
def law_holds.tw2102315897755806987 : Unit := ()
def law_holds.tw15806970514647361693 : Unit := ()
def law_holds.tw12223724995276690173 : Unit := ()
def law_holds.tw9184033795430018204 : Unit := ()
def law_holds.tw15006436103509636135 : Unit := ()
def law_holds.tw2043166853727251185 : Unit := ()
def law_holds.tw15607887362523206001 : Unit := ()
def law_holds.tw3186734533307500241 : Unit := ()
def law_holds.tw13301187468288870568 : Unit := ()
def law_holds.tw14983226153234331074 : Unit := ()
def law_holds.tw1096898596823417342 : Unit := ()
def law_holds.tw2644310842459337959 : Unit := ()
def law_holds.tw8652346329174877282 : Unit := ()
def law_holds.tw14925382992726071281 : Unit := ()
def law_holds.tw14497384708736915567 : Unit := ()
def law_holds.tw13397297893571687751 : Unit := ()
def law_holds.tw15544829507116839252 : Unit := ()
def law_holds.tw5117662029339320154 : Unit := ()
def law_holds.tw3035144380315620824 : Unit := ()
def law_holds.tw302768837105346163 : Unit := ()
def law_holds.tw12889056044993165476 : Unit := ()
def law_holds.tw8743907914968981027 : Unit := ()
def law_holds.tw16893121556090616931 : Unit := ()
def law_holds.tw17028624522117568015 : Unit := ()
def law_holds.tw10264638600885302300 : Unit := ()
def law_holds.tw14545874151571354728 : Unit := ()
def law_holds.tw14390095281932903014 : Unit := ()
def law_holds.tw9168033884955339765 : Unit := ()
def law_holds.tw16978406815995349258 : Unit := ()
def law_holds.tw3426384778480675251 : Unit := ()
def law_holds.tw3253568177066640346 : Unit := ()
def law_holds.tw5062152199769849712 : Unit := ()
def law_holds.tw3850334171643177529 : Unit := ()
def law_holds.tw718173064312146323 : Unit := ()
def law_holds.tw15274831704391544125 : Unit := ()
def law_holds.tw9849722394096787677 : Unit := ()
def law_holds.tw18234560199702728603 : Unit := ()
def law_holds.tw8857742495270377987 : Unit := ()
def law_holds.tw13190408463805328480 : Unit := ()
def law_holds.tw14160533322030094474 : Unit := ()
def law_holds.tw9423440377400516374 : Unit := ()
def law_holds.tw11404014056486942332 : Unit := ()
def law_holds.tw6709271908398517637 : Unit := ()
def law_holds.tw447027507633508388 : Unit := ()
def law_holds.tw7566432030715092817 : Unit := ()
def law_holds.tw3742325753681652743 : Unit := ()
def law_holds.tw9552830710289189752 : Unit := ()
def law_holds.tw12342728606916771844 : Unit := ()
def law_holds.tw15154110283740273250 : Unit := ()
def law_holds.tw17180001009569633970 : Unit := ()
def law_holds.tw10609929442622069884 : Unit := ()
def law_holds.tw8634839017697508684 : Unit := ()
def law_holds.tw10368410895845634921 : Unit := ()
def law_holds.tw8285764192309689115 : Unit := ()
def law_holds.tw981846192996546977 : Unit := ()
def law_holds.tw13280740594461564331 : Unit := ()
def law_holds.tw6507877686720480950 : Unit := ()
def law_holds.tw17237755526102222789 : Unit := ()
def law_holds.tw17942709131360195518 : Unit := ()
def law_holds.tw16461882675039125421 : Unit := ()
def law_holds.tw14335913921861858828 : Unit := ()
def law_holds.tw1385162719727133579 : Unit := ()
def law_holds.tw3595789414353437717 : Unit := ()
def law_holds.tw10486713781251687710 : Unit := ()
def law_holds.tw4323815956820902445 : Unit := ()
def law_holds.tw18340598423539479173 : Unit := ()
def law_holds.tw4464252984393422682 : Unit := ()
def law_holds.tw11625900857008200698 : Unit := ()
def law_holds.tw179590077315354965 : Unit := ()
def law_holds.tw11223184984439025696 : Unit := ()
def law_holds.tw445335354869643106 : Unit := ()
def law_holds.tw12116493165278983582 : Unit := ()
def law_holds.tw14289194402921355359 : Unit := ()
def law_holds.tw5769158387606399586 : Unit := ()
def law_holds.tw12977093529070104392 : Unit := ()
def law_holds.tw6317479115527610633 : Unit := ()
def law_holds.tw1905533677188600702 : Unit := ()
def law_holds.tw8785698371604719795 : Unit := ()
def law_holds.tw7185456241796803578 : Unit := ()
def law_holds.tw2887050238494874643 : Unit := ()
def law_holds.tw15527639110640922598 : Unit := ()
def law_holds.tw3307954989432871184 : Unit := ()
def law_holds.tw11781800970755023335 : Unit := ()
def law_holds.tw9606376775287448836 : Unit := ()
def law_holds.tw3912811242725288453 : Unit := ()
def law_holds.tw41732636909640268 : Unit := ()
def law_holds.tw10108825076125807744 : Unit := ()
def law_holds.tw5112083995522966620 : Unit := ()
def law_holds.tw1762888911704233025 : Unit := ()
def law_holds.tw3943428198234077543 : Unit := ()
def law_holds.tw4273555757443719353 : Unit := ()
def law_holds.tw1285599515219305098 : Unit := ()
def law_holds.tw17598101756349436640 : Unit := ()
def law_holds.tw16009327648451700120 : Unit := ()
def law_holds.tw2618386414584295968 : Unit := ()
def law_holds.tw9889521400790421688 : Unit := ()
def law_holds.tw10242277825702978295 : Unit := ()
def law_holds.tw16760957895259694429 : Unit := ()
def law_holds.tw11484002064277903863 : Unit := ()
def law_holds.tw8909828626151137519 : Unit := ()
def law_holds.tw15191720212996534143 : Unit := ()
def law_holds.tw11097350217990362986 : Unit := ()
def law_holds.tw2152083551845799040 : Unit := ()
def law_holds.tw12780804625047726367 : Unit := ()
def law_holds.tw455179833554555240 : Unit := ()
def law_holds.tw3756957479349018193 : Unit := ()
def law_holds.tw13709617746848070560 : Unit := ()
def law_holds.tw5364902710198789758 : Unit := ()
def law_holds.tw7910590604623066228 : Unit := ()
def law_holds.tw18090433342136740992 : Unit := ()
def law_holds.tw16836969012518115619 : Unit := ()
def law_holds.tw16106779387088534511 : Unit := ()
def law_holds.tw4614512636035447770 : Unit := ()
def law_holds.tw10566571302883470556 : Unit := ()
def law_holds.tw18430954121086234272 : Unit := ()
def law_holds.tw2143268655074302082 : Unit := ()
def law_holds.tw12626328134170644701 : Unit := ()
def law_holds.tw10666784280354678857 : Unit := ()
def law_holds.tw2006301483956418059 : Unit := ()
def law_holds.tw14354538779393863138 : Unit := ()
def law_holds.tw5858263632927829637 : Unit := ()
def law_holds.tw3049941959672503198 : Unit := ()
def law_holds.tw6896717019858035522 : Unit := ()
def law_holds.tw13650905803964671038 : Unit := ()
def law_holds.tw11544315989524547432 : Unit := ()
def law_holds.tw1622690429015379626 : Unit := ()
def law_holds.tw3974387499553966400 : Unit := ()
def law_holds.tw7311554392007033315 : Unit := ()
def law_holds.tw2075624079617657780 : Unit := ()
def law_holds.tw2090888555730037645 : Unit := ()
def law_holds.tw12291295341487003417 : Unit := ()
def law_holds.tw12459966957829302596 : Unit := ()
def law_holds.tw8514742172934523775 : Unit := ()
def law_holds.tw3494445600050047599 : Unit := ()
def law_holds.tw10362271348294423435 : Unit := ()
def law_holds.tw8417186165934385351 : Unit := ()
def law_holds.tw10371022188087798493 : Unit := ()
def law_holds.tw10958410103948607464 : Unit := ()
def law_holds.tw14904137174637212347 : Unit := ()
def law_holds.tw12419048959643632839 : Unit := ()
def law_holds.tw4030767218360268280 : Unit := ()
def law_holds.tw575232530192455986 : Unit := ()
def law_holds.tw14789792462180790578 : Unit := ()
def law_holds.tw11347954631545130290 : Unit := ()
def law_holds.tw6911747868599837429 : Unit := ()
def law_holds.tw11633083819707477107 : Unit := ()
def law_holds.tw8970147916757833333 : Unit := ()
def law_holds.tw1341266762083198811 : Unit := ()
def law_holds.tw12831907817818079685 : Unit := ()
def law_holds.tw676263390381983339 : Unit := ()
end Mine
set_option Elab.async true
theorem Mine.law_holds : PySem.Challenge.rw_xw0305_01.Holds := by
  w_on
  o_law
  k_head
  (case hw => w_witness2)
  k_go0
  all_goals try k_fold
  (rename Fr _ _ _ _ => F0)
  (rename News _ _ _ _ => N0)
  (rename Below _ _ _ _ => B0)
  (rename Top _ _ _ _ _ _ => T0)
  (rename Heap.IsList _ _ _ => L0)
  (rename IntsAre _ _ => I0)
  (rename Frag.In _ _ => X0)
  rename_i _ _ _ _ _ _ _ o1 o2 o3 o4 o5 d1 d2 d3 d4 d5 _
  have hlen := I0.length
  k_dflt (refine Mine.law_seg _ _ _ _ _ _ _ _ _ _ _ _ _ _ _ _ _ B0 F0 (by exact X0) N0 T0 ⟨_, _, _, o5, o4, o3, o2, o1, _, _, _, _, _, rfl, rfl, d5, d4, d3, d2, d1, L0, I0, by omega⟩ ?_)
  intro h' tk m' F'
  k_steps
set_option Elab.async false
theorem PySem.Challenge.cw_xw0305_01_holds : PySem.Challenge.rw_xw0305_01.Holds :=
  Mine.law_holds
end
