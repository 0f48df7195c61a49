import PyProof.Rows.All
import Wide.All
import OpenK.AllK
import Wide.FinOn
import PySem.Challenge.RW_nu0320_01
open PySem PySem.W PyProof.Rows PySem.Calls PyProof.V PySem.Spec
set_option Elab.async false
set_option maxRecDepth 100000
set_option maxHeartbeats 8000000
set_option pp.maxSteps 3000
set_option linter.unusedVariables false
set_option linter.unusedSimpArgs false
set_option rowWalk.seconds 0
set_option compiler.extract_closed false
namespace Mine
-- S1
section
section
local macro_rules | `(tactic| o_head $_) => `(tactic| assumption)
theorem fr (h : PySem.Challenge.rw_nu0320_01.row.Holds) : PySem.Challenge.rw_nu0320_01.row.Holds := by k_head
end
def vw : Program := PySem.W.view Challenge.rw_nu0320_01.row.prog [1, 2, 3, 5, 6, 8, 9, 10, 12, 13, 14]
end
example {M : Model} {A : Around} {E : Value → Shared → Prop} {s : Shared} {Q : Flow → Shared → Prop} {env : Env} (h : Q .next s) : wpAny M A (execs [] env) Q E s := by
  first | (walk1; exact h) | exact fun _ _ _ => h
-- C1
section
/-- one step of the walk, stopping where a called def is left -/
local macro_rules | `(tactic| k_room) => `(tactic| (simp only [depth_under_make, depth_under_kw, depth_in1, depth_deeper, recursionLimit] at *; omega))
theorem news_sub {h₀ h : Heap} {L : Addr} {l l' : List (Addr × Obj)} (N : News h₀ L h l) (hs : ∀ p ∈ l', p ∈ l) : News h₀ L h l' := fun p hp => N p (hs p hp)
theorem news_fun {h₀ h : Heap} {L : Addr} {l : List (Addr × Obj)} (N : News h₀ L h l) {p q : Addr × Obj} (hp : p ∈ l) (hq : q ∈ l) (e : p.1 = q.1) : p = q := by
  have a := (N p hp).1
  have b := (N q hq).1
  rw [e, b] at a
  exact Prod.ext e (Option.some.inj a).symm
/-- what a call leaves alone -/
theorem news_frame {h₀ H g h' : Heap} {L : Addr} {news small small' news' : List (Addr × Obj)} (N : News h₀ L H news) (hsub : ∀ p ∈ small, p ∈ news) (G : GSub H g (small.map (·.1))) (K : ∀ b o, g.get? b = some o → h'.get? b = some o)
    (N' : News h₀ L h' small') (hs : ∀ q ∈ news', q ∈ small' ∨ (q ∈ news ∧ ∀ r ∈ small, r.1 = q.1 → r ∈ small')) : News h₀ L h' news' := by
  intro q hq
  rcases hs q hq with h | ⟨h1, h2⟩
  · exact N' q h
  · by_cases hm : ∃ r ∈ small, r.1 = q.1
    · obtain ⟨r, hr, e⟩ := hm
      have := h2 r hr e
      rw [news_fun N (hsub r hr) h1 e] at this
      exact N' q this
    · refine ⟨K _ _ (G _ _ (N q h1).1 ?_), (N q h1).2⟩
      intro hm'
      obtain ⟨r, hr, e⟩ := List.mem_map.mp hm'
      exact hm ⟨r, hr, e⟩
/-- one object changed, the others read -/
theorem news_frame1 {h₀ H g h' : Heap} {L p : Addr} {o o' : Obj} {pre post ro : List (Addr × Obj)} (N : News h₀ L H (pre ++ (p, o) :: post)) (a1 : ∀ q ∈ pre, q.1 ≠ p) (a2 : ∀ q ∈ post, q.1 ≠ p)
    (hsub : ∀ q ∈ ro, q ∈ pre ++ (p, o) :: post) (G : GSub H g (((p, o) :: ro).map (·.1))) (K : ∀ b o, g.get? b = some o → h'.get? b = some o)
    (N' : News h₀ L h' ((p, o') :: ro)) : News h₀ L h' (pre ++ (p, o') :: post) := by
  refine news_frame (small := (p, o) :: ro) N ?_ G K N' ?_
  · intro q hq
    rcases List.mem_cons.mp hq with rfl | hq
    · simp
    · exact hsub q hq
  · intro q hq
    have key : ∀ q, q.1 ≠ p → q ∈ pre ++ (p, o) :: post → q ∈ (p, o') :: ro ∨ (q ∈ pre ++ (p, o) :: post ∧ ∀ r ∈ (p, o) :: ro, r.1 = q.1 → r ∈ (p, o') :: ro) := by
      intro q hn hm
      refine .inr ⟨hm, fun r hr e => ?_⟩
      rcases List.mem_cons.mp hr with rfl | hr
      · exact absurd e.symm hn
      · exact .tail _ hr
    rcases List.mem_append.mp hq with h | h
    · exact key q (a1 q h) (List.mem_append_left _ h)
    · rcases List.mem_cons.mp h with rfl | h
      · exact .inl (.head _)
      · exact key q (a2 q h) (List.mem_append_right _ (.tail _ h))
theorem pick_spec {w : World} {A₀ : Around} {base h₀ : Heap} {outer : List Env} {env : Env} {d u : Nat} {L : Addr} {m mg mb : Str → Option Value} {mean : ExcName → Option Value} {news : List (Addr × Obj)} {s : Shared}
    {E : Value → Shared → Prop} {Q : Value → Shared → Prop} {p f : Addr} {vs : List Value} {figs : List Int} {i mx : Int} {ti tm tb : Tok} {np nf : Nat} {b : Int} {g : Obj → List (Addr × Obj)}
    (B : Below A₀ base outer h₀) (F : Fr h₀ L s.heap m) (X : (Mine.fr.heap_1 w.params).In h₀) (N : News h₀ L s.heap news) (T : Top Mine.vw (looseW Mine.vw []) mean mg mb h₀)
    (hf : env.frame = some L) (hke : env.scope.kind = .function) (hd : d < 900) (hu : u < 9000)
    (hF : (f, listOf vs.toArray nf) ∈ news) (hI : IntsAre vs figs) (hlen : figs.length ≤ 10000) (hfp : f ≠ p) (hi : 0 ≤ i) (hi' : i ≤ figs.length) (hm : 0 ≤ mx) (hm' : mx < 1009) (hb : 0 < b) (hb' : b < 1000)
    (U : UpdF p (listOf #[.ref f, .int i ti, .int mx tm] np) news g)
    (h : ∀ (r : Int) (tr : Tok) (i' mx' : Int) (ti' tm' : Tok) (h' : Heap) (tk : Nat), 0 ≤ r → r < b → 0 ≤ i' → i' ≤ (figs.length : Int) → 0 ≤ mx' → mx' < 1009 → Fr h₀ L h' m → News h₀ L h' (g (listOf #[.ref f, .int i' ti', .int mx' tm'] np)) → Q (.int r tr) { s with heap := h', toks := tk }) :
    wpAny (model Challenge.rw_nu0320_01.row.prog w) { handled := none, depth := d, frames := some (env :: outer), guards := some [], units := u } (call (.ref 211) [.ref p, .int b tb]) Q E s := by
  revert X; k_fill; intro X
  obtain ⟨pre, post, rfl, hg, a1, a2⟩ := U.split
  simp only [hg] at h
  have hlv : vs.length ≤ 10000 := by rw [hI.length]; exact hlen
  have hlf := hI.length
  refine wpAny_call ?_
  have N2 : News h₀ L s.heap [(p, listOf #[.ref f, .int i ti, .int mx tm] np), (f, listOf vs.toArray nf)] := news_sub N (by
    intro q hq
    rcases List.mem_cons.mp hq with rfl | hq
    · simp
    · rcases List.mem_cons.mp hq with rfl | hq
      · exact hF
      · cases hq)
  refine' code_defG B F X N2 T ?kA hf hke ?k6 ?k7 ?k8 ?k9 ?kB ?_ ?c2 ?c3 ?c4 ?c5; (case kA => exact rfl); (case k6 => k_is); (case k7 => k_is); (case k8 => k_room); (case k9 => exact BindsTo.of_eq rfl); (case c5 => decide); (case kB => exact locs rfl); (case c2 => exact rfl); (case c3 => exact rfl); (case c4 => exact rfl)
  intro g' L' h' FG' F' N' B' X' T' GS
  try dsimp only
  k_fold
  (repeat' ((((fail_if_success (with_reducible show LeaveK _ _ _ _ _ _ _)); (first | (k_unfold; (try dsimp only)) | (k_end; wrow_close) | walk1 | (dsimp only; walk1) | (leave1; walk_say "STEP leave1"; try dsimp only))))))
  all_goals (dsimp only; k_unfold; (try dsimp only))
  all_goals (refine leaveK_ (by assumption) (by assumption) ?_; intro kF kN)
  all_goals (refine h _ _ _ _ _ _ _ _ ?_ ?_ ?_ ?_ ?_ ?_ kF (news_frame1 N a1 a2 ?_ GS (Fr.keep (by assumption)) kN))
  all_goals first
    | exact fmod_lo _ hb
    | exact fmod_hi _ hb
    | exact fmod_lo _ (by decide)
    | exact fmod_hi _ (by decide)
    | omega
    | (intro q hq; rw [List.mem_singleton.mp hq]; exact hF)
end
example {M : Model} {A : Around} {E : Value → Shared → Prop} {s : Shared} {Q : Flow → Shared → Prop} {env : Env} (h : Q .next s) : wpAny M A (execs [] env) Q E s := by
  first | (walk1; exact h) | exact fun _ _ _ => h
-- C2
section
local macro_rules | `(tactic| k_ne) => `(tactic| first | (with_reducible assumption) | (with_reducible exact Ne.symm (by with_reducible assumption)) | (refine neN ?_; (try dsimp only); omega))
section
local macro_rules | `(tactic| walk_at "execs cons") => `(tactic| dsimp only)
section
local macro_rules | `(tactic| walk_at "execs nil") => `(tactic| dsimp only)
section
local macro_rules | `(tactic| walk_at "storeName") => `(tactic| dsimp only)
section
local macro_rules | `(tactic| k_all) => `(tactic| first | exact List.forall_mem_nil _ | (refine' List.forall_mem_cons.mpr ⟨?a, ?b⟩; (case a => k_ne); (case b => k_all)) | (with_reducible assumption))
section
local macro_rules | `(tactic| k_room) => `(tactic| (simp only [depth_under_make, depth_under_kw, depth_in1, depth_deeper, recursionLimit] at *; omega))
section
/-- a post that the walk leaves as it stands -/
structure Hold (P : Prop) : Prop where
  out : P
theorem hold_post {α : Type} {M : Model} {A : Around} {t : Sem α} {Q : α → Shared → Prop} {E : Value → Shared → Prop} {s : Shared} (h : wpAny M A t (fun a s' => Hold (Q a s')) E s) : wpAny M A t Q E s :=
  wpAny_mono h (fun _ _ x => x.out) fun _ _ x => x
section
variable {prog : Program} {w : World} {A : Around} {E : Value → Shared → Prop} {s : Shared} {h₀ : Heap} {L l : Addr} {m : Str → Option Value} {news : List (Addr × Obj)}
theorem item_last {value slice : Expr} {pre : List Value} {v : Value} {n : Nat} {u : Tok} {Q : Value → Shared → Prop} (N : News h₀ L s.heap news) (hm : (l, listOf (pre ++ [v]).toArray n) ∈ news) (h : Q v s)
    (hs : subscripted slice false (.ref l) (.int (-1) u) = operate [.ref l, .int (-1) u] (getItem (.ref l) (.int (-1) u)) := by with_unfolding_all rfl) :
    wpAny (model prog w) A (subscriptTail value slice (.ref l) (.int (-1) u)) Q E s := by
  have hl : s.heap.IsList l (pre ++ [v]).toArray := ⟨_, (N _ hm).1, rfl, n, rfl⟩
  refine tail_any hl.typeIs slot_list_getitem.lookup (wpAny_getItem_list_neg (x := v) hl (by decide) (by simp; omega) (by decide) ?_ h) hs
  have : (-1 + (((pre ++ [v]).toArray.size : Nat) : Int)).toNat = pre.length := by simp; omega
  rw [this]; simp
end
theorem in_split {prog : Program} {w : World} {A : Around} {E : Value → Shared → Prop} {s : Shared} {h₀ : Heap} {L d : Addr} {news : List (Addr × Obj)} {o : Obj} {kvs : List (Str × Value)} {k : Str} {t : Tok} {Q : Value → Shared → Prop} (N : News h₀ L s.heap news) (hp : (d, o) ∈ news) (hd : o.IsDictOf (PySem.strKind prog w) kvs) (lo : (d == sysModules) = false)
    (h1 : (valueAt kvs k).isSome = true → Q (.bool true) { s with toks := s.toks + 1 }) (h2 : valueAt kvs k = none → Q (.bool false) { s with toks := s.toks + 1 }) :
    wpAny (model prog w) A (compareOp .In (.str k t) (.ref d)) Q E s := by
  cases hv : valueAt kvs k with
  | none => exact kda_in N hp hd lo (strKind_is _ _ _ _) false (by rw [hv]; rfl) (h2 hv)
  | some v => exact kda_in N hp hd lo (strKind_is _ _ _ _) true (by rw [hv]; rfl) (h1 (by rw [hv]; rfl))
theorem set_new {prog : Program} {w : World} {A : Around} {E : Value → Shared → Prop} {s : Shared} {h₀ : Heap} {L d : Addr} {m : Str → Option Value} {news : List (Addr × Obj)} {g : Obj → List (Addr × Obj)} {o : Obj} {kvs : List (Str × Value)} {k : Str} {t : Tok} {v : Value} {Q : Unit → Shared → Prop}
    (F : Fr h₀ L s.heap m) (N : News h₀ L s.heap news) (U : UpdF d o news g) (hd : o.IsDictOf (PySem.strKind prog w) kvs) (hn : valueAt kvs k = none) (hsz : kvs.length ≤ 1000)
    (h : ∀ h' o', Fr h₀ L h' m → News h₀ L h' (g o') → o'.IsDictOf (PySem.strKind prog w) (kvs ++ [(k, v)]) → Q () { s with heap := h', toks := s.toks + 1 }) : wpAny (model prog w) A (setItem (.ref d) (.str k t) v) Q E s :=
  kda_set F N U hd (strKind_is _ _ _ _) (by rw [sizeLine_eq]; omega) fun h' o' F' N' D' => h h' o' F' N' (by rw [stored_absent hn] at D'; exact D')
/-- what is read of an object's dict -/
structure ObjIs (es : List DictEntry) (name kind ty place : Value) (level : Int) (module : Str) (slot : Int) (value : Value) : Prop where
  name : getL (Str.ofString "name") es = some (some name)
  kind : getL (Str.ofString "kind") es = some (some kind)
  ty : getL (Str.ofString "type") es = some (some ty)
  place : getL (Str.ofString "place") es = some (some place)
  level : ∃ t, getL (Str.ofString "level") es = some (some (.int level t))
  module : ∃ t, getL (Str.ofString "module") es = some (some (.str module t))
  slot : ∃ t, getL (Str.ofString "slot") es = some (some (.int slot t))
  value : getL (Str.ofString "value") es = some (some value)
  len : es.length ≤ 14
/-- where new names are put: a slot for a variable -/
def isVar (kind : Str) : Bool := kind == Str.ofString "var" || kind == Str.ofString "par"
theorem fresh_ne {h₀ H g : Heap} {L x : Addr} {news small : List (Addr × Obj)} (N : News h₀ L H news) (G : GSub H g (small.map (·.1))) (hx : g.get? x = none) (hs : ∀ r ∈ small, r.1 ≠ x) : ∀ q ∈ news, q.1 ≠ x := by
  intro q hq e
  by_cases hm : q.1 ∈ small.map (·.1)
  · obtain ⟨r, hr, e'⟩ := List.mem_map.mp hm
    exact hs r hr (e'.trans e)
  · have := G _ _ (N q hq).1 hm
    rw [e, hx] at this; cases this
theorem cls_fin {h₀ H g h' : Heap} {L L' x d : Addr} {o1 o2 : Obj} {news imm : List (Addr × Obj)} (N1 : News h₀ L H ((x, o1) :: (d, o2) :: news)) (l1 : ∀ p ∈ news, @LT.lt Nat _ p.1 d) (l2 : @LT.lt Nat _ d x)
    (GS : GSub H g ([(x, o1), (d, o2)].map (·.1))) (K : ∀ b o, g.get? b = some o → h'.get? b = some o) (hN : News g L' h' imm) (kN : News h₀ L h' imm) : News h₀ L h' (imm ++ news) ∧ ∀ p ∈ imm, ∀ q ∈ news, q.1 ≠ p.1 := by
  have key : ∀ q ∈ news, g.get? q.1 = some q.2 := fun q hq => by
    refine GS _ _ (N1 q (.tail _ (.tail _ hq))).1 ?_
    have := l1 q hq
    intro hm
    simp only [List.map_cons, List.map_nil, List.mem_cons, List.not_mem_nil, or_false] at hm
    rcases hm with e | e
    · rw [e] at this; exact absurd (Nat.lt_trans this l2) (Nat.lt_irrefl _)
    · rw [e] at this; exact absurd this (Nat.lt_irrefl _)
  refine ⟨fun q hq => ?_, fun p hp q hq e => ?_⟩
  · rcases List.mem_append.mp hq with h | h
    · exact kN q h
    · exact ⟨K _ _ (key q h), (N1 q (.tail _ (.tail _ h))).2⟩
  · have := key q hq
    rw [e, (hN p hp).2.2] at this; cases this
theorem updF_mem {d : Addr} {o : Obj} {l : List (Addr × Obj)} {g : Obj → List (Addr × Obj)} (U : UpdF d o l g) (o' : Obj) : ∀ q ∈ g o', q = (d, o') ∨ (q ∈ l ∧ q.1 ≠ d) := by
  obtain ⟨pre, post, rfl, hg, a, b⟩ := U.split
  intro q hq
  rw [hg] at hq
  rcases List.mem_append.mp hq with h | h
  · exact .inr ⟨List.mem_append_left _ h, a q h⟩
  · rcases List.mem_cons.mp h with rfl | h
    · exact .inl rfl
    · exact .inr ⟨List.mem_append_right _ (.tail _ h), b q h⟩
theorem updF_in {d : Addr} {o : Obj} {l : List (Addr × Obj)} {g : Obj → List (Addr × Obj)} (U : UpdF d o l g) : (d, o) ∈ l := by
  obtain ⟨pre, post, rfl, hg, a, b⟩ := U.split
  simp
end
-- C2s
section
theorem getL_putL_ne {name name' : Str} (hne : (name == name') = false) (hsh : Int) (t : Tok) (v : Value) : ∀ es : List DictEntry, getL name' (putL name hsh (.str name t) v es) = getL name' es := by
  have key : ∀ es : List DictEntry, (putL name hsh (.str name t) v es).find? (·.key.isStr name') = (es.find? (·.key.isStr name')).map fun e => if e.key.isStr name then ⟨e.hash, e.key, v⟩ else e := by
    intro es
    induction es with
    | nil => simp [putL, Value.isStr, hne]
    | cons e r ih =>
      unfold putL
      by_cases h : e.key.isStr name = true
      · have h2 : e.key.isStr name' = false := by
          cases hk : e.key with
          | str x t' =>
            rw [hk] at h
            simp only [Value.isStr] at h ⊢
            rw [beq_iff_eq.mp h]; exact hne
          | _ => rfl
        rw [if_pos h]
        simp only [List.find?_cons, h2]
        -- the rest has no more change
        cases hf : r.find? (·.key.isStr name') with
        | none => rfl
        | some e' =>
          have h3 := List.find?_some hf
          have h4 : e'.key.isStr name = false := by
            cases hk : e'.key with
            | str x t' =>
              rw [hk] at h3
              simp only [Value.isStr] at h3 ⊢
              rw [beq_iff_eq.mp h3]
              cases hb : (name' == name) with
              | false => rfl
              | true => rw [beq_iff_eq.mp hb] at hne; simp at hne
            | _ => rfl
          simp [h4]
      · rw [if_neg h]
        simp only [List.find?_cons]
        cases h2 : e.key.isStr name' with
        | true => simp [h]
        | false => exact ih
  have key2 : ∀ es : List DictEntry, (putL name hsh (.str name t) v es).any (·.refKey) = es.any (·.refKey) := by
    intro es
    induction es with
    | nil => simp [putL, DictEntry.refKey]
    | cons e r ih =>
      unfold putL
      by_cases h : e.key.isStr name = true
      · rw [if_pos h]; rfl
      · rw [if_neg h]; simp only [List.any_cons, ih]
  intro es
  unfold getL
  rw [key, key2]
  cases hf : es.find? (·.key.isStr name') with
  | none => rfl
  | some e =>
    have h3 := List.find?_some hf
    have h4 : e.key.isStr name = false := by
      cases hk : e.key with
      | str x t' =>
        rw [hk] at h3
        simp only [Value.isStr] at h3 ⊢
        rw [beq_iff_eq.mp h3]
        cases hb : (name' == name) with
        | false => rfl
        | true => rw [beq_iff_eq.mp hb] at hne; simp at hne
      | _ => rfl
    simp [h4]
theorem getL_putL_self (name : Str) (hsh : Int) (t : Tok) (v : Value) : ∀ es : List DictEntry, getL name (putL name hsh (.str name t) v es) = some (some v) := by
  intro es
  have : ∃ e, (putL name hsh (.str name t) v es).find? (·.key.isStr name) = some e ∧ e.val = v := by
    induction es with
    | nil => exact ⟨⟨hsh, .str name t, v⟩, by simp [putL, Value.isStr], rfl⟩
    | cons e r ih =>
      unfold putL
      by_cases h : e.key.isStr name = true
      · exact ⟨⟨e.hash, e.key, v⟩, by rw [if_pos h]; simp [h], rfl⟩
      · obtain ⟨e', a, b⟩ := ih
        exact ⟨e', by rw [if_neg h]; simp only [List.find?_cons, h]; exact a, b⟩
  obtain ⟨e, a, b⟩ := this
  unfold getL
  rw [a, ← b]
theorem putL_length (name : Str) (hsh : Int) (key v : Value) : ∀ es : List DictEntry, (putL name hsh key v es).length ≤ es.length + 1
  | [] => by simp [putL]
  | e :: r => by
    unfold putL
    split
    · simp
    · simp only [List.length_cons]; have := putL_length name hsh key v r; omega
theorem putL_same (name : Str) (hsh : Int) (key v : Value) : ∀ es : List DictEntry, (∃ e ∈ es, e.key.isStr name = true) → (putL name hsh key v es).length = es.length
  | [], h => by obtain ⟨e, he, _⟩ := h; cases he
  | e :: r, h => by
    unfold putL
    by_cases hk : e.key.isStr name = true
    · rw [if_pos hk]; rfl
    · rw [if_neg hk]
      obtain ⟨e', he, h'⟩ := h
      rcases List.mem_cons.mp he with rfl | he
      · exact absurd h' hk
      · simp only [List.length_cons]; rw [putL_same name hsh key v r ⟨e', he, h'⟩]
theorem getL_mem {name : Str} {v : Value} {es : List DictEntry} (h : getL name es = some (some v)) : ∃ e ∈ es, e.key.isStr name = true := by
  unfold getL at h
  cases hf : es.find? (·.key.isStr name) with
  | none => rw [hf] at h; dsimp only at h; split at h <;> cases h
  | some e => exact ⟨e, List.mem_of_find?_eq_some hf, by have h3 := List.find?_some hf; exact h3⟩
theorem upd_split {d : Addr} {o o' : Obj} : ∀ {pre post : List (Addr × Obj)}, (∀ p ∈ pre, p.1 ≠ d) → (∀ p ∈ post, p.1 ≠ d) → Upd d o o' (pre ++ (d, o) :: post) (pre ++ (d, o') :: post)
  | [], _, _, h => .head h
  | p :: r, _, h1, h => .tail (h1 p (.head _)) (upd_split (fun q hq => h1 q (.tail _ hq)) h)
theorem updF_upd {d : Addr} {o : Obj} {l : List (Addr × Obj)} {g : Obj → List (Addr × Obj)} (U : UpdF d o l g) (o' : Obj) : Upd d o o' l (g o') := by
  obtain ⟨pre, post, rfl, hg, a, b⟩ := U.split
  rw [hg]; exact upd_split a b
theorem set_value {w : World} {A : Around} {E : Value → Shared → Prop} {s : Shared} {h₀ : Heap} {L x d : Addr} {m : Str → Option Value} {news : List (Addr × Obj)} {g : Obj → List (Addr × Obj)} {es : List DictEntry} {n : Nat} {v : Value} {Q : Unit → Shared → Prop}
    {vn vk ty vp : Value} {lv sl : Int} {ms : Str} {val : Value} (F : Fr h₀ L s.heap m) (X : (Mine.fr.heap_1 w.params).In h₀) (N : News h₀ L s.heap news) (hx : (x, instObj 52 d) ∈ news) (U : UpdF d (dictOf es n) news g) (ho : ObjIs es vn vk ty vp lv ms sl val)
    (h : ∀ h' es' n', Fr h₀ L h' m → News h₀ L h' (g (dictOf es' n')) → ObjIs es' vn vk ty vp lv ms sl v → Q () { s with heap := h', toks := s.toks + 2 }) :
    wpAny (model Challenge.rw_nu0320_01.row.prog w) A (setAttr (.ref x) (Str.ofString "value") v) Q E s := by
  revert X; k_fill; intro X
  refine set_dict F X N (InstAt.of_news N hx (updF_in U)) rfl (by k_is) (by k_is) (by k_is) (by k_is) (by rw [ho.value]; rfl) rfl (updF_upd U _) ?_ ?_
  · have := putL_length (Str.ofString "value") (PyData.keyHash w.params (Str.ofString "value")) (.str (Str.ofString "value") (s.toks + 1)) v es
    have := ho.len; omega
  · intro h' F' N'
    refine h h' _ _ F' N' ⟨?_, ?_, ?_, ?_, ?_, ?_, ?_, ?_, ?_⟩
    · rw [getL_putL_ne (by decide)]; exact ho.name
    · rw [getL_putL_ne (by decide)]; exact ho.kind
    · rw [getL_putL_ne (by decide)]; exact ho.ty
    · rw [getL_putL_ne (by decide)]; exact ho.place
    · rw [getL_putL_ne (by decide)]; exact ho.level
    · rw [getL_putL_ne (by decide)]; exact ho.module
    · rw [getL_putL_ne (by decide)]; exact ho.slot
    · exact getL_putL_self _ _ _ _ _
    · rw [putL_same _ _ _ _ _ (getL_mem ho.value)]; exact ho.len
theorem set_slot {w : World} {A : Around} {E : Value → Shared → Prop} {s : Shared} {h₀ : Heap} {L x d : Addr} {m : Str → Option Value} {news : List (Addr × Obj)} {g : Obj → List (Addr × Obj)} {es : List DictEntry} {n : Nat} {Q : Unit → Shared → Prop}
    {vn vk ty vp : Value} {lv sl : Int} {ms : Str} {val : Value} {sl' : Int} {tt : Tok} (F : Fr h₀ L s.heap m) (X : (Mine.fr.heap_1 w.params).In h₀) (N : News h₀ L s.heap news) (hx : (x, instObj 52 d) ∈ news) (U : UpdF d (dictOf es n) news g) (ho : ObjIs es vn vk ty vp lv ms sl val)
    (h : ∀ h' es' n', Fr h₀ L h' m → News h₀ L h' (g (dictOf es' n')) → ObjIs es' vn vk ty vp lv ms sl' val → Q () { s with heap := h', toks := s.toks + 2 }) :
    wpAny (model Challenge.rw_nu0320_01.row.prog w) A (setAttr (.ref x) (Str.ofString "slot") (.int sl' tt)) Q E s := by
  revert X; k_fill; intro X
  obtain ⟨t0, ht0⟩ := ho.slot
  refine set_dict F X N (InstAt.of_news N hx (updF_in U)) rfl (by k_is) (by k_is) (by k_is) (by k_is) (by rw [ht0]; rfl) rfl (updF_upd U _) ?_ ?_
  · have := putL_length (Str.ofString "slot") (PyData.keyHash w.params (Str.ofString "slot")) (.str (Str.ofString "slot") (s.toks + 1)) (.int sl' tt) es
    have := ho.len; omega
  · intro h' F' N'
    refine h h' _ _ F' N' ⟨?_, ?_, ?_, ?_, ?_, ?_, ?_, ?_, ?_⟩
    · rw [getL_putL_ne (by decide)]; exact ho.name
    · rw [getL_putL_ne (by decide)]; exact ho.kind
    · rw [getL_putL_ne (by decide)]; exact ho.ty
    · rw [getL_putL_ne (by decide)]; exact ho.place
    · rw [getL_putL_ne (by decide)]; exact ho.level
    · rw [getL_putL_ne (by decide)]; exact ho.module
    · exact ⟨_, getL_putL_self _ _ _ _ _⟩
    · rw [getL_putL_ne (by decide)]; exact ho.value
    · rw [putL_same _ _ _ _ _ (getL_mem ht0)]; exact ho.len
theorem set_level {w : World} {A : Around} {E : Value → Shared → Prop} {s : Shared} {h₀ : Heap} {L x d : Addr} {m : Str → Option Value} {news : List (Addr × Obj)} {g : Obj → List (Addr × Obj)} {es : List DictEntry} {n : Nat} {Q : Unit → Shared → Prop}
    {vn vk ty vp : Value} {lv sl : Int} {ms : Str} {val : Value} {lv' : Int} {tt : Tok} (F : Fr h₀ L s.heap m) (X : (Mine.fr.heap_1 w.params).In h₀) (N : News h₀ L s.heap news) (hx : (x, instObj 52 d) ∈ news) (U : UpdF d (dictOf es n) news g) (ho : ObjIs es vn vk ty vp lv ms sl val)
    (h : ∀ h' es' n', Fr h₀ L h' m → News h₀ L h' (g (dictOf es' n')) → ObjIs es' vn vk ty vp lv' ms sl val → Q () { s with heap := h', toks := s.toks + 2 }) :
    wpAny (model Challenge.rw_nu0320_01.row.prog w) A (setAttr (.ref x) (Str.ofString "level") (.int lv' tt)) Q E s := by
  revert X; k_fill; intro X
  obtain ⟨t0, ht0⟩ := ho.level
  refine set_dict F X N (InstAt.of_news N hx (updF_in U)) rfl (by k_is) (by k_is) (by k_is) (by k_is) (by rw [ht0]; rfl) rfl (updF_upd U _) ?_ ?_
  · have := putL_length (Str.ofString "level") (PyData.keyHash w.params (Str.ofString "level")) (.str (Str.ofString "level") (s.toks + 1)) (.int lv' tt) es
    have := ho.len; omega
  · intro h' F' N'
    refine h h' _ _ F' N' ⟨?_, ?_, ?_, ?_, ?_, ?_, ?_, ?_, ?_⟩
    · rw [getL_putL_ne (by decide)]; exact ho.name
    · rw [getL_putL_ne (by decide)]; exact ho.kind
    · rw [getL_putL_ne (by decide)]; exact ho.ty
    · rw [getL_putL_ne (by decide)]; exact ho.place
    · exact ⟨_, getL_putL_self _ _ _ _ _⟩
    · rw [getL_putL_ne (by decide)]; exact ho.module
    · rw [getL_putL_ne (by decide)]; exact ho.slot
    · rw [getL_putL_ne (by decide)]; exact ho.value
    · rw [putL_same _ _ _ _ _ (getL_mem ht0)]; exact ho.len
theorem set_module {w : World} {A : Around} {E : Value → Shared → Prop} {s : Shared} {h₀ : Heap} {L x d : Addr} {m : Str → Option Value} {news : List (Addr × Obj)} {g : Obj → List (Addr × Obj)} {es : List DictEntry} {n : Nat} {Q : Unit → Shared → Prop}
    {vn vk ty vp : Value} {lv sl : Int} {ms : Str} {val : Value} {ms' : Str} {tt : Tok} (F : Fr h₀ L s.heap m) (X : (Mine.fr.heap_1 w.params).In h₀) (N : News h₀ L s.heap news) (hx : (x, instObj 52 d) ∈ news) (U : UpdF d (dictOf es n) news g) (ho : ObjIs es vn vk ty vp lv ms sl val)
    (h : ∀ h' es' n', Fr h₀ L h' m → News h₀ L h' (g (dictOf es' n')) → ObjIs es' vn vk ty vp lv ms' sl val → Q () { s with heap := h', toks := s.toks + 2 }) :
    wpAny (model Challenge.rw_nu0320_01.row.prog w) A (setAttr (.ref x) (Str.ofString "module") (.str ms' tt)) Q E s := by
  revert X; k_fill; intro X
  obtain ⟨t0, ht0⟩ := ho.module
  refine set_dict F X N (InstAt.of_news N hx (updF_in U)) rfl (by k_is) (by k_is) (by k_is) (by k_is) (by rw [ht0]; rfl) rfl (updF_upd U _) ?_ ?_
  · have := putL_length (Str.ofString "module") (PyData.keyHash w.params (Str.ofString "module")) (.str (Str.ofString "module") (s.toks + 1)) (.str ms' tt) es
    have := ho.len; omega
  · intro h' F' N'
    refine h h' _ _ F' N' ⟨?_, ?_, ?_, ?_, ?_, ?_, ?_, ?_, ?_⟩
    · rw [getL_putL_ne (by decide)]; exact ho.name
    · rw [getL_putL_ne (by decide)]; exact ho.kind
    · rw [getL_putL_ne (by decide)]; exact ho.ty
    · rw [getL_putL_ne (by decide)]; exact ho.place
    · rw [getL_putL_ne (by decide)]; exact ho.level
    · exact ⟨_, getL_putL_self _ _ _ _ _⟩
    · rw [getL_putL_ne (by decide)]; exact ho.slot
    · rw [getL_putL_ne (by decide)]; exact ho.value
    · rw [putL_same _ _ _ _ _ (getL_mem ht0)]; exact ho.len
end
-- B1
section
/-- an expression that gives a value and leaves a fresh object as it is -/
def Gives (w : World) (A : Around) (E : Value → Shared → Prop) (env : Env) (h₀ : Heap) (L x dx : Addr) (m : Str → Option Value) (C : Addr) (e : Expr) (P : Value → Prop) : Prop :=
  ∀ (s : Shared) (es : List DictEntry) (n : Nat) (Q : Value → Shared → Prop), Fr h₀ L s.heap m → News h₀ L s.heap [(x, instObj C dx), (dx, dictOf es n)] →
    (∀ v h' tk, P v → Fr h₀ L h' m → News h₀ L h' [(x, instObj C dx), (dx, dictOf es n)] → Q v { s with heap := h', toks := tk }) → wpAny (model Challenge.rw_nu0320_01.row.prog w) A (eval e env) Q E s
section
variable {w : World} {A : Around} {E : Value → Shared → Prop} {env : Env} {h₀ : Heap} {L x dx : Addr} {m : Str → Option Value} {C : Addr}
theorem gives_int {i : Int} {k pos} : Gives w A E env h₀ L x dx m C (.Constant (.int i) k pos) (fun v => ∃ t, v = .int i t) := fun s es n Q F N h => wpAny_Constant_int (h _ _ _ ⟨_, rfl⟩ F N)
theorem gives_str {i : Str} {k pos} : Gives w A E env h₀ L x dx m C (.Constant (.str i) k pos) (fun v => ∃ t, v = .str i t) := fun s es n Q F N h => wpAny_Constant_str (h _ _ _ ⟨_, rfl⟩ F N)
theorem gives_none {k pos} : Gives w A E env h₀ L x dx m C (.Constant .none k pos) (fun v => v = .none) := fun s es n Q F N h => wpAny_Constant_none (h _ _ _ rfl F N)
theorem gives_bool {b : Bool} {k pos} : Gives w A E env h₀ L x dx m C (.Constant (.bool b) k pos) (fun _ => True) := fun s es n Q F N h => wpAny_Constant_bool (h _ _ _ trivial F N)
theorem gives_name {y : Str} {pos} {v : Value} (hn : ∀ (s : Shared) (Q : Value → Shared → Prop), Fr h₀ L s.heap m → Q v s → wpAny (model Challenge.rw_nu0320_01.row.prog w) A (eval (.Name y pos) env) Q E s) :
    Gives w A E env h₀ L x dx m C (.Name y pos) (fun u => u = v) := fun s es n Q F N h => hn s Q F (h _ _ _ rfl F N)
theorem gives_list {pos} : Gives w A E env h₀ L x dx m C (.List [] pos) (fun _ => True) := fun s es n Q F N h =>
  List_ (spliced_nil (newList_K F N fun l h' F' N' _ => h _ _ _ trivial F' (fun q hq => N' q (.tail _ hq))))
theorem getL_isSome {es : List DictEntry} (h : es.any (·.refKey) = false) (name : Str) : (getL name es).isSome = true := by
  unfold getL
  rw [h]
  cases es.find? (·.key.isStr name) <;> rfl
theorem putL_ref {name : Str} {hsh : Int} {t : Tok} {v : Value} : ∀ es : List DictEntry, (putL name hsh (.str name t) v es).any (·.refKey) = es.any (·.refKey)
  | [] => by simp [putL, DictEntry.refKey]
  | e :: r => by
    unfold putL
    by_cases h : e.key.isStr name = true
    · rw [if_pos h]; rfl
    · rw [if_neg h]; simp only [List.any_cons, putL_ref r]
/-- statements self.a = e -/
inductive Asgs (w : World) (A : Around) (E : Value → Shared → Prop) (env : Env) (h₀ : Heap) (L x dx : Addr) (m : Str → Option Value) (C : Addr) (K : Frag) (self : Str) : List Stmt → List (Str × (Value → Prop)) → Prop
  | nil : Asgs w A E env h₀ L x dx m C K self [] []
  | cons {a : Str} {e : Expr} {ps pa pos : Pos} {P : Value → Prop} {r : List Stmt} {l : List (Str × (Value → Prop))} (hg : Gives w A E env h₀ L x dx m C e P)
      (hs : swapsWith e (some (.Attribute (.Name self ps) a pa)) pos.line env = pure false) (ht : takerIn K C a = some none) (h : Asgs w A E env h₀ L x dx m C K self r l) :
      Asgs w A E env h₀ L x dx m C K self (.Assign [.Attribute (.Name self ps) a pa] e pos :: r) ((a, P) :: l)
/-- what the block leaves -/
structure Left (l : List (Str × (Value → Prop))) (es es' : List DictEntry) : Prop where
  has : ∀ p ∈ l, ∃ v, p.2 v ∧ getL p.1 es' = some (some v)
  old : ∀ b, (∀ p ∈ l, (p.1 == b) = false) → getL b es' = getL b es
  len : es'.length ≤ es.length + l.length
  ref : es'.any (·.refKey) = false
noncomputable def distinct : List Str → Bool
  | [] => true
  | a :: r => r.all (fun b => !(a == b)) && distinct r
theorem asgs_run {K : Frag} {self : Str} (X : K.In h₀) (hs : findIn K (.ref C) "__setattr__" = some (some (.builtin "object.__setattr__"))) (hp : plainOver K C = true) (hh : hasDictIn K C = true)
    (hself : ∀ (ps : Pos) (s : Shared) (Q : Value → Shared → Prop), Fr h₀ L s.heap m → Q (.ref x) s → wpAny (model Challenge.rw_nu0320_01.row.prog w) A (eval (.Name self ps) env) Q E s) (hxd : x ≠ dx) :
    ∀ {b : List Stmt} {l : List (Str × (Value → Prop))}, Asgs w A E env h₀ L x dx m C K self b l → distinct (l.map (·.1)) = true → ∀ {s : Shared} {es : List DictEntry} {n : Nat} {Q : Flow → Shared → Prop}, Fr h₀ L s.heap m → News h₀ L s.heap [(x, instObj C dx), (dx, dictOf es n)] →
      es.any (·.refKey) = false → es.length + l.length ≤ 1000 →
      (∀ h' tk es' n', Fr h₀ L h' m → News h₀ L h' [(x, instObj C dx), (dx, dictOf es' n')] → Left l es es' → Q .next { s with heap := h', toks := tk }) → wpAny (model Challenge.rw_nu0320_01.row.prog w) A (execs b env) Q E s := by
  intro b l H
  induction H with
  | nil =>
    intro _ s es n Q F N hr hl h
    exact wpAny_execs_nil (h _ _ _ _ F N ⟨fun p hp => (nomatch hp), fun _ _ => rfl, Nat.le_refl _, hr⟩)
  | @cons a e ps pa pos P r l hg hsw ht H ih =>
    intro hpw s es n Q F N hr hl h
    obtain ⟨hp0, hp2⟩ := Bool.and_eq_true_iff.mp hpw
    have hp1 : ∀ q ∈ l, (a == q.1) = false := fun q hq => by
      have := List.all_eq_true.mp hp0 q.1 (List.mem_map.mpr ⟨q, hq, rfl⟩)
      cases hb : (a == q.1) with
      | false => rfl
      | true => rw [hb] at this; cases this
    refine wpAny_execs_cons (plainObj_wpAny_Assign_Attribute (hg s es n _ F N fun v h1 t1 hv F1 N1 => hself _ _ _ F1 ?_) hsw)
    refine set_dict F1 X N1 (InstAt.of_news N1 (.head _) (.tail _ (.head _))) rfl hs hp ht hh (getL_isSome hr a) rfl (.tail hxd (.head fun q hq => (nomatch hq))) ?_ fun h2 F2 N2 => ?_
    · have := putL_length a (PyData.keyHash w.params a) (.str a (t1 + 1)) v es
      simp only [List.length_cons] at hl
      exact Nat.le_trans this (by omega)
    · refine ih hp2 F2 N2 (by rw [putL_ref]; exact hr) ?_ fun h3 t3 es3 n3 F3 N3 Z => ?_
      · have := putL_length a (PyData.keyHash w.params a) (.str a (t1 + 1)) v es
        simp only [List.length_cons] at hl
        dsimp only
        omega
      · refine h h3 t3 es3 n3 F3 N3 ⟨fun p hp => ?_, fun b hb => ?_, ?_, Z.ref⟩
        · rcases List.mem_cons.mp hp with rfl | hp
          · exact ⟨v, hv, by rw [Z.old a (fun q hq => by rw [BEq.comm]; exact hp1 q hq)]; exact getL_putL_self _ _ _ _ _⟩
          · exact Z.has p hp
        · rw [Z.old b (fun q hq => hb q (.tail _ hq))]
          exact getL_putL_ne (hb _ (.head _)) _ _ _ _
        · have := putL_length a (PyData.keyHash w.params a) (.str a (t1 + 1)) v es
          have := Z.len
          simp only [List.length_cons] at hl ⊢
          dsimp only at this
          omega
end
/-- setting an attribute of an object whose dict is not written out -/
theorem set_any {w : World} {A : Around} {E : Value → Shared → Prop} {s : Shared} {h₀ : Heap} {L x d : Addr} {m : Str → Option Value} {news : List (Addr × Obj)} {g : Obj → List (Addr × Obj)} {es : List DictEntry} {n : Nat} {Q : Unit → Shared → Prop} {K : Frag} {C : Addr} {a : Str} {v : Value}
    (F : Fr h₀ L s.heap m) (X : K.In h₀) (N : News h₀ L s.heap news) (hx : (x, instObj C d) ∈ news) (U : UpdF d (dictOf es n) news g) (hs : findIn K (.ref C) "__setattr__" = some (some (.builtin "object.__setattr__"))) (hp : plainOver K C = true) (ht : takerIn K C a = some none) (hh : hasDictIn K C = true)
    (hr : es.any (·.refKey) = false) (hl : es.length < 1000) (h : ∀ h' es' n', Fr h₀ L h' m → News h₀ L h' (g (dictOf es' n')) → getL a es' = some (some v) → (∀ b, (a == b) = false → getL b es' = getL b es) → es'.any (·.refKey) = false → es'.length ≤ es.length + 1 → Q () { s with heap := h', toks := s.toks + 2 }) :
    wpAny (model Challenge.rw_nu0320_01.row.prog w) A (setAttr (.ref x) a v) Q E s :=
  set_dict F X N (InstAt.of_news N hx (updF_in U)) rfl hs hp ht hh (getL_isSome hr a) rfl (updF_upd U _) (Nat.le_trans (putL_length _ _ _ _ _) hl)
    fun h' F' N' => h h' _ _ F' N' (getL_putL_self _ _ _ _ _) (fun b hb => getL_putL_ne hb _ _ _ _) (by rw [putL_ref]; exact hr) (putL_length _ _ _ _ _)
theorem has_eq {o : Option (Option Value)} {V : Value} (h : ∃ v, v = V ∧ o = some (some v)) : o = some (some V) := by obtain ⟨_, rfl, e⟩ := h; exact e
theorem has_ex {o : Option (Option Value)} {f : Tok → Value} (h : ∃ v, (∃ t, v = f t) ∧ o = some (some v)) : ∃ t, o = some (some (f t)) := by obtain ⟨_, ⟨t, rfl⟩, e⟩ := h; exact ⟨t, e⟩
end
-- C2t
end
end
example {M : Model} {A : Around} {E : Value → Shared → Prop} {s : Shared} {Q : Flow → Shared → Prop} {env : Env} (h : Q .next s) : wpAny M A (execs [] env) Q E s := by
  first | (walk1; exact h) | exact fun _ _ _ => h
section
local macro_rules | `(tactic| k_all) => `(tactic| first | exact List.forall_mem_nil _ | (with_reducible assumption) | (refine' List.forall_mem_cons.mpr ⟨?a, ?b⟩; (case a => k_ne); (case b => k_all)))
section
local macro_rules | `(tactic| k_room) => `(tactic| (simp only [depth_under_make, depth_under_kw, depth_in1, depth_deeper, recursionLimit] at *; omega))
section
theorem type_spec {w : World} {A₀ : Around} {base h₀ : Heap} {outer : List Env} {env : Env} {d u : Nat} {L : Addr} {m mg mb : Str → Option Value} {mean : ExcName → Option Value} {news : List (Addr × Obj)} {s : Shared}
    {E : Value → Shared → Prop} {Q : Value → Shared → Prop} {form : Str} {vn vz : Value} {tf : Tok}
    (B : Below A₀ base outer h₀) (F : Fr h₀ L s.heap m) (X : (Mine.fr.heap_1 w.params).In h₀) (N : News h₀ L s.heap news) (T : Top Mine.vw (looseW Mine.vw []) mean mg mb h₀)
    (hf : env.frame = some L) (hke : env.scope.kind = .function) (hd : d < 950)
    (h : ∀ (h' : Heap) (tk : Nat) (x d : Addr) (es : List DictEntry) (n : Nat), Fr h₀ L h' m → News h₀ L h' ((x, instObj 31 d) :: (d, dictOf es n) :: news) → getL (Str.ofString "form") es = some (some (.str form tf)) → es.any (·.refKey) = false → es.length ≤ 12 →
      (∀ q ∈ news, q.1 ≠ x) → (∀ q ∈ news, q.1 ≠ d) → x ≠ d → Q (.ref x) { s with heap := h', toks := tk }) :
    wpAny (model Challenge.rw_nu0320_01.row.prog w) { handled := none, depth := d, frames := some (env :: outer), guards := some [], units := u } (call (.ref 31) [vn, .str form tf, vz]) Q E s := by
  revert X; k_fill; intro X
  refine' call_cls F X N ?k4 ?k5 ?k6 ?_; (case k4 => k_is); (case k5 => k_is); (case k6 => k_is)
  intro x d' h1 F1 N1 l1 l2
  have N1' : News h₀ L h1 [(x, instObj 31 d'), (d', dictOf [] 0)] := news_sub N1 (fun q hq => by
    rcases List.mem_cons.mp hq with rfl | hq
    · exact .head _
    · rw [List.mem_singleton.mp hq]; exact .tail _ (.head _))
  replace l2 := ltN l2
  refine' code_defG B F1 X N1' T ?kA hf hke ?q6 ?q7 ?q8 ?q9 ?qB ?_ ?q2 ?q3 ?q4 ?q5; (case kA => exact rfl); (case q6 => k_is); (case q7 => k_is); (case q8 => k_room); (case q9 => exact BindsTo.of_eq rfl); (case q5 => decide); (case qB => exact locs rfl); (case q2 => exact rfl); (case q3 => exact rfl); (case q4 => exact rfl)
  intro g' L' h' FG' F' N' B' X' T' GS
  try dsimp only
  refine hold_post ?_
  k_fold
  refine' asgs_run X' ?a1 ?a2 ?a3 ?a4 (Ne.symm (Nat.ne_of_lt l2)) ?H ?dd F' N' rfl ?ll ?_
  case a1 => k_is
  case a2 => k_is
  case a3 => k_is
  case H => exact (.cons (gives_name (fun s Q F h => nameX_L F rfl h)) rfl (by k_is) (.cons (gives_name (fun s Q F h => nameX_L F rfl h)) rfl (by k_is) (.cons (gives_name (fun s Q F h => nameX_L F rfl h)) rfl (by k_is) (.cons gives_none rfl (by k_is) (.cons gives_int rfl (by k_is) (.cons gives_list rfl (by k_is) (.cons gives_int rfl (by k_is) (.cons gives_list rfl (by k_is) (.cons gives_str rfl (by k_is) (.cons gives_str rfl (by k_is) (.cons gives_list rfl (by k_is) (.cons gives_int rfl (by k_is) .nil))))))))))))
  case a4 => exact fun ps s Q F h => nameX_L F rfl h
  case dd => exact (by decide +kernel : distinct [Str.ofString "number", Str.ofString "form", Str.ofString "size", Str.ofString "base", Str.ofString "length", Str.ofString "fields", Str.ofString "level", Str.ofString "params", Str.ofString "module", Str.ofString "label", Str.ofString "hidden", Str.ofString "exno"] = true)
  case ll => exact Nat.le_of_ble_eq_true rfl
  intro h3 t3 es3 n3 F3 N3 Z
  dsimp only
  k_unmd; k_unfold; (try dsimp only)
  refine ⟨leaveK_ (by assumption) (by assumption) ?_⟩; intro kF kN
  refine ⟨rfl, ?_⟩
  dsimp only
  obtain ⟨r1, r2⟩ := cls_fin N1 l1 l2 GS (Fr.keep (by assumption)) N3 kN
  exact h _ _ x d' _ _ kF r1 (has_eq (Z.has _ (.tail _ (.head _)))) Z.ref Z.len (fun q hq => r2 _ (.head _) q hq) (fun q hq => r2 _ (.tail _ (.head _)) q hq) (Ne.symm (Nat.ne_of_lt l2))
end
-- C2a
section
theorem obj_spec {w : World} {A₀ : Around} {base h₀ : Heap} {outer : List Env} {env : Env} {d u : Nat} {L : Addr} {m mg mb : Str → Option Value} {mean : ExcName → Option Value} {news : List (Addr × Obj)} {s : Shared}
    {E : Value → Shared → Prop} {Q : Value → Shared → Prop} {name kind : Str} {ty : Value} {place : Int} {tn tk' tp : Tok}
    (B : Below A₀ base outer h₀) (F : Fr h₀ L s.heap m) (X : (Mine.fr.heap_1 w.params).In h₀) (N : News h₀ L s.heap news) (T : Top Mine.vw (looseW Mine.vw []) mean mg mb h₀)
    (hf : env.frame = some L) (hke : env.scope.kind = .function) (hd : d < 950)
    (h : ∀ (h' : Heap) (tk : Nat) (x d : Addr) (es : List DictEntry) (n : Nat), Fr h₀ L h' m → News h₀ L h' ((x, instObj 52 d) :: (d, dictOf es n) :: news) → ObjIs es (.str name tn) (.str kind tk') ty (.int place tp) 0 (Str.ofString "") 0 .none →
      (∀ q ∈ news, q.1 ≠ x) → (∀ q ∈ news, q.1 ≠ d) → x ≠ d → Q (.ref x) { s with heap := h', toks := tk }) :
    wpAny (model Challenge.rw_nu0320_01.row.prog w) { handled := none, depth := d, frames := some (env :: outer), guards := some [], units := u } (call (.ref 52) [.str name tn, .str kind tk', ty, .int place tp]) Q E s := by
  revert X; k_fill; intro X
  refine' call_cls F X N ?k4 ?k5 ?k6 ?_; (case k4 => k_is); (case k5 => k_is); (case k6 => k_is)
  intro x d' h1 F1 N1 l1 l2
  have N1' : News h₀ L h1 [(x, instObj 52 d'), (d', dictOf [] 0)] := news_sub N1 (fun q hq => by
    rcases List.mem_cons.mp hq with rfl | hq
    · exact .head _
    · rw [List.mem_singleton.mp hq]; exact .tail _ (.head _))
  replace l2 := ltN l2
  refine' code_defG B F1 X N1' T ?kA hf hke ?q6 ?q7 ?q8 ?q9 ?qB ?_ ?q2 ?q3 ?q4 ?q5; (case kA => exact rfl); (case q6 => k_is); (case q7 => k_is); (case q8 => k_room); (case q9 => exact BindsTo.of_eq rfl); (case q5 => decide); (case qB => exact locs rfl); (case q2 => exact rfl); (case q3 => exact rfl); (case q4 => exact rfl)
  intro g' L' h' FG' F' N' B' X' T' GS
  try dsimp only
  refine hold_post ?_
  k_fold
  refine' asgs_run X' ?a1 ?a2 ?a3 ?a4 (Ne.symm (Nat.ne_of_lt l2)) ?H ?dd F' N' rfl ?ll ?_
  case a1 => k_is
  case a2 => k_is
  case a3 => k_is
  case H => exact (.cons (gives_name (fun s Q F h => nameX_L F rfl h)) rfl (by k_is) (.cons (gives_name (fun s Q F h => nameX_L F rfl h)) rfl (by k_is) (.cons (gives_name (fun s Q F h => nameX_L F rfl h)) rfl (by k_is) (.cons (gives_name (fun s Q F h => nameX_L F rfl h)) rfl (by k_is) (.cons gives_bool rfl (by k_is) (.cons gives_bool rfl (by k_is) (.cons gives_int rfl (by k_is) (.cons gives_str rfl (by k_is) (.cons gives_none rfl (by k_is) (.cons gives_int rfl (by k_is) (.cons gives_int rfl (by k_is) (.cons gives_int rfl (by k_is) (.cons gives_bool rfl (by k_is) (.cons gives_none rfl (by k_is) .nil))))))))))))))
  case a4 => exact fun ps s Q F h => nameX_L F rfl h
  case dd => exact (by decide +kernel : distinct [Str.ofString "name", Str.ofString "kind", Str.ofString "type", Str.ofString "place", Str.ofString "exported", Str.ofString "readonly", Str.ofString "level", Str.ofString "module", Str.ofString "value", Str.ofString "slot", Str.ofString "offset", Str.ofString "number", Str.ofString "isparam", Str.ofString "narrowed"] = true)
  case ll => exact Nat.le_of_ble_eq_true rfl
  intro h3 t3 es3 n3 F3 N3 Z
  dsimp only
  k_unmd; k_unfold; (try dsimp only)
  refine ⟨leaveK_ (by assumption) (by assumption) ?_⟩; intro kF kN
  refine ⟨rfl, ?_⟩
  dsimp only
  obtain ⟨r1, r2⟩ := cls_fin N1 l1 l2 GS (Fr.keep (by assumption)) N3 kN
  refine h _ _ x d' _ _ kF r1 ?_ (fun q hq => r2 _ (.head _) q hq) (fun q hq => r2 _ (.tail _ (.head _)) q hq) (Ne.symm (Nat.ne_of_lt l2))
  exact ⟨has_eq (Z.has _ (.head _)), has_eq (Z.has _ (.tail _ (.head _))), has_eq (Z.has _ (.tail _ (.tail _ (.head _)))), has_eq (Z.has _ (.tail _ (.tail _ (.tail _ (.head _))))), has_ex (Z.has _ (.tail _ (.tail _ (.tail _ (.tail _ (.tail _ (.tail _ (.head _)))))))), has_ex (Z.has _ (.tail _ (.tail _ (.tail _ (.tail _ (.tail _ (.tail _ (.tail _ (.head _))))))))), has_ex (Z.has _ (.tail _ (.tail _ (.tail _ (.tail _ (.tail _ (.tail _ (.tail _ (.tail _ (.tail _ (.head _))))))))))), has_eq (Z.has _ (.tail _ (.tail _ (.tail _ (.tail _ (.tail _ (.tail _ (.tail _ (.tail _ (.head _)))))))))), Z.len⟩
end
-- Eps0
section
theorem eps_all {α : Type} [ne : Nonempty α] {P : α → Prop} (h : P (@Classical.epsilon α ne fun x => ¬ P x)) : ∀ x, P x := by
  intro x
  refine Classical.byContradiction fun hx => ?_
  exact Classical.epsilon_spec (p := fun x => ¬ P x) ⟨x, hx⟩ h
noncomputable def dWorld : World := ⟨fun _ _ => 0, { strHash := fun _ => 0, shareClass := fun _ => 0, mergeTok := fun t => t, idOf := fun _ => 0, idOfShared := fun _ _ => 0, followText := fun _ => false, idOfImm := fun _ => 0 }⟩
noncomputable def dAround : Around := { handled := none, depth := 0 }
noncomputable def dShared : Shared := { os := {} }
end
-- C3
end
end
example {M : Model} {A : Around} {E : Value → Shared → Prop} {s : Shared} {Q : Flow → Shared → Prop} {env : Env} (h : Q .next s) : wpAny M A (execs [] env) Q E s := by
  first | (walk1; exact h) | exact fun _ _ _ => h
section
local macro_rules | `(tactic| k_all) => `(tactic| first | exact List.forall_mem_nil _ | (refine' List.forall_mem_cons.mpr ⟨?a, ?b⟩; (case a => k_ne); (case b => k_all)) | (with_reducible assumption))
section
local macro_rules | `(tactic| k_room) => `(tactic| (simp only [depth_under_make, depth_under_kw, depth_in1, depth_deeper, recursionLimit] at *; omega))
section
theorem append_L {prog : Program} {w : World} {A : Around} {E : Value → Shared → Prop} {s : Shared} {h₀ : Heap} {L D : Addr} {m : Str → Option Value} {news news' : List (Addr × Obj)} {vs : List Value} {n : Nat} {x : Value} {Q : Value → Shared → Prop} (F : Fr h₀ L s.heap m) (N : News h₀ L s.heap news)
    (U : Upd D (listOf vs.toArray n) (listOf (vs ++ [x]).toArray (n + 1)) news news')
    (h : ∀ h', Fr h₀ L h' m → News h₀ L h' news' → Q .none { s with heap := h' }) (hsz : vs.length ≤ sizeLine) : wpAny (model prog w) A (call (.builtin "list.append") [.ref D, x]) Q E s :=
  append_K F N (by rw [List.push_toArray]; exact U) h (by simpa using hsz)
local macro_rules | `(tactic| walk_at "call builtin:list.append") => `(tactic| (k_here; (with_reducible show wpAny _ _ (call (Value.builtin _) [Value.ref _, _]) _ _ _); k_dflt (refine' append_L ?k1 ?k2 ?k3 ?_ ?z; (case k1 => k_asm); (case k2 => k_asm); (case k3 => k_upd); (case z => (rw [sizeLine_eq]; omega)); k_whole); intro h' F' N'; (try k_sweep)))
theorem pool_fin {h₀ H g h' : Heap} {L p D f : Addr} {op oD of : Obj} {news rest : List (Addr × Obj)} (N : News h₀ L H news) (G : GSub H g (([] : List (Addr × Obj)).map (·.1))) (K : ∀ b o, g.get? b = some o → h'.get? b = some o)
    (kN : News h₀ L h' ((p, op) :: (D, oD) :: (f, of) :: rest)) : News h₀ L h' ((p, op) :: (f, of) :: news) :=
  news_frame N (List.forall_mem_nil _) G K kN fun q hq => by
    rcases List.mem_cons.mp hq with rfl | hq
    · exact .inl (.head _)
    · rcases List.mem_cons.mp hq with rfl | hq
      · exact .inl (.tail _ (.tail _ (.head _)))
      · exact .inr ⟨hq, List.forall_mem_nil _⟩
namespace Zpoolspec
def zSt (w : World) (A₀ : Around) (base : Heap) (h₀ : Heap) (outer : List Env) (env : Env) (d : Nat) (u : Nat) (L : Addr) (m : Str → Option Value) (mg : Str → Option Value) (mb : Str → Option Value) (mean : ExcName → Option Value) (news : List (Addr × Obj)) (s : Shared) (E : Value → Shared → Prop) (Q : Value → Shared → Prop) (l : Addr) (vs : List Value) (ns : List Int) : Prop := ∀ (B : Below A₀ base outer h₀) (F : Fr h₀ L s.heap m) (X : (Mine.fr.heap_1 w.params).In h₀) (N : News h₀ L s.heap news) (T : Top Mine.vw (looseW Mine.vw []) mean mg mb h₀) (hf : env.frame = some L) (hke : env.scope.kind = .function) (hd : d < 900) (hl : h₀.IsList l vs.toArray) (hI : IntsAre vs ns) (hlay : (PyData.list (List.map PyData.int ns)).layable0 = true) (h : ∀ h' tk p f vs' figs mx np nf t1 t2, Fr h₀ L h' m → News h₀ L h' ((p, listOf #[.ref f, .int 0 t1, .int mx t2] np) :: (f, listOf vs'.toArray nf) :: news) → IntsAre vs' figs → figs.length ≤ 2400 → 0 ≤ mx → mx < 1009 →
      (∀ q ∈ news, q.1 ≠ p) → (∀ q ∈ news, q.1 ≠ f) → p ≠ f → Q (.ref p) { s with heap := h', toks := tk }), wpAny (model Challenge.rw_nu0320_01.row.prog w) { handled := none, depth := d, frames := some (env :: outer), guards := some [], units := u } (call (.ref 204) [.ref l]) Q E s
def zSc (zz : (World) × (Around) × (Heap) × (Heap) × (List Env) × (Env) × (Nat) × (Nat) × (Addr) × (Str → Option Value) × (Str → Option Value) × (Str → Option Value) × (ExcName → Option Value) × (List (Addr × Obj)) × (Shared) × (Value → Shared → Prop) × (Value → Shared → Prop) × (Addr) × (List Value) × (List Int)) : Prop := zSt zz.1 zz.2.1 zz.2.2.1 zz.2.2.2.1 zz.2.2.2.2.1 zz.2.2.2.2.2.1 zz.2.2.2.2.2.2.1 zz.2.2.2.2.2.2.2.1 zz.2.2.2.2.2.2.2.2.1 zz.2.2.2.2.2.2.2.2.2.1 zz.2.2.2.2.2.2.2.2.2.2.1 zz.2.2.2.2.2.2.2.2.2.2.2.1 zz.2.2.2.2.2.2.2.2.2.2.2.2.1 zz.2.2.2.2.2.2.2.2.2.2.2.2.2.1 zz.2.2.2.2.2.2.2.2.2.2.2.2.2.2.1 zz.2.2.2.2.2.2.2.2.2.2.2.2.2.2.2.1 zz.2.2.2.2.2.2.2.2.2.2.2.2.2.2.2.2.1 zz.2.2.2.2.2.2.2.2.2.2.2.2.2.2.2.2.2.1 zz.2.2.2.2.2.2.2.2.2.2.2.2.2.2.2.2.2.2.1 zz.2.2.2.2.2.2.2.2.2.2.2.2.2.2.2.2.2.2.2
theorem zNe : Nonempty ((World) × (Around) × (Heap) × (Heap) × (List Env) × (Env) × (Nat) × (Nat) × (Addr) × (Str → Option Value) × (Str → Option Value) × (Str → Option Value) × (ExcName → Option Value) × (List (Addr × Obj)) × (Shared) × (Value → Shared → Prop) × (Value → Shared → Prop) × (Addr) × (List Value) × (List Int)) := ⟨(dWorld, dAround, default, default, default, default, default, default, default, default, default, default, default, default, dShared, default, default, default, default, default)⟩
noncomputable def zC : (World) × (Around) × (Heap) × (Heap) × (List Env) × (Env) × (Nat) × (Nat) × (Addr) × (Str → Option Value) × (Str → Option Value) × (Str → Option Value) × (ExcName → Option Value) × (List (Addr × Obj)) × (Shared) × (Value → Shared → Prop) × (Value → Shared → Prop) × (Addr) × (List Value) × (List Int) := @Classical.epsilon _ zNe fun c => ¬ zSc c
noncomputable def w : World := zC.1
noncomputable def A₀ : Around := zC.2.1
noncomputable def base : Heap := zC.2.2.1
noncomputable def h₀ : Heap := zC.2.2.2.1
noncomputable def outer : List Env := zC.2.2.2.2.1
noncomputable def env : Env := zC.2.2.2.2.2.1
noncomputable def d : Nat := zC.2.2.2.2.2.2.1
noncomputable def u : Nat := zC.2.2.2.2.2.2.2.1
noncomputable def L : Addr := zC.2.2.2.2.2.2.2.2.1
noncomputable def m : Str → Option Value := zC.2.2.2.2.2.2.2.2.2.1
noncomputable def mg : Str → Option Value := zC.2.2.2.2.2.2.2.2.2.2.1
noncomputable def mb : Str → Option Value := zC.2.2.2.2.2.2.2.2.2.2.2.1
noncomputable def mean : ExcName → Option Value := zC.2.2.2.2.2.2.2.2.2.2.2.2.1
noncomputable def news : List (Addr × Obj) := zC.2.2.2.2.2.2.2.2.2.2.2.2.2.1
noncomputable def s : Shared := zC.2.2.2.2.2.2.2.2.2.2.2.2.2.2.1
noncomputable def E : Value → Shared → Prop := zC.2.2.2.2.2.2.2.2.2.2.2.2.2.2.2.1
noncomputable def Q : Value → Shared → Prop := zC.2.2.2.2.2.2.2.2.2.2.2.2.2.2.2.2.1
noncomputable def l : Addr := zC.2.2.2.2.2.2.2.2.2.2.2.2.2.2.2.2.2.1
noncomputable def vs : List Value := zC.2.2.2.2.2.2.2.2.2.2.2.2.2.2.2.2.2.2.1
noncomputable def ns : List Int := zC.2.2.2.2.2.2.2.2.2.2.2.2.2.2.2.2.2.2.2
theorem zCore (B : Below A₀ base outer h₀) (F : Fr h₀ L s.heap m) (X : (Mine.fr.heap_1 w.params).In h₀) (N : News h₀ L s.heap news) (T : Top Mine.vw (looseW Mine.vw []) mean mg mb h₀) (hf : env.frame = some L) (hke : env.scope.kind = .function) (hd : d < 900) (hl : h₀.IsList l vs.toArray) (hI : IntsAre vs ns) (hlay : (PyData.list (List.map PyData.int ns)).layable0 = true) (h : ∀ h' tk p f vs' figs mx np nf t1 t2, Fr h₀ L h' m → News h₀ L h' ((p, listOf #[.ref f, .int 0 t1, .int mx t2] np) :: (f, listOf vs'.toArray nf) :: news) → IntsAre vs' figs → figs.length ≤ 2400 → 0 ≤ mx → mx < 1009 →
      (∀ q ∈ news, q.1 ≠ p) → (∀ q ∈ news, q.1 ≠ f) → p ≠ f → Q (.ref p) { s with heap := h', toks := tk }) : wpAny (model Challenge.rw_nu0320_01.row.prog w) { handled := none, depth := d, frames := some (env :: outer), guards := some [], units := u } (call (.ref 204) [.ref l]) Q E s := by
  revert X; k_fill; intro X
  refine wpAny_call ?_
  have N2 : News h₀ L s.heap [] := News.nil
  refine' code_defG B F X N2 T ?kA hf hke ?k6 ?k7 ?k8 ?k9 ?kB ?_ ?c2 ?c3 ?c4 ?c5; (case kA => exact rfl); (case k6 => k_is); (case k7 => k_is); (case k8 => k_room); (case k9 => exact BindsTo.of_eq rfl); (case c5 => decide); (case kB => exact locs rfl); (case c2 => exact rfl); (case c3 => exact rfl); (case c4 => exact rfl)
  intro g' L' h' FG' F' N' B' X' T' GS
  have hl' : g'.IsList l vs.toArray := stays_list (fun b o e => FG'.keep b o e) hl
  try dsimp only
  refine hold_post ?_
  k_fold
  k_with "pyIter ref" => (k_of "cell" => k_state (fun pre figs mix => figs.length ≤ 60 * pre.length ∧ 0 ≤ mix ∧ mix < 1009) "figures" "mix")
  k_with "pyIter ref" => (k_of "step" => k_state_given ["figures!"] (fun f0 pre figs rest => figs.length ≤ f0.length + pre.length) "figures" "rest")
  (repeat' (((first | (k_unfold; (try dsimp only)) | (k_end; wrow_close) | walk1 | (dsimp only; walk1) | (leave1; walk_say "STEP leave1"; try dsimp only)))))
  all_goals (k_unmd; k_unfold; (try dsimp only))
  all_goals (refine ⟨leaveK_ (by assumption) (by assumption) ?_⟩; intro kF kN)
  all_goals (have htake : (List.take 40 ns).length ≤ 40 := (by rw [List.length_take]; omega))
  all_goals (have hN := (by with_reducible assumption : News g' _ _ ((_, listOf (List.toArray [Value.ref _, Value.int 0 _, Value.int _ _]) _) :: _)))
  all_goals (refine h _ _ _ _ _ _ _ _ _ _ _ kF (pool_fin N GS (Fr.keep (by assumption)) kN) (by first | (with_reducible assumption) | l_ints) ?_ ?_ ?_ (fresh_ne N GS (hN _ (.head _)).2.2 (List.forall_mem_nil _)) (fresh_ne N GS (hN _ (.tail _ (.tail _ (.head _)))).2.2 (List.forall_mem_nil _)) ?_)
  all_goals first | (with_reducible assumption) | l_ints | k_ne | ((try simp only [List.length_append, List.length_cons, List.length_nil]); omega) | exact fmod_lo _ (by decide) | exact fmod_hi _ (by decide) | ((simp only [rangeKs_length] at *); omega) | (law_lens; omega)
end Zpoolspec
theorem pool_spec {w : World} {A₀ : Around} {base : Heap} {h₀ : Heap} {outer : List Env} {env : Env} {d : Nat} {u : Nat} {L : Addr} {m : Str → Option Value} {mg : Str → Option Value} {mb : Str → Option Value} {mean : ExcName → Option Value} {news : List (Addr × Obj)} {s : Shared} {E : Value → Shared → Prop} {Q : Value → Shared → Prop} {l : Addr} {vs : List Value} {ns : List Int} (B : Below A₀ base outer h₀) (F : Fr h₀ L s.heap m) (X : (Mine.fr.heap_1 w.params).In h₀) (N : News h₀ L s.heap news) (T : Top Mine.vw (looseW Mine.vw []) mean mg mb h₀) (hf : env.frame = some L) (hke : env.scope.kind = .function) (hd : d < 900) (hl : h₀.IsList l vs.toArray) (hI : IntsAre vs ns) (hlay : (PyData.list (List.map PyData.int ns)).layable0 = true) (h : ∀ h' tk p f vs' figs mx np nf t1 t2, Fr h₀ L h' m → News h₀ L h' ((p, listOf #[.ref f, .int 0 t1, .int mx t2] np) :: (f, listOf vs'.toArray nf) :: news) → IntsAre vs' figs → figs.length ≤ 2400 → 0 ≤ mx → mx < 1009 →
      (∀ q ∈ news, q.1 ≠ p) → (∀ q ∈ news, q.1 ≠ f) → p ≠ f → Q (.ref p) { s with heap := h', toks := tk }) :
    wpAny (model Challenge.rw_nu0320_01.row.prog w) { handled := none, depth := d, frames := some (env :: outer), guards := some [], units := u } (call (.ref 204) [.ref l]) Q E s :=
  (eps_all (ne := Zpoolspec.zNe) (P := Zpoolspec.zSc) Zpoolspec.zCore : ∀ c, Zpoolspec.zSc c) (w, A₀, base, h₀, outer, env, d, u, L, m, mg, mb, mean, news, s, E, Q, l, vs, ns) B F X N T hf hke hd hl hI hlay h
end
example {M : Model} {A : Around} {E : Value → Shared → Prop} {s : Shared} {Q : Flow → Shared → Prop} {env : Env} (h : Q .next s) : wpAny M A (execs [] env) Q E s := by
  first | (walk1; exact h) | exact fun _ _ _ => h
-- C4n
section
local macro_rules | `(tactic| walk_at "setAttr ref") => `(tactic| dsimp only)
section
local macro_rules | `(tactic| walk_at "setAttr ref") => `(tactic| (k_here; k_dflt (refine' set_any (C := 31) ?k1 ?k2 ?k3 ?k4 ?k5 ?k6 ?k7 ?k8 ?k9 ?ka ?kb ?_; (case k1 => k_asm); (case k2 => k_asm); (case k3 => k_asm); (case k4 => k_mem); (case k5 => k_updF); (case k6 => k_is); (case k7 => k_is); (case k8 => k_is); (case k9 => k_is); (case ka => with_reducible assumption); (case kb => omega)); intro h' es' n1' F' N' hs' ho' hr' hl'; (try dsimp only at N'); (try k_sweep)))
section
def FormIs (imm : List (Addr × Obj)) (t : Addr) (form : String) : Prop := ∃ d es n k, (t, instObj 31 d) ∈ imm ∧ (d, dictOf es n) ∈ imm ∧ getL (Str.ofString "form") es = some (some (.str (Str.ofString form) k))
structure TypesIs (imm : List (Addr × Obj)) (td : Addr) (es : List DictEntry) (n : Nat) (tx tb tc ty ti tm tn : Addr) : Prop where
  inst : (tx, instObj 88 td) ∈ imm
  dict : (td, dictOf es n) ∈ imm
  boolean : getL (Str.ofString "boolean") es = some (some (.ref tb))
  char : getL (Str.ofString "char") es = some (some (.ref tc))
  byte : getL (Str.ofString "byte") es = some (some (.ref ty))
  integer : getL (Str.ofString "integer") es = some (some (.ref ti))
  mask : getL (Str.ofString "mask") es = some (some (.ref tm))
  none : getL (Str.ofString "none") es = some (some (.ref tn))
  f1 : FormIs imm tb "boolean"
  f2 : FormIs imm tc "char"
  f3 : FormIs imm ty "byte"
  f4 : FormIs imm ti "integer"
  f5 : FormIs imm tm "set"
local macro_rules | `(tactic| walk_at "getAttr ref") => `(tactic| (k_here; (with_reducible show wpAny _ _ (getAttr _ (PySem.Str.ofString "counter") _) _ _ _); k_dflt (refine' get_own ?k1 ?k2 ?k3 ?k4 ?k5 ?k6 ?k7 ?k8 ?k9 ?_; (case k1 => k_asm); (case k2 => k_asm); (case k3 => k_inst); (case k4 => k_is); (case k5 => k_is); (case k6 => k_is); (case k7 => k_is); (case k8 => exact rfl); (case k9 => k_handed); k_whole)))
theorem put_head (name : Str) (hsh : Int) (key v v' : Value) (h0 : Int) (t0 : Tok) (es0 : List DictEntry) (n : Nat) : (putL name hsh key v (⟨h0, .str name t0, v'⟩ :: es0), putN name (⟨h0, .str name t0, v'⟩ :: es0) n) = (⟨h0, .str name t0, v⟩ :: es0, n) := by
  simp [putL, putN, Value.isStr]
local macro_rules | `(tactic| walk_at "setAttr ref") => `(tactic| (k_here; (with_reducible show wpAny _ _ (setAttr _ (PySem.Str.ofString "counter") _) _ _ _); k_dflt (refine' set_dict ?k1 ?k2 ?k3 ?k4 ?k5 ?k6 ?k7 ?k8 ?k9 ?k10 ?k11 ?k12 ?k13 ?_; (case k1 => k_asm); (case k2 => k_asm); (case k3 => k_asm); (case k4 => k_inst); (case k5 => exact rfl); (case k6 => k_is); (case k7 => k_is); (case k8 => k_is); (case k9 => k_is); (case k10 => exact rfl); (case k11 => exact put_head _ _ _ _ _ _ _ _ _); (case k12 => k_upd); (case k13 => simp only [List.length_cons]; omega); k_whole; intro h' F' N'; (try k_sweep))))
theorem new_fin {h₀ H g h' : Heap} {L tx td t d : Addr} {o1 o2 o2' ot ody : Obj} {news rest : List (Addr × Obj)} {gg : Obj → List (Addr × Obj)} (N : News h₀ L H news) (U : UpdF td o2 news gg)
    (h1 : (tx, o1) ∈ news) (G : GSub H g ([(tx, o1), (td, o2)].map (·.1)))
    (K : ∀ b o, g.get? b = some o → h'.get? b = some o) (kN : News h₀ L h' ((t, ot) :: (d, ody) :: (tx, o1) :: (td, o2') :: rest)) : News h₀ L h' ((t, ot) :: (d, ody) :: gg o2') := by
  refine news_frame (small := [(tx, o1), (td, o2)]) N ?_ G K kN ?_
  · intro q hq
    rcases List.mem_cons.mp hq with rfl | hq
    · exact h1
    · rw [List.mem_singleton.mp hq]; exact updF_in U
  · intro q hq
    rcases List.mem_cons.mp hq with rfl | hq
    · exact .inl (.head _)
    · rcases List.mem_cons.mp hq with rfl | hq
      · exact .inl (.tail _ (.head _))
      · rcases updF_mem U _ q hq with rfl | ⟨a, b⟩
        · exact .inl (.tail _ (.tail _ (.tail _ (.head _))))
        · refine .inr ⟨a, fun r hr e => ?_⟩
          rcases List.mem_cons.mp hr with rfl | hr
          · exact .tail _ (.tail _ (.head _))
          · rw [List.mem_singleton.mp hr] at e; exact absurd e.symm b
theorem two_ne {a b x : Addr} {oa ob ob' : Obj} (f : ∀ q ∈ [(a, oa), (b, ob)], q.1 ≠ x) : ∀ q ∈ [(a, oa), (b, ob')], q.1 ≠ x := fun q hq => by
  rcases List.mem_cons.mp hq with rfl | hq
  · exact f _ (.head _)
  · rw [List.mem_singleton.mp hq]; exact f (b, ob) (.tail _ (.head _))
theorem new_spec {w : World} {A₀ : Around} {base h₀ : Heap} {outer : List Env} {env : Env} {d u : Nat} {L : Addr} {m mg mb : Str → Option Value} {mean : ExcName → Option Value} {news : List (Addr × Obj)} {s : Shared}
    {E : Value → Shared → Prop} {Q : Value → Shared → Prop} {tx td : Addr} {h0 c size : Int} {t0 tc tf tz : Tok} {form : Str} {es0 : List DictEntry} {n : Nat} {gg : Obj → List (Addr × Obj)}
    (B : Below A₀ base outer h₀) (F : Fr h₀ L s.heap m) (X : (Mine.fr.heap_1 w.params).In h₀) (N : News h₀ L s.heap news) (T : Top Mine.vw (looseW Mine.vw []) mean mg mb h₀)
    (hf : env.frame = some L) (hke : env.scope.kind = .function) (hd : d < 900)
    (hx : (tx, instObj 88 td) ∈ news) (U : UpdF td (dictOf (⟨h0, .str (Str.ofString "counter") t0, .int c tc⟩ :: es0) n) news gg) (hne : tx ≠ td) (hl : es0.length ≤ 50)
    (h : ∀ h' tk t d es n1 tc', Fr h₀ L h' m → News h₀ L h' ((t, instObj 31 d) :: (d, dictOf es n1) :: gg (dictOf (⟨h0, .str (Str.ofString "counter") t0, .int (c + 1) tc'⟩ :: es0) n)) → getL (Str.ofString "form") es = some (some (.str form tf)) →
      (∀ q ∈ news, q.1 ≠ t) → (∀ q ∈ news, q.1 ≠ d) → t ≠ d → Q (.ref t) { s with heap := h', toks := tk }) :
    wpAny (model Challenge.rw_nu0320_01.row.prog w) { handled := none, depth := d, frames := some (env :: outer), guards := some [], units := u } (call (.ref 78) [.ref tx, .str form tf, .int size tz]) Q E s := by
  revert X; k_fill; intro X
  refine wpAny_call ?_
  have N1 : News h₀ L s.heap [(tx, instObj 88 td), (td, dictOf (⟨h0, .str (Str.ofString "counter") t0, .int c tc⟩ :: es0) n)] := news_sub N (by
    intro q hq
    rcases List.mem_cons.mp hq with rfl | hq
    · exact hx
    · rw [List.mem_singleton.mp hq]; exact updF_in U)
  refine' code_defG B F X N1 T ?kA hf hke ?q6 ?q7 ?q8 ?q9 ?qB ?_ ?q2 ?q3 ?q4 ?q5; (case kA => exact rfl); (case q6 => k_is); (case q7 => k_is); (case q8 => k_room); (case q9 => first | exact BindsTo.of_eq rfl | exact binds_K (X.keeps F.keep) rfl (by k_is) rfl rfl rfl); (case q5 => decide); (case qB => exact locs rfl); (case q2 => exact rfl); (case q3 => exact rfl); (case q4 => exact rfl)
  intro g' L' h' FG' F' N' B' X' T' GS
  try dsimp only
  refine hold_post ?_
  k_fold
  (repeat' ((fail_if_success (k_dflt (show wpAny _ _ (call (Value.ref 31) _ _) _ _ _))); (((fail_if_success (with_reducible show Hold _)); first | (k_unfold; (try dsimp only)) | (k_end; wrow_close) | walk1 | (dsimp only; walk1) | (leave1; walk_say "STEP leave1"; try dsimp only)))))
  try dsimp only
  refine type_spec B' (by assumption) X' (by assumption) T' rfl rfl (by show d + 1 < 950; omega) ?_
  intro h2 t2 x d' es n F2 N2 hform hr hlen f1 f2 hxd
  try dsimp only
  (repeat' ((fail_if_success (k_dflt (show wpAny _ _ (call (Value.ref 31) _ _) _ _ _))); (((fail_if_success (with_reducible show Hold _)); first | (k_unfold; (try dsimp only)) | (k_end; wrow_close) | walk1 | (dsimp only; walk1) | (leave1; walk_say "STEP leave1"; try dsimp only)))))
  all_goals ((try dsimp only); k_unfold; (try dsimp only))
  all_goals (refine ⟨leaveK_ (by assumption) (by assumption) ?_⟩; intro kF kN)
  have hf' := (‹∀ b, (Str.ofString "label" == b) = false → getL b _ = getL b _› (Str.ofString "form") (by decide)).trans ((‹∀ b, (Str.ofString "module" == b) = false → getL b _ = getL b _› (Str.ofString "form") (by decide)).trans hform)
  have hN := (by with_reducible assumption : News g' L' _ ((_, instObj 31 _) :: _))
  exact h _ _ _ _ _ _ _ kF (new_fin N U hx GS (Fr.keep (by assumption)) kN) hf' (fresh_ne N GS (hN _ (.head _)).2.2 (two_ne f1)) (fresh_ne N GS (hN _ (.tail _ (.head _))).2.2 (two_ne f2)) hxd
end
example {M : Model} {A : Around} {E : Value → Shared → Prop} {s : Shared} {Q : Flow → Shared → Prop} {env : Env} (h : Q .next s) : wpAny M A (execs [] env) Q E s := by
  first | (walk1; exact h) | exact fun _ _ _ => h
-- C4
end
end
example {M : Model} {A : Around} {E : Value → Shared → Prop} {s : Shared} {Q : Flow → Shared → Prop} {env : Env} (h : Q .next s) : wpAny M A (execs [] env) Q E s := by
  first | (walk1; exact h) | exact fun _ _ _ => h
section
local macro_rules | `(tactic| walk_at "getAttr ref") => `(tactic| (k_here; (with_reducible show wpAny _ _ (getAttr _ (PySem.Str.ofString "counter") _) _ _ _); k_dflt (refine' get_own ?k1 ?k2 ?k3 ?k4 ?k5 ?k6 ?k7 ?k8 ?k9 ?_; (case k1 => k_asm); (case k2 => k_asm); (case k3 => k_inst); (case k4 => k_is); (case k5 => k_is); (case k6 => k_is); (case k7 => k_is); (case k8 => exact rfl); (case k9 => k_handed); k_whole)))
section
local macro_rules | `(tactic| walk_at "setAttr ref") => `(tactic| dsimp only)
section
local macro_rules | `(tactic| walk_at "setAttr ref") => `(tactic| (k_here; (with_reducible show wpAny _ _ (setAttr _ (PySem.Str.ofString "counter") _) _ _ _); k_dflt (refine' set_dict ?k1 ?k2 ?k3 ?k4 ?k5 ?k6 ?k7 ?k8 ?k9 ?k10 ?k11 ?k12 ?k13 ?_; (case k1 => k_asm); (case k2 => k_asm); (case k3 => k_asm); (case k4 => k_inst); (case k5 => exact rfl); (case k6 => k_is); (case k7 => k_is); (case k8 => k_is); (case k9 => k_is); (case k10 => exact rfl); (case k11 => exact put_head _ _ _ _ _ _ _ _ _); (case k12 => k_upd); (case k13 => simp only [List.length_cons]; omega); k_whole; intro h' F' N'; (try k_sweep))))
section
theorem new_specR {w : World} {A₀ : Around} {base h₀ : Heap} {outer : List Env} {env : Env} {d u : Nat} {L : Addr} {m mg mb : Str → Option Value} {mean : ExcName → Option Value} {R : List (Addr × Obj)} {s : Shared}
    {E : Value → Shared → Prop} {Q : Value → Shared → Prop} {tx td : Addr} {h0 c size : Int} {t0 tc tf tz : Tok} {form : Str} {es0 : List DictEntry} {n : Nat}
    (B : Below A₀ base outer h₀) (F : Fr h₀ L s.heap m) (X : (Mine.fr.heap_1 w.params).In h₀) (N : News h₀ L s.heap ((tx, instObj 88 td) :: (td, dictOf (⟨h0, .str (Str.ofString "counter") t0, .int c tc⟩ :: es0) n) :: R)) (T : Top Mine.vw (looseW Mine.vw []) mean mg mb h₀)
    (hf : env.frame = some L) (hke : env.scope.kind = .function) (hd : d < 900)
    (hR : ∀ q ∈ R, q.1 ≠ td) (hne : tx ≠ td) (hl : es0.length ≤ 50)
    (h : ∀ h' tk t d es n1 tc' R', Fr h₀ L h' m → (∀ q ∈ R, q ∈ R') → (∀ q ∈ R', q.1 ≠ td) → (t, instObj 31 d) ∈ R' → (d, dictOf es n1) ∈ R' → getL (Str.ofString "form") es = some (some (.str form tf)) →
      News h₀ L h' ((tx, instObj 88 td) :: (td, dictOf (⟨h0, .str (Str.ofString "counter") t0, .int (c + 1) tc'⟩ :: es0) n) :: R') → Q (.ref t) { s with heap := h', toks := tk }) :
    wpAny (model Challenge.rw_nu0320_01.row.prog w) { handled := none, depth := d, frames := some (env :: outer), guards := some [], units := u } (call (.ref 78) [.ref tx, .str form tf, .int size tz]) Q E s := by
  refine new_spec (gg := fun o' => (tx, instObj 88 td) :: (td, o') :: R) B F X N T hf hke hd (.head _) (.tail hne (.head hR)) hne hl ?_
  intro h' tk t d es n1 tc' F' N' hform u1 u2 u3
  refine h h' tk t d es n1 tc' ((t, instObj 31 d) :: (d, dictOf es n1) :: R) F' (fun q hq => .tail _ (.tail _ hq)) ?_ (.head _) (.tail _ (.head _)) hform (news_sub N' ?_)
  · intro q hq
    rcases List.mem_cons.mp hq with rfl | hq
    · exact Ne.symm (u1 _ (.tail _ (.head _)))
    · rcases List.mem_cons.mp hq with rfl | hq
      · exact Ne.symm (u2 _ (.tail _ (.head _)))
      · exact hR q hq
  · intro q hq
    rcases List.mem_cons.mp hq with rfl | hq
    · exact .tail _ (.tail _ (.head _))
    · rcases List.mem_cons.mp hq with rfl | hq
      · exact .tail _ (.tail _ (.tail _ (.head _)))
      · rcases List.mem_cons.mp hq with rfl | hq
        · exact .head _
        · rcases List.mem_cons.mp hq with rfl | hq
          · exact .tail _ (.head _)
          · exact .tail _ (.tail _ (.tail _ (.tail _ hq)))
local macro_rules | `(tactic| walk_at "call ref") => `(tactic| ((k_dflt (show wpAny _ _ (call (Value.ref 78) _ _) _ _ _)); k_dflt (refine' new_specR ?B ?F ?X ?N ?T ?hf ?hke ?hd ?hR ?ne ?hl ?_; (case N => with_reducible assumption); (case B => with_reducible assumption); (case F => with_reducible assumption); (case X => with_reducible assumption); (case T => with_reducible assumption); (case hf => exact rfl); (case hke => exact rfl); (case hd => simp only [depth_under_make, depth_under_kw, depth_in1, depth_deeper]; omega); (case hR => k_all); (case ne => k_ne); (case hl => exact Nat.le_of_ble_eq_true rfl)); intro h' tk' t' d' es' n1' tc' R' F' s1' s2' m1' m2' hform' N'))
theorem start_R {h₀ H : Heap} {L kd x td : Addr} {o ox od : Obj} (N : News h₀ L H [(kd, o), (x, ox), (td, od)]) (hne : kd ≠ td) : ∃ R, (∀ q ∈ R, q.1 ≠ td) ∧ News h₀ L H ((x, ox) :: (td, od) :: R) :=
  ⟨[(kd, o)], fun q hq => by rw [List.mem_singleton.mp hq]; exact hne, news_sub N fun q hq => by
    simp only [List.mem_cons, List.not_mem_nil, or_false] at hq ⊢
    rcases hq with h | h | h <;> simp [h]⟩
local macro_rules | `(tactic| walk_at "MEMUP") => `(tactic| first | (with_reducible assumption) | ((refine (by with_reducible assumption : ∀ q, q ∈ _ → q ∈ _) _ ?_); walk_at "MEMUP"))
namespace Ztypesspec
def zSt (w : World) (A₀ : Around) (base : Heap) (h₀ : Heap) (outer : List Env) (env : Env) (d : Nat) (u : Nat) (L : Addr) (m : Str → Option Value) (mg : Str → Option Value) (mb : Str → Option Value) (mean : ExcName → Option Value) (news : List (Addr × Obj)) (s : Shared) (E : Value → Shared → Prop) (Q : Value → Shared → Prop) : Prop := ∀ (B : Below A₀ base outer h₀) (F : Fr h₀ L s.heap m) (X : (Mine.fr.heap_1 w.params).In h₀) (N : News h₀ L s.heap news) (T : Top Mine.vw (looseW Mine.vw []) mean mg mb h₀) (hf : env.frame = some L) (hke : env.scope.kind = .function) (hd : d < 800) (h : ∀ h' tk imm td es n tx tb tc ty ti tm tn, Fr h₀ L h' m → News h₀ L h' (imm ++ news) → TypesIs imm td es n tx tb tc ty ti tm tn → (∀ p ∈ imm, ∀ q ∈ news, q.1 ≠ p.1) → Q (.ref tx) { s with heap := h', toks := tk }), wpAny (model Challenge.rw_nu0320_01.row.prog w) { handled := none, depth := d, frames := some (env :: outer), guards := some [], units := u } (call (.ref 88) []) Q E s
def zSc (zz : (World) × (Around) × (Heap) × (Heap) × (List Env) × (Env) × (Nat) × (Nat) × (Addr) × (Str → Option Value) × (Str → Option Value) × (Str → Option Value) × (ExcName → Option Value) × (List (Addr × Obj)) × (Shared) × (Value → Shared → Prop) × (Value → Shared → Prop)) : Prop := zSt zz.1 zz.2.1 zz.2.2.1 zz.2.2.2.1 zz.2.2.2.2.1 zz.2.2.2.2.2.1 zz.2.2.2.2.2.2.1 zz.2.2.2.2.2.2.2.1 zz.2.2.2.2.2.2.2.2.1 zz.2.2.2.2.2.2.2.2.2.1 zz.2.2.2.2.2.2.2.2.2.2.1 zz.2.2.2.2.2.2.2.2.2.2.2.1 zz.2.2.2.2.2.2.2.2.2.2.2.2.1 zz.2.2.2.2.2.2.2.2.2.2.2.2.2.1 zz.2.2.2.2.2.2.2.2.2.2.2.2.2.2.1 zz.2.2.2.2.2.2.2.2.2.2.2.2.2.2.2.1 zz.2.2.2.2.2.2.2.2.2.2.2.2.2.2.2.2
theorem zNe : Nonempty ((World) × (Around) × (Heap) × (Heap) × (List Env) × (Env) × (Nat) × (Nat) × (Addr) × (Str → Option Value) × (Str → Option Value) × (Str → Option Value) × (ExcName → Option Value) × (List (Addr × Obj)) × (Shared) × (Value → Shared → Prop) × (Value → Shared → Prop)) := ⟨(dWorld, dAround, default, default, default, default, default, default, default, default, default, default, default, default, dShared, default, default)⟩
noncomputable def zC : (World) × (Around) × (Heap) × (Heap) × (List Env) × (Env) × (Nat) × (Nat) × (Addr) × (Str → Option Value) × (Str → Option Value) × (Str → Option Value) × (ExcName → Option Value) × (List (Addr × Obj)) × (Shared) × (Value → Shared → Prop) × (Value → Shared → Prop) := @Classical.epsilon _ zNe fun c => ¬ zSc c
noncomputable def w : World := zC.1
noncomputable def A₀ : Around := zC.2.1
noncomputable def base : Heap := zC.2.2.1
noncomputable def h₀ : Heap := zC.2.2.2.1
noncomputable def outer : List Env := zC.2.2.2.2.1
noncomputable def env : Env := zC.2.2.2.2.2.1
noncomputable def d : Nat := zC.2.2.2.2.2.2.1
noncomputable def u : Nat := zC.2.2.2.2.2.2.2.1
noncomputable def L : Addr := zC.2.2.2.2.2.2.2.2.1
noncomputable def m : Str → Option Value := zC.2.2.2.2.2.2.2.2.2.1
noncomputable def mg : Str → Option Value := zC.2.2.2.2.2.2.2.2.2.2.1
noncomputable def mb : Str → Option Value := zC.2.2.2.2.2.2.2.2.2.2.2.1
noncomputable def mean : ExcName → Option Value := zC.2.2.2.2.2.2.2.2.2.2.2.2.1
noncomputable def news : List (Addr × Obj) := zC.2.2.2.2.2.2.2.2.2.2.2.2.2.1
noncomputable def s : Shared := zC.2.2.2.2.2.2.2.2.2.2.2.2.2.2.1
noncomputable def E : Value → Shared → Prop := zC.2.2.2.2.2.2.2.2.2.2.2.2.2.2.2.1
noncomputable def Q : Value → Shared → Prop := zC.2.2.2.2.2.2.2.2.2.2.2.2.2.2.2.2
theorem zCore (B : Below A₀ base outer h₀) (F : Fr h₀ L s.heap m) (X : (Mine.fr.heap_1 w.params).In h₀) (N : News h₀ L s.heap news) (T : Top Mine.vw (looseW Mine.vw []) mean mg mb h₀) (hf : env.frame = some L) (hke : env.scope.kind = .function) (hd : d < 800) (h : ∀ h' tk imm td es n tx tb tc ty ti tm tn, Fr h₀ L h' m → News h₀ L h' (imm ++ news) → TypesIs imm td es n tx tb tc ty ti tm tn → (∀ p ∈ imm, ∀ q ∈ news, q.1 ≠ p.1) → Q (.ref tx) { s with heap := h', toks := tk }) : wpAny (model Challenge.rw_nu0320_01.row.prog w) { handled := none, depth := d, frames := some (env :: outer), guards := some [], units := u } (call (.ref 88) []) Q E s := by
  revert X; k_fill; intro X
  refine' call_cls F X N ?k4 ?k5 ?k6 ?_; (case k4 => k_is); (case k5 => k_is); (case k6 => k_is)
  intro x d' h1 F1 N1 l1 l2
  have N1' : News h₀ L h1 [(x, instObj 88 d'), (d', dictOf [] 0)] := news_sub N1 (fun q hq => by
    rcases List.mem_cons.mp hq with rfl | hq
    · exact .head _
    · rw [List.mem_singleton.mp hq]; exact .tail _ (.head _))
  replace l2 := ltN l2
  refine' code_defG B F1 X N1' T ?kA hf hke ?q6 ?q7 ?q8 ?q9 ?qB ?_ ?q2 ?q3 ?q4 ?q5; (case kA => exact rfl); (case q6 => k_is); (case q7 => k_is); (case q8 => k_room); (case q9 => exact BindsTo.of_eq rfl); (case q5 => decide); (case qB => exact locs rfl); (case q2 => exact rfl); (case q3 => exact rfl); (case q4 => exact rfl)
  intro g' L' h' FG' F' N' B' X' T' GS
  try dsimp only
  refine hold_post ?_
  k_fold
  (repeat' ((fail_if_success (k_dflt (show wpAny _ _ (call (Value.ref 78) _ _) _ _ _))); (((fail_if_success (with_reducible show Hold _)); first | (k_unfold; (try dsimp only)) | (k_end; wrow_close) | walk1 | (dsimp only; walk1) | (leave1; walk_say "STEP leave1"; try dsimp only)))))
  rename News _ _ _ _ => hN
  obtain ⟨R0, hR0, N0'⟩ := start_R hN (by k_ne)
  clear hN
  (repeat' ((((fail_if_success (with_reducible show Hold _)); first | (k_unfold; (try dsimp only)) | (k_end; wrow_close) | walk1 | (dsimp only; walk1) | (leave1; walk_say "STEP leave1"; try dsimp only)))))
  k_unmd; k_unfold; (try dsimp only)
  refine ⟨leaveK_ (by assumption) (by assumption) ?_⟩; intro kF kN
  have hN := (by with_reducible assumption : News g' L' _ ((x, instObj 88 d') :: _))
  refine ⟨rfl, ?_⟩
  dsimp only
  obtain ⟨r1, r2⟩ := cls_fin N1 l1 l2 GS (Fr.keep (by assumption)) hN kN
  refine h _ _ _ d' _ _ x _ _ _ _ _ _ kF r1 (TypesIs.mk (.head _) (.tail _ (.head _)) (by k_dflt k_get) (by k_dflt k_get) (by k_dflt k_get) (by k_dflt k_get) (by k_dflt k_get) (by k_dflt k_get) ?_ ?_ ?_ ?_ ?_) r2
  all_goals exact ⟨_, _, _, _, .tail _ (.tail _ (by walk_at "MEMUP")), .tail _ (.tail _ (by walk_at "MEMUP")), (by with_reducible assumption)⟩
end Ztypesspec
theorem types_spec {w : World} {A₀ : Around} {base : Heap} {h₀ : Heap} {outer : List Env} {env : Env} {d : Nat} {u : Nat} {L : Addr} {m : Str → Option Value} {mg : Str → Option Value} {mb : Str → Option Value} {mean : ExcName → Option Value} {news : List (Addr × Obj)} {s : Shared} {E : Value → Shared → Prop} {Q : Value → Shared → Prop} (B : Below A₀ base outer h₀) (F : Fr h₀ L s.heap m) (X : (Mine.fr.heap_1 w.params).In h₀) (N : News h₀ L s.heap news) (T : Top Mine.vw (looseW Mine.vw []) mean mg mb h₀) (hf : env.frame = some L) (hke : env.scope.kind = .function) (hd : d < 800) (h : ∀ h' tk imm td es n tx tb tc ty ti tm tn, Fr h₀ L h' m → News h₀ L h' (imm ++ news) → TypesIs imm td es n tx tb tc ty ti tm tn → (∀ p ∈ imm, ∀ q ∈ news, q.1 ≠ p.1) → Q (.ref tx) { s with heap := h', toks := tk }) :
    wpAny (model Challenge.rw_nu0320_01.row.prog w) { handled := none, depth := d, frames := some (env :: outer), guards := some [], units := u } (call (.ref 88) []) Q E s :=
  (eps_all (ne := Ztypesspec.zNe) (P := Ztypesspec.zSc) Ztypesspec.zCore : ∀ c, Ztypesspec.zSc c) (w, A₀, base, h₀, outer, env, d, u, L, m, mg, mb, mean, news, s, E, Q) B F X N T hf hke hd h
end
example {M : Model} {A : Around} {E : Value → Shared → Prop} {s : Shared} {Q : Flow → Shared → Prop} {env : Env} (h : Q .next s) : wpAny M A (execs [] env) Q E s := by
  first | (walk1; exact h) | exact fun _ _ _ => h
-- C2b
end
end
end
example {M : Model} {A : Around} {E : Value → Shared → Prop} {s : Shared} {Q : Flow → Shared → Prop} {env : Env} (h : Q .next s) : wpAny M A (execs [] env) Q E s := by
  first | (walk1; exact h) | exact fun _ _ _ => h
section
local macro_rules | `(tactic| walk_at "getAttr ref") => `(tactic| (k_here; k_dflt (refine' get_own ?k1 ?k2 ?k3 ?k4 ?k5 ?k6 ?k7 ?k8 ?k9 ?_; (case k1 => k_asm); (case k2 => k_asm); (case k3 => k_inst); (case k8 => with_reducible assumption); (case k4 => k_is); (case k5 => k_is); (case k6 => k_is); (case k7 => k_is); (case k9 => k_handed); k_whole)))
section
local macro_rules | `(tactic| walk_at "compareOp In str ref") => `(tactic| (k_here; k_dflt (refine' in_split ?N ?m ?d ?lo ?_ ?_; (case N => k_asm); (case m => k_mem); (case d => k_asm); (case lo => k_asm)); (all_goals intro hdict')))
section
local macro_rules | `(tactic| walk_at "subscriptTail") => `(tactic| (k_here; (with_reducible show wpAny _ _ (subscriptTail _ _ (Value.ref _) (Value.int (-1) _)) _ _ _); k_dflt (refine' item_last ?N ?m ?_ ?hs; (case N => k_asm); (case m => k_mem); (case hs => with_unfolding_all rfl); k_whole)))
section
local macro_rules | `(tactic| walk_at "setItem ref str") => `(tactic| (k_here; k_dflt (refine' set_new ?F ?N ?U ?d ?n ?z ?_; (case F => k_asm); (case N => k_asm); (case U => k_updF); (case d => k_asm); (case n => k_asm); (case z => k_asm)); intro h' o' F' N' hd'; (try dsimp only at N')))
section
local macro_rules | `(tactic| walk_at "setAttr ref") => `(tactic| (k_here; (with_reducible show wpAny _ _ (setAttr _ (PySem.Str.ofString "slot") _) _ _ _); k_dflt (refine' set_slot ?k1 ?k2 ?k3 ?k4 ?k5 ?k6 ?_; (case k1 => k_asm); (case k2 => k_asm); (case k3 => k_asm); (case k4 => k_mem); (case k5 => k_updF); (case k6 => with_reducible assumption)); intro h' es' n1' F' N' hob'; (try dsimp only at N'); (try k_sweep)))
section
abbrev scopesD (c1 c2 c3 c4 : Int) (a1 a2 a3 a4 : Tok) (vtypes vmod : Value) (ak : Addr) (lv : Int) (tl : Tok) : Obj :=
  dictOf [⟨c1, .str (Str.ofString "types") a1, vtypes⟩, ⟨c2, .str (Str.ofString "module") a2, vmod⟩, ⟨c3, .str (Str.ofString "stack") a3, .ref ak⟩, ⟨c4, .str (Str.ofString "level") a4, .int lv tl⟩] 4
abbrev scopeD (e1 e2 e3 e4 e5 : Int) (b1 b2 b3 b4 b5 : Tok) (lv : Int) (tl : Tok) (vlabel : Value) (nd od : Addr) (slots : Int) (ts : Tok) : Obj :=
  dictOf [⟨e1, .str (Str.ofString "level") b1, .int lv tl⟩, ⟨e2, .str (Str.ofString "label") b2, vlabel⟩, ⟨e3, .str (Str.ofString "names") b3, .ref nd⟩, ⟨e4, .str (Str.ofString "order") b4, .ref od⟩, ⟨e5, .str (Str.ofString "slots") b5, .int slots ts⟩] 5
namespace Zaddspec
def zSt (w : World) (A₀ : Around) (base : Heap) (h₀ : Heap) (outer : List Env) (env : Env) (d : Nat) (u : Nat) (L : Addr) (m : Str → Option Value) (mg : Str → Option Value) (mb : Str → Option Value) (mean : ExcName → Option Value) (s : Shared) (E : Value → Shared → Prop) (Q : Value → Shared → Prop) (x : Addr) (dx : Addr) (ax : Addr) (ad : Addr) (ak : Addr) (sx : Addr) (sd : Addr) (nd : Addr) (od : Addr) (es : List DictEntry) (n : Nat) (kpre : List Value) (os : List Value) (onames : Obj) (kvs : List (Str × Value)) (name : Str) (kind : Str) (ms : Str) (ty : Value) (vp : Value) (vtypes : Value) (vlabel : Value) (val : Value) (lv : Int) (slots : Int) (olv : Int) (c1 : Int) (c2 : Int) (c3 : Int) (c4 : Int) (e1 : Int) (e2 : Int) (e3 : Int) (e4 : Int) (e5 : Int) (a1 : Tok) (a2 : Tok) (a3 : Tok) (a4 : Tok) (a5 : Tok) (a6 : Tok) (b1 : Tok) (b2 : Tok) (b3 : Tok) (b4 : Tok) (b5 : Tok) (b6 : Tok) (b7 : Tok) (tn : Tok) (tk' : Tok) (nk : Nat) (no : Nat) (clevel : Int) : Prop := ∀ (B : Below A₀ base outer h₀) (F : Fr h₀ L s.heap m) (X : (Mine.fr.heap_1 w.params).In h₀) (N : News h₀ L s.heap [(x, instObj 52 dx), (dx, dictOf es n), (ax, instObj 172 ad), (ad, scopesD c1 c2 c3 c4 a1 a2 a3 a4 vtypes (.str (Str.ofString "M") a5) ak lv a6), (ak, listOf (kpre ++ [Value.ref sx]).toArray nk), (sx, instObj 109 sd), (sd, scopeD e1 e2 e3 e4 e5 b1 b2 b3 b4 b5 clevel b6 vlabel nd od slots b7), (nd, onames), (od, listOf os.toArray no)]) (T : Top Mine.vw (looseW Mine.vw []) mean mg mb h₀) (hf : env.frame = some L) (hke : env.scope.kind = .function) (hd : d < 950) (hnd : [x, dx, ax, ad, ak, sx, sd, nd, od].Nodup) (ho : ObjIs es (.str name tn) (.str kind tk') ty vp olv ms 0 val) (hkv : onames.IsDictOf (PySem.strKind Challenge.rw_nu0320_01.row.prog w) kvs) (hlo : (nd == sysModules) = false) (hk1 : kvs.length ≤ 1000) (hk2 : os.length ≤ 1000) (hdup : (valueAt kvs name).isSome = true → ∀ h' tk, Fr h₀ L h' m → News h₀ L h' [(x, instObj 52 dx), (dx, dictOf es n), (ax, instObj 172 ad), (ad, scopesD c1 c2 c3 c4 a1 a2 a3 a4 vtypes (.str (Str.ofString "M") a5) ak lv a6), (ak, listOf (kpre ++ [Value.ref sx]).toArray nk), (sx, instObj 109 sd), (sd, scopeD e1 e2 e3 e4 e5 b1 b2 b3 b4 b5 clevel b6 vlabel nd od slots b7), (nd, onames), (od, listOf os.toArray no)] → Q (.bool false) { s with heap := h', toks := tk }) (hnew : valueAt kvs name = none → ∀ (h' : Heap) (tk : Nat) (es' : List DictEntry) (n' : Nat) (onames' : Obj) (no' : Nat) (t4 : Tok), Fr h₀ L h' m → ObjIs es' (.str name tn) (.str kind tk') ty vp olv ms (if isVar kind then slots else 0) val →
      onames'.IsDictOf (PySem.strKind Challenge.rw_nu0320_01.row.prog w) (kvs ++ [(name, .ref x)]) →
      News h₀ L h' [(x, instObj 52 dx), (dx, dictOf es' n'), (ax, instObj 172 ad), (ad, scopesD c1 c2 c3 c4 a1 a2 a3 a4 vtypes (.str (Str.ofString "M") a5) ak lv a6), (ak, listOf (kpre ++ [Value.ref sx]).toArray nk), (sx, instObj 109 sd), (sd, scopeD e1 e2 e3 e4 e5 b1 b2 b3 b4 b5 clevel b6 vlabel nd od (if isVar kind then slots + 1 else slots) t4), (nd, onames'), (od, listOf (os ++ [Value.ref x]).toArray no')] → Q (.bool true) { s with heap := h', toks := tk }), wpAny (model Challenge.rw_nu0320_01.row.prog w) { handled := none, depth := d, frames := some (env :: outer), guards := some [], units := u } (call (.ref 155) [.ref ax, .ref x]) Q E s
def zSc (zz : (World) × (Around) × (Heap) × (Heap) × (List Env) × (Env) × (Nat) × (Nat) × (Addr) × (Str → Option Value) × (Str → Option Value) × (Str → Option Value) × (ExcName → Option Value) × (Shared) × (Value → Shared → Prop) × (Value → Shared → Prop) × (Addr) × (Addr) × (Addr) × (Addr) × (Addr) × (Addr) × (Addr) × (Addr) × (Addr) × (List DictEntry) × (Nat) × (List Value) × (List Value) × (Obj) × (List (Str × Value)) × (Str) × (Str) × (Str) × (Value) × (Value) × (Value) × (Value) × (Value) × (Int) × (Int) × (Int) × (Int) × (Int) × (Int) × (Int) × (Int) × (Int) × (Int) × (Int) × (Int) × (Tok) × (Tok) × (Tok) × (Tok) × (Tok) × (Tok) × (Tok) × (Tok) × (Tok) × (Tok) × (Tok) × (Tok) × (Tok) × (Tok) × (Tok) × (Nat) × (Nat) × (Int)) : Prop := zSt zz.1 zz.2.1 zz.2.2.1 zz.2.2.2.1 zz.2.2.2.2.1 zz.2.2.2.2.2.1 zz.2.2.2.2.2.2.1 zz.2.2.2.2.2.2.2.1 zz.2.2.2.2.2.2.2.2.1 zz.2.2.2.2.2.2.2.2.2.1 zz.2.2.2.2.2.2.2.2.2.2.1 zz.2.2.2.2.2.2.2.2.2.2.2.1 zz.2.2.2.2.2.2.2.2.2.2.2.2.1 zz.2.2.2.2.2.2.2.2.2.2.2.2.2.1 zz.2.2.2.2.2.2.2.2.2.2.2.2.2.2.1 zz.2.2.2.2.2.2.2.2.2.2.2.2.2.2.2.1 zz.2.2.2.2.2.2.2.2.2.2.2.2.2.2.2.2.1 zz.2.2.2.2.2.2.2.2.2.2.2.2.2.2.2.2.2.1 zz.2.2.2.2.2.2.2.2.2.2.2.2.2.2.2.2.2.2.1 zz.2.2.2.2.2.2.2.2.2.2.2.2.2.2.2.2.2.2.2.1 zz.2.2.2.2.2.2.2.2.2.2.2.2.2.2.2.2.2.2.2.2.1 zz.2.2.2.2.2.2.2.2.2.2.2.2.2.2.2.2.2.2.2.2.2.1 zz.2.2.2.2.2.2.2.2.2.2.2.2.2.2.2.2.2.2.2.2.2.2.1 zz.2.2.2.2.2.2.2.2.2.2.2.2.2.2.2.2.2.2.2.2.2.2.2.1 zz.2.2.2.2.2.2.2.2.2.2.2.2.2.2.2.2.2.2.2.2.2.2.2.2.1 zz.2.2.2.2.2.2.2.2.2.2.2.2.2.2.2.2.2.2.2.2.2.2.2.2.2.1 zz.2.2.2.2.2.2.2.2.2.2.2.2.2.2.2.2.2.2.2.2.2.2.2.2.2.2.1 zz.2.2.2.2.2.2.2.2.2.2.2.2.2.2.2.2.2.2.2.2.2.2.2.2.2.2.2.1 zz.2.2.2.2.2.2.2.2.2.2.2.2.2.2.2.2.2.2.2.2.2.2.2.2.2.2.2.2.1 zz.2.2.2.2.2.2.2.2.2.2.2.2.2.2.2.2.2.2.2.2.2.2.2.2.2.2.2.2.2.1 zz.2.2.2.2.2.2.2.2.2.2.2.2.2.2.2.2.2.2.2.2.2.2.2.2.2.2.2.2.2.2.1 zz.2.2.2.2.2.2.2.2.2.2.2.2.2.2.2.2.2.2.2.2.2.2.2.2.2.2.2.2.2.2.2.1 zz.2.2.2.2.2.2.2.2.2.2.2.2.2.2.2.2.2.2.2.2.2.2.2.2.2.2.2.2.2.2.2.2.1 zz.2.2.2.2.2.2.2.2.2.2.2.2.2.2.2.2.2.2.2.2.2.2.2.2.2.2.2.2.2.2.2.2.2.1 zz.2.2.2.2.2.2.2.2.2.2.2.2.2.2.2.2.2.2.2.2.2.2.2.2.2.2.2.2.2.2.2.2.2.2.1 zz.2.2.2.2.2.2.2.2.2.2.2.2.2.2.2.2.2.2.2.2.2.2.2.2.2.2.2.2.2.2.2.2.2.2.2.1 zz.2.2.2.2.2.2.2.2.2.2.2.2.2.2.2.2.2.2.2.2.2.2.2.2.2.2.2.2.2.2.2.2.2.2.2.2.1 zz.2.2.2.2.2.2.2.2.2.2.2.2.2.2.2.2.2.2.2.2.2.2.2.2.2.2.2.2.2.2.2.2.2.2.2.2.2.1 zz.2.2.2.2.2.2.2.2.2.2.2.2.2.2.2.2.2.2.2.2.2.2.2.2.2.2.2.2.2.2.2.2.2.2.2.2.2.2.1 zz.2.2.2.2.2.2.2.2.2.2.2.2.2.2.2.2.2.2.2.2.2.2.2.2.2.2.2.2.2.2.2.2.2.2.2.2.2.2.2.1 zz.2.2.2.2.2.2.2.2.2.2.2.2.2.2.2.2.2.2.2.2.2.2.2.2.2.2.2.2.2.2.2.2.2.2.2.2.2.2.2.2.1 zz.2.2.2.2.2.2.2.2.2.2.2.2.2.2.2.2.2.2.2.2.2.2.2.2.2.2.2.2.2.2.2.2.2.2.2.2.2.2.2.2.2.1 zz.2.2.2.2.2.2.2.2.2.2.2.2.2.2.2.2.2.2.2.2.2.2.2.2.2.2.2.2.2.2.2.2.2.2.2.2.2.2.2.2.2.2.1 zz.2.2.2.2.2.2.2.2.2.2.2.2.2.2.2.2.2.2.2.2.2.2.2.2.2.2.2.2.2.2.2.2.2.2.2.2.2.2.2.2.2.2.2.1 zz.2.2.2.2.2.2.2.2.2.2.2.2.2.2.2.2.2.2.2.2.2.2.2.2.2.2.2.2.2.2.2.2.2.2.2.2.2.2.2.2.2.2.2.2.1 zz.2.2.2.2.2.2.2.2.2.2.2.2.2.2.2.2.2.2.2.2.2.2.2.2.2.2.2.2.2.2.2.2.2.2.2.2.2.2.2.2.2.2.2.2.2.1 zz.2.2.2.2.2.2.2.2.2.2.2.2.2.2.2.2.2.2.2.2.2.2.2.2.2.2.2.2.2.2.2.2.2.2.2.2.2.2.2.2.2.2.2.2.2.2.1 zz.2.2.2.2.2.2.2.2.2.2.2.2.2.2.2.2.2.2.2.2.2.2.2.2.2.2.2.2.2.2.2.2.2.2.2.2.2.2.2.2.2.2.2.2.2.2.2.1 zz.2.2.2.2.2.2.2.2.2.2.2.2.2.2.2.2.2.2.2.2.2.2.2.2.2.2.2.2.2.2.2.2.2.2.2.2.2.2.2.2.2.2.2.2.2.2.2.2.1 zz.2.2.2.2.2.2.2.2.2.2.2.2.2.2.2.2.2.2.2.2.2.2.2.2.2.2.2.2.2.2.2.2.2.2.2.2.2.2.2.2.2.2.2.2.2.2.2.2.2.1 zz.2.2.2.2.2.2.2.2.2.2.2.2.2.2.2.2.2.2.2.2.2.2.2.2.2.2.2.2.2.2.2.2.2.2.2.2.2.2.2.2.2.2.2.2.2.2.2.2.2.2.1 zz.2.2.2.2.2.2.2.2.2.2.2.2.2.2.2.2.2.2.2.2.2.2.2.2.2.2.2.2.2.2.2.2.2.2.2.2.2.2.2.2.2.2.2.2.2.2.2.2.2.2.2.1 zz.2.2.2.2.2.2.2.2.2.2.2.2.2.2.2.2.2.2.2.2.2.2.2.2.2.2.2.2.2.2.2.2.2.2.2.2.2.2.2.2.2.2.2.2.2.2.2.2.2.2.2.2.1 zz.2.2.2.2.2.2.2.2.2.2.2.2.2.2.2.2.2.2.2.2.2.2.2.2.2.2.2.2.2.2.2.2.2.2.2.2.2.2.2.2.2.2.2.2.2.2.2.2.2.2.2.2.2.1 zz.2.2.2.2.2.2.2.2.2.2.2.2.2.2.2.2.2.2.2.2.2.2.2.2.2.2.2.2.2.2.2.2.2.2.2.2.2.2.2.2.2.2.2.2.2.2.2.2.2.2.2.2.2.2.1 zz.2.2.2.2.2.2.2.2.2.2.2.2.2.2.2.2.2.2.2.2.2.2.2.2.2.2.2.2.2.2.2.2.2.2.2.2.2.2.2.2.2.2.2.2.2.2.2.2.2.2.2.2.2.2.2.1 zz.2.2.2.2.2.2.2.2.2.2.2.2.2.2.2.2.2.2.2.2.2.2.2.2.2.2.2.2.2.2.2.2.2.2.2.2.2.2.2.2.2.2.2.2.2.2.2.2.2.2.2.2.2.2.2.2.1 zz.2.2.2.2.2.2.2.2.2.2.2.2.2.2.2.2.2.2.2.2.2.2.2.2.2.2.2.2.2.2.2.2.2.2.2.2.2.2.2.2.2.2.2.2.2.2.2.2.2.2.2.2.2.2.2.2.2.1 zz.2.2.2.2.2.2.2.2.2.2.2.2.2.2.2.2.2.2.2.2.2.2.2.2.2.2.2.2.2.2.2.2.2.2.2.2.2.2.2.2.2.2.2.2.2.2.2.2.2.2.2.2.2.2.2.2.2.2.1 zz.2.2.2.2.2.2.2.2.2.2.2.2.2.2.2.2.2.2.2.2.2.2.2.2.2.2.2.2.2.2.2.2.2.2.2.2.2.2.2.2.2.2.2.2.2.2.2.2.2.2.2.2.2.2.2.2.2.2.2.1 zz.2.2.2.2.2.2.2.2.2.2.2.2.2.2.2.2.2.2.2.2.2.2.2.2.2.2.2.2.2.2.2.2.2.2.2.2.2.2.2.2.2.2.2.2.2.2.2.2.2.2.2.2.2.2.2.2.2.2.2.2.1 zz.2.2.2.2.2.2.2.2.2.2.2.2.2.2.2.2.2.2.2.2.2.2.2.2.2.2.2.2.2.2.2.2.2.2.2.2.2.2.2.2.2.2.2.2.2.2.2.2.2.2.2.2.2.2.2.2.2.2.2.2.2.1 zz.2.2.2.2.2.2.2.2.2.2.2.2.2.2.2.2.2.2.2.2.2.2.2.2.2.2.2.2.2.2.2.2.2.2.2.2.2.2.2.2.2.2.2.2.2.2.2.2.2.2.2.2.2.2.2.2.2.2.2.2.2.2.1 zz.2.2.2.2.2.2.2.2.2.2.2.2.2.2.2.2.2.2.2.2.2.2.2.2.2.2.2.2.2.2.2.2.2.2.2.2.2.2.2.2.2.2.2.2.2.2.2.2.2.2.2.2.2.2.2.2.2.2.2.2.2.2.2.1 zz.2.2.2.2.2.2.2.2.2.2.2.2.2.2.2.2.2.2.2.2.2.2.2.2.2.2.2.2.2.2.2.2.2.2.2.2.2.2.2.2.2.2.2.2.2.2.2.2.2.2.2.2.2.2.2.2.2.2.2.2.2.2.2.2.1 zz.2.2.2.2.2.2.2.2.2.2.2.2.2.2.2.2.2.2.2.2.2.2.2.2.2.2.2.2.2.2.2.2.2.2.2.2.2.2.2.2.2.2.2.2.2.2.2.2.2.2.2.2.2.2.2.2.2.2.2.2.2.2.2.2.2.1 zz.2.2.2.2.2.2.2.2.2.2.2.2.2.2.2.2.2.2.2.2.2.2.2.2.2.2.2.2.2.2.2.2.2.2.2.2.2.2.2.2.2.2.2.2.2.2.2.2.2.2.2.2.2.2.2.2.2.2.2.2.2.2.2.2.2.2.1 zz.2.2.2.2.2.2.2.2.2.2.2.2.2.2.2.2.2.2.2.2.2.2.2.2.2.2.2.2.2.2.2.2.2.2.2.2.2.2.2.2.2.2.2.2.2.2.2.2.2.2.2.2.2.2.2.2.2.2.2.2.2.2.2.2.2.2.2.1 zz.2.2.2.2.2.2.2.2.2.2.2.2.2.2.2.2.2.2.2.2.2.2.2.2.2.2.2.2.2.2.2.2.2.2.2.2.2.2.2.2.2.2.2.2.2.2.2.2.2.2.2.2.2.2.2.2.2.2.2.2.2.2.2.2.2.2.2.2
theorem zNe : Nonempty ((World) × (Around) × (Heap) × (Heap) × (List Env) × (Env) × (Nat) × (Nat) × (Addr) × (Str → Option Value) × (Str → Option Value) × (Str → Option Value) × (ExcName → Option Value) × (Shared) × (Value → Shared → Prop) × (Value → Shared → Prop) × (Addr) × (Addr) × (Addr) × (Addr) × (Addr) × (Addr) × (Addr) × (Addr) × (Addr) × (List DictEntry) × (Nat) × (List Value) × (List Value) × (Obj) × (List (Str × Value)) × (Str) × (Str) × (Str) × (Value) × (Value) × (Value) × (Value) × (Value) × (Int) × (Int) × (Int) × (Int) × (Int) × (Int) × (Int) × (Int) × (Int) × (Int) × (Int) × (Int) × (Tok) × (Tok) × (Tok) × (Tok) × (Tok) × (Tok) × (Tok) × (Tok) × (Tok) × (Tok) × (Tok) × (Tok) × (Tok) × (Tok) × (Tok) × (Nat) × (Nat) × (Int)) := ⟨(dWorld, dAround, default, default, default, default, default, default, default, default, default, default, default, dShared, default, default, default, default, default, default, default, default, default, default, default, default, default, default, default, default, default, default, default, default, default, default, default, default, default, default, default, default, default, default, default, default, default, default, default, default, default, default, default, default, default, default, default, default, default, default, default, default, default, default, default, default, default, default, default)⟩
noncomputable def zC : (World) × (Around) × (Heap) × (Heap) × (List Env) × (Env) × (Nat) × (Nat) × (Addr) × (Str → Option Value) × (Str → Option Value) × (Str → Option Value) × (ExcName → Option Value) × (Shared) × (Value → Shared → Prop) × (Value → Shared → Prop) × (Addr) × (Addr) × (Addr) × (Addr) × (Addr) × (Addr) × (Addr) × (Addr) × (Addr) × (List DictEntry) × (Nat) × (List Value) × (List Value) × (Obj) × (List (Str × Value)) × (Str) × (Str) × (Str) × (Value) × (Value) × (Value) × (Value) × (Value) × (Int) × (Int) × (Int) × (Int) × (Int) × (Int) × (Int) × (Int) × (Int) × (Int) × (Int) × (Int) × (Tok) × (Tok) × (Tok) × (Tok) × (Tok) × (Tok) × (Tok) × (Tok) × (Tok) × (Tok) × (Tok) × (Tok) × (Tok) × (Tok) × (Tok) × (Nat) × (Nat) × (Int) := @Classical.epsilon _ zNe fun c => ¬ zSc c
noncomputable def w : World := zC.1
noncomputable def A₀ : Around := zC.2.1
noncomputable def base : Heap := zC.2.2.1
noncomputable def h₀ : Heap := zC.2.2.2.1
noncomputable def outer : List Env := zC.2.2.2.2.1
noncomputable def env : Env := zC.2.2.2.2.2.1
noncomputable def d : Nat := zC.2.2.2.2.2.2.1
noncomputable def u : Nat := zC.2.2.2.2.2.2.2.1
noncomputable def L : Addr := zC.2.2.2.2.2.2.2.2.1
noncomputable def m : Str → Option Value := zC.2.2.2.2.2.2.2.2.2.1
noncomputable def mg : Str → Option Value := zC.2.2.2.2.2.2.2.2.2.2.1
noncomputable def mb : Str → Option Value := zC.2.2.2.2.2.2.2.2.2.2.2.1
noncomputable def mean : ExcName → Option Value := zC.2.2.2.2.2.2.2.2.2.2.2.2.1
noncomputable def s : Shared := zC.2.2.2.2.2.2.2.2.2.2.2.2.2.1
noncomputable def E : Value → Shared → Prop := zC.2.2.2.2.2.2.2.2.2.2.2.2.2.2.1
noncomputable def Q : Value → Shared → Prop := zC.2.2.2.2.2.2.2.2.2.2.2.2.2.2.2.1
noncomputable def x : Addr := zC.2.2.2.2.2.2.2.2.2.2.2.2.2.2.2.2.1
noncomputable def dx : Addr := zC.2.2.2.2.2.2.2.2.2.2.2.2.2.2.2.2.2.1
noncomputable def ax : Addr := zC.2.2.2.2.2.2.2.2.2.2.2.2.2.2.2.2.2.2.1
noncomputable def ad : Addr := zC.2.2.2.2.2.2.2.2.2.2.2.2.2.2.2.2.2.2.2.1
noncomputable def ak : Addr := zC.2.2.2.2.2.2.2.2.2.2.2.2.2.2.2.2.2.2.2.2.1
noncomputable def sx : Addr := zC.2.2.2.2.2.2.2.2.2.2.2.2.2.2.2.2.2.2.2.2.2.1
noncomputable def sd : Addr := zC.2.2.2.2.2.2.2.2.2.2.2.2.2.2.2.2.2.2.2.2.2.2.1
noncomputable def nd : Addr := zC.2.2.2.2.2.2.2.2.2.2.2.2.2.2.2.2.2.2.2.2.2.2.2.1
noncomputable def od : Addr := zC.2.2.2.2.2.2.2.2.2.2.2.2.2.2.2.2.2.2.2.2.2.2.2.2.1
noncomputable def es : List DictEntry := zC.2.2.2.2.2.2.2.2.2.2.2.2.2.2.2.2.2.2.2.2.2.2.2.2.2.1
noncomputable def n : Nat := zC.2.2.2.2.2.2.2.2.2.2.2.2.2.2.2.2.2.2.2.2.2.2.2.2.2.2.1
noncomputable def kpre : List Value := zC.2.2.2.2.2.2.2.2.2.2.2.2.2.2.2.2.2.2.2.2.2.2.2.2.2.2.2.1
noncomputable def os : List Value := zC.2.2.2.2.2.2.2.2.2.2.2.2.2.2.2.2.2.2.2.2.2.2.2.2.2.2.2.2.1
noncomputable def onames : Obj := zC.2.2.2.2.2.2.2.2.2.2.2.2.2.2.2.2.2.2.2.2.2.2.2.2.2.2.2.2.2.1
noncomputable def kvs : List (Str × Value) := zC.2.2.2.2.2.2.2.2.2.2.2.2.2.2.2.2.2.2.2.2.2.2.2.2.2.2.2.2.2.2.1
noncomputable def name : Str := zC.2.2.2.2.2.2.2.2.2.2.2.2.2.2.2.2.2.2.2.2.2.2.2.2.2.2.2.2.2.2.2.1
noncomputable def kind : Str := zC.2.2.2.2.2.2.2.2.2.2.2.2.2.2.2.2.2.2.2.2.2.2.2.2.2.2.2.2.2.2.2.2.1
noncomputable def ms : Str := zC.2.2.2.2.2.2.2.2.2.2.2.2.2.2.2.2.2.2.2.2.2.2.2.2.2.2.2.2.2.2.2.2.2.1
noncomputable def ty : Value := zC.2.2.2.2.2.2.2.2.2.2.2.2.2.2.2.2.2.2.2.2.2.2.2.2.2.2.2.2.2.2.2.2.2.2.1
noncomputable def vp : Value := zC.2.2.2.2.2.2.2.2.2.2.2.2.2.2.2.2.2.2.2.2.2.2.2.2.2.2.2.2.2.2.2.2.2.2.2.1
noncomputable def vtypes : Value := zC.2.2.2.2.2.2.2.2.2.2.2.2.2.2.2.2.2.2.2.2.2.2.2.2.2.2.2.2.2.2.2.2.2.2.2.2.1
noncomputable def vlabel : Value := zC.2.2.2.2.2.2.2.2.2.2.2.2.2.2.2.2.2.2.2.2.2.2.2.2.2.2.2.2.2.2.2.2.2.2.2.2.2.1
noncomputable def val : Value := zC.2.2.2.2.2.2.2.2.2.2.2.2.2.2.2.2.2.2.2.2.2.2.2.2.2.2.2.2.2.2.2.2.2.2.2.2.2.2.1
noncomputable def lv : Int := zC.2.2.2.2.2.2.2.2.2.2.2.2.2.2.2.2.2.2.2.2.2.2.2.2.2.2.2.2.2.2.2.2.2.2.2.2.2.2.2.1
noncomputable def slots : Int := zC.2.2.2.2.2.2.2.2.2.2.2.2.2.2.2.2.2.2.2.2.2.2.2.2.2.2.2.2.2.2.2.2.2.2.2.2.2.2.2.2.1
noncomputable def olv : Int := zC.2.2.2.2.2.2.2.2.2.2.2.2.2.2.2.2.2.2.2.2.2.2.2.2.2.2.2.2.2.2.2.2.2.2.2.2.2.2.2.2.2.1
noncomputable def c1 : Int := zC.2.2.2.2.2.2.2.2.2.2.2.2.2.2.2.2.2.2.2.2.2.2.2.2.2.2.2.2.2.2.2.2.2.2.2.2.2.2.2.2.2.2.1
noncomputable def c2 : Int := zC.2.2.2.2.2.2.2.2.2.2.2.2.2.2.2.2.2.2.2.2.2.2.2.2.2.2.2.2.2.2.2.2.2.2.2.2.2.2.2.2.2.2.2.1
noncomputable def c3 : Int := zC.2.2.2.2.2.2.2.2.2.2.2.2.2.2.2.2.2.2.2.2.2.2.2.2.2.2.2.2.2.2.2.2.2.2.2.2.2.2.2.2.2.2.2.2.1
noncomputable def c4 : Int := zC.2.2.2.2.2.2.2.2.2.2.2.2.2.2.2.2.2.2.2.2.2.2.2.2.2.2.2.2.2.2.2.2.2.2.2.2.2.2.2.2.2.2.2.2.2.1
noncomputable def e1 : Int := zC.2.2.2.2.2.2.2.2.2.2.2.2.2.2.2.2.2.2.2.2.2.2.2.2.2.2.2.2.2.2.2.2.2.2.2.2.2.2.2.2.2.2.2.2.2.2.1
noncomputable def e2 : Int := zC.2.2.2.2.2.2.2.2.2.2.2.2.2.2.2.2.2.2.2.2.2.2.2.2.2.2.2.2.2.2.2.2.2.2.2.2.2.2.2.2.2.2.2.2.2.2.2.1
noncomputable def e3 : Int := zC.2.2.2.2.2.2.2.2.2.2.2.2.2.2.2.2.2.2.2.2.2.2.2.2.2.2.2.2.2.2.2.2.2.2.2.2.2.2.2.2.2.2.2.2.2.2.2.2.1
noncomputable def e4 : Int := zC.2.2.2.2.2.2.2.2.2.2.2.2.2.2.2.2.2.2.2.2.2.2.2.2.2.2.2.2.2.2.2.2.2.2.2.2.2.2.2.2.2.2.2.2.2.2.2.2.2.1
noncomputable def e5 : Int := zC.2.2.2.2.2.2.2.2.2.2.2.2.2.2.2.2.2.2.2.2.2.2.2.2.2.2.2.2.2.2.2.2.2.2.2.2.2.2.2.2.2.2.2.2.2.2.2.2.2.2.1
noncomputable def a1 : Tok := zC.2.2.2.2.2.2.2.2.2.2.2.2.2.2.2.2.2.2.2.2.2.2.2.2.2.2.2.2.2.2.2.2.2.2.2.2.2.2.2.2.2.2.2.2.2.2.2.2.2.2.2.1
noncomputable def a2 : Tok := zC.2.2.2.2.2.2.2.2.2.2.2.2.2.2.2.2.2.2.2.2.2.2.2.2.2.2.2.2.2.2.2.2.2.2.2.2.2.2.2.2.2.2.2.2.2.2.2.2.2.2.2.2.1
noncomputable def a3 : Tok := zC.2.2.2.2.2.2.2.2.2.2.2.2.2.2.2.2.2.2.2.2.2.2.2.2.2.2.2.2.2.2.2.2.2.2.2.2.2.2.2.2.2.2.2.2.2.2.2.2.2.2.2.2.2.1
noncomputable def a4 : Tok := zC.2.2.2.2.2.2.2.2.2.2.2.2.2.2.2.2.2.2.2.2.2.2.2.2.2.2.2.2.2.2.2.2.2.2.2.2.2.2.2.2.2.2.2.2.2.2.2.2.2.2.2.2.2.2.1
noncomputable def a5 : Tok := zC.2.2.2.2.2.2.2.2.2.2.2.2.2.2.2.2.2.2.2.2.2.2.2.2.2.2.2.2.2.2.2.2.2.2.2.2.2.2.2.2.2.2.2.2.2.2.2.2.2.2.2.2.2.2.2.1
noncomputable def a6 : Tok := zC.2.2.2.2.2.2.2.2.2.2.2.2.2.2.2.2.2.2.2.2.2.2.2.2.2.2.2.2.2.2.2.2.2.2.2.2.2.2.2.2.2.2.2.2.2.2.2.2.2.2.2.2.2.2.2.2.1
noncomputable def b1 : Tok := zC.2.2.2.2.2.2.2.2.2.2.2.2.2.2.2.2.2.2.2.2.2.2.2.2.2.2.2.2.2.2.2.2.2.2.2.2.2.2.2.2.2.2.2.2.2.2.2.2.2.2.2.2.2.2.2.2.2.1
noncomputable def b2 : Tok := zC.2.2.2.2.2.2.2.2.2.2.2.2.2.2.2.2.2.2.2.2.2.2.2.2.2.2.2.2.2.2.2.2.2.2.2.2.2.2.2.2.2.2.2.2.2.2.2.2.2.2.2.2.2.2.2.2.2.2.1
noncomputable def b3 : Tok := zC.2.2.2.2.2.2.2.2.2.2.2.2.2.2.2.2.2.2.2.2.2.2.2.2.2.2.2.2.2.2.2.2.2.2.2.2.2.2.2.2.2.2.2.2.2.2.2.2.2.2.2.2.2.2.2.2.2.2.2.1
noncomputable def b4 : Tok := zC.2.2.2.2.2.2.2.2.2.2.2.2.2.2.2.2.2.2.2.2.2.2.2.2.2.2.2.2.2.2.2.2.2.2.2.2.2.2.2.2.2.2.2.2.2.2.2.2.2.2.2.2.2.2.2.2.2.2.2.2.1
noncomputable def b5 : Tok := zC.2.2.2.2.2.2.2.2.2.2.2.2.2.2.2.2.2.2.2.2.2.2.2.2.2.2.2.2.2.2.2.2.2.2.2.2.2.2.2.2.2.2.2.2.2.2.2.2.2.2.2.2.2.2.2.2.2.2.2.2.2.1
noncomputable def b6 : Tok := zC.2.2.2.2.2.2.2.2.2.2.2.2.2.2.2.2.2.2.2.2.2.2.2.2.2.2.2.2.2.2.2.2.2.2.2.2.2.2.2.2.2.2.2.2.2.2.2.2.2.2.2.2.2.2.2.2.2.2.2.2.2.2.1
noncomputable def b7 : Tok := zC.2.2.2.2.2.2.2.2.2.2.2.2.2.2.2.2.2.2.2.2.2.2.2.2.2.2.2.2.2.2.2.2.2.2.2.2.2.2.2.2.2.2.2.2.2.2.2.2.2.2.2.2.2.2.2.2.2.2.2.2.2.2.2.1
noncomputable def tn : Tok := zC.2.2.2.2.2.2.2.2.2.2.2.2.2.2.2.2.2.2.2.2.2.2.2.2.2.2.2.2.2.2.2.2.2.2.2.2.2.2.2.2.2.2.2.2.2.2.2.2.2.2.2.2.2.2.2.2.2.2.2.2.2.2.2.2.1
noncomputable def tk' : Tok := zC.2.2.2.2.2.2.2.2.2.2.2.2.2.2.2.2.2.2.2.2.2.2.2.2.2.2.2.2.2.2.2.2.2.2.2.2.2.2.2.2.2.2.2.2.2.2.2.2.2.2.2.2.2.2.2.2.2.2.2.2.2.2.2.2.2.1
noncomputable def nk : Nat := zC.2.2.2.2.2.2.2.2.2.2.2.2.2.2.2.2.2.2.2.2.2.2.2.2.2.2.2.2.2.2.2.2.2.2.2.2.2.2.2.2.2.2.2.2.2.2.2.2.2.2.2.2.2.2.2.2.2.2.2.2.2.2.2.2.2.2.1
noncomputable def no : Nat := zC.2.2.2.2.2.2.2.2.2.2.2.2.2.2.2.2.2.2.2.2.2.2.2.2.2.2.2.2.2.2.2.2.2.2.2.2.2.2.2.2.2.2.2.2.2.2.2.2.2.2.2.2.2.2.2.2.2.2.2.2.2.2.2.2.2.2.2.1
noncomputable def clevel : Int := zC.2.2.2.2.2.2.2.2.2.2.2.2.2.2.2.2.2.2.2.2.2.2.2.2.2.2.2.2.2.2.2.2.2.2.2.2.2.2.2.2.2.2.2.2.2.2.2.2.2.2.2.2.2.2.2.2.2.2.2.2.2.2.2.2.2.2.2.2
theorem zCore (B : Below A₀ base outer h₀) (F : Fr h₀ L s.heap m) (X : (Mine.fr.heap_1 w.params).In h₀) (N : News h₀ L s.heap [(x, instObj 52 dx), (dx, dictOf es n), (ax, instObj 172 ad), (ad, scopesD c1 c2 c3 c4 a1 a2 a3 a4 vtypes (.str (Str.ofString "M") a5) ak lv a6), (ak, listOf (kpre ++ [Value.ref sx]).toArray nk), (sx, instObj 109 sd), (sd, scopeD e1 e2 e3 e4 e5 b1 b2 b3 b4 b5 clevel b6 vlabel nd od slots b7), (nd, onames), (od, listOf os.toArray no)]) (T : Top Mine.vw (looseW Mine.vw []) mean mg mb h₀) (hf : env.frame = some L) (hke : env.scope.kind = .function) (hd : d < 950) (hnd : [x, dx, ax, ad, ak, sx, sd, nd, od].Nodup) (ho : ObjIs es (.str name tn) (.str kind tk') ty vp olv ms 0 val) (hkv : onames.IsDictOf (PySem.strKind Challenge.rw_nu0320_01.row.prog w) kvs) (hlo : (nd == sysModules) = false) (hk1 : kvs.length ≤ 1000) (hk2 : os.length ≤ 1000) (hdup : (valueAt kvs name).isSome = true → ∀ h' tk, Fr h₀ L h' m → News h₀ L h' [(x, instObj 52 dx), (dx, dictOf es n), (ax, instObj 172 ad), (ad, scopesD c1 c2 c3 c4 a1 a2 a3 a4 vtypes (.str (Str.ofString "M") a5) ak lv a6), (ak, listOf (kpre ++ [Value.ref sx]).toArray nk), (sx, instObj 109 sd), (sd, scopeD e1 e2 e3 e4 e5 b1 b2 b3 b4 b5 clevel b6 vlabel nd od slots b7), (nd, onames), (od, listOf os.toArray no)] → Q (.bool false) { s with heap := h', toks := tk }) (hnew : valueAt kvs name = none → ∀ (h' : Heap) (tk : Nat) (es' : List DictEntry) (n' : Nat) (onames' : Obj) (no' : Nat) (t4 : Tok), Fr h₀ L h' m → ObjIs es' (.str name tn) (.str kind tk') ty vp olv ms (if isVar kind then slots else 0) val →
      onames'.IsDictOf (PySem.strKind Challenge.rw_nu0320_01.row.prog w) (kvs ++ [(name, .ref x)]) →
      News h₀ L h' [(x, instObj 52 dx), (dx, dictOf es' n'), (ax, instObj 172 ad), (ad, scopesD c1 c2 c3 c4 a1 a2 a3 a4 vtypes (.str (Str.ofString "M") a5) ak lv a6), (ak, listOf (kpre ++ [Value.ref sx]).toArray nk), (sx, instObj 109 sd), (sd, scopeD e1 e2 e3 e4 e5 b1 b2 b3 b4 b5 clevel b6 vlabel nd od (if isVar kind then slots + 1 else slots) t4), (nd, onames'), (od, listOf (os ++ [Value.ref x]).toArray no')] → Q (.bool true) { s with heap := h', toks := tk }) : wpAny (model Challenge.rw_nu0320_01.row.prog w) { handled := none, depth := d, frames := some (env :: outer), guards := some [], units := u } (call (.ref 155) [.ref ax, .ref x]) Q E s := by
  revert X; k_fill; intro X
  refine wpAny_call ?_
  simp only [List.nodup_cons, List.mem_cons, not_or, List.not_mem_nil, not_false_eq_true, and_true, List.nodup_nil] at hnd
  obtain ⟨⟨n1, n2, n3, n4, n5, n6, n7, n8⟩, ⟨m1, m2, m3, m4, m5, m6, m7⟩, ⟨p1, p2, p3, p4, p5, p6⟩, ⟨p7, p8, p9, p10, p11⟩, ⟨p12, p13, p14, p15⟩, ⟨p16, p17, p18⟩, ⟨p19, p20⟩, p21⟩ := hnd
  have hon := ho.name
  have hok := ho.kind
  refine' code_defG B F X N T ?kA hf hke ?k6 ?k7 ?k8 ?k9 ?kB ?_ ?c2 ?c3 ?c4 ?c5; (case kA => exact rfl); (case k6 => k_is); (case k7 => k_is); (case k8 => k_room); (case k9 => exact BindsTo.of_eq rfl); (case c5 => decide); (case kB => exact locs rfl); (case c2 => exact rfl); (case c3 => exact rfl); (case c4 => exact rfl)
  intro g' L' h' FG' F' N' B' X' T' GS
  try dsimp only
  refine hold_post ?_
  k_fold
  (repeat' ((((fail_if_success (with_reducible show Hold _)); first | (k_unfold; (try dsimp only)) | (k_end; wrow_close) | walk1 | (dsimp only; walk1) | (leave1; walk_say "STEP leave1"; try dsimp only)))))
  all_goals (dsimp only; k_unfold; (try dsimp only))
  all_goals (refine ⟨leaveK_ (by assumption) (by assumption) ?_⟩; intro kF kN)
  all_goals (try simp only [List.push_toArray] at kN)
  all_goals first
    | exact hdup (by assumption) _ _ kF kN
    | skip
  all_goals first
    | (have hv : isVar kind = true := (by unfold isVar; rw [‹(kind == Str.ofString "var") = true›]; rfl); simp only [hv, if_true] at hnew)
    | (have hv : isVar kind = true := (by unfold isVar; rw [‹(kind == Str.ofString "par") = true›]; simp); simp only [hv, if_true] at hnew)
    | (have hv : isVar kind = false := (by unfold isVar; rw [‹(kind == Str.ofString "var") = false›, ‹(kind == Str.ofString "par") = false›]; rfl); simp only [hv, Bool.false_eq_true, if_false] at hnew)
  all_goals dsimp only
  all_goals exact hnew (by assumption) _ _ _ _ _ _ _ kF (by with_reducible assumption) (by assumption) kN
end Zaddspec
theorem add_spec {w : World} {A₀ : Around} {base : Heap} {h₀ : Heap} {outer : List Env} {env : Env} {d : Nat} {u : Nat} {L : Addr} {m : Str → Option Value} {mg : Str → Option Value} {mb : Str → Option Value} {mean : ExcName → Option Value} {s : Shared} {E : Value → Shared → Prop} {Q : Value → Shared → Prop} {x : Addr} {dx : Addr} {ax : Addr} {ad : Addr} {ak : Addr} {sx : Addr} {sd : Addr} {nd : Addr} {od : Addr} {es : List DictEntry} {n : Nat} {kpre : List Value} {os : List Value} {onames : Obj} {kvs : List (Str × Value)} {name : Str} {kind : Str} {ms : Str} {ty : Value} {vp : Value} {vtypes : Value} {vlabel : Value} {val : Value} {lv : Int} {slots : Int} {olv : Int} {c1 : Int} {c2 : Int} {c3 : Int} {c4 : Int} {e1 : Int} {e2 : Int} {e3 : Int} {e4 : Int} {e5 : Int} {a1 : Tok} {a2 : Tok} {a3 : Tok} {a4 : Tok} {a5 : Tok} {a6 : Tok} {b1 : Tok} {b2 : Tok} {b3 : Tok} {b4 : Tok} {b5 : Tok} {b6 : Tok} {b7 : Tok} {tn : Tok} {tk' : Tok} {nk : Nat} {no : Nat} {clevel : Int} (B : Below A₀ base outer h₀) (F : Fr h₀ L s.heap m) (X : (Mine.fr.heap_1 w.params).In h₀) (N : News h₀ L s.heap [(x, instObj 52 dx), (dx, dictOf es n), (ax, instObj 172 ad), (ad, scopesD c1 c2 c3 c4 a1 a2 a3 a4 vtypes (.str (Str.ofString "M") a5) ak lv a6), (ak, listOf (kpre ++ [Value.ref sx]).toArray nk), (sx, instObj 109 sd), (sd, scopeD e1 e2 e3 e4 e5 b1 b2 b3 b4 b5 clevel b6 vlabel nd od slots b7), (nd, onames), (od, listOf os.toArray no)]) (T : Top Mine.vw (looseW Mine.vw []) mean mg mb h₀) (hf : env.frame = some L) (hke : env.scope.kind = .function) (hd : d < 950) (hnd : [x, dx, ax, ad, ak, sx, sd, nd, od].Nodup) (ho : ObjIs es (.str name tn) (.str kind tk') ty vp olv ms 0 val) (hkv : onames.IsDictOf (PySem.strKind Challenge.rw_nu0320_01.row.prog w) kvs) (hlo : (nd == sysModules) = false) (hk1 : kvs.length ≤ 1000) (hk2 : os.length ≤ 1000) (hdup : (valueAt kvs name).isSome = true → ∀ h' tk, Fr h₀ L h' m → News h₀ L h' [(x, instObj 52 dx), (dx, dictOf es n), (ax, instObj 172 ad), (ad, scopesD c1 c2 c3 c4 a1 a2 a3 a4 vtypes (.str (Str.ofString "M") a5) ak lv a6), (ak, listOf (kpre ++ [Value.ref sx]).toArray nk), (sx, instObj 109 sd), (sd, scopeD e1 e2 e3 e4 e5 b1 b2 b3 b4 b5 clevel b6 vlabel nd od slots b7), (nd, onames), (od, listOf os.toArray no)] → Q (.bool false) { s with heap := h', toks := tk }) (hnew : valueAt kvs name = none → ∀ (h' : Heap) (tk : Nat) (es' : List DictEntry) (n' : Nat) (onames' : Obj) (no' : Nat) (t4 : Tok), Fr h₀ L h' m → ObjIs es' (.str name tn) (.str kind tk') ty vp olv ms (if isVar kind then slots else 0) val →
      onames'.IsDictOf (PySem.strKind Challenge.rw_nu0320_01.row.prog w) (kvs ++ [(name, .ref x)]) →
      News h₀ L h' [(x, instObj 52 dx), (dx, dictOf es' n'), (ax, instObj 172 ad), (ad, scopesD c1 c2 c3 c4 a1 a2 a3 a4 vtypes (.str (Str.ofString "M") a5) ak lv a6), (ak, listOf (kpre ++ [Value.ref sx]).toArray nk), (sx, instObj 109 sd), (sd, scopeD e1 e2 e3 e4 e5 b1 b2 b3 b4 b5 clevel b6 vlabel nd od (if isVar kind then slots + 1 else slots) t4), (nd, onames'), (od, listOf (os ++ [Value.ref x]).toArray no')] → Q (.bool true) { s with heap := h', toks := tk }) :
    wpAny (model Challenge.rw_nu0320_01.row.prog w) { handled := none, depth := d, frames := some (env :: outer), guards := some [], units := u } (call (.ref 155) [.ref ax, .ref x]) Q E s :=
  (eps_all (ne := Zaddspec.zNe) (P := Zaddspec.zSc) Zaddspec.zCore : ∀ c, Zaddspec.zSc c) (w, A₀, base, h₀, outer, env, d, u, L, m, mg, mb, mean, s, E, Q, x, dx, ax, ad, ak, sx, sd, nd, od, es, n, kpre, os, onames, kvs, name, kind, ms, ty, vp, vtypes, vlabel, val, lv, slots, olv, c1, c2, c3, c4, e1, e2, e3, e4, e5, a1, a2, a3, a4, a5, a6, b1, b2, b3, b4, b5, b6, b7, tn, tk', nk, no, clevel) B F X N T hf hke hd hnd ho hkv hlo hk1 hk2 hdup hnew
end
-- C2i
end
end
end
end
end
example {M : Model} {A : Around} {E : Value → Shared → Prop} {s : Shared} {Q : Flow → Shared → Prop} {env : Env} (h : Q .next s) : wpAny M A (execs [] env) Q E s := by
  first | (walk1; exact h) | exact fun _ _ _ => h
section
local macro_rules | `(tactic| walk_at "setAttr ref") => `(tactic| (k_here; (with_reducible show wpAny _ _ (setAttr _ (PySem.Str.ofString "level") _) _ _ _); k_dflt (refine' set_level ?k1 ?k2 ?k3 ?k4 ?k5 ?k6 ?_; (case k1 => k_asm); (case k2 => k_asm); (case k3 => k_asm); (case k4 => k_mem); (case k5 => k_updF); (case k6 => with_reducible assumption)); intro h' es' n1' F' N' hob'; (try dsimp only at N'); (try k_sweep)))
section
local macro_rules | `(tactic| walk_at "setAttr ref") => `(tactic| (k_here; (with_reducible show wpAny _ _ (setAttr _ (PySem.Str.ofString "module") _) _ _ _); k_dflt (refine' set_module ?k1 ?k2 ?k3 ?k4 ?k5 ?k6 ?_; (case k1 => k_asm); (case k2 => k_asm); (case k3 => k_asm); (case k4 => k_mem); (case k5 => k_updF); (case k6 => with_reducible assumption)); intro h' es' n1' F' N' hob'; (try dsimp only at N'); (try k_sweep)))
section
theorem insert_fin {h₀ H g h' : Heap} {L ax ad ak sx sd nd od x d : Addr} {o1 o2 o3 o4 o5 o6 o7 o5' o6' o7' ox oy : Obj} {news : List (Addr × Obj)} (N : News h₀ L H news)
    (hsub : ∀ p ∈ [(ax, o1), (ad, o2), (ak, o3), (sx, o4), (sd, o5), (nd, o6), (od, o7)], p ∈ news) (G : GSub H g ([(ax, o1), (ad, o2), (ak, o3), (sx, o4), (sd, o5), (nd, o6), (od, o7)].map (·.1)))
    (K : ∀ b o, g.get? b = some o → h'.get? b = some o) (N' : News h₀ L h' [(x, ox), (d, oy), (ax, o1), (ad, o2), (ak, o3), (sx, o4), (sd, o5'), (nd, o6'), (od, o7')])
    (news' : List (Addr × Obj)) (hs : ∀ q ∈ news', q ∈ [(x, ox), (d, oy), (sd, o5'), (nd, o6'), (od, o7')] ∨ (q ∈ news ∧ q.1 ≠ sd ∧ q.1 ≠ nd ∧ q.1 ≠ od)) : News h₀ L h' news' := by
  refine news_frame N hsub G K N' fun q hq => ?_
  rcases hs q hq with h | ⟨h1, h2, h3, h4⟩
  · left
    simp only [List.mem_cons, List.not_mem_nil, or_false] at h ⊢
    rcases h with h | h | h | h | h <;> simp [h]
  · right
    refine ⟨h1, fun r hr e => ?_⟩
    simp only [List.mem_cons, List.not_mem_nil, or_false] at hr ⊢
    rcases hr with rfl | rfl | rfl | rfl | rfl | rfl | rfl
    · simp
    · simp
    · simp
    · simp
    · exact absurd e.symm h2
    · exact absurd e.symm h3
    · exact absurd e.symm h4
theorem nodup_two {small : List (Addr × Obj)} {x d : Addr} (f1 : ∀ q ∈ small, q.1 ≠ x) (f2 : ∀ q ∈ small, q.1 ≠ d) (h : x ≠ d) (n : (small.map (·.1)).Nodup) : (x :: d :: small.map (·.1)).Nodup :=
  List.nodup_cons.mpr ⟨fun hm => by
    rcases List.mem_cons.mp hm with e | hm
    · exact h e
    · obtain ⟨q, hq, e⟩ := List.mem_map.mp hm
      exact f1 q hq e, List.nodup_cons.mpr ⟨fun hm => by
    obtain ⟨q, hq, e⟩ := List.mem_map.mp hm
    exact f2 q hq e, n⟩⟩
namespace Zinsertspec
def zSt (w : World) (A₀ : Around) (base : Heap) (h₀ : Heap) (outer : List Env) (env : Env) (d : Nat) (u : Nat) (L : Addr) (m : Str → Option Value) (mg : Str → Option Value) (mb : Str → Option Value) (mean : ExcName → Option Value) (news : List (Addr × Obj)) (s : Shared) (E : Value → Shared → Prop) (Q : Value → Shared → Prop) (ax : Addr) (ad : Addr) (ak : Addr) (sx : Addr) (sd : Addr) (nd : Addr) (od : Addr) (kpre : List Value) (os : List Value) (onames : Obj) (kvs : List (Str × Value)) (name : Str) (kind : Str) (ty : Value) (vtypes : Value) (vlabel : Value) (place : Int) (lv : Int) (slots : Int) (c1 : Int) (c2 : Int) (c3 : Int) (c4 : Int) (e1 : Int) (e2 : Int) (e3 : Int) (e4 : Int) (e5 : Int) (a1 : Tok) (a2 : Tok) (a3 : Tok) (a4 : Tok) (a5 : Tok) (a6 : Tok) (b1 : Tok) (b2 : Tok) (b3 : Tok) (b4 : Tok) (b5 : Tok) (b6 : Tok) (b7 : Tok) (tn : Tok) (tk' : Tok) (tp : Tok) (nk : Nat) (no : Nat) (clevel : Int) : Prop := ∀ (B : Below A₀ base outer h₀) (F : Fr h₀ L s.heap m) (X : (Mine.fr.heap_1 w.params).In h₀) (N : News h₀ L s.heap news) (T : Top Mine.vw (looseW Mine.vw []) mean mg mb h₀) (hf : env.frame = some L) (hke : env.scope.kind = .function) (hd : d < 900) (hsmall : ∀ q ∈ [(ax, instObj 172 ad), (ad, dictOf [⟨c1, .str (Str.ofString "types") a1, vtypes⟩, ⟨c2, .str (Str.ofString "module") a2, .str (Str.ofString "M") a5⟩, ⟨c3, .str (Str.ofString "stack") a3, .ref ak⟩, ⟨c4, .str (Str.ofString "level") a4, .int lv a6⟩] 4),
      (ak, listOf (kpre ++ [Value.ref sx]).toArray nk), (sx, instObj 109 sd), (sd, dictOf [⟨e1, .str (Str.ofString "level") b1, .int clevel b6⟩, ⟨e2, .str (Str.ofString "label") b2, vlabel⟩, ⟨e3, .str (Str.ofString "names") b3, .ref nd⟩, ⟨e4, .str (Str.ofString "order") b4, .ref od⟩, ⟨e5, .str (Str.ofString "slots") b5, .int slots b7⟩] 5),
      (nd, onames), (od, listOf os.toArray no)], q ∈ news) (hnd : [ax, ad, ak, sx, sd, nd, od].Nodup) (hkv : onames.IsDictOf (PySem.strKind Challenge.rw_nu0320_01.row.prog w) kvs) (hlo : (nd == sysModules) = false) (hk1 : kvs.length ≤ 1000) (hk2 : os.length ≤ 1000) (hdup : (valueAt kvs name).isSome = true → ∀ h' tk, Fr h₀ L h' m → News h₀ L h' news → Q .none { s with heap := h', toks := tk }) (hnew : valueAt kvs name = none → ∀ (h' : Heap) (tk : Nat) (x d : Addr) (es : List DictEntry) (n : Nat) (onames' : Obj) (no' : Nat) (t4 : Tok), Fr h₀ L h' m →
      ObjIs es (.str name tn) (.str kind tk') ty (.int place tp) (if 0 > lv then 0 else lv) (Str.ofString (if 0 ≤ lv then "M" else "")) (if isVar kind then slots else 0) .none →
      onames'.IsDictOf (PySem.strKind Challenge.rw_nu0320_01.row.prog w) (kvs ++ [(name, .ref x)]) → (∀ q ∈ news, q.1 ≠ x) → (∀ q ∈ news, q.1 ≠ d) → x ≠ d →
      (∀ news', (∀ q ∈ news', q ∈ [(x, instObj 52 d), (d, dictOf es n), (sd, dictOf [⟨e1, .str (Str.ofString "level") b1, .int clevel b6⟩, ⟨e2, .str (Str.ofString "label") b2, vlabel⟩, ⟨e3, .str (Str.ofString "names") b3, .ref nd⟩, ⟨e4, .str (Str.ofString "order") b4, .ref od⟩, ⟨e5, .str (Str.ofString "slots") b5, .int (if isVar kind then slots + 1 else slots) t4⟩] 5),
          (nd, onames'), (od, listOf (os ++ [Value.ref x]).toArray no')] ∨ (q ∈ news ∧ q.1 ≠ sd ∧ q.1 ≠ nd ∧ q.1 ≠ od)) → News h₀ L h' news') → Q (.ref x) { s with heap := h', toks := tk }), wpAny (model Challenge.rw_nu0320_01.row.prog w) { handled := none, depth := d, frames := some (env :: outer), guards := some [], units := u } (call (.ref 162) [.ref ax, .str name tn, .str kind tk', ty, .int place tp]) Q E s
def zSc (zz : (World) × (Around) × (Heap) × (Heap) × (List Env) × (Env) × (Nat) × (Nat) × (Addr) × (Str → Option Value) × (Str → Option Value) × (Str → Option Value) × (ExcName → Option Value) × (List (Addr × Obj)) × (Shared) × (Value → Shared → Prop) × (Value → Shared → Prop) × (Addr) × (Addr) × (Addr) × (Addr) × (Addr) × (Addr) × (Addr) × (List Value) × (List Value) × (Obj) × (List (Str × Value)) × (Str) × (Str) × (Value) × (Value) × (Value) × (Int) × (Int) × (Int) × (Int) × (Int) × (Int) × (Int) × (Int) × (Int) × (Int) × (Int) × (Int) × (Tok) × (Tok) × (Tok) × (Tok) × (Tok) × (Tok) × (Tok) × (Tok) × (Tok) × (Tok) × (Tok) × (Tok) × (Tok) × (Tok) × (Tok) × (Tok) × (Nat) × (Nat) × (Int)) : Prop := zSt zz.1 zz.2.1 zz.2.2.1 zz.2.2.2.1 zz.2.2.2.2.1 zz.2.2.2.2.2.1 zz.2.2.2.2.2.2.1 zz.2.2.2.2.2.2.2.1 zz.2.2.2.2.2.2.2.2.1 zz.2.2.2.2.2.2.2.2.2.1 zz.2.2.2.2.2.2.2.2.2.2.1 zz.2.2.2.2.2.2.2.2.2.2.2.1 zz.2.2.2.2.2.2.2.2.2.2.2.2.1 zz.2.2.2.2.2.2.2.2.2.2.2.2.2.1 zz.2.2.2.2.2.2.2.2.2.2.2.2.2.2.1 zz.2.2.2.2.2.2.2.2.2.2.2.2.2.2.2.1 zz.2.2.2.2.2.2.2.2.2.2.2.2.2.2.2.2.1 zz.2.2.2.2.2.2.2.2.2.2.2.2.2.2.2.2.2.1 zz.2.2.2.2.2.2.2.2.2.2.2.2.2.2.2.2.2.2.1 zz.2.2.2.2.2.2.2.2.2.2.2.2.2.2.2.2.2.2.2.1 zz.2.2.2.2.2.2.2.2.2.2.2.2.2.2.2.2.2.2.2.2.1 zz.2.2.2.2.2.2.2.2.2.2.2.2.2.2.2.2.2.2.2.2.2.1 zz.2.2.2.2.2.2.2.2.2.2.2.2.2.2.2.2.2.2.2.2.2.2.1 zz.2.2.2.2.2.2.2.2.2.2.2.2.2.2.2.2.2.2.2.2.2.2.2.1 zz.2.2.2.2.2.2.2.2.2.2.2.2.2.2.2.2.2.2.2.2.2.2.2.2.1 zz.2.2.2.2.2.2.2.2.2.2.2.2.2.2.2.2.2.2.2.2.2.2.2.2.2.1 zz.2.2.2.2.2.2.2.2.2.2.2.2.2.2.2.2.2.2.2.2.2.2.2.2.2.2.1 zz.2.2.2.2.2.2.2.2.2.2.2.2.2.2.2.2.2.2.2.2.2.2.2.2.2.2.2.1 zz.2.2.2.2.2.2.2.2.2.2.2.2.2.2.2.2.2.2.2.2.2.2.2.2.2.2.2.2.1 zz.2.2.2.2.2.2.2.2.2.2.2.2.2.2.2.2.2.2.2.2.2.2.2.2.2.2.2.2.2.1 zz.2.2.2.2.2.2.2.2.2.2.2.2.2.2.2.2.2.2.2.2.2.2.2.2.2.2.2.2.2.2.1 zz.2.2.2.2.2.2.2.2.2.2.2.2.2.2.2.2.2.2.2.2.2.2.2.2.2.2.2.2.2.2.2.1 zz.2.2.2.2.2.2.2.2.2.2.2.2.2.2.2.2.2.2.2.2.2.2.2.2.2.2.2.2.2.2.2.2.1 zz.2.2.2.2.2.2.2.2.2.2.2.2.2.2.2.2.2.2.2.2.2.2.2.2.2.2.2.2.2.2.2.2.2.1 zz.2.2.2.2.2.2.2.2.2.2.2.2.2.2.2.2.2.2.2.2.2.2.2.2.2.2.2.2.2.2.2.2.2.2.1 zz.2.2.2.2.2.2.2.2.2.2.2.2.2.2.2.2.2.2.2.2.2.2.2.2.2.2.2.2.2.2.2.2.2.2.2.1 zz.2.2.2.2.2.2.2.2.2.2.2.2.2.2.2.2.2.2.2.2.2.2.2.2.2.2.2.2.2.2.2.2.2.2.2.2.1 zz.2.2.2.2.2.2.2.2.2.2.2.2.2.2.2.2.2.2.2.2.2.2.2.2.2.2.2.2.2.2.2.2.2.2.2.2.2.1 zz.2.2.2.2.2.2.2.2.2.2.2.2.2.2.2.2.2.2.2.2.2.2.2.2.2.2.2.2.2.2.2.2.2.2.2.2.2.2.1 zz.2.2.2.2.2.2.2.2.2.2.2.2.2.2.2.2.2.2.2.2.2.2.2.2.2.2.2.2.2.2.2.2.2.2.2.2.2.2.2.1 zz.2.2.2.2.2.2.2.2.2.2.2.2.2.2.2.2.2.2.2.2.2.2.2.2.2.2.2.2.2.2.2.2.2.2.2.2.2.2.2.2.1 zz.2.2.2.2.2.2.2.2.2.2.2.2.2.2.2.2.2.2.2.2.2.2.2.2.2.2.2.2.2.2.2.2.2.2.2.2.2.2.2.2.2.1 zz.2.2.2.2.2.2.2.2.2.2.2.2.2.2.2.2.2.2.2.2.2.2.2.2.2.2.2.2.2.2.2.2.2.2.2.2.2.2.2.2.2.2.1 zz.2.2.2.2.2.2.2.2.2.2.2.2.2.2.2.2.2.2.2.2.2.2.2.2.2.2.2.2.2.2.2.2.2.2.2.2.2.2.2.2.2.2.2.1 zz.2.2.2.2.2.2.2.2.2.2.2.2.2.2.2.2.2.2.2.2.2.2.2.2.2.2.2.2.2.2.2.2.2.2.2.2.2.2.2.2.2.2.2.2.1 zz.2.2.2.2.2.2.2.2.2.2.2.2.2.2.2.2.2.2.2.2.2.2.2.2.2.2.2.2.2.2.2.2.2.2.2.2.2.2.2.2.2.2.2.2.2.1 zz.2.2.2.2.2.2.2.2.2.2.2.2.2.2.2.2.2.2.2.2.2.2.2.2.2.2.2.2.2.2.2.2.2.2.2.2.2.2.2.2.2.2.2.2.2.2.1 zz.2.2.2.2.2.2.2.2.2.2.2.2.2.2.2.2.2.2.2.2.2.2.2.2.2.2.2.2.2.2.2.2.2.2.2.2.2.2.2.2.2.2.2.2.2.2.2.1 zz.2.2.2.2.2.2.2.2.2.2.2.2.2.2.2.2.2.2.2.2.2.2.2.2.2.2.2.2.2.2.2.2.2.2.2.2.2.2.2.2.2.2.2.2.2.2.2.2.1 zz.2.2.2.2.2.2.2.2.2.2.2.2.2.2.2.2.2.2.2.2.2.2.2.2.2.2.2.2.2.2.2.2.2.2.2.2.2.2.2.2.2.2.2.2.2.2.2.2.2.1 zz.2.2.2.2.2.2.2.2.2.2.2.2.2.2.2.2.2.2.2.2.2.2.2.2.2.2.2.2.2.2.2.2.2.2.2.2.2.2.2.2.2.2.2.2.2.2.2.2.2.2.1 zz.2.2.2.2.2.2.2.2.2.2.2.2.2.2.2.2.2.2.2.2.2.2.2.2.2.2.2.2.2.2.2.2.2.2.2.2.2.2.2.2.2.2.2.2.2.2.2.2.2.2.2.1 zz.2.2.2.2.2.2.2.2.2.2.2.2.2.2.2.2.2.2.2.2.2.2.2.2.2.2.2.2.2.2.2.2.2.2.2.2.2.2.2.2.2.2.2.2.2.2.2.2.2.2.2.2.1 zz.2.2.2.2.2.2.2.2.2.2.2.2.2.2.2.2.2.2.2.2.2.2.2.2.2.2.2.2.2.2.2.2.2.2.2.2.2.2.2.2.2.2.2.2.2.2.2.2.2.2.2.2.2.1 zz.2.2.2.2.2.2.2.2.2.2.2.2.2.2.2.2.2.2.2.2.2.2.2.2.2.2.2.2.2.2.2.2.2.2.2.2.2.2.2.2.2.2.2.2.2.2.2.2.2.2.2.2.2.2.1 zz.2.2.2.2.2.2.2.2.2.2.2.2.2.2.2.2.2.2.2.2.2.2.2.2.2.2.2.2.2.2.2.2.2.2.2.2.2.2.2.2.2.2.2.2.2.2.2.2.2.2.2.2.2.2.2.1 zz.2.2.2.2.2.2.2.2.2.2.2.2.2.2.2.2.2.2.2.2.2.2.2.2.2.2.2.2.2.2.2.2.2.2.2.2.2.2.2.2.2.2.2.2.2.2.2.2.2.2.2.2.2.2.2.2.1 zz.2.2.2.2.2.2.2.2.2.2.2.2.2.2.2.2.2.2.2.2.2.2.2.2.2.2.2.2.2.2.2.2.2.2.2.2.2.2.2.2.2.2.2.2.2.2.2.2.2.2.2.2.2.2.2.2.2.1 zz.2.2.2.2.2.2.2.2.2.2.2.2.2.2.2.2.2.2.2.2.2.2.2.2.2.2.2.2.2.2.2.2.2.2.2.2.2.2.2.2.2.2.2.2.2.2.2.2.2.2.2.2.2.2.2.2.2.2.1 zz.2.2.2.2.2.2.2.2.2.2.2.2.2.2.2.2.2.2.2.2.2.2.2.2.2.2.2.2.2.2.2.2.2.2.2.2.2.2.2.2.2.2.2.2.2.2.2.2.2.2.2.2.2.2.2.2.2.2.2.1 zz.2.2.2.2.2.2.2.2.2.2.2.2.2.2.2.2.2.2.2.2.2.2.2.2.2.2.2.2.2.2.2.2.2.2.2.2.2.2.2.2.2.2.2.2.2.2.2.2.2.2.2.2.2.2.2.2.2.2.2.2.1 zz.2.2.2.2.2.2.2.2.2.2.2.2.2.2.2.2.2.2.2.2.2.2.2.2.2.2.2.2.2.2.2.2.2.2.2.2.2.2.2.2.2.2.2.2.2.2.2.2.2.2.2.2.2.2.2.2.2.2.2.2.2.1 zz.2.2.2.2.2.2.2.2.2.2.2.2.2.2.2.2.2.2.2.2.2.2.2.2.2.2.2.2.2.2.2.2.2.2.2.2.2.2.2.2.2.2.2.2.2.2.2.2.2.2.2.2.2.2.2.2.2.2.2.2.2.2.1 zz.2.2.2.2.2.2.2.2.2.2.2.2.2.2.2.2.2.2.2.2.2.2.2.2.2.2.2.2.2.2.2.2.2.2.2.2.2.2.2.2.2.2.2.2.2.2.2.2.2.2.2.2.2.2.2.2.2.2.2.2.2.2.2
theorem zNe : Nonempty ((World) × (Around) × (Heap) × (Heap) × (List Env) × (Env) × (Nat) × (Nat) × (Addr) × (Str → Option Value) × (Str → Option Value) × (Str → Option Value) × (ExcName → Option Value) × (List (Addr × Obj)) × (Shared) × (Value → Shared → Prop) × (Value → Shared → Prop) × (Addr) × (Addr) × (Addr) × (Addr) × (Addr) × (Addr) × (Addr) × (List Value) × (List Value) × (Obj) × (List (Str × Value)) × (Str) × (Str) × (Value) × (Value) × (Value) × (Int) × (Int) × (Int) × (Int) × (Int) × (Int) × (Int) × (Int) × (Int) × (Int) × (Int) × (Int) × (Tok) × (Tok) × (Tok) × (Tok) × (Tok) × (Tok) × (Tok) × (Tok) × (Tok) × (Tok) × (Tok) × (Tok) × (Tok) × (Tok) × (Tok) × (Tok) × (Nat) × (Nat) × (Int)) := ⟨(dWorld, dAround, default, default, default, default, default, default, default, default, default, default, default, default, dShared, default, default, default, default, default, default, default, default, default, default, default, default, default, default, default, default, default, default, default, default, default, default, default, default, default, default, default, default, default, default, default, default, default, default, default, default, default, default, default, default, default, default, default, default, default, default, default, default, default)⟩
noncomputable def zC : (World) × (Around) × (Heap) × (Heap) × (List Env) × (Env) × (Nat) × (Nat) × (Addr) × (Str → Option Value) × (Str → Option Value) × (Str → Option Value) × (ExcName → Option Value) × (List (Addr × Obj)) × (Shared) × (Value → Shared → Prop) × (Value → Shared → Prop) × (Addr) × (Addr) × (Addr) × (Addr) × (Addr) × (Addr) × (Addr) × (List Value) × (List Value) × (Obj) × (List (Str × Value)) × (Str) × (Str) × (Value) × (Value) × (Value) × (Int) × (Int) × (Int) × (Int) × (Int) × (Int) × (Int) × (Int) × (Int) × (Int) × (Int) × (Int) × (Tok) × (Tok) × (Tok) × (Tok) × (Tok) × (Tok) × (Tok) × (Tok) × (Tok) × (Tok) × (Tok) × (Tok) × (Tok) × (Tok) × (Tok) × (Tok) × (Nat) × (Nat) × (Int) := @Classical.epsilon _ zNe fun c => ¬ zSc c
noncomputable def w : World := zC.1
noncomputable def A₀ : Around := zC.2.1
noncomputable def base : Heap := zC.2.2.1
noncomputable def h₀ : Heap := zC.2.2.2.1
noncomputable def outer : List Env := zC.2.2.2.2.1
noncomputable def env : Env := zC.2.2.2.2.2.1
noncomputable def d : Nat := zC.2.2.2.2.2.2.1
noncomputable def u : Nat := zC.2.2.2.2.2.2.2.1
noncomputable def L : Addr := zC.2.2.2.2.2.2.2.2.1
noncomputable def m : Str → Option Value := zC.2.2.2.2.2.2.2.2.2.1
noncomputable def mg : Str → Option Value := zC.2.2.2.2.2.2.2.2.2.2.1
noncomputable def mb : Str → Option Value := zC.2.2.2.2.2.2.2.2.2.2.2.1
noncomputable def mean : ExcName → Option Value := zC.2.2.2.2.2.2.2.2.2.2.2.2.1
noncomputable def news : List (Addr × Obj) := zC.2.2.2.2.2.2.2.2.2.2.2.2.2.1
noncomputable def s : Shared := zC.2.2.2.2.2.2.2.2.2.2.2.2.2.2.1
noncomputable def E : Value → Shared → Prop := zC.2.2.2.2.2.2.2.2.2.2.2.2.2.2.2.1
noncomputable def Q : Value → Shared → Prop := zC.2.2.2.2.2.2.2.2.2.2.2.2.2.2.2.2.1
noncomputable def ax : Addr := zC.2.2.2.2.2.2.2.2.2.2.2.2.2.2.2.2.2.1
noncomputable def ad : Addr := zC.2.2.2.2.2.2.2.2.2.2.2.2.2.2.2.2.2.2.1
noncomputable def ak : Addr := zC.2.2.2.2.2.2.2.2.2.2.2.2.2.2.2.2.2.2.2.1
noncomputable def sx : Addr := zC.2.2.2.2.2.2.2.2.2.2.2.2.2.2.2.2.2.2.2.2.1
noncomputable def sd : Addr := zC.2.2.2.2.2.2.2.2.2.2.2.2.2.2.2.2.2.2.2.2.2.1
noncomputable def nd : Addr := zC.2.2.2.2.2.2.2.2.2.2.2.2.2.2.2.2.2.2.2.2.2.2.1
noncomputable def od : Addr := zC.2.2.2.2.2.2.2.2.2.2.2.2.2.2.2.2.2.2.2.2.2.2.2.1
noncomputable def kpre : List Value := zC.2.2.2.2.2.2.2.2.2.2.2.2.2.2.2.2.2.2.2.2.2.2.2.2.1
noncomputable def os : List Value := zC.2.2.2.2.2.2.2.2.2.2.2.2.2.2.2.2.2.2.2.2.2.2.2.2.2.1
noncomputable def onames : Obj := zC.2.2.2.2.2.2.2.2.2.2.2.2.2.2.2.2.2.2.2.2.2.2.2.2.2.2.1
noncomputable def kvs : List (Str × Value) := zC.2.2.2.2.2.2.2.2.2.2.2.2.2.2.2.2.2.2.2.2.2.2.2.2.2.2.2.1
noncomputable def name : Str := zC.2.2.2.2.2.2.2.2.2.2.2.2.2.2.2.2.2.2.2.2.2.2.2.2.2.2.2.2.1
noncomputable def kind : Str := zC.2.2.2.2.2.2.2.2.2.2.2.2.2.2.2.2.2.2.2.2.2.2.2.2.2.2.2.2.2.1
noncomputable def ty : Value := zC.2.2.2.2.2.2.2.2.2.2.2.2.2.2.2.2.2.2.2.2.2.2.2.2.2.2.2.2.2.2.1
noncomputable def vtypes : Value := zC.2.2.2.2.2.2.2.2.2.2.2.2.2.2.2.2.2.2.2.2.2.2.2.2.2.2.2.2.2.2.2.1
noncomputable def vlabel : Value := zC.2.2.2.2.2.2.2.2.2.2.2.2.2.2.2.2.2.2.2.2.2.2.2.2.2.2.2.2.2.2.2.2.1
noncomputable def place : Int := zC.2.2.2.2.2.2.2.2.2.2.2.2.2.2.2.2.2.2.2.2.2.2.2.2.2.2.2.2.2.2.2.2.2.1
noncomputable def lv : Int := zC.2.2.2.2.2.2.2.2.2.2.2.2.2.2.2.2.2.2.2.2.2.2.2.2.2.2.2.2.2.2.2.2.2.2.1
noncomputable def slots : Int := zC.2.2.2.2.2.2.2.2.2.2.2.2.2.2.2.2.2.2.2.2.2.2.2.2.2.2.2.2.2.2.2.2.2.2.2.1
noncomputable def c1 : Int := zC.2.2.2.2.2.2.2.2.2.2.2.2.2.2.2.2.2.2.2.2.2.2.2.2.2.2.2.2.2.2.2.2.2.2.2.2.1
noncomputable def c2 : Int := zC.2.2.2.2.2.2.2.2.2.2.2.2.2.2.2.2.2.2.2.2.2.2.2.2.2.2.2.2.2.2.2.2.2.2.2.2.2.1
noncomputable def c3 : Int := zC.2.2.2.2.2.2.2.2.2.2.2.2.2.2.2.2.2.2.2.2.2.2.2.2.2.2.2.2.2.2.2.2.2.2.2.2.2.2.1
noncomputable def c4 : Int := zC.2.2.2.2.2.2.2.2.2.2.2.2.2.2.2.2.2.2.2.2.2.2.2.2.2.2.2.2.2.2.2.2.2.2.2.2.2.2.2.1
noncomputable def e1 : Int := zC.2.2.2.2.2.2.2.2.2.2.2.2.2.2.2.2.2.2.2.2.2.2.2.2.2.2.2.2.2.2.2.2.2.2.2.2.2.2.2.2.1
noncomputable def e2 : Int := zC.2.2.2.2.2.2.2.2.2.2.2.2.2.2.2.2.2.2.2.2.2.2.2.2.2.2.2.2.2.2.2.2.2.2.2.2.2.2.2.2.2.1
noncomputable def e3 : Int := zC.2.2.2.2.2.2.2.2.2.2.2.2.2.2.2.2.2.2.2.2.2.2.2.2.2.2.2.2.2.2.2.2.2.2.2.2.2.2.2.2.2.2.1
noncomputable def e4 : Int := zC.2.2.2.2.2.2.2.2.2.2.2.2.2.2.2.2.2.2.2.2.2.2.2.2.2.2.2.2.2.2.2.2.2.2.2.2.2.2.2.2.2.2.2.1
noncomputable def e5 : Int := zC.2.2.2.2.2.2.2.2.2.2.2.2.2.2.2.2.2.2.2.2.2.2.2.2.2.2.2.2.2.2.2.2.2.2.2.2.2.2.2.2.2.2.2.2.1
noncomputable def a1 : Tok := zC.2.2.2.2.2.2.2.2.2.2.2.2.2.2.2.2.2.2.2.2.2.2.2.2.2.2.2.2.2.2.2.2.2.2.2.2.2.2.2.2.2.2.2.2.2.1
noncomputable def a2 : Tok := zC.2.2.2.2.2.2.2.2.2.2.2.2.2.2.2.2.2.2.2.2.2.2.2.2.2.2.2.2.2.2.2.2.2.2.2.2.2.2.2.2.2.2.2.2.2.2.1
noncomputable def a3 : Tok := zC.2.2.2.2.2.2.2.2.2.2.2.2.2.2.2.2.2.2.2.2.2.2.2.2.2.2.2.2.2.2.2.2.2.2.2.2.2.2.2.2.2.2.2.2.2.2.2.1
noncomputable def a4 : Tok := zC.2.2.2.2.2.2.2.2.2.2.2.2.2.2.2.2.2.2.2.2.2.2.2.2.2.2.2.2.2.2.2.2.2.2.2.2.2.2.2.2.2.2.2.2.2.2.2.2.1
noncomputable def a5 : Tok := zC.2.2.2.2.2.2.2.2.2.2.2.2.2.2.2.2.2.2.2.2.2.2.2.2.2.2.2.2.2.2.2.2.2.2.2.2.2.2.2.2.2.2.2.2.2.2.2.2.2.1
noncomputable def a6 : Tok := zC.2.2.2.2.2.2.2.2.2.2.2.2.2.2.2.2.2.2.2.2.2.2.2.2.2.2.2.2.2.2.2.2.2.2.2.2.2.2.2.2.2.2.2.2.2.2.2.2.2.2.1
noncomputable def b1 : Tok := zC.2.2.2.2.2.2.2.2.2.2.2.2.2.2.2.2.2.2.2.2.2.2.2.2.2.2.2.2.2.2.2.2.2.2.2.2.2.2.2.2.2.2.2.2.2.2.2.2.2.2.2.1
noncomputable def b2 : Tok := zC.2.2.2.2.2.2.2.2.2.2.2.2.2.2.2.2.2.2.2.2.2.2.2.2.2.2.2.2.2.2.2.2.2.2.2.2.2.2.2.2.2.2.2.2.2.2.2.2.2.2.2.2.1
noncomputable def b3 : Tok := zC.2.2.2.2.2.2.2.2.2.2.2.2.2.2.2.2.2.2.2.2.2.2.2.2.2.2.2.2.2.2.2.2.2.2.2.2.2.2.2.2.2.2.2.2.2.2.2.2.2.2.2.2.2.1
noncomputable def b4 : Tok := zC.2.2.2.2.2.2.2.2.2.2.2.2.2.2.2.2.2.2.2.2.2.2.2.2.2.2.2.2.2.2.2.2.2.2.2.2.2.2.2.2.2.2.2.2.2.2.2.2.2.2.2.2.2.2.1
noncomputable def b5 : Tok := zC.2.2.2.2.2.2.2.2.2.2.2.2.2.2.2.2.2.2.2.2.2.2.2.2.2.2.2.2.2.2.2.2.2.2.2.2.2.2.2.2.2.2.2.2.2.2.2.2.2.2.2.2.2.2.2.1
noncomputable def b6 : Tok := zC.2.2.2.2.2.2.2.2.2.2.2.2.2.2.2.2.2.2.2.2.2.2.2.2.2.2.2.2.2.2.2.2.2.2.2.2.2.2.2.2.2.2.2.2.2.2.2.2.2.2.2.2.2.2.2.2.1
noncomputable def b7 : Tok := zC.2.2.2.2.2.2.2.2.2.2.2.2.2.2.2.2.2.2.2.2.2.2.2.2.2.2.2.2.2.2.2.2.2.2.2.2.2.2.2.2.2.2.2.2.2.2.2.2.2.2.2.2.2.2.2.2.2.1
noncomputable def tn : Tok := zC.2.2.2.2.2.2.2.2.2.2.2.2.2.2.2.2.2.2.2.2.2.2.2.2.2.2.2.2.2.2.2.2.2.2.2.2.2.2.2.2.2.2.2.2.2.2.2.2.2.2.2.2.2.2.2.2.2.2.1
noncomputable def tk' : Tok := zC.2.2.2.2.2.2.2.2.2.2.2.2.2.2.2.2.2.2.2.2.2.2.2.2.2.2.2.2.2.2.2.2.2.2.2.2.2.2.2.2.2.2.2.2.2.2.2.2.2.2.2.2.2.2.2.2.2.2.2.1
noncomputable def tp : Tok := zC.2.2.2.2.2.2.2.2.2.2.2.2.2.2.2.2.2.2.2.2.2.2.2.2.2.2.2.2.2.2.2.2.2.2.2.2.2.2.2.2.2.2.2.2.2.2.2.2.2.2.2.2.2.2.2.2.2.2.2.2.1
noncomputable def nk : Nat := zC.2.2.2.2.2.2.2.2.2.2.2.2.2.2.2.2.2.2.2.2.2.2.2.2.2.2.2.2.2.2.2.2.2.2.2.2.2.2.2.2.2.2.2.2.2.2.2.2.2.2.2.2.2.2.2.2.2.2.2.2.2.1
noncomputable def no : Nat := zC.2.2.2.2.2.2.2.2.2.2.2.2.2.2.2.2.2.2.2.2.2.2.2.2.2.2.2.2.2.2.2.2.2.2.2.2.2.2.2.2.2.2.2.2.2.2.2.2.2.2.2.2.2.2.2.2.2.2.2.2.2.2.1
noncomputable def clevel : Int := zC.2.2.2.2.2.2.2.2.2.2.2.2.2.2.2.2.2.2.2.2.2.2.2.2.2.2.2.2.2.2.2.2.2.2.2.2.2.2.2.2.2.2.2.2.2.2.2.2.2.2.2.2.2.2.2.2.2.2.2.2.2.2.2
theorem zCore (B : Below A₀ base outer h₀) (F : Fr h₀ L s.heap m) (X : (Mine.fr.heap_1 w.params).In h₀) (N : News h₀ L s.heap news) (T : Top Mine.vw (looseW Mine.vw []) mean mg mb h₀) (hf : env.frame = some L) (hke : env.scope.kind = .function) (hd : d < 900) (hsmall : ∀ q ∈ [(ax, instObj 172 ad), (ad, dictOf [⟨c1, .str (Str.ofString "types") a1, vtypes⟩, ⟨c2, .str (Str.ofString "module") a2, .str (Str.ofString "M") a5⟩, ⟨c3, .str (Str.ofString "stack") a3, .ref ak⟩, ⟨c4, .str (Str.ofString "level") a4, .int lv a6⟩] 4),
      (ak, listOf (kpre ++ [Value.ref sx]).toArray nk), (sx, instObj 109 sd), (sd, dictOf [⟨e1, .str (Str.ofString "level") b1, .int clevel b6⟩, ⟨e2, .str (Str.ofString "label") b2, vlabel⟩, ⟨e3, .str (Str.ofString "names") b3, .ref nd⟩, ⟨e4, .str (Str.ofString "order") b4, .ref od⟩, ⟨e5, .str (Str.ofString "slots") b5, .int slots b7⟩] 5),
      (nd, onames), (od, listOf os.toArray no)], q ∈ news) (hnd : [ax, ad, ak, sx, sd, nd, od].Nodup) (hkv : onames.IsDictOf (PySem.strKind Challenge.rw_nu0320_01.row.prog w) kvs) (hlo : (nd == sysModules) = false) (hk1 : kvs.length ≤ 1000) (hk2 : os.length ≤ 1000) (hdup : (valueAt kvs name).isSome = true → ∀ h' tk, Fr h₀ L h' m → News h₀ L h' news → Q .none { s with heap := h', toks := tk }) (hnew : valueAt kvs name = none → ∀ (h' : Heap) (tk : Nat) (x d : Addr) (es : List DictEntry) (n : Nat) (onames' : Obj) (no' : Nat) (t4 : Tok), Fr h₀ L h' m →
      ObjIs es (.str name tn) (.str kind tk') ty (.int place tp) (if 0 > lv then 0 else lv) (Str.ofString (if 0 ≤ lv then "M" else "")) (if isVar kind then slots else 0) .none →
      onames'.IsDictOf (PySem.strKind Challenge.rw_nu0320_01.row.prog w) (kvs ++ [(name, .ref x)]) → (∀ q ∈ news, q.1 ≠ x) → (∀ q ∈ news, q.1 ≠ d) → x ≠ d →
      (∀ news', (∀ q ∈ news', q ∈ [(x, instObj 52 d), (d, dictOf es n), (sd, dictOf [⟨e1, .str (Str.ofString "level") b1, .int clevel b6⟩, ⟨e2, .str (Str.ofString "label") b2, vlabel⟩, ⟨e3, .str (Str.ofString "names") b3, .ref nd⟩, ⟨e4, .str (Str.ofString "order") b4, .ref od⟩, ⟨e5, .str (Str.ofString "slots") b5, .int (if isVar kind then slots + 1 else slots) t4⟩] 5),
          (nd, onames'), (od, listOf (os ++ [Value.ref x]).toArray no')] ∨ (q ∈ news ∧ q.1 ≠ sd ∧ q.1 ≠ nd ∧ q.1 ≠ od)) → News h₀ L h' news') → Q (.ref x) { s with heap := h', toks := tk }) : wpAny (model Challenge.rw_nu0320_01.row.prog w) { handled := none, depth := d, frames := some (env :: outer), guards := some [], units := u } (call (.ref 162) [.ref ax, .str name tn, .str kind tk', ty, .int place tp]) Q E s := by
  revert X; k_fill; intro X
  refine wpAny_call ?_
  have hnd0 := hnd
  simp only [List.nodup_cons, List.mem_cons, not_or, List.not_mem_nil, not_false_eq_true, and_true, List.nodup_nil] at hnd
  obtain ⟨⟨n1, n2, n3, n4, n5, n6⟩, ⟨n7, n8, n9, n10, n11⟩, ⟨n12, n13, n14, n15⟩, ⟨n16, n17, n18⟩, ⟨n19, n20⟩, n21⟩ := hnd
  have N2 := news_sub N hsmall
  refine' code_defG B F X N2 T ?kA hf hke ?k6 ?k7 ?k8 ?k9 ?kB ?_ ?c2 ?c3 ?c4 ?c5; (case kA => exact rfl); (case k6 => k_is); (case k7 => k_is); (case k8 => k_room); (case k9 => exact BindsTo.of_eq rfl); (case c5 => decide); (case kB => exact locs rfl); (case c2 => exact rfl); (case c3 => exact rfl); (case c4 => exact rfl)
  intro g' L' h' FG' F' N' B' X' T' GS
  try dsimp only
  refine hold_post ?_
  k_fold
  (repeat' ((((fail_if_success (with_reducible show Hold _)); (fail_if_success (with_reducible show wpAny _ _ (call (Value.ref _) _ _) _ _ _)); first | (k_unfold; (try dsimp only)) | (k_end; wrow_close) | walk1 | (dsimp only; walk1) | (leave1; walk_say "STEP leave1"; try dsimp only)))))
  refine obj_spec B' (by assumption) X' (by assumption) T' rfl rfl (by show d + 1 < 950; omega) ?_
  intro h2 tk2 x d' es n F2 N2' hob f1 f2 hxd
  have hxn := (N2' _ (.head _)).2.2
  have hdn := (N2' _ (.tail _ (.head _))).2.2
  try dsimp only
  (repeat' ((((fail_if_success (with_reducible show Hold _)); (fail_if_success (with_reducible show wpAny _ _ (call (Value.ref _) _ _) _ _ _)); first | (k_unfold; (try dsimp only)) | (k_end; wrow_close) | walk1 | (dsimp only; walk1) | (leave1; walk_say "STEP leave1"; try dsimp only)))))
  all_goals (refine add_spec (ax := ax) (ad := ad) (ak := ak) (sx := sx) (sd := sd) (nd := nd) (od := od) (vlabel := vlabel) B' (by assumption) X' (by assumption) T' rfl rfl (by show d + 1 < 950; omega)  (nodup_two f1 f2 hxd hnd0) (by with_reducible assumption) hkv hlo hk1 hk2 ?_ ?_)
  all_goals first
    | (intro hv h3 tk3 F3 N3; (try dsimp only); (repeat' ((((fail_if_success (with_reducible show Hold _)); (fail_if_success (with_reducible show wpAny _ _ (call (Value.ref _) _ _) _ _ _)); first | (k_unfold; (try dsimp only)) | (k_end; wrow_close) | walk1 | (dsimp only; walk1) | (leave1; walk_say "STEP leave1"; try dsimp only))))))
    | (intro hv h3 tk3 es3 n3 on3 no3 t4 F3 hob3 hkv3 N3; (try dsimp only); (repeat' ((((fail_if_success (with_reducible show Hold _)); (fail_if_success (with_reducible show wpAny _ _ (call (Value.ref _) _ _) _ _ _)); first | (k_unfold; (try dsimp only)) | (k_end; wrow_close) | walk1 | (dsimp only; walk1) | (leave1; walk_say "STEP leave1"; try dsimp only))))))
  all_goals (dsimp only; k_unfold; (try dsimp only))
  all_goals (refine ⟨leaveK_ (by assumption) (by assumption) ?_⟩; intro kF kN; dsimp only)
  all_goals first
    | exact hdup (by assumption) _ _ kF (news_frame N hsmall GS (Fr.keep (by assumption)) kN (by intro q hq; exact .inr ⟨hq, fun r hr _ => .tail _ (.tail _ hr)⟩))
    | skip
  all_goals first
    | (have hl : 0 ≤ lv := (by omega); simp only [if_pos hl] at hnew)
    | (have hl : ¬ 0 ≤ lv := (by omega); simp only [if_neg hl] at hnew)
  all_goals exact hnew (by assumption) _ _ _ _ _ _ _ _ _ kF (by with_reducible assumption) (by assumption) (fresh_ne N GS hxn f1) (fresh_ne N GS hdn f2) hxd (insert_fin N hsmall GS (Fr.keep (by assumption)) kN)
end Zinsertspec
theorem insert_spec {w : World} {A₀ : Around} {base : Heap} {h₀ : Heap} {outer : List Env} {env : Env} {d : Nat} {u : Nat} {L : Addr} {m : Str → Option Value} {mg : Str → Option Value} {mb : Str → Option Value} {mean : ExcName → Option Value} {news : List (Addr × Obj)} {s : Shared} {E : Value → Shared → Prop} {Q : Value → Shared → Prop} {ax : Addr} {ad : Addr} {ak : Addr} {sx : Addr} {sd : Addr} {nd : Addr} {od : Addr} {kpre : List Value} {os : List Value} {onames : Obj} {kvs : List (Str × Value)} {name : Str} {kind : Str} {ty : Value} {vtypes : Value} {vlabel : Value} {place : Int} {lv : Int} {slots : Int} {c1 : Int} {c2 : Int} {c3 : Int} {c4 : Int} {e1 : Int} {e2 : Int} {e3 : Int} {e4 : Int} {e5 : Int} {a1 : Tok} {a2 : Tok} {a3 : Tok} {a4 : Tok} {a5 : Tok} {a6 : Tok} {b1 : Tok} {b2 : Tok} {b3 : Tok} {b4 : Tok} {b5 : Tok} {b6 : Tok} {b7 : Tok} {tn : Tok} {tk' : Tok} {tp : Tok} {nk : Nat} {no : Nat} {clevel : Int} (B : Below A₀ base outer h₀) (F : Fr h₀ L s.heap m) (X : (Mine.fr.heap_1 w.params).In h₀) (N : News h₀ L s.heap news) (T : Top Mine.vw (looseW Mine.vw []) mean mg mb h₀) (hf : env.frame = some L) (hke : env.scope.kind = .function) (hd : d < 900) (hsmall : ∀ q ∈ [(ax, instObj 172 ad), (ad, dictOf [⟨c1, .str (Str.ofString "types") a1, vtypes⟩, ⟨c2, .str (Str.ofString "module") a2, .str (Str.ofString "M") a5⟩, ⟨c3, .str (Str.ofString "stack") a3, .ref ak⟩, ⟨c4, .str (Str.ofString "level") a4, .int lv a6⟩] 4),
      (ak, listOf (kpre ++ [Value.ref sx]).toArray nk), (sx, instObj 109 sd), (sd, dictOf [⟨e1, .str (Str.ofString "level") b1, .int clevel b6⟩, ⟨e2, .str (Str.ofString "label") b2, vlabel⟩, ⟨e3, .str (Str.ofString "names") b3, .ref nd⟩, ⟨e4, .str (Str.ofString "order") b4, .ref od⟩, ⟨e5, .str (Str.ofString "slots") b5, .int slots b7⟩] 5),
      (nd, onames), (od, listOf os.toArray no)], q ∈ news) (hnd : [ax, ad, ak, sx, sd, nd, od].Nodup) (hkv : onames.IsDictOf (PySem.strKind Challenge.rw_nu0320_01.row.prog w) kvs) (hlo : (nd == sysModules) = false) (hk1 : kvs.length ≤ 1000) (hk2 : os.length ≤ 1000) (hdup : (valueAt kvs name).isSome = true → ∀ h' tk, Fr h₀ L h' m → News h₀ L h' news → Q .none { s with heap := h', toks := tk }) (hnew : valueAt kvs name = none → ∀ (h' : Heap) (tk : Nat) (x d : Addr) (es : List DictEntry) (n : Nat) (onames' : Obj) (no' : Nat) (t4 : Tok), Fr h₀ L h' m →
      ObjIs es (.str name tn) (.str kind tk') ty (.int place tp) (if 0 > lv then 0 else lv) (Str.ofString (if 0 ≤ lv then "M" else "")) (if isVar kind then slots else 0) .none →
      onames'.IsDictOf (PySem.strKind Challenge.rw_nu0320_01.row.prog w) (kvs ++ [(name, .ref x)]) → (∀ q ∈ news, q.1 ≠ x) → (∀ q ∈ news, q.1 ≠ d) → x ≠ d →
      (∀ news', (∀ q ∈ news', q ∈ [(x, instObj 52 d), (d, dictOf es n), (sd, dictOf [⟨e1, .str (Str.ofString "level") b1, .int clevel b6⟩, ⟨e2, .str (Str.ofString "label") b2, vlabel⟩, ⟨e3, .str (Str.ofString "names") b3, .ref nd⟩, ⟨e4, .str (Str.ofString "order") b4, .ref od⟩, ⟨e5, .str (Str.ofString "slots") b5, .int (if isVar kind then slots + 1 else slots) t4⟩] 5),
          (nd, onames'), (od, listOf (os ++ [Value.ref x]).toArray no')] ∨ (q ∈ news ∧ q.1 ≠ sd ∧ q.1 ≠ nd ∧ q.1 ≠ od)) → News h₀ L h' news') → Q (.ref x) { s with heap := h', toks := tk }) :
    wpAny (model Challenge.rw_nu0320_01.row.prog w) { handled := none, depth := d, frames := some (env :: outer), guards := some [], units := u } (call (.ref 162) [.ref ax, .str name tn, .str kind tk', ty, .int place tp]) Q E s :=
  (eps_all (ne := Zinsertspec.zNe) (P := Zinsertspec.zSc) Zinsertspec.zCore : ∀ c, Zinsertspec.zSc c) (w, A₀, base, h₀, outer, env, d, u, L, m, mg, mb, mean, news, s, E, Q, ax, ad, ak, sx, sd, nd, od, kpre, os, onames, kvs, name, kind, ty, vtypes, vlabel, place, lv, slots, c1, c2, c3, c4, e1, e2, e3, e4, e5, a1, a2, a3, a4, a5, a6, b1, b2, b3, b4, b5, b6, b7, tn, tk', tp, nk, no, clevel) B F X N T hf hke hd hsmall hnd hkv hlo hk1 hk2 hdup hnew
end
-- C5
section
structure OI where
  x : Addr
  d : Addr
  nm : Str
  kd : Str
  pl : Int
  lv : Int
def OI.kv (i : OI) : Str × Value := (i.nm, .ref i.x)
def OI.rf (i : OI) : Value := .ref i.x
def ItemIs (R : List (Addr × Obj)) (i : OI) : Prop := ∃ es n t1 t2 t3 ty md sl val, (i.x, instObj 52 i.d) ∈ R ∧ (i.d, dictOf es n) ∈ R ∧ ObjIs es (.str i.nm t1) (.str i.kd t2) ty (.int i.pl t3) i.lv md sl val
theorem ItemIs.mono {R R' : List (Addr × Obj)} {i : OI} (h : ItemIs R i) (hs : ∀ q ∈ R, q ∈ R') : ItemIs R' i := by
  obtain ⟨es, n, t1, t2, t3, ty, md, sl, val, a, b, c⟩ := h
  exact ⟨es, n, t1, t2, t3, ty, md, sl, val, hs _ a, hs _ b, c⟩
/-- the dict of the scopes' object, and of a scope -/
theorem updF_self {d : Addr} {o : Obj} {l : List (Addr × Obj)} {g : Obj → List (Addr × Obj)} (U : UpdF d o l g) : g o = l := by
  obtain ⟨pre, post, rfl, hg, a, b⟩ := U.split
  exact hg o
theorem insertU {w : World} {A₀ : Around} {base h₀ : Heap} {outer : List Env} {env : Env} {d u : Nat} {L : Addr} {m mg mb : Str → Option Value} {mean : ExcName → Option Value} {news : List (Addr × Obj)} {s : Shared}
    {E : Value → Shared → Prop} {Q : Value → Shared → Prop} {ax ad ak sx sd nd od : Addr} {kpre : List Value} {its : List OI} {onames : Obj} {name kind : Str} {ty vtypes vlabel : Value} {place lv slots : Int}
    {c1 c2 c3 c4 e1 e2 e3 e4 e5 : Int} {a1 a2 a3 a4 a5 a6 b1 b2 b3 b4 b5 b6 b7 tn tk' tp : Tok} {nk no : Nat} {clevel : Int}
    {g5 : Obj → List (Addr × Obj)} {g6 : Obj → Obj → List (Addr × Obj)} {g7 : Obj → Obj → Obj → List (Addr × Obj)}
    (B : Below A₀ base outer h₀) (F : Fr h₀ L s.heap m) (X : (Mine.fr.heap_1 w.params).In h₀) (N : News h₀ L s.heap news) (T : Top Mine.vw (looseW Mine.vw []) mean mg mb h₀)
    (hf : env.frame = some L) (hke : env.scope.kind = .function) (hd : d < 900)
    (m1 : (ax, instObj 172 ad) ∈ news) (m2 : (ad, scopesD c1 c2 c3 c4 a1 a2 a3 a4 vtypes (.str (Str.ofString "M") a5) ak lv a6) ∈ news) (m3 : (ak, listOf (kpre ++ [Value.ref sx]).toArray nk) ∈ news) (m4 : (sx, instObj 109 sd) ∈ news)
    (U5 : UpdF sd (scopeD e1 e2 e3 e4 e5 b1 b2 b3 b4 b5 clevel b6 vlabel nd od slots b7) news g5) (U6 : ∀ o5, UpdF nd onames (g5 o5) (g6 o5)) (U7 : ∀ o5 o6, UpdF od (listOf (its.map OI.rf).toArray no) (g6 o5 o6) (g7 o5 o6))
    (hnd : [ax, ad, ak, sx, sd, nd, od].Nodup) (hkv : onames.IsDictOf (PySem.strKind Challenge.rw_nu0320_01.row.prog w) (its.map OI.kv)) (hlo : (nd == sysModules) = false) (hk1 : its.length ≤ 1000)
    (hdup : (valueAt (its.map OI.kv) name).isSome = true → ∀ h' tk, Fr h₀ L h' m → News h₀ L h' news → Q .none { s with heap := h', toks := tk })
    (hnew : valueAt (its.map OI.kv) name = none → ∀ (h' : Heap) (tk : Nat) (x d : Addr) (es : List DictEntry) (n : Nat) (onames' : Obj) (no' : Nat) (t4 : Tok), Fr h₀ L h' m →
      ObjIs es (.str name tn) (.str kind tk') ty (.int place tp) (if 0 > lv then 0 else lv) (Str.ofString (if 0 ≤ lv then "M" else "")) (if isVar kind then slots else 0) .none →
      onames'.IsDictOf (PySem.strKind Challenge.rw_nu0320_01.row.prog w) ((its ++ [OI.mk x d name kind place (if 0 > lv then 0 else lv)]).map OI.kv) → (∀ q ∈ news, q.1 ≠ x) → (∀ q ∈ news, q.1 ≠ d) → x ≠ d →
      News h₀ L h' ((x, instObj 52 d) :: (d, dictOf es n) :: g7 (scopeD e1 e2 e3 e4 e5 b1 b2 b3 b4 b5 clevel b6 vlabel nd od (if isVar kind then slots + 1 else slots) t4) onames' (listOf ((its ++ [OI.mk x d name kind place (if 0 > lv then 0 else lv)]).map OI.rf).toArray no')) → Q (.ref x) { s with heap := h', toks := tk }) :
    wpAny (model Challenge.rw_nu0320_01.row.prog w) { handled := none, depth := d, frames := some (env :: outer), guards := some [], units := u } (call (.ref 162) [.ref ax, .str name tn, .str kind tk', ty, .int place tp]) Q E s := by
  have M5 := updF_in U5
  have M6 : (nd, onames) ∈ news := by have := updF_in (U6 (scopeD e1 e2 e3 e4 e5 b1 b2 b3 b4 b5 clevel b6 vlabel nd od slots b7)); rwa [updF_self U5] at this
  have M7 : (od, listOf (its.map OI.rf).toArray no) ∈ news := by
    have := updF_in (U7 (scopeD e1 e2 e3 e4 e5 b1 b2 b3 b4 b5 clevel b6 vlabel nd od slots b7) onames)
    rwa [updF_self (U6 _), updF_self U5] at this
  refine insert_spec (news := news) (kpre := kpre) (os := its.map OI.rf) (onames := onames) (kvs := its.map OI.kv) (vtypes := vtypes) (vlabel := vlabel) (lv := lv) (slots := slots) (clevel := clevel) (nk := nk) (no := no)
    (c1 := c1) (c2 := c2) (c3 := c3) (c4 := c4) (e1 := e1) (e2 := e2) (e3 := e3) (e4 := e4) (e5 := e5) (a1 := a1) (a2 := a2) (a3 := a3) (a4 := a4) (a5 := a5) (a6 := a6) (b1 := b1) (b2 := b2) (b3 := b3) (b4 := b4) (b5 := b5) (b6 := b6) (b7 := b7)
    (ad := ad) (ak := ak) (sx := sx) (sd := sd) (nd := nd) (od := od) B F X N T hf hke hd ?_ hnd hkv hlo (by simpa using hk1) (by simpa using hk1) hdup ?_
  · intro q hq
    simp only [List.mem_cons, List.not_mem_nil, or_false] at hq
    rcases hq with rfl | rfl | rfl | rfl | rfl | rfl | rfl <;> assumption
  · intro hv h' tk x dd es n on' no' t4 F' hob hd' hx hdd hxd hN
    refine hnew hv h' tk x dd es n on' no' t4 F' hob (by simpa [OI.kv] using hd') hx hdd hxd (hN _ ?_)
    intro q hq
    simp only [List.mem_cons, List.not_mem_nil, or_false]
    rcases List.mem_cons.mp hq with rfl | hq
    · exact .inl (.inl rfl)
    · rcases List.mem_cons.mp hq with rfl | hq
      · exact .inl (.inr (.inl rfl))
      · rcases updF_mem (U7 _ _) _ q hq with rfl | ⟨hq, n7⟩
        · left; right; right; right; right; simp [OI.rf]
        · rcases updF_mem (U6 _) _ q hq with rfl | ⟨hq, n6⟩
          · left; right; right; right; left; rfl
          · rcases updF_mem U5 _ q hq with rfl | ⟨hq, n5⟩
            · left; right; right; left; rfl
            · exact .inr ⟨hq, n5, n6, n7⟩
/-- what the predeclared objects are -/
def Spec21 (tb tc ty ti tm : Addr) (nm : Str) (t val : Value) : Prop :=
  (nm = Str.ofString "BOOLEAN" → t = .ref tb) ∧ (nm = Str.ofString "CHAR" → t = .ref tc) ∧ (nm = Str.ofString "BYTE" → t = .ref ty) ∧ (nm = Str.ofString "INTEGER" → t = .ref ti) ∧ (nm = Str.ofString "SET" → t = .ref tm) ∧
  (nm = Str.ofString "FALSE" → ∃ k, val = .int 0 k) ∧ (nm = Str.ofString "TRUE" → ∃ k, val = .int 1 k)
def Good (R : List (Addr × Obj)) (tb tc ty ti tm : Addr) (i : OI) : Prop := ∃ es n t1 t2 t3 tp md sl val, (i.x, instObj 52 i.d) ∈ R ∧ (i.d, dictOf es n) ∈ R ∧ ObjIs es (.str i.nm t1) (.str i.kd t2) tp (.int i.pl t3) i.lv md sl val ∧ i.lv = 0 ∧ isVar i.kd = false ∧ Spec21 tb tc ty ti tm i.nm tp val
theorem Good.mono {R R' : List (Addr × Obj)} {tb tc ty ti tm : Addr} {i : OI} (h : Good R tb tc ty ti tm i) (hs : ∀ q ∈ R, q ∈ R') : Good R' tb tc ty ti tm i := by
  obtain ⟨es, n, t1, t2, t3, tp, md, sl, val, a, b, c⟩ := h
  exact ⟨es, n, t1, t2, t3, tp, md, sl, val, hs _ a, hs _ b, c⟩
theorem dup_absurd {its : List OI} {l : List Str} {name : Str} (hk : its.map OI.nm = l) (hn : l.contains name = false) (h : (valueAt (its.map OI.kv) name).isSome = true) : False := by
  have : valueAt (its.map OI.kv) name = none := valueAt_none_of_not_mem (by
    rw [List.map_map]
    show name ∉ its.map OI.nm
    rw [hk]
    intro hm
    rw [List.contains_iff_mem.mpr hm] at hn; cases hn)
  rw [this] at h; cases h
theorem fold_item {w : World} {h₀ H : Heap} {L x d sd nd od : Addr} {es : List DictEntry} {n no : Nat} {on : Obj} {its : List OI} {i0 : OI} {e1 e2 e3 e4 e8 e9 : Addr × Obj} {o5 : Obj} {R : List (Addr × Obj)} {names : List Str} {tb tc ty ti tm : Addr} {t1 t2 t3 : Tok} {tp val : Value} {md : Str} {sl : Int}
    (N : News h₀ L H ((x, instObj 52 d) :: (d, dictOf es n) :: e1 :: e2 :: e3 :: e4 :: (sd, o5) :: (nd, on) :: (od, listOf ((its ++ [i0]).map OI.rf).toArray no) :: e8 :: e9 :: R)) (hx : i0.x = x) (hd : i0.d = d)
    (hkv : on.IsDictOf (PySem.strKind Challenge.rw_nu0320_01.row.prog w) ((its ++ [i0]).map OI.kv)) (ho : ObjIs es (.str i0.nm t1) (.str i0.kd t2) tp (.int i0.pl t3) i0.lv md sl val)
    (hall : ∀ i ∈ its, Good R tb tc ty ti tm i) (hk : its.map OI.nm = names) (hlv : i0.lv = 0) (hkd : isVar i0.kd = false) (hsp : Spec21 tb tc ty ti tm i0.nm tp val)
    (r5 : ∀ q ∈ R, q.1 ≠ sd) (r6 : ∀ q ∈ R, q.1 ≠ nd) (r7 : ∀ q ∈ R, q.1 ≠ od) (x5 : sd ≠ x) (x6 : nd ≠ x) (x7 : od ≠ x) (d5 : sd ≠ d) (d6 : nd ≠ d) (d7 : od ≠ d) :
    ∃ (its' : List OI) (R' : List (Addr × Obj)), on.IsDictOf (PySem.strKind Challenge.rw_nu0320_01.row.prog w) (its'.map OI.kv) ∧ (∀ i ∈ its', Good R' tb tc ty ti tm i) ∧ its'.map OI.nm = names ++ [i0.nm] ∧
      (∀ q ∈ R, q ∈ R') ∧ (∀ a : Addr, (∀ q ∈ R, q.1 ≠ a) → a ≠ x → a ≠ d → ∀ q ∈ R', q.1 ≠ a) ∧ (∀ q ∈ R', q.1 ≠ sd) ∧ (∀ q ∈ R', q.1 ≠ nd) ∧ (∀ q ∈ R', q.1 ≠ od) ∧ News h₀ L H (e1 :: e2 :: e3 :: e4 :: (sd, o5) :: (nd, on) :: (od, listOf (its'.map OI.rf).toArray no) :: e8 :: e9 :: R') := by
  refine ⟨its ++ [i0], (x, instObj 52 d) :: (d, dictOf es n) :: R, hkv, ?_, by rw [List.map_append, hk]; rfl, fun q hq => .tail _ (.tail _ hq), fun a h1 h2 h3 => List.forall_mem_cons.mpr ⟨Ne.symm h2, List.forall_mem_cons.mpr ⟨Ne.symm h3, h1⟩⟩, ?_, ?_, ?_, news_sub N ?_⟩
  · intro i hi
    rcases List.mem_append.mp hi with h | h
    · exact (hall i h).mono fun q hq => .tail _ (.tail _ hq)
    · rw [List.mem_singleton.mp h]
      exact ⟨es, n, t1, t2, t3, tp, md, sl, val, by rw [hx, hd]; exact .head _, by rw [hd]; exact .tail _ (.head _), ho, hlv, hkd, hsp⟩
  · exact List.forall_mem_cons.mpr ⟨Ne.symm x5, List.forall_mem_cons.mpr ⟨Ne.symm d5, r5⟩⟩
  · exact List.forall_mem_cons.mpr ⟨Ne.symm x6, List.forall_mem_cons.mpr ⟨Ne.symm d6, r6⟩⟩
  · exact List.forall_mem_cons.mpr ⟨Ne.symm x7, List.forall_mem_cons.mpr ⟨Ne.symm d7, r7⟩⟩
  · intro q hq
    simp only [List.mem_cons] at hq ⊢
    rcases hq with h | h | h | h | h | h | h | h | h | h | h | h <;> simp [h]
end
-- C5b
section
/-- a turn's end: what stands next is told by J -/
def TurnEnd (h₀ : Heap) (L : Addr) (s : Shared) (I : Addr) (own : List (Addr × Obj)) (J : (Str → Option Value) → List (Addr × Obj) → Prop) (s₂ : Shared) : Prop :=
  ∃ h' tk' m' nx, s₂ = { s with heap := h', toks := tk' } ∧ Fr h₀ L h' m' ∧ News h₀ L h' (own ++ nx) ∧ (∀ p ∈ nx, p.1 ≠ I) ∧ J m' nx
def TurnPost (h₀ : Heap) (L : Addr) (s : Shared) (I : Addr) (own : List (Addr × Obj)) (J : (Str → Option Value) → List (Addr × Obj) → Prop) (Q : Flow → Shared → Prop) (f : Flow) (s₂ : Shared) : Prop :=
  match f with
  | .ret v => Q (.ret v) s₂
  | .brk => Q .next s₂
  | _ => TurnEnd h₀ L s I own J s₂
theorem turn_next {h₀ : Heap} {L : Addr} {s : Shared} {I : Addr} {own : List (Addr × Obj)} {J : (Str → Option Value) → List (Addr × Obj) → Prop} {Q : Flow → Shared → Prop} {h' : Heap} {tk' : Nat} {m' : Str → Option Value} (nx : List (Addr × Obj))
    (F : Fr h₀ L h' m') (N : News h₀ L h' (own ++ nx)) (ho : ∀ p ∈ nx, p.1 ≠ I) (hJ : J m' nx) : TurnPost h₀ L s I own J Q .next { s with heap := h', toks := tk' } := ⟨h', tk', m', nx, rfl, F, N, ho, hJ⟩
section
variable {prog : Program} {w : World} {A : Around} {E : Value → Shared → Prop} {s : Shared} {env : Env} {h₀ : Heap} {x : Str} {body : List Stmt} {Q : Flow → Shared → Prop} {m : Str → Option Value} {news : List (Addr × Obj)}
theorem loopJ {I : Addr} {fp : List Addr} {n : Nat} {P : Nat → Value → Prop} {St : Nat → Heap → Prop} (W : Walks prog w A I fp [I] n P St) (hLf : env.locals ∉ fp) (hI0 : h₀.get? I = none) (hnI : ∀ p ∈ news, p.1 ≠ I)
    (hst : St 0 s.heap) (F : Fr h₀ env.locals s.heap m) (N : News h₀ env.locals s.heap news) (J : Nat → (Str → Option Value) → List (Addr × Obj) → Prop) (h0 : J 0 m news) (hIs : ∃ o, s.heap.get? I = some o)
    (hSt : ∀ i h, St i h → ∃ o, h.get? I = some o)
    (turn : ∀ i v m₁ nx h tk own, i < n → P i v → J i m₁ nx → (∀ p ∈ nx, p.1 ≠ I) → (∀ p ∈ own, p.1 ∈ fp) → (∃ o, (I, o) ∈ own) → Fr h₀ env.locals h (fun y => if y = x then some v else m₁ y) → News h₀ env.locals h (nx ++ own) →
      wpAny (model prog w) A (execs body env) (TurnPost h₀ env.locals s I own (J (i + 1)) Q) E { s with heap := h, toks := tk })
    (done : ∀ h tk m' nx, Fr h₀ env.locals h m' → News h₀ env.locals h nx → J n m' nx → Q .next { s with heap := h, toks := tk }) :
    LoopAtV prog w A h₀ env x body Q E (.ref I) s := by
  refine ⟨I, fp, [I], n, P, St, m, news, J, rfl, W, hLf, ?_, ?_, hst, F, N, h0, ?_, ?_⟩
  · intro b hb; rw [List.mem_singleton.mp hb]; exact hI0
  · intro p hp hb; exact hnI p hp (List.mem_singleton.mp hb)
  · rintro i v m₁ nx s₁ own ⟨h, tk, rfl⟩ hi hP hJ hoff hown hget hall hst₁ F₁ N₁
    have hIf : I ∈ fp := W.sub I (List.mem_singleton.mpr rfl)
    obtain ⟨oI, hoI⟩ := hSt _ _ hst₁
    refine wpAny_mono (turn i v m₁ nx h tk own hi hP hJ (fun p hp e => hoff p hp (List.mem_singleton.mpr e)) hown ⟨oI, hall I hIf hI0 oI hoI⟩ F₁ (news_sub N₁ fun q hq => ?_)) (fun f s₂ p => ?_) fun _ _ e => e
    · rcases List.mem_append.mp hq with h | h
      · exact List.mem_append_right _ h
      · exact List.mem_append_left _ h
    · have fin : TurnEnd h₀ env.locals s I own (J (i + 1)) s₂ → LoopStepU h₀ env.locals [I] own (J (i + 1)) { s with heap := h, toks := tk } .next s₂ := by
        rintro ⟨h', tk', m', nx', e, F', N', ho, hJ'⟩
        exact ⟨rfl, h', tk', m', nx', e, F', N', fun p hp hb => ho p hp (List.mem_singleton.mp hb), hJ'⟩
      cases f with
      | ret v => exact .ret p
      | brk => exact .brk p
      | next => exact .next (fin p)
      | cont => exact .cont (fin p)
  · intro h' tk m' nx F' N' _ hJ
    exact done h' tk m' nx F' N' hJ
theorem iter_tupJ {t : Addr} {vs : List Value} {ot : Obj} {nt : Nat} {all : List (Addr × Obj)} (hh : A.handled = none) (F : Fr h₀ env.locals s.heap m) (N : News h₀ env.locals s.heap all) (ht : (t, ot) ∈ all) (hc : ot.cls = .type "tuple") (hd : ot.data = .seq vs.toArray nt)
    (hsub : ∀ p ∈ news, p ∈ all) (J : Nat → (Str → Option Value) → List (Addr × Obj) → Prop) (h0 : J 0 m news)
    (turn : ∀ I i v m₁ nx h tk own, vs[i]? = some v → J i m₁ nx → (∀ p ∈ nx, p.1 ≠ I) → (∀ p ∈ own, p.1 = I ∨ p.1 = t) → (∃ o, (I, o) ∈ own) → Fr h₀ env.locals h (fun y => if y = x then some v else m₁ y) → News h₀ env.locals h (nx ++ own) →
      wpAny (model prog w) A (execs body env) (TurnPost h₀ env.locals s I own (J (i + 1)) Q) E { s with heap := h, toks := tk })
    (done : ∀ h tk m' nx, Fr h₀ env.locals h m' → News h₀ env.locals h nx → J vs.length m' nx → Q .next { s with heap := h, toks := tk }) :
    wpAny (model prog w) A (pyIter (.ref t)) (fun it s₂ => LoopAtV prog w A h₀ env x body Q E it s₂) E s := by
  have hT : IsTup s.heap t vs.toArray := ⟨ot, (N _ ht).1, hc, nt, hd⟩
  have hne : t ≠ s.heap.objs.size := Nat.ne_of_lt (Heap.lt_size (N _ ht).1)
  refine iter_tuple hT ?_
  have hLlt : env.locals < s.heap.objs.size := F.ns.lt
  refine loopJ (news := news) (fp := [s.heap.objs.size, t]) (Walks.tuple hh s.heap.objs.size t hne vs.toArray) ?_ (next_is_new F) ?_ ⟨⟨_, Heap.get?_push_size _ rfl, rfl, rfl⟩, ?_⟩ (F.push _) ?_ J h0 ⟨_, Heap.get?_push_size _ rfl⟩ (fun i h x => by obtain ⟨⟨o, ho, _⟩, _⟩ := x; exact ⟨o, ho⟩) ?_ ?_
  · intro hm
    rcases List.mem_cons.mp hm with e | hm
    · rw [e] at hLlt; exact Nat.lt_irrefl _ hLlt
    · exact (N _ ht).2.1 (List.mem_singleton.mp hm).symm
  · intro p hp e
    have := Heap.lt_size (N p (hsub p hp)).1
    rw [e] at this; exact Nat.lt_irrefl _ this
  · exact hT.push _
  · exact fun p hp => ⟨Heap.get?_push_of_some _ (N p (hsub p hp)).1, (N p (hsub p hp)).2⟩
  · intro i v m₁ nx h tk own hi hP hJ hoff hown hI F₁ N₁
    exact turn _ i v m₁ nx h tk own (by simpa using hP) hJ hoff (fun p hp => by simpa using hown p hp) hI F₁ N₁
  · intro h tk m' nx F' N' hJ
    exact done h tk m' nx F' N' (by simpa using hJ)
end
theorem insertU0 {w : World} {A₀ : Around} {base h₀ : Heap} {outer : List Env} {env : Env} {d u : Nat} {L : Addr} {m mg mb : Str → Option Value} {mean : ExcName → Option Value} {news : List (Addr × Obj)} {s : Shared}
    {E : Value → Shared → Prop} {Q : Value → Shared → Prop} {ax ad ak sx sd nd od : Addr} {kpre : List Value} {its : List OI} {onames : Obj} {name kind : Str} {ty vtypes vlabel : Value} {place lv slots : Int}
    {c1 c2 c3 c4 e1 e2 e3 e4 e5 : Int} {a1 a2 a3 a4 a5 a6 b1 b2 b3 b4 b5 b6 b7 tn tk' tp : Tok} {nk no : Nat} {clevel : Int}
    {g5 : Obj → List (Addr × Obj)} {g6 : Obj → Obj → List (Addr × Obj)} {g7 : Obj → Obj → Obj → List (Addr × Obj)}
    (B : Below A₀ base outer h₀) (F : Fr h₀ L s.heap m) (X : (Mine.fr.heap_1 w.params).In h₀) (N : News h₀ L s.heap news) (T : Top Mine.vw (looseW Mine.vw []) mean mg mb h₀)
    (hf : env.frame = some L) (hke : env.scope.kind = .function) (hd : d < 900)
    (m1 : (ax, instObj 172 ad) ∈ news) (m2 : (ad, scopesD c1 c2 c3 c4 a1 a2 a3 a4 vtypes (.str (Str.ofString "M") a5) ak lv a6) ∈ news) (m3 : (ak, listOf (kpre ++ [Value.ref sx]).toArray nk) ∈ news) (m4 : (sx, instObj 109 sd) ∈ news)
    (U5 : UpdF sd (scopeD e1 e2 e3 e4 e5 b1 b2 b3 b4 b5 clevel b6 vlabel nd od slots b7) news g5) (U6 : ∀ o5, UpdF nd onames (g5 o5) (g6 o5)) (U7 : ∀ o5 o6, UpdF od (listOf (its.map OI.rf).toArray no) (g6 o5 o6) (g7 o5 o6))
    (hnd : [ax, ad, ak, sx, sd, nd, od].Nodup) (hkv : onames.IsDictOf (PySem.strKind Challenge.rw_nu0320_01.row.prog w) (its.map OI.kv)) (hlo : (nd == sysModules) = false) (hk1 : its.length ≤ 1000)
    (hkd : isVar kind = false)
    (hdup : (valueAt (its.map OI.kv) name).isSome = true → ∀ h' tk, Fr h₀ L h' m → News h₀ L h' news → Q .none { s with heap := h', toks := tk })
    (hnew : valueAt (its.map OI.kv) name = none → ∀ (h' : Heap) (tk : Nat) (x d : Addr) (es : List DictEntry) (n : Nat) (onames' : Obj) (no' : Nat) (t4 : Tok), Fr h₀ L h' m →
      ObjIs es (.str name tn) (.str kind tk') ty (.int place tp) (if 0 > lv then 0 else lv) (Str.ofString (if 0 ≤ lv then "M" else "")) 0 .none →
      onames'.IsDictOf (PySem.strKind Challenge.rw_nu0320_01.row.prog w) ((its ++ [OI.mk x d name kind place (if 0 > lv then 0 else lv)]).map OI.kv) → (∀ q ∈ news, q.1 ≠ x) → (∀ q ∈ news, q.1 ≠ d) → x ≠ d →
      News h₀ L h' ((x, instObj 52 d) :: (d, dictOf es n) :: g7 (scopeD e1 e2 e3 e4 e5 b1 b2 b3 b4 b5 clevel b6 vlabel nd od slots t4) onames' (listOf ((its ++ [OI.mk x d name kind place (if 0 > lv then 0 else lv)]).map OI.rf).toArray no')) → Q (.ref x) { s with heap := h', toks := tk }) :
    wpAny (model Challenge.rw_nu0320_01.row.prog w) { handled := none, depth := d, frames := some (env :: outer), guards := some [], units := u } (call (.ref 162) [.ref ax, .str name tn, .str kind tk', ty, .int place tp]) Q E s := by
  refine insertU B F X N T hf hke hd m1 m2 m3 m4 U5 U6 U7 hnd hkv hlo hk1 hdup ?_
  intro hv h' tk x dd es n on' no' t4 F' hob hd' hx hdd hxd hN
  simp only [hkd, Bool.false_eq_true, if_false] at hob hN
  exact hnew hv h' tk x dd es n on' no' t4 F' hob hd' hx hdd hxd hN
end
-- C6
end
end
example {M : Model} {A : Around} {E : Value → Shared → Prop} {s : Shared} {Q : Flow → Shared → Prop} {env : Env} (h : Q .next s) : wpAny M A (execs [] env) Q E s := by
  first | (walk1; exact h) | exact fun _ _ _ => h
section
local macro_rules | `(tactic| walk_at "exec For") => `(tactic| (k_here; (rename Fr _ _ _ _ => lF'); (with_unfolding_all refine' For_invVF lF' ?k1 ?k2 ?_; (case k1 => exact rfl); (case k2 => exact rfl); k_whole)))
section
local macro_rules | `(tactic| k_in) => `(tactic| first | (with_reducible assumption) | exact Frag.In.keeps (by with_reducible assumption) (Fr.keep (by with_reducible assumption)))
section
def first7 : List Str := [Str.ofString "BOOLEAN", Str.ofString "CHAR", Str.ofString "BYTE", Str.ofString "INTEGER", Str.ofString "SET", Str.ofString "FALSE", Str.ofString "TRUE"]
def names14 : List Str := [Str.ofString "ABS", Str.ofString "ODD", Str.ofString "LEN", Str.ofString "LSL", Str.ofString "ASR", Str.ofString "ROR", Str.ofString "ORD", Str.ofString "CHR", Str.ofString "INC", Str.ofString "DEC", Str.ofString "INCL", Str.ofString "EXCL", Str.ofString "NEW", Str.ofString "ASSERT"]
theorem strs_get {vs : List Value} {ys : List Str} (h : StrsAre vs ys) : ∀ {i : Nat} {v : Value}, vs[i]? = some v → ∃ nm t, v = .str nm t ∧ ys[i]? = some nm := by
  induction h with
  | nil => intro i v h; simp at h
  | cons y t _ ih =>
    intro i v h
    cases i with
    | zero => simp at h; exact ⟨y, t, h.symm, rfl⟩
    | succ i => simp at h; simpa using ih h
theorem names_fresh {i : Nat} {nm : Str} (h : names14[i]? = some nm) : (first7 ++ names14.take i).contains nm = false := by
  have hi : i < 14 := by
    have := (List.getElem?_eq_some_iff.mp h).1
    simpa [names14] using this
  have key : ∀ j : Fin 14, (first7 ++ names14.take j.1).contains (names14[j.1]?.getD Str.empty) = false := by decide +kernel
  have := key ⟨i, hi⟩
  rw [h] at this
  exact this
theorem spec_std {i : Nat} {nm : Str} (h : names14[i]? = some nm) (tb tc ty ti tm : Addr) : ∀ t val, Spec21 tb tc ty ti tm nm t val := by
  have hi : i < 14 := by
    have := (List.getElem?_eq_some_iff.mp h).1
    simpa [names14] using this
  have key : ∀ j : Fin 14, first7.contains (names14[j.1]?.getD Str.empty) = false := by decide +kernel
  have hf := key ⟨i, hi⟩
  rw [h] at hf
  have hf' : first7.contains nm = false := hf
  have ne : ∀ z ∈ first7, nm ≠ z := fun z hz e => by
    rw [e, List.contains_iff_mem.mpr hz] at hf'; cases hf'
  intro t val
  refine ⟨fun e => absurd e (ne _ ?_), fun e => absurd e (ne _ ?_), fun e => absurd e (ne _ ?_), fun e => absurd e (ne _ ?_), fun e => absurd e (ne _ ?_), fun e => absurd e (ne _ ?_), fun e => absurd e (ne _ ?_)⟩ <;> simp [first7]
theorem take_next {i : Nat} {nm : Str} (h : names14[i]? = some nm) : first7 ++ names14.take i ++ [nm] = first7 ++ names14.take (i + 1) := by
  rw [List.take_add_one, h, List.append_assoc]; rfl
theorem map_pin {m : Str → Option Value} {n a b : Str} {v va vb : Value} (ha : m a = some va) (hb : m b = some vb) : (fun y => if y = n then some v else m y) = fun y => if y = n then some v else if y = a then some va else if y = b then some vb else m y := by
  funext y
  by_cases h1 : y = n
  · simp [h1]
  · simp only [if_neg h1]
    by_cases h2 : y = a
    · rw [if_pos h2, h2, ha]
    · rw [if_neg h2]
      by_cases h3 : y = b
      · rw [if_pos h3, h3, hb]
      · rw [if_neg h3]
theorem own_off {I D a : Addr} {own : List (Addr × Obj)} (hown : ∀ p ∈ own, p.1 = I ∨ p.1 = D) (h1 : a ≠ I) (h2 : a ≠ D) : ∀ p ∈ own, p.1 ≠ a := fun p hp e => by
  rcases hown p hp with h | h
  · exact h1 (e.symm.trans h)
  · exact h2 (e.symm.trans h)
theorem off_app {R own : List (Addr × Obj)} {a : Addr} (h1 : ∀ q ∈ R, q.1 ≠ a) (h2 : ∀ q ∈ own, q.1 ≠ a) : ∀ q ∈ R ++ own, q.1 ≠ a := fun q hq => (List.mem_append.mp hq).elim (h1 q) (h2 q)
def OffS (S : List Addr) (R : List (Addr × Obj)) : Prop := ∀ a ∈ S, ∀ q ∈ R, q.1 ≠ a
theorem off_step {S : List Addr} {R R' : List (Addr × Obj)} {x d : Addr} (h : OffS S R) (hx : ∀ a ∈ S, a ≠ x) (hd : ∀ a ∈ S, a ≠ d) (k : ∀ a : Addr, (∀ q ∈ R, q.1 ≠ a) → a ≠ x → a ≠ d → ∀ q ∈ R', q.1 ≠ a) : OffS S R' :=
  fun a ha => k a (h a ha) (hx a ha) (hd a ha)
theorem off_cons2 {S : List Addr} {R : List (Addr × Obj)} {x d : Addr} {ox od : Obj} (h : OffS S R) (hx : ∀ a ∈ S, a ≠ x) (hd : ∀ a ∈ S, a ≠ d) : OffS S ((x, ox) :: (d, od) :: R) :=
  fun a ha => List.forall_mem_cons.mpr ⟨Ne.symm (hx a ha), List.forall_mem_cons.mpr ⟨Ne.symm (hd a ha), h a ha⟩⟩
theorem len_of {its : List OI} {l : List Str} (hk : its.map OI.nm = l) (hl : l.length ≤ 1000) : its.length ≤ 1000 := by
  rw [← hk, List.length_map] at hl; exact hl
theorem all9 {P : Addr × Obj → Prop} {e1 e2 e3 e4 e5 e6 e7 e8 e9 : Addr × Obj} {R : List (Addr × Obj)} (h : ∀ q ∈ e1 :: e2 :: e3 :: e4 :: e5 :: e6 :: e7 :: e8 :: e9 :: R, P q) : P e1 ∧ P e2 ∧ P e3 ∧ P e4 ∧ P e5 ∧ P e6 ∧ P e7 ∧ P e8 ∧ P e9 ∧ ∀ q ∈ R, P q := by
  simpa only [List.forall_mem_cons] using h
local macro_rules | `(tactic| walk_at "execs cons") => `(tactic| k_dflt ((with_reducible rename News _ _ _ ((_, instObj 52 _) :: (_, dictOf _ _) :: (_, instObj 172 _) :: _) => hN9); (obtain ⟨its', R', q1', q2', q3', _, qa', q4', q5', q6', N'⟩ := fold_item hN9 rfl rfl (by with_reducible assumption) (by with_reducible assumption) (by with_reducible assumption) (by with_reducible assumption) (by rfl) (by (dsimp only; decide)) (by first | exact (by with_reducible assumption : ∀ t val, Spec21 _ _ _ _ _ _ t val) _ _ | (dsimp only; refine ⟨?_, ?_, ?_, ?_, ?_, ?_, ?_⟩ <;> intro hh9 <;> first | rfl | exact ⟨_, rfl⟩ | exact absurd hh9 (by decide))) (by with_reducible assumption) (by with_reducible assumption) (by with_reducible assumption) (by k_ne) (by k_ne) (by k_ne) (by k_ne) (by k_ne) (by k_ne)); clear hN9; (have qS' := off_step (by with_reducible assumption) (by k_all) (by k_all) qa'); clear qa'; (try dsimp only [List.nil_append, List.cons_append] at q3')))
local macro_rules | `(tactic| walk_at "call ref") => `(tactic| ( (k_dflt (show wpAny _ _ (call (Value.ref 162) _ _) _ _ _)); (k_dflt (refine' insertU0 ?B ?F ?X ?N ?T ?hf ?hke ?hd ?m1 ?m2 ?m3 ?m4 ?U5 ?U6 ?U7 ?hnd ?hkv ?hlo ?hk1 ?hkd ?hdup ?_; (case N => with_reducible assumption); (case B => with_reducible assumption); (case F => with_reducible assumption); (case X => with_reducible assumption); (case T => with_reducible assumption); (case hf => exact rfl); (case hke => exact rfl); (case hd => simp only [depth_under_make, depth_under_kw, depth_in1, depth_deeper]; omega); (case m1 => k_mem); (case m2 => k_mem); (case m3 => k_mem); (case m4 => k_mem); (case U5 => k_updF); (case U6 => (intro o5; (try dsimp only); k_updF)); (case U7 => (intro o5 o6; (try dsimp only); k_updF)); (case hnd => with_reducible assumption); (case hkv => with_reducible assumption); (case hlo => with_reducible assumption); (case hk1 => first | (with_reducible assumption) | exact len_of (by with_reducible assumption) (Nat.le_of_ble_eq_true rfl)); (case hkd => decide); (case hdup => (intro hd'; exact (dup_absurd (by with_reducible assumption) (by first | (with_reducible assumption) | decide +kernel) hd').elim)))); (intro _ h' tk' x' d' es' n1' on' no' t4' F' hob' hdk' u1' u2' u3' N'); (try dsimp only at N'); (obtain ⟨v1', v2', v3', v4', v5', v6', v7', v8', v9', vR'⟩ := all9 u1'); (obtain ⟨w1', w2', w3', w4', w5', w6', w7', w8', w9', wR'⟩ := all9 u2'); (clear u1' u2'); (try dsimp only at v1' v2' v3' v4' v5' v6' v7' v8' v9' w1' w2' w3' w4' w5' w6' w7' w8' w9'); (try k_sweep)))
local macro_rules | `(tactic| walk_at "setAttr ref") => `(tactic| (k_here; (with_reducible show wpAny _ _ (setAttr _ (PySem.Str.ofString "value") _) _ _ _); k_dflt (refine' set_value ?k1 ?k2 ?k3 ?k4 ?k5 ?k6 ?_; (case k1 => k_asm); (case k2 => k_asm); (case k3 => k_asm); (case k4 => k_mem); (case k5 => k_updF); (case k6 => with_reducible assumption)); intro h' es' n1' F' N' hob'; (try dsimp only at N'); (try k_sweep)))
local macro_rules | `(tactic| walk_at "getAttr ref") => `(tactic| (k_here; k_dflt (refine' get_own ?k1 ?k2 ?k3 ?k4 ?k5 ?k6 ?k7 ?k8 ?k9 ?_; (case k1 => k_asm); (case k2 => k_asm); (case k3 => k_inst); (case k8 => with_reducible assumption); (case k4 => k_is); (case k5 => k_is); (case k6 => k_is); (case k7 => k_is); (case k9 => k_handed); k_whole)))
def FillJ (w : World) (ax ad ak sx sd nd od tx td tb tc ty ti tm : Addr) (kpre : List Value) (c1 c2 c3 c4 e1 e2 e3 e4 e5 : Int) (a1 a2 a3 a4 a5 a6 b1 b2 b3 b4 b5 b6 : Tok) (nk tnn : Nat) (clevel : Int) (vlabel : Value) (slots : Int) (tes : List DictEntry) (i : Nat) (m : Str → Option Value) (nx : List (Addr × Obj)) : Prop :=
  ∃ (its : List OI) (R : List (Addr × Obj)) (on : Obj) (no : Nat) (t4 : Tok),
    nx = (ax, instObj 172 ad) :: (ad, scopesD c1 c2 c3 c4 a1 a2 a3 a4 (.ref tx) (.str (Str.ofString "M") a5) ak (-1) a6) :: (ak, listOf (kpre ++ [Value.ref sx]).toArray nk) :: (sx, instObj 109 sd) ::
      (sd, scopeD e1 e2 e3 e4 e5 b1 b2 b3 b4 b5 clevel b6 vlabel nd od slots t4) :: (nd, on) :: (od, listOf (its.map OI.rf).toArray no) :: (tx, instObj 88 td) :: (td, dictOf tes tnn) :: R ∧
    on.IsDictOf (PySem.strKind Challenge.rw_nu0320_01.row.prog w) (its.map OI.kv) ∧ (∀ i ∈ its, Good R tb tc ty ti tm i) ∧ its.map OI.nm = first7 ++ names14.take i ∧ (∀ q ∈ R, q.1 ≠ sd) ∧ (∀ q ∈ R, q.1 ≠ nd) ∧ (∀ q ∈ R, q.1 ≠ od) ∧ OffS [ax, ad, ak, sx, sd, nd, od, tx, td] R ∧
    m (Str.ofString "scopes") = some (.ref ax) ∧ m (Str.ofString "types") = some (.ref tx)
theorem fill_turn {w : World} {ax ad ak sx sd nd od tx td tb tc ty ti tm : Addr} {kpre : List Value} {c1 c2 c3 c4 e1 e2 e3 e4 e5 : Int} {a1 a2 a3 a4 a5 a6 b1 b2 b3 b4 b5 b6 : Tok} {nk tnn : Nat} {clevel : Int} {vlabel : Value} {slots : Int} {tes : List DictEntry} {i : Nat} {m : Str → Option Value}
    {h₀ h' : Heap} {L I x d : Addr} {tk : Nat} {s : Shared} {es : List DictEntry} {n no : Nat} {on : Obj} {t4 t1 t2 t3 : Tok} {its : List OI} {i0 : OI} {own R : List (Addr × Obj)} {md : Str} {sl : Int} {val tp : Value} {Q : Flow → Shared → Prop}
    (F : Fr h₀ L h' m) (N : News h₀ L h' ((x, instObj 52 d) :: (d, dictOf es n) :: (ax, instObj 172 ad) :: (ad, scopesD c1 c2 c3 c4 a1 a2 a3 a4 (.ref tx) (.str (Str.ofString "M") a5) ak (-1) a6) :: (ak, listOf (kpre ++ [Value.ref sx]).toArray nk) :: (sx, instObj 109 sd) ::
      (sd, scopeD e1 e2 e3 e4 e5 b1 b2 b3 b4 b5 clevel b6 vlabel nd od slots t4) :: (nd, on) :: (od, listOf ((its ++ [i0]).map OI.rf).toArray no) :: (tx, instObj 88 td) :: (td, dictOf tes tnn) :: (R ++ own)))
    (hkv : on.IsDictOf (PySem.strKind Challenge.rw_nu0320_01.row.prog w) ((its ++ [i0]).map OI.kv)) (ho : ObjIs es (.str i0.nm t1) (.str i0.kd t2) tp (.int i0.pl t3) i0.lv md sl val) (hx : i0.x = x) (hd : i0.d = d) (hlv : i0.lv = 0) (hkd : isVar i0.kd = false)
    (hall : ∀ i ∈ its, Good R tb tc ty ti tm i) (hk : its.map OI.nm = first7 ++ names14.take i) (hnm : names14[i]? = some i0.nm) (r5 : ∀ q ∈ R, q.1 ≠ sd) (r6 : ∀ q ∈ R, q.1 ≠ nd) (r7 : ∀ q ∈ R, q.1 ≠ od)
    (x5 : sd ≠ x) (x6 : nd ≠ x) (x7 : od ≠ x) (d5 : sd ≠ d) (d6 : nd ≠ d) (d7 : od ≠ d) (vR : ∀ q ∈ R ++ own, q.1 ≠ x) (wR : ∀ q ∈ R ++ own, q.1 ≠ d) (hI : ∃ o, (I, o) ∈ own)
    (hoff : ∀ p ∈ (ax, instObj 172 ad) :: (ad, scopesD c1 c2 c3 c4 a1 a2 a3 a4 (.ref tx) (.str (Str.ofString "M") a5) ak (-1) a6) :: (ak, listOf (kpre ++ [Value.ref sx]).toArray nk) :: (sx, instObj 109 sd) ::
      (sd, scopeD e1 e2 e3 e4 e5 b1 b2 b3 b4 b5 clevel b6 vlabel nd od slots b6) :: (nd, on) :: (od, on) :: (tx, instObj 88 td) :: (td, dictOf tes tnn) :: R, p.1 ≠ I)
    (hS : OffS [ax, ad, ak, sx, sd, nd, od, tx, td] R) (xS : ∀ a ∈ [ax, ad, ak, sx, sd, nd, od, tx, td], a ≠ x) (dS : ∀ a ∈ [ax, ad, ak, sx, sd, nd, od, tx, td], a ≠ d) (ms1 : m (Str.ofString "scopes") = some (.ref ax)) (ms2 : m (Str.ofString "types") = some (.ref tx)) :
    TurnPost h₀ L s I own (FillJ w ax ad ak sx sd nd od tx td tb tc ty ti tm kpre c1 c2 c3 c4 e1 e2 e3 e4 e5 a1 a2 a3 a4 a5 a6 b1 b2 b3 b4 b5 b6 nk tnn clevel vlabel slots tes (i + 1)) Q .next { s with heap := h', toks := tk } := by
  obtain ⟨oI, hI⟩ := hI
  have xI : x ≠ I := fun e => vR _ (List.mem_append_right _ hI) e.symm
  have dI : d ≠ I := fun e => wR _ (List.mem_append_right _ hI) e.symm
  refine turn_next ((ax, instObj 172 ad) :: (ad, scopesD c1 c2 c3 c4 a1 a2 a3 a4 (.ref tx) (.str (Str.ofString "M") a5) ak (-1) a6) :: (ak, listOf (kpre ++ [Value.ref sx]).toArray nk) :: (sx, instObj 109 sd) ::
      (sd, scopeD e1 e2 e3 e4 e5 b1 b2 b3 b4 b5 clevel b6 vlabel nd od slots t4) :: (nd, on) :: (od, listOf ((its ++ [i0]).map OI.rf).toArray no) :: (tx, instObj 88 td) :: (td, dictOf tes tnn) :: (x, instObj 52 d) :: (d, dictOf es n) :: R) F (news_sub N ?_) ?_
    ⟨its ++ [i0], (x, instObj 52 d) :: (d, dictOf es n) :: R, on, no, t4, rfl, hkv, ?_, ?_, ?_, ?_, ?_, off_cons2 hS xS dS, ms1, ms2⟩
  · intro q hq
    simp only [List.mem_cons, List.mem_append] at hq ⊢
    rcases hq with h | h | h | h | h | h | h | h | h | h | h | h | h <;> simp [h]
  · simp only [List.forall_mem_cons] at hoff ⊢
    obtain ⟨o1, o2, o3, o4, o5, o6, o7, o8, o9, oR⟩ := hoff
    exact ⟨o1, o2, o3, o4, o5, o6, o7, o8, o9, xI, dI, oR⟩
  · intro i hi
    rcases List.mem_append.mp hi with h | h
    · exact (hall i h).mono fun q hq => .tail _ (.tail _ hq)
    · rw [List.mem_singleton.mp h]
      exact ⟨es, n, t1, t2, t3, tp, md, sl, val, by rw [hx, hd]; exact .head _, by rw [hd]; exact .tail _ (.head _), ho, hlv, hkd, spec_std hnm tb tc ty ti tm tp val⟩
  · rw [List.map_append, hk, List.map_cons, List.map_nil, take_next hnm]
  · exact List.forall_mem_cons.mpr ⟨Ne.symm x5, List.forall_mem_cons.mpr ⟨Ne.symm d5, r5⟩⟩
  · exact List.forall_mem_cons.mpr ⟨Ne.symm x6, List.forall_mem_cons.mpr ⟨Ne.symm d6, r6⟩⟩
  · exact List.forall_mem_cons.mpr ⟨Ne.symm x7, List.forall_mem_cons.mpr ⟨Ne.symm d7, r7⟩⟩
namespace Zfillspec
def zSt (w : World) (A₀ : Around) (base : Heap) (h₀ : Heap) (outer : List Env) (env : Env) (d : Nat) (u : Nat) (L : Addr) (m : Str → Option Value) (mg : Str → Option Value) (mb : Str → Option Value) (mean : ExcName → Option Value) (news : List (Addr × Obj)) (s : Shared) (E : Value → Shared → Prop) (Q : Value → Shared → Prop) (ax : Addr) (ad : Addr) (ak : Addr) (sx : Addr) (sd : Addr) (nd : Addr) (od : Addr) (tx : Addr) (td : Addr) (tb : Addr) (tc : Addr) (ty : Addr) (ti : Addr) (tm : Addr) (tn : Addr) (kpre : List Value) (onames : Obj) (vlabel : Value) (slots : Int) (c1 : Int) (c2 : Int) (c3 : Int) (c4 : Int) (e1 : Int) (e2 : Int) (e3 : Int) (e4 : Int) (e5 : Int) (a1 : Tok) (a2 : Tok) (a3 : Tok) (a4 : Tok) (a5 : Tok) (a6 : Tok) (b1 : Tok) (b2 : Tok) (b3 : Tok) (b4 : Tok) (b5 : Tok) (b6 : Tok) (b7 : Tok) (nk : Nat) (no : Nat) (tnn : Nat) (clevel : Int) (tes : List DictEntry) : Prop := ∀ (B : Below A₀ base outer h₀) (F : Fr h₀ L s.heap m) (X : (Mine.fr.heap_1 w.params).In h₀) (N : News h₀ L s.heap news) (T : Top Mine.vw (looseW Mine.vw []) mean mg mb h₀) (hf : env.frame = some L) (hke : env.scope.kind = .function) (hd : d < 800) (hsmall : ∀ q ∈ [(ax, instObj 172 ad), (ad, scopesD c1 c2 c3 c4 a1 a2 a3 a4 (.ref tx) (.str (Str.ofString "M") a5) ak (-1) a6), (ak, listOf (kpre ++ [Value.ref sx]).toArray nk), (sx, instObj 109 sd),
      (sd, scopeD e1 e2 e3 e4 e5 b1 b2 b3 b4 b5 clevel b6 vlabel nd od slots b7), (nd, onames), (od, listOf (([] : List OI).map OI.rf).toArray no), (tx, instObj 88 td), (td, dictOf tes tnn)], q ∈ news) (hnd : [ax, ad, ak, sx, sd, nd, od].Nodup) (n1 : tx ≠ sd) (n2 : tx ≠ nd) (n3 : tx ≠ od) (n4 : td ≠ sd) (n5 : td ≠ nd) (n6 : td ≠ od) (hkv : onames.IsDictOf (PySem.strKind Challenge.rw_nu0320_01.row.prog w) (([] : List OI).map OI.kv)) (hlo : (nd == sysModules) = false) (g1 : getL (Str.ofString "boolean") tes = some (some (.ref tb))) (g2 : getL (Str.ofString "char") tes = some (some (.ref tc))) (g3 : getL (Str.ofString "byte") tes = some (some (.ref ty))) (g4 : getL (Str.ofString "integer") tes = some (some (.ref ti))) (g5 : getL (Str.ofString "mask") tes = some (some (.ref tm))) (g6 : getL (Str.ofString "none") tes = some (some (.ref tn))) (h : ∀ (h' : Heap) (tk : Nat) (its : List OI) (R' : List (Addr × Obj)) (on' : Obj) (no' : Nat) (t4 : Tok), Fr h₀ L h' m → on'.IsDictOf (PySem.strKind Challenge.rw_nu0320_01.row.prog w) (its.map OI.kv) → (∀ i ∈ its, Good R' tb tc ty ti tm i) → its.map OI.nm = first7 ++ names14 →
      (∀ p ∈ R', ∀ q ∈ news, q.1 ≠ p.1) → (∀ news', (∀ q ∈ news', q ∈ (sd, scopeD e1 e2 e3 e4 e5 b1 b2 b3 b4 b5 clevel b6 vlabel nd od slots t4) :: (nd, on') :: (od, listOf (its.map OI.rf).toArray no') :: R' ∨ (q ∈ news ∧ q.1 ≠ sd ∧ q.1 ≠ nd ∧ q.1 ≠ od)) → News h₀ L h' news') →
      Q .none { s with heap := h', toks := tk }), wpAny (model Challenge.rw_nu0320_01.row.prog w) { handled := none, depth := d, frames := some (env :: outer), guards := some [], units := u } (call (.ref 197) [.ref ax]) Q E s
def zSc (zz : (World) × (Around) × (Heap) × (Heap) × (List Env) × (Env) × (Nat) × (Nat) × (Addr) × (Str → Option Value) × (Str → Option Value) × (Str → Option Value) × (ExcName → Option Value) × (List (Addr × Obj)) × (Shared) × (Value → Shared → Prop) × (Value → Shared → Prop) × (Addr) × (Addr) × (Addr) × (Addr) × (Addr) × (Addr) × (Addr) × (Addr) × (Addr) × (Addr) × (Addr) × (Addr) × (Addr) × (Addr) × (Addr) × (List Value) × (Obj) × (Value) × (Int) × (Int) × (Int) × (Int) × (Int) × (Int) × (Int) × (Int) × (Int) × (Int) × (Tok) × (Tok) × (Tok) × (Tok) × (Tok) × (Tok) × (Tok) × (Tok) × (Tok) × (Tok) × (Tok) × (Tok) × (Tok) × (Nat) × (Nat) × (Nat) × (Int) × (List DictEntry)) : Prop := zSt zz.1 zz.2.1 zz.2.2.1 zz.2.2.2.1 zz.2.2.2.2.1 zz.2.2.2.2.2.1 zz.2.2.2.2.2.2.1 zz.2.2.2.2.2.2.2.1 zz.2.2.2.2.2.2.2.2.1 zz.2.2.2.2.2.2.2.2.2.1 zz.2.2.2.2.2.2.2.2.2.2.1 zz.2.2.2.2.2.2.2.2.2.2.2.1 zz.2.2.2.2.2.2.2.2.2.2.2.2.1 zz.2.2.2.2.2.2.2.2.2.2.2.2.2.1 zz.2.2.2.2.2.2.2.2.2.2.2.2.2.2.1 zz.2.2.2.2.2.2.2.2.2.2.2.2.2.2.2.1 zz.2.2.2.2.2.2.2.2.2.2.2.2.2.2.2.2.1 zz.2.2.2.2.2.2.2.2.2.2.2.2.2.2.2.2.2.1 zz.2.2.2.2.2.2.2.2.2.2.2.2.2.2.2.2.2.2.1 zz.2.2.2.2.2.2.2.2.2.2.2.2.2.2.2.2.2.2.2.1 zz.2.2.2.2.2.2.2.2.2.2.2.2.2.2.2.2.2.2.2.2.1 zz.2.2.2.2.2.2.2.2.2.2.2.2.2.2.2.2.2.2.2.2.2.1 zz.2.2.2.2.2.2.2.2.2.2.2.2.2.2.2.2.2.2.2.2.2.2.1 zz.2.2.2.2.2.2.2.2.2.2.2.2.2.2.2.2.2.2.2.2.2.2.2.1 zz.2.2.2.2.2.2.2.2.2.2.2.2.2.2.2.2.2.2.2.2.2.2.2.2.1 zz.2.2.2.2.2.2.2.2.2.2.2.2.2.2.2.2.2.2.2.2.2.2.2.2.2.1 zz.2.2.2.2.2.2.2.2.2.2.2.2.2.2.2.2.2.2.2.2.2.2.2.2.2.2.1 zz.2.2.2.2.2.2.2.2.2.2.2.2.2.2.2.2.2.2.2.2.2.2.2.2.2.2.2.1 zz.2.2.2.2.2.2.2.2.2.2.2.2.2.2.2.2.2.2.2.2.2.2.2.2.2.2.2.2.1 zz.2.2.2.2.2.2.2.2.2.2.2.2.2.2.2.2.2.2.2.2.2.2.2.2.2.2.2.2.2.1 zz.2.2.2.2.2.2.2.2.2.2.2.2.2.2.2.2.2.2.2.2.2.2.2.2.2.2.2.2.2.2.1 zz.2.2.2.2.2.2.2.2.2.2.2.2.2.2.2.2.2.2.2.2.2.2.2.2.2.2.2.2.2.2.2.1 zz.2.2.2.2.2.2.2.2.2.2.2.2.2.2.2.2.2.2.2.2.2.2.2.2.2.2.2.2.2.2.2.2.1 zz.2.2.2.2.2.2.2.2.2.2.2.2.2.2.2.2.2.2.2.2.2.2.2.2.2.2.2.2.2.2.2.2.2.1 zz.2.2.2.2.2.2.2.2.2.2.2.2.2.2.2.2.2.2.2.2.2.2.2.2.2.2.2.2.2.2.2.2.2.2.1 zz.2.2.2.2.2.2.2.2.2.2.2.2.2.2.2.2.2.2.2.2.2.2.2.2.2.2.2.2.2.2.2.2.2.2.2.1 zz.2.2.2.2.2.2.2.2.2.2.2.2.2.2.2.2.2.2.2.2.2.2.2.2.2.2.2.2.2.2.2.2.2.2.2.2.1 zz.2.2.2.2.2.2.2.2.2.2.2.2.2.2.2.2.2.2.2.2.2.2.2.2.2.2.2.2.2.2.2.2.2.2.2.2.2.1 zz.2.2.2.2.2.2.2.2.2.2.2.2.2.2.2.2.2.2.2.2.2.2.2.2.2.2.2.2.2.2.2.2.2.2.2.2.2.2.1 zz.2.2.2.2.2.2.2.2.2.2.2.2.2.2.2.2.2.2.2.2.2.2.2.2.2.2.2.2.2.2.2.2.2.2.2.2.2.2.2.1 zz.2.2.2.2.2.2.2.2.2.2.2.2.2.2.2.2.2.2.2.2.2.2.2.2.2.2.2.2.2.2.2.2.2.2.2.2.2.2.2.2.1 zz.2.2.2.2.2.2.2.2.2.2.2.2.2.2.2.2.2.2.2.2.2.2.2.2.2.2.2.2.2.2.2.2.2.2.2.2.2.2.2.2.2.1 zz.2.2.2.2.2.2.2.2.2.2.2.2.2.2.2.2.2.2.2.2.2.2.2.2.2.2.2.2.2.2.2.2.2.2.2.2.2.2.2.2.2.2.1 zz.2.2.2.2.2.2.2.2.2.2.2.2.2.2.2.2.2.2.2.2.2.2.2.2.2.2.2.2.2.2.2.2.2.2.2.2.2.2.2.2.2.2.2.1 zz.2.2.2.2.2.2.2.2.2.2.2.2.2.2.2.2.2.2.2.2.2.2.2.2.2.2.2.2.2.2.2.2.2.2.2.2.2.2.2.2.2.2.2.2.1 zz.2.2.2.2.2.2.2.2.2.2.2.2.2.2.2.2.2.2.2.2.2.2.2.2.2.2.2.2.2.2.2.2.2.2.2.2.2.2.2.2.2.2.2.2.2.1 zz.2.2.2.2.2.2.2.2.2.2.2.2.2.2.2.2.2.2.2.2.2.2.2.2.2.2.2.2.2.2.2.2.2.2.2.2.2.2.2.2.2.2.2.2.2.2.1 zz.2.2.2.2.2.2.2.2.2.2.2.2.2.2.2.2.2.2.2.2.2.2.2.2.2.2.2.2.2.2.2.2.2.2.2.2.2.2.2.2.2.2.2.2.2.2.2.1 zz.2.2.2.2.2.2.2.2.2.2.2.2.2.2.2.2.2.2.2.2.2.2.2.2.2.2.2.2.2.2.2.2.2.2.2.2.2.2.2.2.2.2.2.2.2.2.2.2.1 zz.2.2.2.2.2.2.2.2.2.2.2.2.2.2.2.2.2.2.2.2.2.2.2.2.2.2.2.2.2.2.2.2.2.2.2.2.2.2.2.2.2.2.2.2.2.2.2.2.2.1 zz.2.2.2.2.2.2.2.2.2.2.2.2.2.2.2.2.2.2.2.2.2.2.2.2.2.2.2.2.2.2.2.2.2.2.2.2.2.2.2.2.2.2.2.2.2.2.2.2.2.2.1 zz.2.2.2.2.2.2.2.2.2.2.2.2.2.2.2.2.2.2.2.2.2.2.2.2.2.2.2.2.2.2.2.2.2.2.2.2.2.2.2.2.2.2.2.2.2.2.2.2.2.2.2.1 zz.2.2.2.2.2.2.2.2.2.2.2.2.2.2.2.2.2.2.2.2.2.2.2.2.2.2.2.2.2.2.2.2.2.2.2.2.2.2.2.2.2.2.2.2.2.2.2.2.2.2.2.2.1 zz.2.2.2.2.2.2.2.2.2.2.2.2.2.2.2.2.2.2.2.2.2.2.2.2.2.2.2.2.2.2.2.2.2.2.2.2.2.2.2.2.2.2.2.2.2.2.2.2.2.2.2.2.2.1 zz.2.2.2.2.2.2.2.2.2.2.2.2.2.2.2.2.2.2.2.2.2.2.2.2.2.2.2.2.2.2.2.2.2.2.2.2.2.2.2.2.2.2.2.2.2.2.2.2.2.2.2.2.2.2.1 zz.2.2.2.2.2.2.2.2.2.2.2.2.2.2.2.2.2.2.2.2.2.2.2.2.2.2.2.2.2.2.2.2.2.2.2.2.2.2.2.2.2.2.2.2.2.2.2.2.2.2.2.2.2.2.2.1 zz.2.2.2.2.2.2.2.2.2.2.2.2.2.2.2.2.2.2.2.2.2.2.2.2.2.2.2.2.2.2.2.2.2.2.2.2.2.2.2.2.2.2.2.2.2.2.2.2.2.2.2.2.2.2.2.2.1 zz.2.2.2.2.2.2.2.2.2.2.2.2.2.2.2.2.2.2.2.2.2.2.2.2.2.2.2.2.2.2.2.2.2.2.2.2.2.2.2.2.2.2.2.2.2.2.2.2.2.2.2.2.2.2.2.2.2.1 zz.2.2.2.2.2.2.2.2.2.2.2.2.2.2.2.2.2.2.2.2.2.2.2.2.2.2.2.2.2.2.2.2.2.2.2.2.2.2.2.2.2.2.2.2.2.2.2.2.2.2.2.2.2.2.2.2.2.2.1 zz.2.2.2.2.2.2.2.2.2.2.2.2.2.2.2.2.2.2.2.2.2.2.2.2.2.2.2.2.2.2.2.2.2.2.2.2.2.2.2.2.2.2.2.2.2.2.2.2.2.2.2.2.2.2.2.2.2.2.2.1 zz.2.2.2.2.2.2.2.2.2.2.2.2.2.2.2.2.2.2.2.2.2.2.2.2.2.2.2.2.2.2.2.2.2.2.2.2.2.2.2.2.2.2.2.2.2.2.2.2.2.2.2.2.2.2.2.2.2.2.2.2.1 zz.2.2.2.2.2.2.2.2.2.2.2.2.2.2.2.2.2.2.2.2.2.2.2.2.2.2.2.2.2.2.2.2.2.2.2.2.2.2.2.2.2.2.2.2.2.2.2.2.2.2.2.2.2.2.2.2.2.2.2.2.2.1 zz.2.2.2.2.2.2.2.2.2.2.2.2.2.2.2.2.2.2.2.2.2.2.2.2.2.2.2.2.2.2.2.2.2.2.2.2.2.2.2.2.2.2.2.2.2.2.2.2.2.2.2.2.2.2.2.2.2.2.2.2.2.2
theorem zNe : Nonempty ((World) × (Around) × (Heap) × (Heap) × (List Env) × (Env) × (Nat) × (Nat) × (Addr) × (Str → Option Value) × (Str → Option Value) × (Str → Option Value) × (ExcName → Option Value) × (List (Addr × Obj)) × (Shared) × (Value → Shared → Prop) × (Value → Shared → Prop) × (Addr) × (Addr) × (Addr) × (Addr) × (Addr) × (Addr) × (Addr) × (Addr) × (Addr) × (Addr) × (Addr) × (Addr) × (Addr) × (Addr) × (Addr) × (List Value) × (Obj) × (Value) × (Int) × (Int) × (Int) × (Int) × (Int) × (Int) × (Int) × (Int) × (Int) × (Int) × (Tok) × (Tok) × (Tok) × (Tok) × (Tok) × (Tok) × (Tok) × (Tok) × (Tok) × (Tok) × (Tok) × (Tok) × (Tok) × (Nat) × (Nat) × (Nat) × (Int) × (List DictEntry)) := ⟨(dWorld, dAround, default, default, default, default, default, default, default, default, default, default, default, default, dShared, default, default, default, default, default, default, default, default, default, default, default, default, default, default, default, default, default, default, default, default, default, default, default, default, default, default, default, default, default, default, default, default, default, default, default, default, default, default, default, default, default, default, default, default, default, default, default, default)⟩
noncomputable def zC : (World) × (Around) × (Heap) × (Heap) × (List Env) × (Env) × (Nat) × (Nat) × (Addr) × (Str → Option Value) × (Str → Option Value) × (Str → Option Value) × (ExcName → Option Value) × (List (Addr × Obj)) × (Shared) × (Value → Shared → Prop) × (Value → Shared → Prop) × (Addr) × (Addr) × (Addr) × (Addr) × (Addr) × (Addr) × (Addr) × (Addr) × (Addr) × (Addr) × (Addr) × (Addr) × (Addr) × (Addr) × (Addr) × (List Value) × (Obj) × (Value) × (Int) × (Int) × (Int) × (Int) × (Int) × (Int) × (Int) × (Int) × (Int) × (Int) × (Tok) × (Tok) × (Tok) × (Tok) × (Tok) × (Tok) × (Tok) × (Tok) × (Tok) × (Tok) × (Tok) × (Tok) × (Tok) × (Nat) × (Nat) × (Nat) × (Int) × (List DictEntry) := @Classical.epsilon _ zNe fun c => ¬ zSc c
noncomputable def w : World := zC.1
noncomputable def A₀ : Around := zC.2.1
noncomputable def base : Heap := zC.2.2.1
noncomputable def h₀ : Heap := zC.2.2.2.1
noncomputable def outer : List Env := zC.2.2.2.2.1
noncomputable def env : Env := zC.2.2.2.2.2.1
noncomputable def d : Nat := zC.2.2.2.2.2.2.1
noncomputable def u : Nat := zC.2.2.2.2.2.2.2.1
noncomputable def L : Addr := zC.2.2.2.2.2.2.2.2.1
noncomputable def m : Str → Option Value := zC.2.2.2.2.2.2.2.2.2.1
noncomputable def mg : Str → Option Value := zC.2.2.2.2.2.2.2.2.2.2.1
noncomputable def mb : Str → Option Value := zC.2.2.2.2.2.2.2.2.2.2.2.1
noncomputable def mean : ExcName → Option Value := zC.2.2.2.2.2.2.2.2.2.2.2.2.1
noncomputable def news : List (Addr × Obj) := zC.2.2.2.2.2.2.2.2.2.2.2.2.2.1
noncomputable def s : Shared := zC.2.2.2.2.2.2.2.2.2.2.2.2.2.2.1
noncomputable def E : Value → Shared → Prop := zC.2.2.2.2.2.2.2.2.2.2.2.2.2.2.2.1
noncomputable def Q : Value → Shared → Prop := zC.2.2.2.2.2.2.2.2.2.2.2.2.2.2.2.2.1
noncomputable def ax : Addr := zC.2.2.2.2.2.2.2.2.2.2.2.2.2.2.2.2.2.1
noncomputable def ad : Addr := zC.2.2.2.2.2.2.2.2.2.2.2.2.2.2.2.2.2.2.1
noncomputable def ak : Addr := zC.2.2.2.2.2.2.2.2.2.2.2.2.2.2.2.2.2.2.2.1
noncomputable def sx : Addr := zC.2.2.2.2.2.2.2.2.2.2.2.2.2.2.2.2.2.2.2.2.1
noncomputable def sd : Addr := zC.2.2.2.2.2.2.2.2.2.2.2.2.2.2.2.2.2.2.2.2.2.1
noncomputable def nd : Addr := zC.2.2.2.2.2.2.2.2.2.2.2.2.2.2.2.2.2.2.2.2.2.2.1
noncomputable def od : Addr := zC.2.2.2.2.2.2.2.2.2.2.2.2.2.2.2.2.2.2.2.2.2.2.2.1
noncomputable def tx : Addr := zC.2.2.2.2.2.2.2.2.2.2.2.2.2.2.2.2.2.2.2.2.2.2.2.2.1
noncomputable def td : Addr := zC.2.2.2.2.2.2.2.2.2.2.2.2.2.2.2.2.2.2.2.2.2.2.2.2.2.1
noncomputable def tb : Addr := zC.2.2.2.2.2.2.2.2.2.2.2.2.2.2.2.2.2.2.2.2.2.2.2.2.2.2.1
noncomputable def tc : Addr := zC.2.2.2.2.2.2.2.2.2.2.2.2.2.2.2.2.2.2.2.2.2.2.2.2.2.2.2.1
noncomputable def ty : Addr := zC.2.2.2.2.2.2.2.2.2.2.2.2.2.2.2.2.2.2.2.2.2.2.2.2.2.2.2.2.1
noncomputable def ti : Addr := zC.2.2.2.2.2.2.2.2.2.2.2.2.2.2.2.2.2.2.2.2.2.2.2.2.2.2.2.2.2.1
noncomputable def tm : Addr := zC.2.2.2.2.2.2.2.2.2.2.2.2.2.2.2.2.2.2.2.2.2.2.2.2.2.2.2.2.2.2.1
noncomputable def tn : Addr := zC.2.2.2.2.2.2.2.2.2.2.2.2.2.2.2.2.2.2.2.2.2.2.2.2.2.2.2.2.2.2.2.1
noncomputable def kpre : List Value := zC.2.2.2.2.2.2.2.2.2.2.2.2.2.2.2.2.2.2.2.2.2.2.2.2.2.2.2.2.2.2.2.2.1
noncomputable def onames : Obj := zC.2.2.2.2.2.2.2.2.2.2.2.2.2.2.2.2.2.2.2.2.2.2.2.2.2.2.2.2.2.2.2.2.2.1
noncomputable def vlabel : Value := zC.2.2.2.2.2.2.2.2.2.2.2.2.2.2.2.2.2.2.2.2.2.2.2.2.2.2.2.2.2.2.2.2.2.2.1
noncomputable def slots : Int := zC.2.2.2.2.2.2.2.2.2.2.2.2.2.2.2.2.2.2.2.2.2.2.2.2.2.2.2.2.2.2.2.2.2.2.2.1
noncomputable def c1 : Int := zC.2.2.2.2.2.2.2.2.2.2.2.2.2.2.2.2.2.2.2.2.2.2.2.2.2.2.2.2.2.2.2.2.2.2.2.2.1
noncomputable def c2 : Int := zC.2.2.2.2.2.2.2.2.2.2.2.2.2.2.2.2.2.2.2.2.2.2.2.2.2.2.2.2.2.2.2.2.2.2.2.2.2.1
noncomputable def c3 : Int := zC.2.2.2.2.2.2.2.2.2.2.2.2.2.2.2.2.2.2.2.2.2.2.2.2.2.2.2.2.2.2.2.2.2.2.2.2.2.2.1
noncomputable def c4 : Int := zC.2.2.2.2.2.2.2.2.2.2.2.2.2.2.2.2.2.2.2.2.2.2.2.2.2.2.2.2.2.2.2.2.2.2.2.2.2.2.2.1
noncomputable def e1 : Int := zC.2.2.2.2.2.2.2.2.2.2.2.2.2.2.2.2.2.2.2.2.2.2.2.2.2.2.2.2.2.2.2.2.2.2.2.2.2.2.2.2.1
noncomputable def e2 : Int := zC.2.2.2.2.2.2.2.2.2.2.2.2.2.2.2.2.2.2.2.2.2.2.2.2.2.2.2.2.2.2.2.2.2.2.2.2.2.2.2.2.2.1
noncomputable def e3 : Int := zC.2.2.2.2.2.2.2.2.2.2.2.2.2.2.2.2.2.2.2.2.2.2.2.2.2.2.2.2.2.2.2.2.2.2.2.2.2.2.2.2.2.2.1
noncomputable def e4 : Int := zC.2.2.2.2.2.2.2.2.2.2.2.2.2.2.2.2.2.2.2.2.2.2.2.2.2.2.2.2.2.2.2.2.2.2.2.2.2.2.2.2.2.2.2.1
noncomputable def e5 : Int := zC.2.2.2.2.2.2.2.2.2.2.2.2.2.2.2.2.2.2.2.2.2.2.2.2.2.2.2.2.2.2.2.2.2.2.2.2.2.2.2.2.2.2.2.2.1
noncomputable def a1 : Tok := zC.2.2.2.2.2.2.2.2.2.2.2.2.2.2.2.2.2.2.2.2.2.2.2.2.2.2.2.2.2.2.2.2.2.2.2.2.2.2.2.2.2.2.2.2.2.1
noncomputable def a2 : Tok := zC.2.2.2.2.2.2.2.2.2.2.2.2.2.2.2.2.2.2.2.2.2.2.2.2.2.2.2.2.2.2.2.2.2.2.2.2.2.2.2.2.2.2.2.2.2.2.1
noncomputable def a3 : Tok := zC.2.2.2.2.2.2.2.2.2.2.2.2.2.2.2.2.2.2.2.2.2.2.2.2.2.2.2.2.2.2.2.2.2.2.2.2.2.2.2.2.2.2.2.2.2.2.2.1
noncomputable def a4 : Tok := zC.2.2.2.2.2.2.2.2.2.2.2.2.2.2.2.2.2.2.2.2.2.2.2.2.2.2.2.2.2.2.2.2.2.2.2.2.2.2.2.2.2.2.2.2.2.2.2.2.1
noncomputable def a5 : Tok := zC.2.2.2.2.2.2.2.2.2.2.2.2.2.2.2.2.2.2.2.2.2.2.2.2.2.2.2.2.2.2.2.2.2.2.2.2.2.2.2.2.2.2.2.2.2.2.2.2.2.1
noncomputable def a6 : Tok := zC.2.2.2.2.2.2.2.2.2.2.2.2.2.2.2.2.2.2.2.2.2.2.2.2.2.2.2.2.2.2.2.2.2.2.2.2.2.2.2.2.2.2.2.2.2.2.2.2.2.2.1
noncomputable def b1 : Tok := zC.2.2.2.2.2.2.2.2.2.2.2.2.2.2.2.2.2.2.2.2.2.2.2.2.2.2.2.2.2.2.2.2.2.2.2.2.2.2.2.2.2.2.2.2.2.2.2.2.2.2.2.1
noncomputable def b2 : Tok := zC.2.2.2.2.2.2.2.2.2.2.2.2.2.2.2.2.2.2.2.2.2.2.2.2.2.2.2.2.2.2.2.2.2.2.2.2.2.2.2.2.2.2.2.2.2.2.2.2.2.2.2.2.1
noncomputable def b3 : Tok := zC.2.2.2.2.2.2.2.2.2.2.2.2.2.2.2.2.2.2.2.2.2.2.2.2.2.2.2.2.2.2.2.2.2.2.2.2.2.2.2.2.2.2.2.2.2.2.2.2.2.2.2.2.2.1
noncomputable def b4 : Tok := zC.2.2.2.2.2.2.2.2.2.2.2.2.2.2.2.2.2.2.2.2.2.2.2.2.2.2.2.2.2.2.2.2.2.2.2.2.2.2.2.2.2.2.2.2.2.2.2.2.2.2.2.2.2.2.1
noncomputable def b5 : Tok := zC.2.2.2.2.2.2.2.2.2.2.2.2.2.2.2.2.2.2.2.2.2.2.2.2.2.2.2.2.2.2.2.2.2.2.2.2.2.2.2.2.2.2.2.2.2.2.2.2.2.2.2.2.2.2.2.1
noncomputable def b6 : Tok := zC.2.2.2.2.2.2.2.2.2.2.2.2.2.2.2.2.2.2.2.2.2.2.2.2.2.2.2.2.2.2.2.2.2.2.2.2.2.2.2.2.2.2.2.2.2.2.2.2.2.2.2.2.2.2.2.2.1
noncomputable def b7 : Tok := zC.2.2.2.2.2.2.2.2.2.2.2.2.2.2.2.2.2.2.2.2.2.2.2.2.2.2.2.2.2.2.2.2.2.2.2.2.2.2.2.2.2.2.2.2.2.2.2.2.2.2.2.2.2.2.2.2.2.1
noncomputable def nk : Nat := zC.2.2.2.2.2.2.2.2.2.2.2.2.2.2.2.2.2.2.2.2.2.2.2.2.2.2.2.2.2.2.2.2.2.2.2.2.2.2.2.2.2.2.2.2.2.2.2.2.2.2.2.2.2.2.2.2.2.2.1
noncomputable def no : Nat := zC.2.2.2.2.2.2.2.2.2.2.2.2.2.2.2.2.2.2.2.2.2.2.2.2.2.2.2.2.2.2.2.2.2.2.2.2.2.2.2.2.2.2.2.2.2.2.2.2.2.2.2.2.2.2.2.2.2.2.2.1
noncomputable def tnn : Nat := zC.2.2.2.2.2.2.2.2.2.2.2.2.2.2.2.2.2.2.2.2.2.2.2.2.2.2.2.2.2.2.2.2.2.2.2.2.2.2.2.2.2.2.2.2.2.2.2.2.2.2.2.2.2.2.2.2.2.2.2.2.1
noncomputable def clevel : Int := zC.2.2.2.2.2.2.2.2.2.2.2.2.2.2.2.2.2.2.2.2.2.2.2.2.2.2.2.2.2.2.2.2.2.2.2.2.2.2.2.2.2.2.2.2.2.2.2.2.2.2.2.2.2.2.2.2.2.2.2.2.2.1
noncomputable def tes : List DictEntry := zC.2.2.2.2.2.2.2.2.2.2.2.2.2.2.2.2.2.2.2.2.2.2.2.2.2.2.2.2.2.2.2.2.2.2.2.2.2.2.2.2.2.2.2.2.2.2.2.2.2.2.2.2.2.2.2.2.2.2.2.2.2.2
theorem zCore (B : Below A₀ base outer h₀) (F : Fr h₀ L s.heap m) (X : (Mine.fr.heap_1 w.params).In h₀) (N : News h₀ L s.heap news) (T : Top Mine.vw (looseW Mine.vw []) mean mg mb h₀) (hf : env.frame = some L) (hke : env.scope.kind = .function) (hd : d < 800) (hsmall : ∀ q ∈ [(ax, instObj 172 ad), (ad, scopesD c1 c2 c3 c4 a1 a2 a3 a4 (.ref tx) (.str (Str.ofString "M") a5) ak (-1) a6), (ak, listOf (kpre ++ [Value.ref sx]).toArray nk), (sx, instObj 109 sd),
      (sd, scopeD e1 e2 e3 e4 e5 b1 b2 b3 b4 b5 clevel b6 vlabel nd od slots b7), (nd, onames), (od, listOf (([] : List OI).map OI.rf).toArray no), (tx, instObj 88 td), (td, dictOf tes tnn)], q ∈ news) (hnd : [ax, ad, ak, sx, sd, nd, od].Nodup) (n1 : tx ≠ sd) (n2 : tx ≠ nd) (n3 : tx ≠ od) (n4 : td ≠ sd) (n5 : td ≠ nd) (n6 : td ≠ od) (hkv : onames.IsDictOf (PySem.strKind Challenge.rw_nu0320_01.row.prog w) (([] : List OI).map OI.kv)) (hlo : (nd == sysModules) = false) (g1 : getL (Str.ofString "boolean") tes = some (some (.ref tb))) (g2 : getL (Str.ofString "char") tes = some (some (.ref tc))) (g3 : getL (Str.ofString "byte") tes = some (some (.ref ty))) (g4 : getL (Str.ofString "integer") tes = some (some (.ref ti))) (g5 : getL (Str.ofString "mask") tes = some (some (.ref tm))) (g6 : getL (Str.ofString "none") tes = some (some (.ref tn))) (h : ∀ (h' : Heap) (tk : Nat) (its : List OI) (R' : List (Addr × Obj)) (on' : Obj) (no' : Nat) (t4 : Tok), Fr h₀ L h' m → on'.IsDictOf (PySem.strKind Challenge.rw_nu0320_01.row.prog w) (its.map OI.kv) → (∀ i ∈ its, Good R' tb tc ty ti tm i) → its.map OI.nm = first7 ++ names14 →
      (∀ p ∈ R', ∀ q ∈ news, q.1 ≠ p.1) → (∀ news', (∀ q ∈ news', q ∈ (sd, scopeD e1 e2 e3 e4 e5 b1 b2 b3 b4 b5 clevel b6 vlabel nd od slots t4) :: (nd, on') :: (od, listOf (its.map OI.rf).toArray no') :: R' ∨ (q ∈ news ∧ q.1 ≠ sd ∧ q.1 ≠ nd ∧ q.1 ≠ od)) → News h₀ L h' news') →
      Q .none { s with heap := h', toks := tk }) : wpAny (model Challenge.rw_nu0320_01.row.prog w) { handled := none, depth := d, frames := some (env :: outer), guards := some [], units := u } (call (.ref 197) [.ref ax]) Q E s := by
  revert X; k_fill; intro X
  refine wpAny_call ?_
  have hnd' := hnd
  simp only [List.nodup_cons, List.mem_cons, not_or, List.not_mem_nil, not_false_eq_true, and_true, List.nodup_nil] at hnd'
  obtain ⟨⟨p1, p2, p3, p4, p5, p6⟩, ⟨p7, p8, p9, p10, p11⟩, ⟨p12, p13, p14, p15⟩, ⟨p16, p17, p18⟩, ⟨p19, p20⟩, p21⟩ := hnd'
  have N2 := news_sub N hsmall
  refine' code_defG B F X N2 T ?kA hf hke ?k6 ?k7 ?k8 ?k9 ?kB ?_ ?c2 ?c3 ?c4 ?c5; (case kA => exact rfl); (case k6 => k_is); (case k7 => k_is); (case k8 => k_room); (case k9 => exact BindsTo.of_eq rfl); (case c5 => decide); (case kB => exact locs rfl); (case c2 => exact rfl); (case c3 => exact rfl); (case c4 => exact rfl)
  intro g' L' h' FG' F' N' B' X' T' GS
  have hsmall' := hsmall
  clear hsmall
  have hk0 : ([] : List OI).map OI.nm = [] := rfl
  have hall0 : ∀ i ∈ ([] : List OI), Good [] tb tc ty ti tm i := List.forall_mem_nil _
  have rS : OffS [ax, ad, ak, sx, sd, nd, od, tx, td] ([] : List (Addr × Obj)) := fun a _ => List.forall_mem_nil _
  have r5 : ∀ q ∈ ([] : List (Addr × Obj)), q.1 ≠ sd := List.forall_mem_nil _
  have r6 : ∀ q ∈ ([] : List (Addr × Obj)), q.1 ≠ nd := List.forall_mem_nil _
  have r7 : ∀ q ∈ ([] : List (Addr × Obj)), q.1 ≠ od := List.forall_mem_nil _
  try dsimp only
  refine hold_post ?_
  k_fold
  (repeat' ((((fail_if_success (with_reducible show Hold _)); (fail_if_success (with_reducible show wpAny _ _ (pyIter _) _ _ _)); first | (k_unfold; (try dsimp only)) | (k_end; wrow_close) | walk1 | (dsimp only; walk1) | (leave1; walk_say "STEP leave1"; try dsimp only)))))
  rename News _ _ _ _ => NF
  rename Fr _ _ _ _ => FF
  rename (Obj.IsDictOf _ _ (List.map OI.kv _)) => hkvF
  rename (∀ i : OI, i ∈ _ → Good _ _ _ _ _ _ i) => hallF
  rename (List.map OI.nm _ = _) => hkF
  rename OffS _ _ => rSF
  rename (∀ q : Addr × Obj, q ∈ _ → q.1 ≠ sd) => r5F
  rename (∀ q : Addr × Obj, q ∈ _ → q.1 ≠ nd) => r6F
  rename (∀ q : Addr × Obj, q ∈ _ → q.1 ≠ od) => r7F
  refine iter_tupJ rfl FF NF (.head _) rfl rfl (fun p hp => .tail _ (.tail _ (.tail _ hp))) (FillJ w ax ad ak sx sd nd od tx td tb tc ty ti tm kpre c1 c2 c3 c4 e1 e2 e3 e4 e5 a1 a2 a3 a4 a5 a6 b1 b2 b3 b4 b5 b6 nk tnn clevel vlabel slots tes) ⟨_, _, _, _, _, rfl, hkvF, hallF, hkF.trans (by decide +kernel), r5F, r6F, r7F, rSF, rfl, rfl⟩ ?_ ?_
  · intro I i v m₁ nx h2 tk2 own hv ⟨its, R, on, no, t4, hnx, hkv1, hall1, hk1, r51, r61, r71, rS1, ms1, ms2⟩ hoff hown hI F1 N1
    subst hnx
    obtain ⟨nm, tnm, rfl, hnm⟩ := strs_get (ys := names14) (by unfold names14; repeat constructor) hv
    have hn9 := names_fresh hnm
    have hl9 : its.length ≤ 1000 := len_of hk1 (by simp only [List.length_append, List.length_take]; have : first7.length = 7 := rfl; have : names14.length = 14 := rfl; omega)
    have o5 := off_app r51 (own_off hown (hoff _ (.tail _ (.tail _ (.tail _ (.tail _ (.head _)))))) (by k_ne))
    have o6 := off_app r61 (own_off hown (hoff _ (.tail _ (.tail _ (.tail _ (.tail _ (.tail _ (.head _))))))) (by k_ne))
    have o7 := off_app r71 (own_off hown (hoff _ (.tail _ (.tail _ (.tail _ (.tail _ (.tail _ (.tail _ (.head _)))))))) (by k_ne))
    rw [map_pin ms1 ms2] at F1
    simp only [List.cons_append] at N1
    simp only [List.forall_mem_cons] at hoff
    clear FF NF hkvF hallF hkF r5F r6F r7F rSF
    refine hold_post ?_
    k_fold
    (repeat' ((((fail_if_success (with_reducible show Hold _)); (fail_if_success (with_reducible show wpAny _ _ (pyIter _) _ _ _)); first | (k_unfold; (try dsimp only)) | (k_end; wrow_close) | walk1 | (dsimp only; walk1) | (leave1; walk_say "STEP leave1"; try dsimp only)))))
    all_goals (k_unfold; (try dsimp only))
    rename News _ _ _ ((_, instObj 52 _) :: _) => NN
    rename Fr _ _ _ _ => FN
    rename ObjIs _ _ _ _ _ _ _ _ (Value.str nm tnm) => hoN
    rename (Obj.IsDictOf _ _ (List.map OI.kv (its ++ _))) => hkN
    refine ⟨fill_turn FN NN hkN hoN rfl rfl rfl (by dsimp only; decide) hall1 hk1 hnm r51 r61 r71 (by k_ne) (by k_ne) (by k_ne) (by k_ne) (by k_ne) (by k_ne) (by assumption) (by assumption) hI ?_ rS1 (by k_all) (by k_all) rfl rfl⟩
    simp only [List.forall_mem_cons]
    exact hoff
  · intro h2 tk2 m2 nx F1 N1 ⟨its, R, on, no, t4, hnx, hkv1, hall1, hk1, r51, r61, r71, rS1, ms1, ms2⟩
    subst hnx
    dsimp only
    (repeat' ((((fail_if_success (with_reducible show Hold _)); (fail_if_success (with_reducible show wpAny _ _ (pyIter _) _ _ _)); first | (k_unfold; (try dsimp only)) | (k_end; wrow_close) | walk1 | (dsimp only; walk1) | (leave1; walk_say "STEP leave1"; try dsimp only)))))
    k_unfold
    dsimp only
    refine ⟨leaveK_ (by assumption) (by assumption) ?_⟩; intro kF kN
    refine h _ _ its R on no t4 kF hkv1 hall1 (hk1.trans (by rfl)) ?_ ?_
    · intro p hp q hq e
      have hg := (N1 p (by simp only [List.mem_cons]; simp [hp])).2.2
      by_cases hm : q.1 ∈ [ax, ad, ak, sx, sd, nd, od, tx, td]
      · exact rS1 _ hm p hp e.symm
      · have := GS _ _ (N q hq).1 hm
        rw [e, hg] at this; cases this
    · intro news' hs
      refine news_frame N hsmall' GS (Fr.keep (by assumption)) kN ?_
      intro q hq
      rcases hs q hq with hq | ⟨h1, h2, h3, h4⟩
      · left
        simp only [List.mem_cons] at hq ⊢
        rcases hq with h | h | h | h <;> simp [h]
      · right
        refine ⟨h1, fun r hr e => ?_⟩
        simp only [List.mem_cons, List.not_mem_nil, or_false] at hr ⊢
        rcases hr with rfl | rfl | rfl | rfl | rfl | rfl | rfl | rfl | rfl
        · simp
        · simp
        · simp
        · simp
        · exact absurd e.symm h2
        · exact absurd e.symm h3
        · exact absurd e.symm h4
        · simp
        · simp
end Zfillspec
theorem fill_spec {w : World} {A₀ : Around} {base : Heap} {h₀ : Heap} {outer : List Env} {env : Env} {d : Nat} {u : Nat} {L : Addr} {m : Str → Option Value} {mg : Str → Option Value} {mb : Str → Option Value} {mean : ExcName → Option Value} {news : List (Addr × Obj)} {s : Shared} {E : Value → Shared → Prop} {Q : Value → Shared → Prop} {ax : Addr} {ad : Addr} {ak : Addr} {sx : Addr} {sd : Addr} {nd : Addr} {od : Addr} {tx : Addr} {td : Addr} {tb : Addr} {tc : Addr} {ty : Addr} {ti : Addr} {tm : Addr} {tn : Addr} {kpre : List Value} {onames : Obj} {vlabel : Value} {slots : Int} {c1 : Int} {c2 : Int} {c3 : Int} {c4 : Int} {e1 : Int} {e2 : Int} {e3 : Int} {e4 : Int} {e5 : Int} {a1 : Tok} {a2 : Tok} {a3 : Tok} {a4 : Tok} {a5 : Tok} {a6 : Tok} {b1 : Tok} {b2 : Tok} {b3 : Tok} {b4 : Tok} {b5 : Tok} {b6 : Tok} {b7 : Tok} {nk : Nat} {no : Nat} {tnn : Nat} {clevel : Int} {tes : List DictEntry} (B : Below A₀ base outer h₀) (F : Fr h₀ L s.heap m) (X : (Mine.fr.heap_1 w.params).In h₀) (N : News h₀ L s.heap news) (T : Top Mine.vw (looseW Mine.vw []) mean mg mb h₀) (hf : env.frame = some L) (hke : env.scope.kind = .function) (hd : d < 800) (hsmall : ∀ q ∈ [(ax, instObj 172 ad), (ad, scopesD c1 c2 c3 c4 a1 a2 a3 a4 (.ref tx) (.str (Str.ofString "M") a5) ak (-1) a6), (ak, listOf (kpre ++ [Value.ref sx]).toArray nk), (sx, instObj 109 sd),
      (sd, scopeD e1 e2 e3 e4 e5 b1 b2 b3 b4 b5 clevel b6 vlabel nd od slots b7), (nd, onames), (od, listOf (([] : List OI).map OI.rf).toArray no), (tx, instObj 88 td), (td, dictOf tes tnn)], q ∈ news) (hnd : [ax, ad, ak, sx, sd, nd, od].Nodup) (n1 : tx ≠ sd) (n2 : tx ≠ nd) (n3 : tx ≠ od) (n4 : td ≠ sd) (n5 : td ≠ nd) (n6 : td ≠ od) (hkv : onames.IsDictOf (PySem.strKind Challenge.rw_nu0320_01.row.prog w) (([] : List OI).map OI.kv)) (hlo : (nd == sysModules) = false) (g1 : getL (Str.ofString "boolean") tes = some (some (.ref tb))) (g2 : getL (Str.ofString "char") tes = some (some (.ref tc))) (g3 : getL (Str.ofString "byte") tes = some (some (.ref ty))) (g4 : getL (Str.ofString "integer") tes = some (some (.ref ti))) (g5 : getL (Str.ofString "mask") tes = some (some (.ref tm))) (g6 : getL (Str.ofString "none") tes = some (some (.ref tn))) (h : ∀ (h' : Heap) (tk : Nat) (its : List OI) (R' : List (Addr × Obj)) (on' : Obj) (no' : Nat) (t4 : Tok), Fr h₀ L h' m → on'.IsDictOf (PySem.strKind Challenge.rw_nu0320_01.row.prog w) (its.map OI.kv) → (∀ i ∈ its, Good R' tb tc ty ti tm i) → its.map OI.nm = first7 ++ names14 →
      (∀ p ∈ R', ∀ q ∈ news, q.1 ≠ p.1) → (∀ news', (∀ q ∈ news', q ∈ (sd, scopeD e1 e2 e3 e4 e5 b1 b2 b3 b4 b5 clevel b6 vlabel nd od slots t4) :: (nd, on') :: (od, listOf (its.map OI.rf).toArray no') :: R' ∨ (q ∈ news ∧ q.1 ≠ sd ∧ q.1 ≠ nd ∧ q.1 ≠ od)) → News h₀ L h' news') →
      Q .none { s with heap := h', toks := tk }) :
    wpAny (model Challenge.rw_nu0320_01.row.prog w) { handled := none, depth := d, frames := some (env :: outer), guards := some [], units := u } (call (.ref 197) [.ref ax]) Q E s :=
  (eps_all (ne := Zfillspec.zNe) (P := Zfillspec.zSc) Zfillspec.zCore : ∀ c, Zfillspec.zSc c) (w, A₀, base, h₀, outer, env, d, u, L, m, mg, mb, mean, news, s, E, Q, ax, ad, ak, sx, sd, nd, od, tx, td, tb, tc, ty, ti, tm, tn, kpre, onames, vlabel, slots, c1, c2, c3, c4, e1, e2, e3, e4, e5, a1, a2, a3, a4, a5, a6, b1, b2, b3, b4, b5, b6, b7, nk, no, tnn, clevel, tes) B F X N T hf hke hd hsmall hnd n1 n2 n3 n4 n5 n6 hkv hlo g1 g2 g3 g4 g5 g6 h
end
example {M : Model} {A : Around} {E : Value → Shared → Prop} {s : Shared} {Q : Flow → Shared → Prop} {env : Env} (h : Q .next s) : wpAny M A (execs [] env) Q E s := by
  first | (walk1; exact h) | exact fun _ _ _ => h
-- D2
end
end
example {M : Model} {A : Around} {E : Value → Shared → Prop} {s : Shared} {Q : Flow → Shared → Prop} {env : Env} (h : Q .next s) : wpAny M A (execs [] env) Q E s := by
  first | (walk1; exact h) | exact fun _ _ _ => h
section
local macro_rules | `(tactic| walk_at "call builtin:list.append") => `(tactic| (k_here; (with_reducible show wpAny _ _ (call (Value.builtin _) [Value.ref _, _]) _ _ _); k_dflt (refine' append_L ?k1 ?k2 ?k3 ?_ ?z; (case k1 => k_asm); (case k2 => k_asm); (case k3 => k_upd); (case z => (rw [sizeLine_eq]; omega)); k_whole); intro h' F' N'; (try k_sweep)))
section
local macro_rules | `(tactic| walk_at "subscriptTail") => `(tactic| (k_here; (with_reducible show wpAny _ _ (subscriptTail _ _ (Value.ref _) (Value.int (-1) _)) _ _ _); k_dflt (refine' item_last ?N ?m ?_ ?hs; (case N => k_asm); (case m => k_mem); (case hs => with_unfolding_all rfl); k_whole)))
section
theorem open_fin {h₀ H g h' : Heap} {L ax ad ak sx sd nd od : Addr} {o1 o2 o3 o2' o3' p1 p2 p3 p4 : Obj} {news : List (Addr × Obj)} (N : News h₀ L H news)
    (hsub : ∀ p ∈ [(ax, o1), (ad, o2), (ak, o3)], p ∈ news) (G : GSub H g ([(ax, o1), (ad, o2), (ak, o3)].map (·.1)))
    (K : ∀ b o, g.get? b = some o → h'.get? b = some o) (N' : News h₀ L h' [(od, p4), (nd, p3), (sx, p1), (sd, p2), (ax, o1), (ad, o2'), (ak, o3')])
    (news' : List (Addr × Obj)) (hs : ∀ q ∈ news', q ∈ [(sx, p1), (sd, p2), (nd, p3), (od, p4), (ad, o2'), (ak, o3')] ∨ (q ∈ news ∧ q.1 ≠ ad ∧ q.1 ≠ ak)) : News h₀ L h' news' := by
  refine news_frame N hsub G K N' ?_
  intro q hq
  rcases hs q hq with hq | ⟨h1, h2, h3⟩
  · left
    simp only [List.mem_cons, List.not_mem_nil, or_false] at hq ⊢
    rcases hq with h | h | h | h | h | h <;> simp [h]
  · right
    refine ⟨h1, fun r hr e => ?_⟩
    simp only [List.mem_cons, List.not_mem_nil, or_false] at hr ⊢
    rcases hr with rfl | rfl | rfl
    · simp
    · exact absurd e.symm h2
    · exact absurd e.symm h3
theorem nodup4 {a b c d : Addr} (h1 : a ≠ b) (h2 : a ≠ c) (h3 : a ≠ d) (h4 : b ≠ c) (h5 : b ≠ d) (h6 : c ≠ d) : [a, b, c, d].Nodup := by
  simp only [List.nodup_cons, List.mem_cons, not_or, List.not_mem_nil, not_false_eq_true, and_true, List.nodup_nil]
  exact ⟨⟨h1, h2, h3⟩, ⟨h4, h5⟩, h6⟩
namespace Zopenspec
def zSt (w : World) (A₀ : Around) (base : Heap) (h₀ : Heap) (outer : List Env) (env : Env) (d : Nat) (u : Nat) (L : Addr) (m : Str → Option Value) (mg : Str → Option Value) (mb : Str → Option Value) (mean : ExcName → Option Value) (news : List (Addr × Obj)) (s : Shared) (E : Value → Shared → Prop) (Q : Value → Shared → Prop) (ax : Addr) (ad : Addr) (ak : Addr) (ks : List Value) (label : Str) (vtypes : Value) (lv : Int) (c1 : Int) (c2 : Int) (c3 : Int) (c4 : Int) (a1 : Tok) (a2 : Tok) (a3 : Tok) (a4 : Tok) (a5 : Tok) (a6 : Tok) (tl : Tok) (nk : Nat) : Prop := ∀ (B : Below A₀ base outer h₀) (F : Fr h₀ L s.heap m) (X : (Mine.fr.heap_1 w.params).In h₀) (N : News h₀ L s.heap news) (T : Top Mine.vw (looseW Mine.vw []) mean mg mb h₀) (hf : env.frame = some L) (hke : env.scope.kind = .function) (hd : d < 800) (hsmall : ∀ q ∈ [(ax, instObj 172 ad), (ad, scopesD c1 c2 c3 c4 a1 a2 a3 a4 vtypes (.str (Str.ofString "M") a5) ak lv a6), (ak, listOf ks.toArray nk)], q ∈ news) (hnd : [ax, ad, ak].Nodup) (hks : ks.length ≤ 1000) (hlv : -10 ≤ lv) (hlv2 : lv ≤ 1000) (h : ∀ (h' : Heap) (tk : Nat) (sx sd nd od : Addr) (on : Obj) (e1 e2 e3 e4 e5 : Int) (b1 b2 b3 b4 b5 b6 b7 tl' a6' : Tok) (nk' no : Nat), Fr h₀ L h' m → on.IsDictOf (PySem.strKind Challenge.rw_nu0320_01.row.prog w) [] → (nd == sysModules) = false →
      (∀ q ∈ news, q.1 ≠ sx ∧ q.1 ≠ sd ∧ q.1 ≠ nd ∧ q.1 ≠ od) → [sx, sd, nd, od].Nodup →
      (∀ news', (∀ q ∈ news', q ∈ [(sx, instObj 109 sd), (sd, scopeD e1 e2 e3 e4 e5 b1 b2 b3 b4 b5 (lv + 1) b6 (.str label tl') nd od 0 b7), (nd, on), (od, listOf ([] : List Value).toArray no),
        (ad, scopesD c1 c2 c3 c4 a1 a2 a3 a4 vtypes (.str (Str.ofString "M") a5) ak (lv + 1) a6'), (ak, listOf (ks ++ [Value.ref sx]).toArray nk')] ∨ (q ∈ news ∧ q.1 ≠ ad ∧ q.1 ≠ ak)) → News h₀ L h' news') → Q (.ref sx) { s with heap := h', toks := tk }), wpAny (model Challenge.rw_nu0320_01.row.prog w) { handled := none, depth := d, frames := some (env :: outer), guards := some [], units := u } (call (.ref 134) [.ref ax, .str label tl]) Q E s
def zSc (zz : (World) × (Around) × (Heap) × (Heap) × (List Env) × (Env) × (Nat) × (Nat) × (Addr) × (Str → Option Value) × (Str → Option Value) × (Str → Option Value) × (ExcName → Option Value) × (List (Addr × Obj)) × (Shared) × (Value → Shared → Prop) × (Value → Shared → Prop) × (Addr) × (Addr) × (Addr) × (List Value) × (Str) × (Value) × (Int) × (Int) × (Int) × (Int) × (Int) × (Tok) × (Tok) × (Tok) × (Tok) × (Tok) × (Tok) × (Tok) × (Nat)) : Prop := zSt zz.1 zz.2.1 zz.2.2.1 zz.2.2.2.1 zz.2.2.2.2.1 zz.2.2.2.2.2.1 zz.2.2.2.2.2.2.1 zz.2.2.2.2.2.2.2.1 zz.2.2.2.2.2.2.2.2.1 zz.2.2.2.2.2.2.2.2.2.1 zz.2.2.2.2.2.2.2.2.2.2.1 zz.2.2.2.2.2.2.2.2.2.2.2.1 zz.2.2.2.2.2.2.2.2.2.2.2.2.1 zz.2.2.2.2.2.2.2.2.2.2.2.2.2.1 zz.2.2.2.2.2.2.2.2.2.2.2.2.2.2.1 zz.2.2.2.2.2.2.2.2.2.2.2.2.2.2.2.1 zz.2.2.2.2.2.2.2.2.2.2.2.2.2.2.2.2.1 zz.2.2.2.2.2.2.2.2.2.2.2.2.2.2.2.2.2.1 zz.2.2.2.2.2.2.2.2.2.2.2.2.2.2.2.2.2.2.1 zz.2.2.2.2.2.2.2.2.2.2.2.2.2.2.2.2.2.2.2.1 zz.2.2.2.2.2.2.2.2.2.2.2.2.2.2.2.2.2.2.2.2.1 zz.2.2.2.2.2.2.2.2.2.2.2.2.2.2.2.2.2.2.2.2.2.1 zz.2.2.2.2.2.2.2.2.2.2.2.2.2.2.2.2.2.2.2.2.2.2.1 zz.2.2.2.2.2.2.2.2.2.2.2.2.2.2.2.2.2.2.2.2.2.2.2.1 zz.2.2.2.2.2.2.2.2.2.2.2.2.2.2.2.2.2.2.2.2.2.2.2.2.1 zz.2.2.2.2.2.2.2.2.2.2.2.2.2.2.2.2.2.2.2.2.2.2.2.2.2.1 zz.2.2.2.2.2.2.2.2.2.2.2.2.2.2.2.2.2.2.2.2.2.2.2.2.2.2.1 zz.2.2.2.2.2.2.2.2.2.2.2.2.2.2.2.2.2.2.2.2.2.2.2.2.2.2.2.1 zz.2.2.2.2.2.2.2.2.2.2.2.2.2.2.2.2.2.2.2.2.2.2.2.2.2.2.2.2.1 zz.2.2.2.2.2.2.2.2.2.2.2.2.2.2.2.2.2.2.2.2.2.2.2.2.2.2.2.2.2.1 zz.2.2.2.2.2.2.2.2.2.2.2.2.2.2.2.2.2.2.2.2.2.2.2.2.2.2.2.2.2.2.1 zz.2.2.2.2.2.2.2.2.2.2.2.2.2.2.2.2.2.2.2.2.2.2.2.2.2.2.2.2.2.2.2.1 zz.2.2.2.2.2.2.2.2.2.2.2.2.2.2.2.2.2.2.2.2.2.2.2.2.2.2.2.2.2.2.2.2.1 zz.2.2.2.2.2.2.2.2.2.2.2.2.2.2.2.2.2.2.2.2.2.2.2.2.2.2.2.2.2.2.2.2.2.1 zz.2.2.2.2.2.2.2.2.2.2.2.2.2.2.2.2.2.2.2.2.2.2.2.2.2.2.2.2.2.2.2.2.2.2.1 zz.2.2.2.2.2.2.2.2.2.2.2.2.2.2.2.2.2.2.2.2.2.2.2.2.2.2.2.2.2.2.2.2.2.2.2
theorem zNe : Nonempty ((World) × (Around) × (Heap) × (Heap) × (List Env) × (Env) × (Nat) × (Nat) × (Addr) × (Str → Option Value) × (Str → Option Value) × (Str → Option Value) × (ExcName → Option Value) × (List (Addr × Obj)) × (Shared) × (Value → Shared → Prop) × (Value → Shared → Prop) × (Addr) × (Addr) × (Addr) × (List Value) × (Str) × (Value) × (Int) × (Int) × (Int) × (Int) × (Int) × (Tok) × (Tok) × (Tok) × (Tok) × (Tok) × (Tok) × (Tok) × (Nat)) := ⟨(dWorld, dAround, default, default, default, default, default, default, default, default, default, default, default, default, dShared, default, default, default, default, default, default, default, default, default, default, default, default, default, default, default, default, default, default, default, default, default)⟩
noncomputable def zC : (World) × (Around) × (Heap) × (Heap) × (List Env) × (Env) × (Nat) × (Nat) × (Addr) × (Str → Option Value) × (Str → Option Value) × (Str → Option Value) × (ExcName → Option Value) × (List (Addr × Obj)) × (Shared) × (Value → Shared → Prop) × (Value → Shared → Prop) × (Addr) × (Addr) × (Addr) × (List Value) × (Str) × (Value) × (Int) × (Int) × (Int) × (Int) × (Int) × (Tok) × (Tok) × (Tok) × (Tok) × (Tok) × (Tok) × (Tok) × (Nat) := @Classical.epsilon _ zNe fun c => ¬ zSc c
noncomputable def w : World := zC.1
noncomputable def A₀ : Around := zC.2.1
noncomputable def base : Heap := zC.2.2.1
noncomputable def h₀ : Heap := zC.2.2.2.1
noncomputable def outer : List Env := zC.2.2.2.2.1
noncomputable def env : Env := zC.2.2.2.2.2.1
noncomputable def d : Nat := zC.2.2.2.2.2.2.1
noncomputable def u : Nat := zC.2.2.2.2.2.2.2.1
noncomputable def L : Addr := zC.2.2.2.2.2.2.2.2.1
noncomputable def m : Str → Option Value := zC.2.2.2.2.2.2.2.2.2.1
noncomputable def mg : Str → Option Value := zC.2.2.2.2.2.2.2.2.2.2.1
noncomputable def mb : Str → Option Value := zC.2.2.2.2.2.2.2.2.2.2.2.1
noncomputable def mean : ExcName → Option Value := zC.2.2.2.2.2.2.2.2.2.2.2.2.1
noncomputable def news : List (Addr × Obj) := zC.2.2.2.2.2.2.2.2.2.2.2.2.2.1
noncomputable def s : Shared := zC.2.2.2.2.2.2.2.2.2.2.2.2.2.2.1
noncomputable def E : Value → Shared → Prop := zC.2.2.2.2.2.2.2.2.2.2.2.2.2.2.2.1
noncomputable def Q : Value → Shared → Prop := zC.2.2.2.2.2.2.2.2.2.2.2.2.2.2.2.2.1
noncomputable def ax : Addr := zC.2.2.2.2.2.2.2.2.2.2.2.2.2.2.2.2.2.1
noncomputable def ad : Addr := zC.2.2.2.2.2.2.2.2.2.2.2.2.2.2.2.2.2.2.1
noncomputable def ak : Addr := zC.2.2.2.2.2.2.2.2.2.2.2.2.2.2.2.2.2.2.2.1
noncomputable def ks : List Value := zC.2.2.2.2.2.2.2.2.2.2.2.2.2.2.2.2.2.2.2.2.1
noncomputable def label : Str := zC.2.2.2.2.2.2.2.2.2.2.2.2.2.2.2.2.2.2.2.2.2.1
noncomputable def vtypes : Value := zC.2.2.2.2.2.2.2.2.2.2.2.2.2.2.2.2.2.2.2.2.2.2.1
noncomputable def lv : Int := zC.2.2.2.2.2.2.2.2.2.2.2.2.2.2.2.2.2.2.2.2.2.2.2.1
noncomputable def c1 : Int := zC.2.2.2.2.2.2.2.2.2.2.2.2.2.2.2.2.2.2.2.2.2.2.2.2.1
noncomputable def c2 : Int := zC.2.2.2.2.2.2.2.2.2.2.2.2.2.2.2.2.2.2.2.2.2.2.2.2.2.1
noncomputable def c3 : Int := zC.2.2.2.2.2.2.2.2.2.2.2.2.2.2.2.2.2.2.2.2.2.2.2.2.2.2.1
noncomputable def c4 : Int := zC.2.2.2.2.2.2.2.2.2.2.2.2.2.2.2.2.2.2.2.2.2.2.2.2.2.2.2.1
noncomputable def a1 : Tok := zC.2.2.2.2.2.2.2.2.2.2.2.2.2.2.2.2.2.2.2.2.2.2.2.2.2.2.2.2.1
noncomputable def a2 : Tok := zC.2.2.2.2.2.2.2.2.2.2.2.2.2.2.2.2.2.2.2.2.2.2.2.2.2.2.2.2.2.1
noncomputable def a3 : Tok := zC.2.2.2.2.2.2.2.2.2.2.2.2.2.2.2.2.2.2.2.2.2.2.2.2.2.2.2.2.2.2.1
noncomputable def a4 : Tok := zC.2.2.2.2.2.2.2.2.2.2.2.2.2.2.2.2.2.2.2.2.2.2.2.2.2.2.2.2.2.2.2.1
noncomputable def a5 : Tok := zC.2.2.2.2.2.2.2.2.2.2.2.2.2.2.2.2.2.2.2.2.2.2.2.2.2.2.2.2.2.2.2.2.1
noncomputable def a6 : Tok := zC.2.2.2.2.2.2.2.2.2.2.2.2.2.2.2.2.2.2.2.2.2.2.2.2.2.2.2.2.2.2.2.2.2.1
noncomputable def tl : Tok := zC.2.2.2.2.2.2.2.2.2.2.2.2.2.2.2.2.2.2.2.2.2.2.2.2.2.2.2.2.2.2.2.2.2.2.1
noncomputable def nk : Nat := zC.2.2.2.2.2.2.2.2.2.2.2.2.2.2.2.2.2.2.2.2.2.2.2.2.2.2.2.2.2.2.2.2.2.2.2
theorem zCore (B : Below A₀ base outer h₀) (F : Fr h₀ L s.heap m) (X : (Mine.fr.heap_1 w.params).In h₀) (N : News h₀ L s.heap news) (T : Top Mine.vw (looseW Mine.vw []) mean mg mb h₀) (hf : env.frame = some L) (hke : env.scope.kind = .function) (hd : d < 800) (hsmall : ∀ q ∈ [(ax, instObj 172 ad), (ad, scopesD c1 c2 c3 c4 a1 a2 a3 a4 vtypes (.str (Str.ofString "M") a5) ak lv a6), (ak, listOf ks.toArray nk)], q ∈ news) (hnd : [ax, ad, ak].Nodup) (hks : ks.length ≤ 1000) (hlv : -10 ≤ lv) (hlv2 : lv ≤ 1000) (h : ∀ (h' : Heap) (tk : Nat) (sx sd nd od : Addr) (on : Obj) (e1 e2 e3 e4 e5 : Int) (b1 b2 b3 b4 b5 b6 b7 tl' a6' : Tok) (nk' no : Nat), Fr h₀ L h' m → on.IsDictOf (PySem.strKind Challenge.rw_nu0320_01.row.prog w) [] → (nd == sysModules) = false →
      (∀ q ∈ news, q.1 ≠ sx ∧ q.1 ≠ sd ∧ q.1 ≠ nd ∧ q.1 ≠ od) → [sx, sd, nd, od].Nodup →
      (∀ news', (∀ q ∈ news', q ∈ [(sx, instObj 109 sd), (sd, scopeD e1 e2 e3 e4 e5 b1 b2 b3 b4 b5 (lv + 1) b6 (.str label tl') nd od 0 b7), (nd, on), (od, listOf ([] : List Value).toArray no),
        (ad, scopesD c1 c2 c3 c4 a1 a2 a3 a4 vtypes (.str (Str.ofString "M") a5) ak (lv + 1) a6'), (ak, listOf (ks ++ [Value.ref sx]).toArray nk')] ∨ (q ∈ news ∧ q.1 ≠ ad ∧ q.1 ≠ ak)) → News h₀ L h' news') → Q (.ref sx) { s with heap := h', toks := tk }) : wpAny (model Challenge.rw_nu0320_01.row.prog w) { handled := none, depth := d, frames := some (env :: outer), guards := some [], units := u } (call (.ref 134) [.ref ax, .str label tl]) Q E s := by
  revert X; k_fill; intro X
  refine wpAny_call ?_
  simp only [List.nodup_cons, List.mem_cons, not_or, List.not_mem_nil, not_false_eq_true, and_true, List.nodup_nil] at hnd
  obtain ⟨⟨n1, n2⟩, n3⟩ := hnd
  have N2 := news_sub N hsmall
  refine' code_defG B F X N2 T ?kA hf hke ?k6 ?k7 ?k8 ?k9 ?kB ?_ ?c2 ?c3 ?c4 ?c5; (case kA => exact rfl); (case k6 => k_is); (case k7 => k_is); (case k8 => k_room); (case k9 => exact BindsTo.of_eq rfl); (case c5 => decide); (case kB => exact locs rfl); (case c2 => exact rfl); (case c3 => exact rfl); (case c4 => exact rfl)
  intro g' L' h' FG' F' N' B' X' T' GS
  try dsimp only
  refine hold_post ?_
  k_fold
  (repeat' ((((fail_if_success (with_reducible show Hold _)); first | (k_unfold; (try dsimp only)) | (k_end; wrow_close) | walk1 | (dsimp only; walk1) | (leave1; walk_say "STEP leave1"; try dsimp only)))))
  dsimp only; k_unfold; (try dsimp only)
  refine ⟨leaveK_ (by assumption) (by assumption) ?_⟩; intro kF kN
  dsimp only at kN
  have hN := (by with_reducible assumption : News g' L' _ ((_, listOf _ _) :: (_, _) :: (_, instObj 109 _) :: _))
  have hin := open_fin N hsmall GS (Fr.keep (by assumption)) kN
  refine h _ _ _ _ _ _ _ _ _ _ _ _ _ _ _ _ _ _ _ _ _ _ _ kF (by with_reducible assumption) (by with_reducible assumption) (fun q hq => ⟨fresh_ne N GS (hN _ (.tail _ (.tail _ (.head _)))).2.2 (by k_all) q hq, fresh_ne N GS (hN _ (.tail _ (.tail _ (.tail _ (.head _))))).2.2 (by k_all) q hq,
    fresh_ne N GS (hN _ (.tail _ (.head _))).2.2 (by k_all) q hq, fresh_ne N GS (hN _ (.head _)).2.2 (by k_all) q hq⟩) (nodup4 (by k_ne) (by k_ne) (by k_ne) (by k_ne) (by k_ne) (by k_ne)) hin
end Zopenspec
theorem open_spec {w : World} {A₀ : Around} {base : Heap} {h₀ : Heap} {outer : List Env} {env : Env} {d : Nat} {u : Nat} {L : Addr} {m : Str → Option Value} {mg : Str → Option Value} {mb : Str → Option Value} {mean : ExcName → Option Value} {news : List (Addr × Obj)} {s : Shared} {E : Value → Shared → Prop} {Q : Value → Shared → Prop} {ax : Addr} {ad : Addr} {ak : Addr} {ks : List Value} {label : Str} {vtypes : Value} {lv : Int} {c1 : Int} {c2 : Int} {c3 : Int} {c4 : Int} {a1 : Tok} {a2 : Tok} {a3 : Tok} {a4 : Tok} {a5 : Tok} {a6 : Tok} {tl : Tok} {nk : Nat} (B : Below A₀ base outer h₀) (F : Fr h₀ L s.heap m) (X : (Mine.fr.heap_1 w.params).In h₀) (N : News h₀ L s.heap news) (T : Top Mine.vw (looseW Mine.vw []) mean mg mb h₀) (hf : env.frame = some L) (hke : env.scope.kind = .function) (hd : d < 800) (hsmall : ∀ q ∈ [(ax, instObj 172 ad), (ad, scopesD c1 c2 c3 c4 a1 a2 a3 a4 vtypes (.str (Str.ofString "M") a5) ak lv a6), (ak, listOf ks.toArray nk)], q ∈ news) (hnd : [ax, ad, ak].Nodup) (hks : ks.length ≤ 1000) (hlv : -10 ≤ lv) (hlv2 : lv ≤ 1000) (h : ∀ (h' : Heap) (tk : Nat) (sx sd nd od : Addr) (on : Obj) (e1 e2 e3 e4 e5 : Int) (b1 b2 b3 b4 b5 b6 b7 tl' a6' : Tok) (nk' no : Nat), Fr h₀ L h' m → on.IsDictOf (PySem.strKind Challenge.rw_nu0320_01.row.prog w) [] → (nd == sysModules) = false →
      (∀ q ∈ news, q.1 ≠ sx ∧ q.1 ≠ sd ∧ q.1 ≠ nd ∧ q.1 ≠ od) → [sx, sd, nd, od].Nodup →
      (∀ news', (∀ q ∈ news', q ∈ [(sx, instObj 109 sd), (sd, scopeD e1 e2 e3 e4 e5 b1 b2 b3 b4 b5 (lv + 1) b6 (.str label tl') nd od 0 b7), (nd, on), (od, listOf ([] : List Value).toArray no),
        (ad, scopesD c1 c2 c3 c4 a1 a2 a3 a4 vtypes (.str (Str.ofString "M") a5) ak (lv + 1) a6'), (ak, listOf (ks ++ [Value.ref sx]).toArray nk')] ∨ (q ∈ news ∧ q.1 ≠ ad ∧ q.1 ≠ ak)) → News h₀ L h' news') → Q (.ref sx) { s with heap := h', toks := tk }) :
    wpAny (model Challenge.rw_nu0320_01.row.prog w) { handled := none, depth := d, frames := some (env :: outer), guards := some [], units := u } (call (.ref 134) [.ref ax, .str label tl]) Q E s :=
  (eps_all (ne := Zopenspec.zNe) (P := Zopenspec.zSc) Zopenspec.zCore : ∀ c, Zopenspec.zSc c) (w, A₀, base, h₀, outer, env, d, u, L, m, mg, mb, mean, news, s, E, Q, ax, ad, ak, ks, label, vtypes, lv, c1, c2, c3, c4, a1, a2, a3, a4, a5, a6, tl, nk) B F X N T hf hke hd hsmall hnd hks hlv hlv2 h
end
-- D3
end
end
example {M : Model} {A : Around} {E : Value → Shared → Prop} {s : Shared} {Q : Flow → Shared → Prop} {env : Env} (h : Q .next s) : wpAny M A (execs [] env) Q E s := by
  first | (walk1; exact h) | exact fun _ _ _ => h
section
local macro_rules | `(tactic| walk_at "subscriptTail") => `(tactic| (k_here; (with_reducible show wpAny _ _ (subscriptTail _ _ (Value.ref _) (Value.int (-1) _)) _ _ _); k_dflt (refine' item_last ?N ?m ?_ ?hs; (case N => k_asm); (case m => k_mem); (case hs => with_unfolding_all rfl); k_whole)))
section
theorem kl_last_app : ∀ (p : List Value) (y : Value), kl_last (p ++ [y]) = some (p, y)
  | [], y => rfl
  | a :: r, y => by
    have ih := kl_last_app r y
    rw [List.cons_append, kl_last.eq_def]
    dsimp only
    rw [ih]
theorem pop_L {prog : Program} {w : World} {A : Around} {E : Value → Shared → Prop} {s : Shared} {h₀ : Heap} {L D : Addr} {m : Str → Option Value} {news news' : List (Addr × Obj)} {p : List Value} {y : Value} {n : Nat} {Q : Value → Shared → Prop} (F : Fr h₀ L s.heap m) (N : News h₀ L s.heap news)
    (U : Upd D (listOf (p ++ [y]).toArray n) (listOf p.toArray (n + 1)) news news') (hsz : p.length ≤ 1000)
    (h : ∀ h', Fr h₀ L h' m → News h₀ L h' news' → Q y { s with heap := h' }) : wpAny (model prog w) A (call (.builtin "list.pop") [.ref D]) Q E s :=
  kl_pop F N (by simpa using kl_last_app p y) U (by simp only [List.length_append, List.length_cons, List.length_nil]; rw [sizeLine_eq]; omega) h
local macro_rules | `(tactic| walk_at "call builtin:list.pop") => `(tactic| (k_here; (with_reducible show wpAny _ _ (call (Value.builtin _) [Value.ref _]) _ _ _); k_dflt (refine' pop_L ?k1 ?k2 ?k3 ?z ?_; (case k1 => k_asm); (case k2 => k_asm); (case k3 => k_upd); (case z => ((try simp only [List.length_append, List.length_cons, List.length_nil]); omega)); k_whole); intro h' F' N'; (try k_sweep)))
theorem close_fin {h₀ H g h' : Heap} {L ax ad ak s1 d1 s2 d2 : Addr} {o1 o2 o3 o2' o3' p1 p2 p3 p4 : Obj} {news : List (Addr × Obj)} (N : News h₀ L H news)
    (hsub : ∀ p ∈ [(ax, o1), (ad, o2), (ak, o3), (s1, p1), (d1, p2), (s2, p3), (d2, p4)], p ∈ news) (G : GSub H g ([(ax, o1), (ad, o2), (ak, o3), (s1, p1), (d1, p2), (s2, p3), (d2, p4)].map (·.1)))
    (K : ∀ b o, g.get? b = some o → h'.get? b = some o) (N' : News h₀ L h' [(ax, o1), (ad, o2'), (ak, o3'), (s1, p1), (d1, p2), (s2, p3), (d2, p4)])
    (news' : List (Addr × Obj)) (hs : ∀ q ∈ news', q ∈ [(ad, o2'), (ak, o3')] ∨ (q ∈ news ∧ q.1 ≠ ad ∧ q.1 ≠ ak)) : News h₀ L h' news' := by
  refine news_frame N hsub G K N' ?_
  intro q hq
  rcases hs q hq with hq | ⟨h1, h2, h3⟩
  · left
    simp only [List.mem_cons, List.not_mem_nil, or_false] at hq ⊢
    rcases hq with h | h <;> simp [h]
  · right
    refine ⟨h1, fun r hr e => ?_⟩
    simp only [List.mem_cons, List.not_mem_nil, or_false] at hr ⊢
    rcases hr with rfl | rfl | rfl | rfl | rfl | rfl | rfl
    · simp
    · exact absurd e.symm h2
    · exact absurd e.symm h3
    all_goals simp
theorem close_spec {w : World} {A₀ : Around} {base h₀ : Heap} {outer : List Env} {env : Env} {d u : Nat} {L : Addr} {m mg mb : Str → Option Value} {mean : ExcName → Option Value} {news : List (Addr × Obj)} {s : Shared}
    {E : Value → Shared → Prop} {Q : Value → Shared → Prop} {ax ad ak s1 d1 s2 d2 nd1 od1 nd2 od2 : Addr} {ks : List Value} {vtypes vl1 vl2 : Value} {lv lv1 lv2 sl1 sl2 : Int}
    {c1 c2 c3 c4 e1 e2 e3 e4 e5 f1 f2 f3 f4 f5 : Int} {a1 a2 a3 a4 a5 a6 b1 b2 b3 b4 b5 b6 b7 g1 g2 g3 g4 g5 g6 g7 : Tok} {nk : Nat}
    (B : Below A₀ base outer h₀) (F : Fr h₀ L s.heap m) (X : (Mine.fr.heap_1 w.params).In h₀) (N : News h₀ L s.heap news) (T : Top Mine.vw (looseW Mine.vw []) mean mg mb h₀)
    (hf : env.frame = some L) (hke : env.scope.kind = .function) (hd : d < 800)
    (hsmall : ∀ q ∈ [(ax, instObj 172 ad), (ad, scopesD c1 c2 c3 c4 a1 a2 a3 a4 vtypes (.str (Str.ofString "M") a5) ak lv a6), (ak, listOf ((ks ++ [Value.ref s1]) ++ [Value.ref s2]).toArray nk), (s1, instObj 109 d1), (d1, scopeD e1 e2 e3 e4 e5 b1 b2 b3 b4 b5 lv1 b6 vl1 nd1 od1 sl1 b7),
      (s2, instObj 109 d2), (d2, scopeD f1 f2 f3 f4 f5 g1 g2 g3 g4 g5 lv2 g6 vl2 nd2 od2 sl2 g7)], q ∈ news)
    (hnd : [ax, ad, ak, s1, d1, s2, d2].Nodup) (hks : ks.length ≤ 900)
    (h : ∀ (h' : Heap) (tk : Nat) (a6' : Tok) (nk' : Nat), Fr h₀ L h' m →
      (∀ news', (∀ q ∈ news', q ∈ [(ad, scopesD c1 c2 c3 c4 a1 a2 a3 a4 vtypes (.str (Str.ofString "M") a5) ak lv1 a6'), (ak, listOf (ks ++ [Value.ref s1]).toArray nk')] ∨ (q ∈ news ∧ q.1 ≠ ad ∧ q.1 ≠ ak)) → News h₀ L h' news') → Q (.ref s2) { s with heap := h', toks := tk }) :
    wpAny (model Challenge.rw_nu0320_01.row.prog w) { handled := none, depth := d, frames := some (env :: outer), guards := some [], units := u } (call (.ref 141) [.ref ax]) Q E s := by
  revert X; k_fill; intro X
  refine wpAny_call ?_
  simp only [List.nodup_cons, List.mem_cons, not_or, List.not_mem_nil, not_false_eq_true, and_true, List.nodup_nil] at hnd
  obtain ⟨⟨n1, n2, n3, n4, n5, n6⟩, ⟨n7, n8, n9, n10, n11⟩, ⟨n12, n13, n14, n15⟩, ⟨n16, n17, n18⟩, ⟨n19, n20⟩, n21⟩ := hnd
  have N2 := news_sub N hsmall
  refine' code_defG B F X N2 T ?kA hf hke ?k6 ?k7 ?k8 ?k9 ?kB ?_ ?c2 ?c3 ?c4 ?c5; (case kA => exact rfl); (case k6 => k_is); (case k7 => k_is); (case k8 => k_room); (case k9 => exact BindsTo.of_eq rfl); (case c5 => decide); (case kB => exact locs rfl); (case c2 => exact rfl); (case c3 => exact rfl); (case c4 => exact rfl)
  intro g' L' h' FG' F' N' B' X' T' GS
  try dsimp only
  refine hold_post ?_
  k_fold
  (repeat' ((((fail_if_success (with_reducible show Hold _)); first | (k_unfold; (try dsimp only)) | (k_end; wrow_close) | walk1 | (dsimp only; walk1) | (leave1; walk_say "STEP leave1"; try dsimp only)))))
  dsimp only; k_unfold; (try dsimp only)
  refine ⟨leaveK_ (by assumption) (by assumption) ?_⟩; intro kF kN
  dsimp only at kN
  have hin := close_fin N hsmall GS (Fr.keep (by assumption)) kN
  exact h _ _ _ _ kF hin
end
example {M : Model} {A : Around} {E : Value → Shared → Prop} {s : Shared} {Q : Flow → Shared → Prop} {env : Env} (h : Q .next s) : wpAny M A (execs [] env) Q E s := by
  first | (walk1; exact h) | exact fun _ _ _ => h
-- D4
end
example {M : Model} {A : Around} {E : Value → Shared → Prop} {s : Shared} {Q : Flow → Shared → Prop} {env : Env} (h : Q .next s) : wpAny M A (execs [] env) Q E s := by
  first | (walk1; exact h) | exact fun _ _ _ => h
section
theorem nodup7 {a b c d e f g : Addr} (h1 : a ≠ b ∧ a ≠ c ∧ a ≠ d ∧ a ≠ e ∧ a ≠ f ∧ a ≠ g) (h2 : b ≠ c ∧ b ≠ d ∧ b ≠ e ∧ b ≠ f ∧ b ≠ g) (h3 : c ≠ d ∧ c ≠ e ∧ c ≠ f ∧ c ≠ g) (h4 : d ≠ e ∧ d ≠ f ∧ d ≠ g) (h5 : e ≠ f ∧ e ≠ g) (h6 : f ≠ g) : [a, b, c, d, e, f, g].Nodup := by
  simp only [List.nodup_cons, List.mem_cons, not_or, List.not_mem_nil, not_false_eq_true, and_true, List.nodup_nil]
  exact ⟨h1, h2, h3, h4, h5, h6⟩
theorem news_perm7 {h₀ H : Heap} {L : Addr} {e1 e2 e3 e4 e5 e6 e7 : Addr × Obj} (N : News h₀ L H [e3, e7, e6, e4, e5, e1, e2]) : News h₀ L H [e1, e2, e3, e4, e5, e6, e7] := news_sub N fun q hq => by
  simp only [List.mem_cons, List.not_mem_nil, or_false] at hq ⊢
  rcases hq with h | h | h | h | h | h | h <;> simp [h]
namespace Zscopesspec
def zSt (w : World) (A₀ : Around) (base : Heap) (h₀ : Heap) (outer : List Env) (env : Env) (d : Nat) (u : Nat) (L : Addr) (m : Str → Option Value) (mg : Str → Option Value) (mb : Str → Option Value) (mean : ExcName → Option Value) (news : List (Addr × Obj)) (s : Shared) (E : Value → Shared → Prop) (Q : Value → Shared → Prop) (tx : Value) (tm : Tok) : Prop := ∀ (B : Below A₀ base outer h₀) (F : Fr h₀ L s.heap m) (X : (Mine.fr.heap_1 w.params).In h₀) (N : News h₀ L s.heap news) (T : Top Mine.vw (looseW Mine.vw []) mean mg mb h₀) (hf : env.frame = some L) (hke : env.scope.kind = .function) (hd : d < 800) (h : ∀ (h' : Heap) (tk : Nat) (ax ad ak sx sd nd od : Addr) (on : Obj) (c1 c2 c3 c4 e1 e2 e3 e4 e5 : Int) (a1 a2 a3 a4 a6 b1 b2 b3 b4 b5 b6 b7 tl : Tok) (nk no : Nat), Fr h₀ L h' m → on.IsDictOf (PySem.strKind Challenge.rw_nu0320_01.row.prog w) [] → (nd == sysModules) = false → [ax, ad, ak, sx, sd, nd, od].Nodup →
      News h₀ L h' ([(ax, instObj 172 ad), (ad, scopesD c1 c2 c3 c4 a1 a2 a3 a4 tx (.str (Str.ofString "M") tm) ak (-1) a6), (ak, listOf ([] ++ [Value.ref sx]).toArray nk), (sx, instObj 109 sd),
        (sd, scopeD e1 e2 e3 e4 e5 b1 b2 b3 b4 b5 (-1) b6 (.str (Str.ofString "") tl) nd od 0 b7), (nd, on), (od, listOf ([] : List Value).toArray no)] ++ news) →
      (∀ p ∈ [(ax, instObj 172 ad), (ad, scopesD c1 c2 c3 c4 a1 a2 a3 a4 tx (.str (Str.ofString "M") tm) ak (-1) a6), (ak, listOf ([] ++ [Value.ref sx]).toArray nk), (sx, instObj 109 sd),
        (sd, scopeD e1 e2 e3 e4 e5 b1 b2 b3 b4 b5 (-1) b6 (.str (Str.ofString "") tl) nd od 0 b7), (nd, on), (od, listOf ([] : List Value).toArray no)], ∀ q ∈ news, q.1 ≠ p.1) → Q (.ref ax) { s with heap := h', toks := tk }), wpAny (model Challenge.rw_nu0320_01.row.prog w) { handled := none, depth := d, frames := some (env :: outer), guards := some [], units := u } (call (.ref 172) [tx, .str (Str.ofString "M") tm]) Q E s
def zSc (zz : (World) × (Around) × (Heap) × (Heap) × (List Env) × (Env) × (Nat) × (Nat) × (Addr) × (Str → Option Value) × (Str → Option Value) × (Str → Option Value) × (ExcName → Option Value) × (List (Addr × Obj)) × (Shared) × (Value → Shared → Prop) × (Value → Shared → Prop) × (Value) × (Tok)) : Prop := zSt zz.1 zz.2.1 zz.2.2.1 zz.2.2.2.1 zz.2.2.2.2.1 zz.2.2.2.2.2.1 zz.2.2.2.2.2.2.1 zz.2.2.2.2.2.2.2.1 zz.2.2.2.2.2.2.2.2.1 zz.2.2.2.2.2.2.2.2.2.1 zz.2.2.2.2.2.2.2.2.2.2.1 zz.2.2.2.2.2.2.2.2.2.2.2.1 zz.2.2.2.2.2.2.2.2.2.2.2.2.1 zz.2.2.2.2.2.2.2.2.2.2.2.2.2.1 zz.2.2.2.2.2.2.2.2.2.2.2.2.2.2.1 zz.2.2.2.2.2.2.2.2.2.2.2.2.2.2.2.1 zz.2.2.2.2.2.2.2.2.2.2.2.2.2.2.2.2.1 zz.2.2.2.2.2.2.2.2.2.2.2.2.2.2.2.2.2.1 zz.2.2.2.2.2.2.2.2.2.2.2.2.2.2.2.2.2.2
theorem zNe : Nonempty ((World) × (Around) × (Heap) × (Heap) × (List Env) × (Env) × (Nat) × (Nat) × (Addr) × (Str → Option Value) × (Str → Option Value) × (Str → Option Value) × (ExcName → Option Value) × (List (Addr × Obj)) × (Shared) × (Value → Shared → Prop) × (Value → Shared → Prop) × (Value) × (Tok)) := ⟨(dWorld, dAround, default, default, default, default, default, default, default, default, default, default, default, default, dShared, default, default, default, default)⟩
noncomputable def zC : (World) × (Around) × (Heap) × (Heap) × (List Env) × (Env) × (Nat) × (Nat) × (Addr) × (Str → Option Value) × (Str → Option Value) × (Str → Option Value) × (ExcName → Option Value) × (List (Addr × Obj)) × (Shared) × (Value → Shared → Prop) × (Value → Shared → Prop) × (Value) × (Tok) := @Classical.epsilon _ zNe fun c => ¬ zSc c
noncomputable def w : World := zC.1
noncomputable def A₀ : Around := zC.2.1
noncomputable def base : Heap := zC.2.2.1
noncomputable def h₀ : Heap := zC.2.2.2.1
noncomputable def outer : List Env := zC.2.2.2.2.1
noncomputable def env : Env := zC.2.2.2.2.2.1
noncomputable def d : Nat := zC.2.2.2.2.2.2.1
noncomputable def u : Nat := zC.2.2.2.2.2.2.2.1
noncomputable def L : Addr := zC.2.2.2.2.2.2.2.2.1
noncomputable def m : Str → Option Value := zC.2.2.2.2.2.2.2.2.2.1
noncomputable def mg : Str → Option Value := zC.2.2.2.2.2.2.2.2.2.2.1
noncomputable def mb : Str → Option Value := zC.2.2.2.2.2.2.2.2.2.2.2.1
noncomputable def mean : ExcName → Option Value := zC.2.2.2.2.2.2.2.2.2.2.2.2.1
noncomputable def news : List (Addr × Obj) := zC.2.2.2.2.2.2.2.2.2.2.2.2.2.1
noncomputable def s : Shared := zC.2.2.2.2.2.2.2.2.2.2.2.2.2.2.1
noncomputable def E : Value → Shared → Prop := zC.2.2.2.2.2.2.2.2.2.2.2.2.2.2.2.1
noncomputable def Q : Value → Shared → Prop := zC.2.2.2.2.2.2.2.2.2.2.2.2.2.2.2.2.1
noncomputable def tx : Value := zC.2.2.2.2.2.2.2.2.2.2.2.2.2.2.2.2.2.1
noncomputable def tm : Tok := zC.2.2.2.2.2.2.2.2.2.2.2.2.2.2.2.2.2.2
theorem zCore (B : Below A₀ base outer h₀) (F : Fr h₀ L s.heap m) (X : (Mine.fr.heap_1 w.params).In h₀) (N : News h₀ L s.heap news) (T : Top Mine.vw (looseW Mine.vw []) mean mg mb h₀) (hf : env.frame = some L) (hke : env.scope.kind = .function) (hd : d < 800) (h : ∀ (h' : Heap) (tk : Nat) (ax ad ak sx sd nd od : Addr) (on : Obj) (c1 c2 c3 c4 e1 e2 e3 e4 e5 : Int) (a1 a2 a3 a4 a6 b1 b2 b3 b4 b5 b6 b7 tl : Tok) (nk no : Nat), Fr h₀ L h' m → on.IsDictOf (PySem.strKind Challenge.rw_nu0320_01.row.prog w) [] → (nd == sysModules) = false → [ax, ad, ak, sx, sd, nd, od].Nodup →
      News h₀ L h' ([(ax, instObj 172 ad), (ad, scopesD c1 c2 c3 c4 a1 a2 a3 a4 tx (.str (Str.ofString "M") tm) ak (-1) a6), (ak, listOf ([] ++ [Value.ref sx]).toArray nk), (sx, instObj 109 sd),
        (sd, scopeD e1 e2 e3 e4 e5 b1 b2 b3 b4 b5 (-1) b6 (.str (Str.ofString "") tl) nd od 0 b7), (nd, on), (od, listOf ([] : List Value).toArray no)] ++ news) →
      (∀ p ∈ [(ax, instObj 172 ad), (ad, scopesD c1 c2 c3 c4 a1 a2 a3 a4 tx (.str (Str.ofString "M") tm) ak (-1) a6), (ak, listOf ([] ++ [Value.ref sx]).toArray nk), (sx, instObj 109 sd),
        (sd, scopeD e1 e2 e3 e4 e5 b1 b2 b3 b4 b5 (-1) b6 (.str (Str.ofString "") tl) nd od 0 b7), (nd, on), (od, listOf ([] : List Value).toArray no)], ∀ q ∈ news, q.1 ≠ p.1) → Q (.ref ax) { s with heap := h', toks := tk }) : wpAny (model Challenge.rw_nu0320_01.row.prog w) { handled := none, depth := d, frames := some (env :: outer), guards := some [], units := u } (call (.ref 172) [tx, .str (Str.ofString "M") tm]) Q E s := by
  revert X; k_fill; intro X
  refine' call_cls F X N ?k4 ?k5 ?k6 ?_; (case k4 => k_is); (case k5 => k_is); (case k6 => k_is)
  intro x d' h1 F1 N1 l1 l2
  have N1' : News h₀ L h1 [(x, instObj 172 d'), (d', dictOf [] 0)] := news_sub N1 (fun q hq => by
    rcases List.mem_cons.mp hq with rfl | hq
    · exact .head _
    · rw [List.mem_singleton.mp hq]; exact .tail _ (.head _))
  replace l2 := ltN l2
  refine' code_defG B F1 X N1' T ?kA hf hke ?q6 ?q7 ?q8 ?q9 ?qB ?_ ?q2 ?q3 ?q4 ?q5; (case kA => exact rfl); (case q6 => k_is); (case q7 => k_is); (case q8 => k_room); (case q9 => exact BindsTo.of_eq rfl); (case q5 => decide); (case qB => exact locs rfl); (case q2 => exact rfl); (case q3 => exact rfl); (case q4 => exact rfl)
  intro g' L' h' FG' F' N' B' X' T' GS
  try dsimp only
  refine hold_post ?_
  k_fold
  (repeat' ((((fail_if_success (with_reducible show Hold _)); first | (k_unfold; (try dsimp only)) | (k_end; wrow_close) | walk1 | (dsimp only; walk1) | (leave1; walk_say "STEP leave1"; try dsimp only)))))
  k_unmd; (try dsimp only); k_unfold; (try dsimp only)
  refine ⟨leaveK_ (by assumption) (by assumption) ?_⟩; intro kF kN
  refine ⟨rfl, ?_⟩
  dsimp only at kN ⊢
  have hN := (by with_reducible assumption : News g' L' _ ((_, _) :: (_, _) :: _))
  obtain ⟨r1, r2⟩ := cls_fin N1 l1 l2 GS (Fr.keep (by assumption)) (news_perm7 hN) (news_perm7 kN)
  exact h _ _ x d' _ _ _ _ _ _ _ _ _ _ _ _ _ _ _ _ _ _ _ _ _ _ _ _ _ _ _ _ _ _ kF (by with_reducible assumption) (by with_reducible assumption) (nodup7 ⟨by k_ne, by k_ne, by k_ne, by k_ne, by k_ne, by k_ne⟩ ⟨by k_ne, by k_ne, by k_ne, by k_ne, by k_ne⟩ ⟨by k_ne, by k_ne, by k_ne, by k_ne⟩ ⟨by k_ne, by k_ne, by k_ne⟩ ⟨by k_ne, by k_ne⟩ (by k_ne)) r1 r2
end Zscopesspec
theorem scopes_spec {w : World} {A₀ : Around} {base : Heap} {h₀ : Heap} {outer : List Env} {env : Env} {d : Nat} {u : Nat} {L : Addr} {m : Str → Option Value} {mg : Str → Option Value} {mb : Str → Option Value} {mean : ExcName → Option Value} {news : List (Addr × Obj)} {s : Shared} {E : Value → Shared → Prop} {Q : Value → Shared → Prop} {tx : Value} {tm : Tok} (B : Below A₀ base outer h₀) (F : Fr h₀ L s.heap m) (X : (Mine.fr.heap_1 w.params).In h₀) (N : News h₀ L s.heap news) (T : Top Mine.vw (looseW Mine.vw []) mean mg mb h₀) (hf : env.frame = some L) (hke : env.scope.kind = .function) (hd : d < 800) (h : ∀ (h' : Heap) (tk : Nat) (ax ad ak sx sd nd od : Addr) (on : Obj) (c1 c2 c3 c4 e1 e2 e3 e4 e5 : Int) (a1 a2 a3 a4 a6 b1 b2 b3 b4 b5 b6 b7 tl : Tok) (nk no : Nat), Fr h₀ L h' m → on.IsDictOf (PySem.strKind Challenge.rw_nu0320_01.row.prog w) [] → (nd == sysModules) = false → [ax, ad, ak, sx, sd, nd, od].Nodup →
      News h₀ L h' ([(ax, instObj 172 ad), (ad, scopesD c1 c2 c3 c4 a1 a2 a3 a4 tx (.str (Str.ofString "M") tm) ak (-1) a6), (ak, listOf ([] ++ [Value.ref sx]).toArray nk), (sx, instObj 109 sd),
        (sd, scopeD e1 e2 e3 e4 e5 b1 b2 b3 b4 b5 (-1) b6 (.str (Str.ofString "") tl) nd od 0 b7), (nd, on), (od, listOf ([] : List Value).toArray no)] ++ news) →
      (∀ p ∈ [(ax, instObj 172 ad), (ad, scopesD c1 c2 c3 c4 a1 a2 a3 a4 tx (.str (Str.ofString "M") tm) ak (-1) a6), (ak, listOf ([] ++ [Value.ref sx]).toArray nk), (sx, instObj 109 sd),
        (sd, scopeD e1 e2 e3 e4 e5 b1 b2 b3 b4 b5 (-1) b6 (.str (Str.ofString "") tl) nd od 0 b7), (nd, on), (od, listOf ([] : List Value).toArray no)], ∀ q ∈ news, q.1 ≠ p.1) → Q (.ref ax) { s with heap := h', toks := tk }) :
    wpAny (model Challenge.rw_nu0320_01.row.prog w) { handled := none, depth := d, frames := some (env :: outer), guards := some [], units := u } (call (.ref 172) [tx, .str (Str.ofString "M") tm]) Q E s :=
  (eps_all (ne := Zscopesspec.zNe) (P := Zscopesspec.zSc) Zscopesspec.zCore : ∀ c, Zscopesspec.zSc c) (w, A₀, base, h₀, outer, env, d, u, L, m, mg, mb, mean, news, s, E, Q, tx, tm) B F X N T hf hke hd h
end
-- D5
section
local macro_rules | `(tactic| walk_at "exec For") => `(tactic| (k_here; (rename Fr _ _ _ _ => lF'); (with_unfolding_all refine' For_invVF lF' ?k1 ?k2 ?_; (case k1 => exact rfl); (case k2 => exact rfl); k_whole)))
section
section
variable {prog : Program} {w : World} {A : Around} {E : Value → Shared → Prop} {s : Shared} {env : Env} {h₀ : Heap} {x : Str} {body : List Stmt} {Q : Flow → Shared → Prop} {m : Str → Option Value} {news : List (Addr × Obj)}
theorem iter_revJ {D l : Addr} {vs : List Value} {nl : Nat} {all : List (Addr × Obj)} (hh : A.handled = none) (F : Fr h₀ env.locals s.heap m) (N : News h₀ env.locals s.heap all) (hD : (D, revObj l ((vs.length : Int) - 1)) ∈ all) (hl : (l, listOf vs.toArray nl) ∈ all)
    (hsub : ∀ p ∈ news, p ∈ all) (hne : ∀ p ∈ news, p.1 ≠ D) (hlD : l ≠ D) (J : Nat → (Str → Option Value) → List (Addr × Obj) → Prop) (h0 : J 0 m news)
    (turn : ∀ i v m₁ nx h tk own, vs[vs.length - 1 - i]? = some v → i < vs.length → J i m₁ nx → (∀ p ∈ nx, p.1 ≠ D) → (∀ p ∈ own, p.1 = D ∨ p.1 = l) → (∃ o, (D, o) ∈ own) → Fr h₀ env.locals h (fun y => if y = x then some v else m₁ y) → News h₀ env.locals h (nx ++ own) →
      wpAny (model prog w) A (execs body env) (TurnPost h₀ env.locals s D own (J (i + 1)) Q) E { s with heap := h, toks := tk })
    (done : ∀ h tk m' nx, Fr h₀ env.locals h m' → News h₀ env.locals h nx → J vs.length m' nx → Q .next { s with heap := h, toks := tk }) :
    wpAny (model prog w) A (pyIter (.ref D)) (fun it s₂ => LoopAtV prog w A h₀ env x body Q E it s₂) E s := by
  have hit : s.heap.IsRevIter D l ((vs.length : Int) - 1) := ⟨_, (N _ hD).1, rfl, rfl⟩
  have hL : s.heap.IsList l vs.toArray := ⟨_, (N _ hl).1, rfl, nl, rfl⟩
  refine wpAny_pyIter_revIter hit ?_
  refine loopJ (news := news) (fp := [D, l]) (Walks.listRev hh D l hlD vs.toArray) ?_ (N _ hD).2.2 hne ⟨Nat.zero_le _, by simpa using hit, hL⟩ F (news_sub N hsub) J h0 ⟨_, (N _ hD).1⟩ (fun i h x => by obtain ⟨_, ⟨o, ho, _⟩, _⟩ := x; exact ⟨o, ho⟩) ?_ ?_
  · intro hm
    rcases List.mem_cons.mp hm with e | hm
    · exact (N _ hD).2.1 e.symm
    · exact (N _ hl).2.1 (List.mem_singleton.mp hm).symm
  · intro i v m₁ nx h tk own hi hP hJ hoff hown hI F₁ N₁
    exact turn i v m₁ nx h tk own (by simpa using hP) (by simpa using hi) hJ hoff (fun p hp => by simpa using hown p hp) hI F₁ N₁
  · intro h tk m' nx F' N' hJ
    exact done h tk m' nx F' N' (by simpa using hJ)
end
theorem in_split2 {prog : Program} {w : World} {A : Around} {E : Value → Shared → Prop} {s : Shared} {h₀ : Heap} {L d : Addr} {news : List (Addr × Obj)} {o : Obj} {kvs : List (Str × Value)} {k : Str} {t : Tok} {Q : Value → Shared → Prop} (N : News h₀ L s.heap news) (hp : (d, o) ∈ news) (hd : o.IsDictOf (PySem.strKind prog w) kvs) (lo : (d == sysModules) = false)
    (h1 : ∀ v, valueAt kvs k = some v → Q (.bool true) { s with toks := s.toks + 1 }) (h2 : valueAt kvs k = none → Q (.bool false) { s with toks := s.toks + 1 }) :
    wpAny (model prog w) A (compareOp .In (.str k t) (.ref d)) Q E s :=
  in_split N hp hd lo (fun h => by obtain ⟨v, hv⟩ := Option.isSome_iff_exists.mp h; exact h1 v hv) h2
theorem item_dict {prog : Program} {w : World} {A : Around} {E : Value → Shared → Prop} {s : Shared} {h₀ : Heap} {L d : Addr} {news : List (Addr × Obj)} {o : Obj} {kvs : List (Str × Value)} {k : Str} {t : Tok} {v : Value} {value slice : PySem.Expr} {Q : Value → Shared → Prop} (N : News h₀ L s.heap news) (hp : (d, o) ∈ news) (hd : o.IsDictOf (PySem.strKind prog w) kvs) (hl : valueAt kvs k = some v) (h : Q v { s with toks := s.toks + 1 })
    (hs : subscripted slice false (.ref d) (.str k t) = operate [.ref d, .str k t] (getItem (.ref d) (.str k t)) := by with_unfolding_all rfl) (hg : ∀ r, letTemporaryGo value (.ref d) r = pure () := by intro _; with_unfolding_all rfl) :
    wpAny (model prog w) A (subscriptTail value slice (.ref d) (.str k t)) Q E s :=
  kda_item N hp hd (strKind_is _ _ _ _) hl h hs hg
theorem allLt_mem {d : Addr} (l : List (Addr × Obj)) (h : AllLt d l) : ∀ p ∈ l, @LT.lt Nat _ p.1 d := by
  induction l with
  | nil => exact List.forall_mem_nil _
  | cons p r ih => exact List.forall_mem_cons.mpr ⟨h.1, ih h.2⟩
local macro_rules | `(tactic| walk_at "compareOp In str ref") => `(tactic| (k_here; k_dflt (refine' in_split2 ?N ?m ?d ?lo ?h1 ?h2; (case N => k_asm); (case m => k_mem); (case d => k_asm); (case lo => k_asm)); (case' h1 => intro v' hdict'); (case' h2 => intro hdict')))
local macro_rules | `(tactic| walk_at "subscriptTail") => `(tactic| (k_here; (with_reducible show wpAny _ _ (subscriptTail _ _ (Value.ref _) (Value.str _ _)) _ _ _); k_dflt (refine' item_dict ?N ?m ?d ?l ?_ ?hs ?hg; (case N => k_asm); (case m => k_mem); (case d => k_asm); (case l => with_reducible assumption); (case hs => with_unfolding_all rfl); (case hg => (intro _; with_unfolding_all rfl)); k_whole)))
theorem getItem_dict {prog : Program} {w : World} {A : Around} {E : Value → Shared → Prop} {s : Shared} {h₀ : Heap} {L d : Addr} {news : List (Addr × Obj)} {o : Obj} {kvs : List (Str × Value)} {k : Str} {t : Tok} {v : Value} {Q : Value → Shared → Prop} (N : News h₀ L s.heap news) (hp : (d, o) ∈ news) (hd : o.IsDictOf (PySem.strKind prog w) kvs) (hl : valueAt kvs k = some v) (h : Q v { s with toks := s.toks + 1 }) :
    wpAny (model prog w) A (getItem (.ref d) (.str k t)) Q E s := wpAny_getItem_of (strKind_is _ _ _ _) (kda_dict N hp hd).mapOf hl h
local macro_rules | `(tactic| walk_at "getItem ref str") => `(tactic| (k_here; k_dflt (refine' getItem_dict ?N ?m ?d ?l ?_; (case N => k_asm); (case m => k_mem); (case d => k_asm); (case l => with_reducible assumption); k_whole)))
local macro_rules | `(tactic| walk_at "getAttr ref") => `(tactic| (k_here; k_dflt (refine' get_own ?k1 ?k2 ?k3 ?k4 ?k5 ?k6 ?k7 ?k8 ?k9 ?_; (case k1 => k_asm); (case k2 => k_asm); (case k3 => k_inst); (case k8 => with_reducible assumption); (case k4 => k_is); (case k5 => k_is); (case k6 => k_is); (case k7 => k_is); (case k9 => k_handed); k_whole)))
theorem map_pin1 {m : Str → Option Value} {n a : Str} {v va : Value} (ha : m a = some va) : (fun y => if y = n then some v else m y) = fun y => if y = n then some v else if y = a then some va else m y := by
  funext y
  by_cases h1 : y = n
  · simp [h1]
  · simp only [if_neg h1]
    by_cases h2 : y = a
    · rw [if_pos h2, h2, ha]
    · rw [if_neg h2]
/-- a scope as the search reads it -/
structure FD where
  sx : Addr
  sd : Addr
  es : List DictEntry
  n : Nat
  nd : Addr
  on : Obj
  kvs : List (Str × Value)
def FD.rf (f : FD) : Value := .ref f.sx
def FD.cells (f : FD) : List (Addr × Obj) := [(f.sx, instObj 109 f.sd), (f.sd, dictOf f.es f.n), (f.nd, f.on)]
structure FD.Ok (prog : Program) (w : World) (f : FD) : Prop where
  names : getL (Str.ofString "names") f.es = some (some (.ref f.nd))
  dict : f.on.IsDictOf (PySem.strKind prog w) f.kvs
  lo : (f.nd == sysModules) = false
def foundIn (fr : List FD) (name : Str) : Value := (fr.reverse.findSome? fun f => valueAt f.kvs name).getD .none
theorem foundIn_some {fr : List FD} {name : Str} {i : Nat} {f : FD} {v : Value} (h : fr.reverse[i]? = some f) (hno : ∀ f ∈ fr.reverse.take i, valueAt f.kvs name = none) (hv : valueAt f.kvs name = some v) : foundIn fr name = v := by
  unfold foundIn
  generalize fr.reverse = l at h hno
  induction l generalizing i with
  | nil => simp at h
  | cons a r ih =>
    cases i with
    | zero =>
      simp only [List.getElem?_cons_zero, Option.some.injEq] at h
      subst h
      simp [List.findSome?_cons, hv]
    | succ i =>
      simp only [List.getElem?_cons_succ] at h
      have ha := hno a (by simp)
      rw [List.findSome?_cons, ha]
      exact ih h fun f hf => hno f (by simp [hf])
theorem foundIn_none {fr : List FD} {name : Str} (hno : ∀ f ∈ fr.reverse, valueAt f.kvs name = none) : foundIn fr name = .none := by
  unfold foundIn
  rw [List.findSome?_eq_none_iff.mpr hno]; rfl
namespace Zfindspec
def zSt (w : World) (A₀ : Around) (base : Heap) (h₀ : Heap) (outer : List Env) (env : Env) (d : Nat) (u : Nat) (L : Addr) (m : Str → Option Value) (mg : Str → Option Value) (mb : Str → Option Value) (mean : ExcName → Option Value) (news : List (Addr × Obj)) (s : Shared) (E : Value → Shared → Prop) (Q : Value → Shared → Prop) (ax : Addr) (ad : Addr) (ak : Addr) (fr : List FD) (vtypes : Value) (lv : Int) (name : Str) (c1 : Int) (c2 : Int) (c3 : Int) (c4 : Int) (a1 : Tok) (a2 : Tok) (a3 : Tok) (a4 : Tok) (a5 : Tok) (a6 : Tok) (tn : Tok) (nk : Nat) : Prop := ∀ (B : Below A₀ base outer h₀) (F : Fr h₀ L s.heap m) (X : (Mine.fr.heap_1 w.params).In h₀) (N : News h₀ L s.heap news) (T : Top Mine.vw (looseW Mine.vw []) mean mg mb h₀) (hf : env.frame = some L) (hke : env.scope.kind = .function) (hd : d < 800) (hsmall : ∀ q ∈ (ax, instObj 172 ad) :: (ad, scopesD c1 c2 c3 c4 a1 a2 a3 a4 vtypes (.str (Str.ofString "M") a5) ak lv a6) :: (ak, listOf (fr.map FD.rf).toArray nk) :: fr.flatMap FD.cells, q ∈ news) (hok : ∀ f ∈ fr, f.Ok Challenge.rw_nu0320_01.row.prog w) (hfr : fr.length ≤ 1000) (h : ∀ (h' : Heap) (tk : Nat), Fr h₀ L h' m → News h₀ L h' news → Q (foundIn fr name) { s with heap := h', toks := tk }), wpAny (model Challenge.rw_nu0320_01.row.prog w) { handled := none, depth := d, frames := some (env :: outer), guards := some [], units := u } (call (.ref 169) [.ref ax, .str name tn]) Q E s
def zSc (zz : (World) × (Around) × (Heap) × (Heap) × (List Env) × (Env) × (Nat) × (Nat) × (Addr) × (Str → Option Value) × (Str → Option Value) × (Str → Option Value) × (ExcName → Option Value) × (List (Addr × Obj)) × (Shared) × (Value → Shared → Prop) × (Value → Shared → Prop) × (Addr) × (Addr) × (Addr) × (List FD) × (Value) × (Int) × (Str) × (Int) × (Int) × (Int) × (Int) × (Tok) × (Tok) × (Tok) × (Tok) × (Tok) × (Tok) × (Tok) × (Nat)) : Prop := zSt zz.1 zz.2.1 zz.2.2.1 zz.2.2.2.1 zz.2.2.2.2.1 zz.2.2.2.2.2.1 zz.2.2.2.2.2.2.1 zz.2.2.2.2.2.2.2.1 zz.2.2.2.2.2.2.2.2.1 zz.2.2.2.2.2.2.2.2.2.1 zz.2.2.2.2.2.2.2.2.2.2.1 zz.2.2.2.2.2.2.2.2.2.2.2.1 zz.2.2.2.2.2.2.2.2.2.2.2.2.1 zz.2.2.2.2.2.2.2.2.2.2.2.2.2.1 zz.2.2.2.2.2.2.2.2.2.2.2.2.2.2.1 zz.2.2.2.2.2.2.2.2.2.2.2.2.2.2.2.1 zz.2.2.2.2.2.2.2.2.2.2.2.2.2.2.2.2.1 zz.2.2.2.2.2.2.2.2.2.2.2.2.2.2.2.2.2.1 zz.2.2.2.2.2.2.2.2.2.2.2.2.2.2.2.2.2.2.1 zz.2.2.2.2.2.2.2.2.2.2.2.2.2.2.2.2.2.2.2.1 zz.2.2.2.2.2.2.2.2.2.2.2.2.2.2.2.2.2.2.2.2.1 zz.2.2.2.2.2.2.2.2.2.2.2.2.2.2.2.2.2.2.2.2.2.1 zz.2.2.2.2.2.2.2.2.2.2.2.2.2.2.2.2.2.2.2.2.2.2.1 zz.2.2.2.2.2.2.2.2.2.2.2.2.2.2.2.2.2.2.2.2.2.2.2.1 zz.2.2.2.2.2.2.2.2.2.2.2.2.2.2.2.2.2.2.2.2.2.2.2.2.1 zz.2.2.2.2.2.2.2.2.2.2.2.2.2.2.2.2.2.2.2.2.2.2.2.2.2.1 zz.2.2.2.2.2.2.2.2.2.2.2.2.2.2.2.2.2.2.2.2.2.2.2.2.2.2.1 zz.2.2.2.2.2.2.2.2.2.2.2.2.2.2.2.2.2.2.2.2.2.2.2.2.2.2.2.1 zz.2.2.2.2.2.2.2.2.2.2.2.2.2.2.2.2.2.2.2.2.2.2.2.2.2.2.2.2.1 zz.2.2.2.2.2.2.2.2.2.2.2.2.2.2.2.2.2.2.2.2.2.2.2.2.2.2.2.2.2.1 zz.2.2.2.2.2.2.2.2.2.2.2.2.2.2.2.2.2.2.2.2.2.2.2.2.2.2.2.2.2.2.1 zz.2.2.2.2.2.2.2.2.2.2.2.2.2.2.2.2.2.2.2.2.2.2.2.2.2.2.2.2.2.2.2.1 zz.2.2.2.2.2.2.2.2.2.2.2.2.2.2.2.2.2.2.2.2.2.2.2.2.2.2.2.2.2.2.2.2.1 zz.2.2.2.2.2.2.2.2.2.2.2.2.2.2.2.2.2.2.2.2.2.2.2.2.2.2.2.2.2.2.2.2.2.1 zz.2.2.2.2.2.2.2.2.2.2.2.2.2.2.2.2.2.2.2.2.2.2.2.2.2.2.2.2.2.2.2.2.2.2.1 zz.2.2.2.2.2.2.2.2.2.2.2.2.2.2.2.2.2.2.2.2.2.2.2.2.2.2.2.2.2.2.2.2.2.2.2
theorem zNe : Nonempty ((World) × (Around) × (Heap) × (Heap) × (List Env) × (Env) × (Nat) × (Nat) × (Addr) × (Str → Option Value) × (Str → Option Value) × (Str → Option Value) × (ExcName → Option Value) × (List (Addr × Obj)) × (Shared) × (Value → Shared → Prop) × (Value → Shared → Prop) × (Addr) × (Addr) × (Addr) × (List FD) × (Value) × (Int) × (Str) × (Int) × (Int) × (Int) × (Int) × (Tok) × (Tok) × (Tok) × (Tok) × (Tok) × (Tok) × (Tok) × (Nat)) := ⟨(dWorld, dAround, default, default, default, default, default, default, default, default, default, default, default, default, dShared, default, default, default, default, default, default, default, default, default, default, default, default, default, default, default, default, default, default, default, default, default)⟩
noncomputable def zC : (World) × (Around) × (Heap) × (Heap) × (List Env) × (Env) × (Nat) × (Nat) × (Addr) × (Str → Option Value) × (Str → Option Value) × (Str → Option Value) × (ExcName → Option Value) × (List (Addr × Obj)) × (Shared) × (Value → Shared → Prop) × (Value → Shared → Prop) × (Addr) × (Addr) × (Addr) × (List FD) × (Value) × (Int) × (Str) × (Int) × (Int) × (Int) × (Int) × (Tok) × (Tok) × (Tok) × (Tok) × (Tok) × (Tok) × (Tok) × (Nat) := @Classical.epsilon _ zNe fun c => ¬ zSc c
noncomputable def w : World := zC.1
noncomputable def A₀ : Around := zC.2.1
noncomputable def base : Heap := zC.2.2.1
noncomputable def h₀ : Heap := zC.2.2.2.1
noncomputable def outer : List Env := zC.2.2.2.2.1
noncomputable def env : Env := zC.2.2.2.2.2.1
noncomputable def d : Nat := zC.2.2.2.2.2.2.1
noncomputable def u : Nat := zC.2.2.2.2.2.2.2.1
noncomputable def L : Addr := zC.2.2.2.2.2.2.2.2.1
noncomputable def m : Str → Option Value := zC.2.2.2.2.2.2.2.2.2.1
noncomputable def mg : Str → Option Value := zC.2.2.2.2.2.2.2.2.2.2.1
noncomputable def mb : Str → Option Value := zC.2.2.2.2.2.2.2.2.2.2.2.1
noncomputable def mean : ExcName → Option Value := zC.2.2.2.2.2.2.2.2.2.2.2.2.1
noncomputable def news : List (Addr × Obj) := zC.2.2.2.2.2.2.2.2.2.2.2.2.2.1
noncomputable def s : Shared := zC.2.2.2.2.2.2.2.2.2.2.2.2.2.2.1
noncomputable def E : Value → Shared → Prop := zC.2.2.2.2.2.2.2.2.2.2.2.2.2.2.2.1
noncomputable def Q : Value → Shared → Prop := zC.2.2.2.2.2.2.2.2.2.2.2.2.2.2.2.2.1
noncomputable def ax : Addr := zC.2.2.2.2.2.2.2.2.2.2.2.2.2.2.2.2.2.1
noncomputable def ad : Addr := zC.2.2.2.2.2.2.2.2.2.2.2.2.2.2.2.2.2.2.1
noncomputable def ak : Addr := zC.2.2.2.2.2.2.2.2.2.2.2.2.2.2.2.2.2.2.2.1
noncomputable def fr : List FD := zC.2.2.2.2.2.2.2.2.2.2.2.2.2.2.2.2.2.2.2.2.1
noncomputable def vtypes : Value := zC.2.2.2.2.2.2.2.2.2.2.2.2.2.2.2.2.2.2.2.2.2.1
noncomputable def lv : Int := zC.2.2.2.2.2.2.2.2.2.2.2.2.2.2.2.2.2.2.2.2.2.2.1
noncomputable def name : Str := zC.2.2.2.2.2.2.2.2.2.2.2.2.2.2.2.2.2.2.2.2.2.2.2.1
noncomputable def c1 : Int := zC.2.2.2.2.2.2.2.2.2.2.2.2.2.2.2.2.2.2.2.2.2.2.2.2.1
noncomputable def c2 : Int := zC.2.2.2.2.2.2.2.2.2.2.2.2.2.2.2.2.2.2.2.2.2.2.2.2.2.1
noncomputable def c3 : Int := zC.2.2.2.2.2.2.2.2.2.2.2.2.2.2.2.2.2.2.2.2.2.2.2.2.2.2.1
noncomputable def c4 : Int := zC.2.2.2.2.2.2.2.2.2.2.2.2.2.2.2.2.2.2.2.2.2.2.2.2.2.2.2.1
noncomputable def a1 : Tok := zC.2.2.2.2.2.2.2.2.2.2.2.2.2.2.2.2.2.2.2.2.2.2.2.2.2.2.2.2.1
noncomputable def a2 : Tok := zC.2.2.2.2.2.2.2.2.2.2.2.2.2.2.2.2.2.2.2.2.2.2.2.2.2.2.2.2.2.1
noncomputable def a3 : Tok := zC.2.2.2.2.2.2.2.2.2.2.2.2.2.2.2.2.2.2.2.2.2.2.2.2.2.2.2.2.2.2.1
noncomputable def a4 : Tok := zC.2.2.2.2.2.2.2.2.2.2.2.2.2.2.2.2.2.2.2.2.2.2.2.2.2.2.2.2.2.2.2.1
noncomputable def a5 : Tok := zC.2.2.2.2.2.2.2.2.2.2.2.2.2.2.2.2.2.2.2.2.2.2.2.2.2.2.2.2.2.2.2.2.1
noncomputable def a6 : Tok := zC.2.2.2.2.2.2.2.2.2.2.2.2.2.2.2.2.2.2.2.2.2.2.2.2.2.2.2.2.2.2.2.2.2.1
noncomputable def tn : Tok := zC.2.2.2.2.2.2.2.2.2.2.2.2.2.2.2.2.2.2.2.2.2.2.2.2.2.2.2.2.2.2.2.2.2.2.1
noncomputable def nk : Nat := zC.2.2.2.2.2.2.2.2.2.2.2.2.2.2.2.2.2.2.2.2.2.2.2.2.2.2.2.2.2.2.2.2.2.2.2
theorem zCore (B : Below A₀ base outer h₀) (F : Fr h₀ L s.heap m) (X : (Mine.fr.heap_1 w.params).In h₀) (N : News h₀ L s.heap news) (T : Top Mine.vw (looseW Mine.vw []) mean mg mb h₀) (hf : env.frame = some L) (hke : env.scope.kind = .function) (hd : d < 800) (hsmall : ∀ q ∈ (ax, instObj 172 ad) :: (ad, scopesD c1 c2 c3 c4 a1 a2 a3 a4 vtypes (.str (Str.ofString "M") a5) ak lv a6) :: (ak, listOf (fr.map FD.rf).toArray nk) :: fr.flatMap FD.cells, q ∈ news) (hok : ∀ f ∈ fr, f.Ok Challenge.rw_nu0320_01.row.prog w) (hfr : fr.length ≤ 1000) (h : ∀ (h' : Heap) (tk : Nat), Fr h₀ L h' m → News h₀ L h' news → Q (foundIn fr name) { s with heap := h', toks := tk }) : wpAny (model Challenge.rw_nu0320_01.row.prog w) { handled := none, depth := d, frames := some (env :: outer), guards := some [], units := u } (call (.ref 169) [.ref ax, .str name tn]) Q E s := by
  revert X; k_fill; intro X
  refine wpAny_call ?_
  have N2 := news_sub N hsmall
  refine' code_defG B F X N2 T ?kA hf hke ?k6 ?k7 ?k8 ?k9 ?kB ?_ ?c2 ?c3 ?c4 ?c5; (case kA => exact rfl); (case k6 => k_is); (case k7 => k_is); (case k8 => k_room); (case k9 => exact BindsTo.of_eq rfl); (case c5 => decide); (case kB => exact locs rfl); (case c2 => exact rfl); (case c3 => exact rfl); (case c4 => exact rfl)
  intro g' L' h' FG' F' N' B' X' T' GS
  try dsimp only
  refine hold_post ?_
  k_fold
  (repeat' ((((fail_if_success (with_reducible show Hold _)); (fail_if_success (with_reducible show wpAny _ _ (pyIter _) _ _ _)); first | (k_unfold; (try dsimp only)) | (k_end; wrow_close) | walk1 | (dsimp only; walk1) | (leave1; walk_say "STEP leave1"; try dsimp only)))))
  rename News _ _ _ _ => NF
  rename Fr _ _ _ _ => FF
  rename (_ ∧ _ ∧ _ ∧ AllLt _ (List.flatMap FD.cells fr)) => hlt
  have hcl := allLt_mem _ hlt.2.2.2
  have e1 := ltN hlt.1
  have e2 := ltN hlt.2.1
  have e3 := ltN hlt.2.2.1
  refine iter_revJ rfl FF NF (.head _) (.tail _ (.tail _ (.tail _ (.head _)))) (fun p hp => .tail _ hp) ?_ (by k_ne) (fun i m nx => nx = (ax, instObj 172 ad) :: (ad, scopesD c1 c2 c3 c4 a1 a2 a3 a4 vtypes (.str (Str.ofString "M") a5) ak lv a6) :: (ak, listOf (fr.map FD.rf).toArray nk) :: fr.flatMap FD.cells ∧
    m (Str.ofString "name") = some (.str name tn) ∧ ∀ f ∈ fr.reverse.take i, valueAt f.kvs name = none) ⟨rfl, rfl, by simp⟩ ?_ ?_
  · simp only [List.forall_mem_cons]
    exact ⟨by k_ne, by k_ne, by k_ne, fun p hp => Nat.ne_of_lt (hcl p hp)⟩
  · intro i v m₁ nx h2 tk2 own hv hi ⟨hnx, hm1, hno⟩ hoff hown hI F1 N1
    subst hnx
    rw [List.length_map] at hv hi
    rw [List.getElem?_map] at hv
    obtain ⟨f, hf1, hv2⟩ := Option.map_eq_some_iff.mp hv
    have hv3 : Value.ref f.sx = v := hv2
    subst hv3
    clear hv hv2
    have hfr1 : fr.reverse[i]? = some f := by rw [List.getElem?_reverse hi]; exact hf1
    have hfm := List.mem_of_getElem? hf1
    obtain ⟨o1, o2, o3⟩ := hok f hfm
    have N3 : News g' L' h2 ((f.sx, instObj 109 f.sd) :: (f.sd, dictOf f.es f.n) :: (f.nd, f.on) :: ((ax, instObj 172 ad) :: (ad, scopesD c1 c2 c3 c4 a1 a2 a3 a4 vtypes (.str (Str.ofString "M") a5) ak lv a6) :: (ak, listOf (fr.map FD.rf).toArray nk) :: fr.flatMap FD.cells ++ own)) := news_sub N1 (fun q hq => by
      have hc : ∀ q ∈ f.cells, q ∈ fr.flatMap FD.cells := fun q hq => List.mem_flatMap.mpr ⟨f, hfm, hq⟩
      have hc : ∀ q ∈ f.cells, q ∈ ((ax, instObj 172 ad) :: (ad, scopesD c1 c2 c3 c4 a1 a2 a3 a4 vtypes (.str (Str.ofString "M") a5) ak lv a6) :: (ak, listOf (fr.map FD.rf).toArray nk) :: fr.flatMap FD.cells) ++ own := fun q hq => List.mem_append_left _ (.tail _ (.tail _ (.tail _ (hc _ hq))))
      rcases List.mem_cons.mp hq with rfl | hq
      · exact hc _ (.head _)
      rcases List.mem_cons.mp hq with rfl | hq
      · exact hc _ (.tail _ (.head _))
      rcases List.mem_cons.mp hq with rfl | hq
      · exact hc _ (.tail _ (.tail _ (.head _)))
      exact hq)
    rw [map_pin1 hm1] at F1
    have hsmall' := hsmall
    clear FF NF hok hsmall hlt
    refine hold_post ?_
    k_fold
    (repeat' ((((fail_if_success (with_reducible show Hold _)); (fail_if_success (with_reducible show wpAny _ _ (pyIter _) _ _ _)); first | (k_unfold; (try dsimp only)) | (k_end; wrow_close) | walk1 | (dsimp only; walk1) | (leave1; walk_say "STEP leave1"; try dsimp only)))))
    all_goals ((try k_unfold); (try dsimp only))
    · rename (valueAt f.kvs name = none) => hnone
      refine ⟨turn_next _ F1 (news_sub N1 fun q hq => (List.mem_append.mp hq).elim (fun h => List.mem_append_right _ h) fun h => List.mem_append_left _ h) hoff ⟨rfl, rfl, fun f' hf' => ?_⟩⟩
      rw [List.take_add_one, hfr1] at hf'
      rcases List.mem_append.mp hf' with h | h
      · exact hno f' h
      · rw [List.mem_singleton.mp h]; exact hnone
    · rename (valueAt f.kvs name = some _) => hsome
      try k_unfold
      refine ⟨?_⟩
      unfold TurnPost
      dsimp only
      try k_unfold
      dsimp only
      refine ⟨leaveK_ F1 (news_sub N1 fun q hq => List.mem_append_left _ hq) ?_⟩; intro kF kN
      have hfi : foundIn fr name = _ := foundIn_some hfr1 hno hsome
      dsimp only
      rw [← hfi]
      exact h _ _ kF (news_frame N hsmall' GS (Fr.keep (by assumption)) kN (by intro q hq; exact .inr ⟨hq, fun r hr _ => hr⟩))
  · intro h2 tk2 m2 nx F1 N1 ⟨hnx, hm1, hno⟩
    subst hnx
    try dsimp only
    (repeat' ((((fail_if_success (with_reducible show Hold _)); (fail_if_success (with_reducible show wpAny _ _ (pyIter _) _ _ _)); first | (k_unfold; (try dsimp only)) | (k_end; wrow_close) | walk1 | (dsimp only; walk1) | (leave1; walk_say "STEP leave1"; try dsimp only)))))
    try k_unfold
    try dsimp only
    refine ⟨leaveK_ (by assumption) (by assumption) ?_⟩; intro kF kN
    have hfi : foundIn fr name = .none := foundIn_none (by rw [List.length_map, ← List.length_reverse, List.take_length] at hno; exact hno)
    dsimp only
    rw [← hfi]
    exact h _ _ kF (news_frame N hsmall GS (Fr.keep (by assumption)) kN (by intro q hq; exact .inr ⟨hq, fun r hr _ => hr⟩))
end Zfindspec
theorem find_spec {w : World} {A₀ : Around} {base : Heap} {h₀ : Heap} {outer : List Env} {env : Env} {d : Nat} {u : Nat} {L : Addr} {m : Str → Option Value} {mg : Str → Option Value} {mb : Str → Option Value} {mean : ExcName → Option Value} {news : List (Addr × Obj)} {s : Shared} {E : Value → Shared → Prop} {Q : Value → Shared → Prop} {ax : Addr} {ad : Addr} {ak : Addr} {fr : List FD} {vtypes : Value} {lv : Int} {name : Str} {c1 : Int} {c2 : Int} {c3 : Int} {c4 : Int} {a1 : Tok} {a2 : Tok} {a3 : Tok} {a4 : Tok} {a5 : Tok} {a6 : Tok} {tn : Tok} {nk : Nat} (B : Below A₀ base outer h₀) (F : Fr h₀ L s.heap m) (X : (Mine.fr.heap_1 w.params).In h₀) (N : News h₀ L s.heap news) (T : Top Mine.vw (looseW Mine.vw []) mean mg mb h₀) (hf : env.frame = some L) (hke : env.scope.kind = .function) (hd : d < 800) (hsmall : ∀ q ∈ (ax, instObj 172 ad) :: (ad, scopesD c1 c2 c3 c4 a1 a2 a3 a4 vtypes (.str (Str.ofString "M") a5) ak lv a6) :: (ak, listOf (fr.map FD.rf).toArray nk) :: fr.flatMap FD.cells, q ∈ news) (hok : ∀ f ∈ fr, f.Ok Challenge.rw_nu0320_01.row.prog w) (hfr : fr.length ≤ 1000) (h : ∀ (h' : Heap) (tk : Nat), Fr h₀ L h' m → News h₀ L h' news → Q (foundIn fr name) { s with heap := h', toks := tk }) :
    wpAny (model Challenge.rw_nu0320_01.row.prog w) { handled := none, depth := d, frames := some (env :: outer), guards := some [], units := u } (call (.ref 169) [.ref ax, .str name tn]) Q E s :=
  (eps_all (ne := Zfindspec.zNe) (P := Zfindspec.zSc) Zfindspec.zCore : ∀ c, Zfindspec.zSc c) (w, A₀, base, h₀, outer, env, d, u, L, m, mg, mb, mean, news, s, E, Q, ax, ad, ak, fr, vtypes, lv, name, c1, c2, c3, c4, a1, a2, a3, a4, a5, a6, tn, nk) B F X N T hf hke hd hsmall hok hfr h
end
example {M : Model} {A : Around} {E : Value → Shared → Prop} {s : Shared} {Q : Flow → Shared → Prop} {env : Env} (h : Q .next s) : wpAny M A (execs [] env) Q E s := by
  first | (walk1; exact h) | exact fun _ _ _ => h
-- D6
end
example {M : Model} {A : Around} {E : Value → Shared → Prop} {s : Shared} {Q : Flow → Shared → Prop} {env : Env} (h : Q .next s) : wpAny M A (execs [] env) Q E s := by
  first | (walk1; exact h) | exact fun _ _ _ => h
section
def tupOf (vs : List Value) : Obj := { cls := .type "tuple", data := .seq vs.toArray 0 }
theorem std_fin {h₀ H g h' : Heap} {L a : Addr} {o : Obj} {news : List (Addr × Obj)} (N : News h₀ L H news) (G : GSub H g (([] : List (Addr × Obj)).map (·.1))) (K : ∀ b o, g.get? b = some o → h'.get? b = some o)
    (kN : News h₀ L h' [(a, o)]) (hg : g.get? a = none) : News h₀ L h' ((a, o) :: news) ∧ ∀ q ∈ news, q.1 ≠ a :=
  ⟨news_frame N (List.forall_mem_nil _) G K kN fun q hq => by
    rcases List.mem_cons.mp hq with rfl | hq
    · exact .inl (.head _)
    · exact .inr ⟨hq, List.forall_mem_nil _⟩, fun q hq e => by
    have := G _ _ (N q hq).1 (by simp)
    rw [e, hg] at this; cases this⟩
theorem stdf_spec {w : World} {A₀ : Around} {base h₀ : Heap} {outer : List Env} {env : Env} {d u : Nat} {L : Addr} {m mg mb : Str → Option Value} {mean : ExcName → Option Value} {news : List (Addr × Obj)} {s : Shared}
    {E : Value → Shared → Prop} {Q : Value → Shared → Prop}
    (B : Below A₀ base outer h₀) (F : Fr h₀ L s.heap m) (X : (Mine.fr.heap_1 w.params).In h₀) (N : News h₀ L s.heap news) (T : Top Mine.vw (looseW Mine.vw []) mean mg mb h₀)
    (hf : env.frame = some L) (hke : env.scope.kind = .function) (hd : d < 900)
    (h : ∀ h' tk a vs, Fr h₀ L h' m → News h₀ L h' ((a, tupOf vs) :: news) → StrsAre vs (names14.take 8) → (∀ q ∈ news, q.1 ≠ a) → Q (.ref a) { s with heap := h', toks := tk }) :
    wpAny (model Challenge.rw_nu0320_01.row.prog w) { handled := none, depth := d, frames := some (env :: outer), guards := some [], units := u } (call (.ref 183) []) Q E s := by
  revert X; k_fill; intro X
  refine wpAny_call ?_
  have N2 : News h₀ L s.heap [] := News.nil
  refine' code_defG B F X N2 T ?kA hf hke ?k6 ?k7 ?k8 ?k9 ?kB ?_ ?c2 ?c3 ?c4 ?c5; (case kA => exact rfl); (case k6 => k_is); (case k7 => k_is); (case k8 => k_room); (case k9 => exact BindsTo.of_eq rfl); (case c5 => decide); (case kB => exact locs rfl); (case c2 => exact rfl); (case c3 => exact rfl); (case c4 => exact rfl)
  intro g' L' h' FG' F' N' B' X' T' GS
  try dsimp only
  refine hold_post ?_
  k_fold
  (repeat' ((((fail_if_success (with_reducible show Hold _)); first | (k_unfold; (try dsimp only)) | (k_end; wrow_close) | walk1 | (dsimp only; walk1) | (leave1; walk_say "STEP leave1"; try dsimp only)))))
  try k_unfold
  try dsimp only
  refine ⟨leaveK_ (by assumption) (by assumption) ?_⟩; intro kF kN
  have hN := (by with_reducible assumption : News g' L' _ [(_, _)])
  obtain ⟨r1, r2⟩ := std_fin N GS (Fr.keep (by assumption)) kN (hN _ (.head _)).2.2
  exact h _ _ _ _ kF r1 (by unfold names14; repeat constructor) r2
theorem stdp_spec {w : World} {A₀ : Around} {base h₀ : Heap} {outer : List Env} {env : Env} {d u : Nat} {L : Addr} {m mg mb : Str → Option Value} {mean : ExcName → Option Value} {news : List (Addr × Obj)} {s : Shared}
    {E : Value → Shared → Prop} {Q : Value → Shared → Prop}
    (B : Below A₀ base outer h₀) (F : Fr h₀ L s.heap m) (X : (Mine.fr.heap_1 w.params).In h₀) (N : News h₀ L s.heap news) (T : Top Mine.vw (looseW Mine.vw []) mean mg mb h₀)
    (hf : env.frame = some L) (hke : env.scope.kind = .function) (hd : d < 900)
    (h : ∀ h' tk a vs, Fr h₀ L h' m → News h₀ L h' ((a, tupOf vs) :: news) → StrsAre vs (names14.drop 8) → (∀ q ∈ news, q.1 ≠ a) → Q (.ref a) { s with heap := h', toks := tk }) :
    wpAny (model Challenge.rw_nu0320_01.row.prog w) { handled := none, depth := d, frames := some (env :: outer), guards := some [], units := u } (call (.ref 190) []) Q E s := by
  revert X; k_fill; intro X
  refine wpAny_call ?_
  have N2 : News h₀ L s.heap [] := News.nil
  refine' code_defG B F X N2 T ?kA hf hke ?k6 ?k7 ?k8 ?k9 ?kB ?_ ?c2 ?c3 ?c4 ?c5; (case kA => exact rfl); (case k6 => k_is); (case k7 => k_is); (case k8 => k_room); (case k9 => exact BindsTo.of_eq rfl); (case c5 => decide); (case kB => exact locs rfl); (case c2 => exact rfl); (case c3 => exact rfl); (case c4 => exact rfl)
  intro g' L' h' FG' F' N' B' X' T' GS
  try dsimp only
  refine hold_post ?_
  k_fold
  (repeat' ((((fail_if_success (with_reducible show Hold _)); first | (k_unfold; (try dsimp only)) | (k_end; wrow_close) | walk1 | (dsimp only; walk1) | (leave1; walk_say "STEP leave1"; try dsimp only)))))
  try k_unfold
  try dsimp only
  refine ⟨leaveK_ (by assumption) (by assumption) ?_⟩; intro kF kN
  have hN := (by with_reducible assumption : News g' L' _ [(_, _)])
  obtain ⟨r1, r2⟩ := std_fin N GS (Fr.keep (by assumption)) kN (hN _ (.head _)).2.2
  exact h _ _ _ _ kF r1 (by unfold names14; repeat constructor) r2
end
-- E1
section
section
variable {prog : Program} {w : World} {A : Around} {E : Value → Shared → Prop} {s : Shared} {h₀ : Heap} {L : Addr} {m : Str → Option Value} {news : List (Addr × Obj)}
theorem collectT {l : Addr} {vs : List Value} {o : Obj} {n : Nat} {Q : List Value → Shared → Prop} (ho : s.heap.get? l = some o) (hc : o.cls = .type "tuple") (hd : o.data = .seq vs.toArray n)
    (h : Q vs { s with heap := (s.heap.push (seqObj "list" #[] 0)).update s.heap.objs.size (Obj.mapSeq (· ++ vs.toArray)) }) (hsz : vs.length ≤ 1000) :
    wpAny (model prog w) A (collect (.ref l)) Q E s := by
  unfold collect
  refine wpAny_bind (wpAny_runValue (codeAny_builtin entry_proto_collect' ?_))
  show wpAny _ _ (do again (.builtin "list.__iadd__" ⟨[← newList [], .ref l], []⟩)) _ _ s
  refine wpAny_bind (wpAny_newList (wpAny_pure ⟨Code.quiet_builtin _ (by decide +kernel), codeAny_builtin entry_list_iadd' ?_⟩))
  show wpAny _ _ (Builtin.List.listExtendWith (.ref s.heap.objs.size) (.ref l) (.ref s.heap.objs.size)) _ _ { s with heap := s.heap.push (seqObj "list" #[] 0) }
  unfold Builtin.List.listExtendWith
  have ho' : (s.heap.push (seqObj "list" #[] 0)).get? l = some o := Heap.get?_push_of_some _ ho
  refine wpAny_bind (wpAny_typeOf (T := "tuple") ⟨o, ho', hc⟩ ?_)
  have ht : (Value.type "tuple" == Value.type "tuple") = true := by rfl
  rw [if_pos (by rw [ht]; simp)]
  refine wpAny_bind (listItems_at ho' hd ?_)
  refine wpAny_bind (listItems_at (xs := #[]) (n := 0) (Heap.get?_push_size _ rfl) rfl ?_)
  rw [if_neg (by simp)]
  refine wpAny_bind (listUpdate_at (xs := #[]) (n := 0) (Heap.get?_push_size _ rfl) rfl ?_ (Nat.zero_le _) (by show (#[] ++ vs.toArray).size ≤ sizeLine + 1; simp only [Array.size_append, List.size_toArray, List.length_nil]; rw [sizeLine_eq]; omega))
  refine wpAny_pure ?_
  show wpAny (model prog w) A (do
      let o ← load s.heap.objs.size
      match o.data with
      | .seq xs _ => pure xs.toList
      | _ => unsupported "internal:collect") Q E { s with heap := (s.heap.push (seqObj "list" #[] 0)).update s.heap.objs.size (Obj.mapSeq (· ++ vs.toArray)) }
  refine wpAny_bind (wpAny_load (get?_update_seq (Heap.get?_push_size _ rfl) _) ?_)
  show wpAny _ _ (pure ((#[] : Array Value) ++ vs.toArray).toList) Q E _
  rw [show ((#[] : Array Value) ++ vs.toArray).toList = vs by simp]
  exact wpAny_pure h
theorem sortedT {l : Addr} {vs : List Value} {ss : List Str} {n : Nat} {Q : Value → Shared → Prop} (F : Fr h₀ L s.heap m) (N : News h₀ L s.heap news) (hl : (l, ({ cls := .type "tuple", data := .seq vs.toArray n } : Obj)) ∈ news) (hS : StrsAre vs ss) (h64 : vs.length < 64)
    (h : ∀ (h' : Heap) (D : Addr) (vs' : List Value) (ss' : List Str) (e : Nat), Fr h₀ L h' m → News h₀ L h' ((D, seqObj "list" vs'.toArray e) :: news) →
      StrsAre vs' ss' → ss'.Perm ss → sortedS ss' = true → (∀ q ∈ news, q.1 ≠ D) → Q (.ref D) { s with heap := h' }) :
    wpAny (model prog w) A (call (.builtin "sorted") [.ref l]) Q E s := by
  refine Calls.call_function_entry kind_sorted plain_sorted entry_sorted (args_sorted1 _) ?_
  unfold Builtin.«sorted»
  refine wpAny_bind (m := checkCount "sorted" 1 1 _) (wpAny_pure ?_)
  refine wpAny_bind (collectT (N _ hl).1 rfl rfl ?_ (by omega))
  refine wpAny_bind (wpAny_newList ?_)
  have hsz : ((s.heap.push (seqObj "list" #[] 0)).update s.heap.objs.size (Obj.mapSeq (· ++ vs.toArray))).objs.size = s.heap.objs.size + 1 := by
    rw [Heap.size_update, size_push']
  have hoL : (((s.heap.push (seqObj "list" #[] 0)).update s.heap.objs.size (Obj.mapSeq (· ++ vs.toArray))).push (seqObj "list" vs.toArray 0)).get? (s.heap.objs.size + 1) = some (seqObj "list" vs.toArray 0) := by
    rw [← hsz]; exact Heap.get?_push_size _ rfl
  show wpAny _ _ _ _ _ { s with heap := ((s.heap.push (seqObj "list" #[] 0)).update s.heap.objs.size (Obj.mapSeq (· ++ vs.toArray))).push (seqObj "list" vs.toArray 0) }
  rw [hsz]
  refine wpAny_bind (wpAny_holding (wpAny_call_entry slot_list_sort ⟨_, hoL, rfl⟩ entry_list_sort (list_sort_treeK strKind_oneLt hoL hS.keysOf (fun v₁ v₂ rest e => keyKind_strs (by rw [← e]; exact hS)) h64 fun st' a1 a2 => ⟨_, rfl, ?_⟩) (args_list_sort _)))
  refine wpAny_pure ⟨_, rfl, ?_⟩
  obtain ⟨ss', h1, h2, h3⟩ := sorted_out_str hS a1 a2
  obtain ⟨e, he⟩ := sortedAll_at s.heap vs ((arrOf st').map (·.2))
  refine h _ _ ((arrOf st').map (·.2)).toList ss' e (F.kept fun _ _ => sortedAll_old) (N.kept_cons F (fun _ _ => sortedAll_old) (Nat.le_succ _) he) h1 h2 h3 fun q hq e' => ?_
  have := Heap.lt_size (N q hq).1
  rw [e'] at this
  exact absurd (Nat.lt_of_succ_lt this) (Nat.lt_irrefl _)
theorem ke_canLayS : ∀ ns : List Str, ns.all PyData.strOk = true → PyData.canLayAll0 (ns.map PyData.str) = true
  | [], _ => rfl
  | x :: r, h => by
    simp only [List.all_cons, Bool.and_eq_true] at h
    simp [PyData.canLayAll0, PyData.canLay0, ke_canLayS r h.2, h.1]
theorem ke_depthS : ∀ ns : List Str, PyData.depthAll (ns.map PyData.str) = 0
  | [] => rfl
  | _ :: r => by simp [PyData.depthAll, PyData.depth, ke_depthS r]
theorem ke_shapedS (ns : List Str) (h : ns.all PyData.strOk = true) : SeqAt.shaped (.list (ns.map PyData.str)) = true := by
  simp [SeqAt.shaped, PyData.canLay0, PyData.depth, ke_canLayS ns h, ke_depthS]
theorem ke_sameS : ∀ ns ms : List Str, PySem.Spec.sameAll (ns.map PyData.str) (ms.map PyData.str) = decide (ns = ms)
  | [], [] => by simp [PySem.Spec.sameAll]
  | [], _ :: _ => by simp [PySem.Spec.sameAll]
  | _ :: _, [] => by simp [PySem.Spec.sameAll]
  | a :: r, b :: t => by
    simp only [List.map_cons, PySem.Spec.sameAll, PySem.Spec.same, ke_sameS r t]
    by_cases h : a = b <;> by_cases h' : r = t <;> simp [h, h']
theorem ke_sameL (ns ms : List Str) : PySem.Spec.same (.list (ns.map PyData.str)) (.list (ms.map PyData.str)) = decide (ns = ms) := by
  simp only [PySem.Spec.same]; exact ke_sameS ns ms
theorem ke_carriedS : ∀ {vs : List Value} {ns : List Str}, StrsAre vs ns → CarriedAll vs (ns.map PyData.str)
  | _, _, .nil => .nil
  | _, _, .cons _ t r => .cons (.str _ t) (ke_carriedS r)
theorem ne_strs {a b : Addr} {xs ys : List Value} {ns ms : List Str} {Q : Value → Shared → Prop} (ha : s.heap.IsList a xs.toArray) (hb : s.heap.IsList b ys.toArray) (hi : StrsAre xs ns) (hj : StrsAre ys ms) (h1 : ns.all PyData.strOk = true) (h2 : ms.all PyData.strOk = true) (hu : A.units + 64 < cLine) (h : Q (.bool (!decide (ns = ms))) s) :
    wpAny (model prog w) A (compareOp .NotEq (.ref a) (.ref b)) Q E s :=
  ne_dataH_same (reads_newData ha (ke_carriedS hi)) (reads_newData hb (ke_carriedS hj)) (ke_shapedS _ h1) (ke_shapedS _ h2) hu (SeqAt.noMix_of_shape (.list .str) rfl _ _ (list_map_has fun _ => rfl) (list_map_has fun _ => rfl)) (by rw [ke_sameL]; exact h)
end
theorem ltf {a b : List Nat} : ltCps b a = false ↔ a ≤ b := by
  rw [ltCps_eq, decide_eq_false_iff_not]; exact List.not_lt
theorem rising_pair : ∀ (r : List Str) (x : Str), risingS x r = true → (∀ y ∈ r, x.cps.toList ≤ y.cps.toList) ∧ r.Pairwise (fun a b => a.cps.toList ≤ b.cps.toList)
  | [], _, _ => ⟨List.forall_mem_nil _, .nil⟩
  | y :: r, x, h => by
    simp only [risingS, Bool.and_eq_true, Bool.not_eq_true'] at h
    obtain ⟨h1, h2⟩ := rising_pair r y h.2
    have h3 := ltf.mp h.1
    exact ⟨List.forall_mem_cons.mpr ⟨h3, fun z hz => List.le_trans h3 (h1 z hz)⟩, .cons h1 h2⟩
theorem sortedS_pair : ∀ {l : List Str}, sortedS l = true → l.Pairwise (fun a b => a.cps.toList ≤ b.cps.toList)
  | [], _ => .nil
  | x :: r, h => let ⟨h1, h2⟩ := rising_pair r x h; .cons h1 h2
theorem sorted_same {a b : List Str} (hp : a.Perm b) (ha : sortedS a = true) (hb : sortedS b = true) : a = b := by
  refine hp.eq_of_pairwise (fun x y _ _ h1 h2 => ?_) (sortedS_pair ha) (sortedS_pair hb)
  exact Str.ext' (Array.toList_inj.mp (List.le_antisymm h1 h2))
section
variable {prog : Program} {w : World} {A : Around} {E : Value → Shared → Prop} {s : Shared} {h₀ : Heap} {L : Addr} {m : Str → Option Value} {news : List (Addr × Obj)}
theorem sortedL {l : Addr} {vs : List Value} {ss : List Str} {n : Nat} {Q : Value → Shared → Prop} (F : Fr h₀ L s.heap m) (N : News h₀ L s.heap news) (hl : (l, listOf vs.toArray n) ∈ news) (hS : StrsAre vs ss) (h64 : vs.length < 64)
    (h : ∀ (h' : Heap) (D : Addr) (vs' : List Value) (ss' : List Str) (e : Nat), Fr h₀ L h' m → News h₀ L h' ((D, seqObj "list" vs'.toArray e) :: news) →
      StrsAre vs' ss' → ss'.Perm ss → sortedS ss' = true → (∀ q ∈ news, q.1 ≠ D) → Q (.ref D) { s with heap := h' }) :
    wpAny (model prog w) A (call (.builtin "sorted") [.ref l]) Q E s := by
  refine sorted_N_str F N ⟨_, (N _ hl).1, rfl, n, rfl⟩ hS h64 fun h' vs' ss' e F' N' h1 h2 h3 => h h' _ vs' ss' e F' N' h1 h2 h3 fun q hq e' => ?_
  have := Heap.lt_size (N q hq).1
  rw [e'] at this
  exact absurd (Nat.lt_of_succ_lt this) (Nat.lt_irrefl _)
theorem ne_same {a b : Addr} {xs ys : List Value} {ns ms ks : List Str} {o1 o2 : Nat} {Q : Value → Shared → Prop} (N : News h₀ L s.heap news) (ha : (a, seqObj "list" xs.toArray o1) ∈ news) (hb : (b, seqObj "list" ys.toArray o2) ∈ news) (hi : StrsAre xs ns) (hj : StrsAre ys ms)
    (p1 : ns.Perm ks) (p2 : ms.Perm ks) (s1 : sortedS ns = true) (s2 : sortedS ms = true) (hk : ks.all PyData.strOk = true) (hu : A.units + 64 < cLine) (h : Q (.bool false) s) :
    wpAny (model prog w) A (compareOp .NotEq (.ref a) (.ref b)) Q E s := by
  have e := sorted_same (p1.trans p2.symm) s1 s2
  subst e
  have hn : ns.all PyData.strOk = true := List.all_eq_true.mpr fun x hx => List.all_eq_true.mp hk x (p1.mem_iff.mp hx)
  exact ne_strs ⟨_, (N _ ha).1, rfl, o1, rfl⟩ ⟨_, (N _ hb).1, rfl, o2, rfl⟩ hi hj hn hn hu (by simpa using h)
end
end
-- M0
end
example {M : Model} {A : Around} {E : Value → Shared → Prop} {s : Shared} {Q : Flow → Shared → Prop} {env : Env} (h : Q .next s) : wpAny M A (execs [] env) Q E s := by
  first | (walk1; exact h) | exact fun _ _ _ => h
section
local macro_rules | `(tactic| k_mem) => `(tactic| first | exact List.Mem.head _ | (with_reducible assumption) | (refine' List.mem_cons_of_mem _ ?_; k_mem))
section
theorem allLt_ne {d : Addr} {l : List (Addr × Obj)} (h : AllLt d l) : ∀ p ∈ l, p.1 ≠ d := fun p hp => Nat.ne_of_lt (allLt_mem _ h p hp)
theorem map_eq1 {m : Str → Option Value} {a : Str} {va : Value} (ha : m a = some va) : m = fun y => if y = a then some va else m y := by
  funext y
  by_cases h2 : y = a
  · rw [if_pos h2, h2, ha]
  · rw [if_neg h2]
theorem news_comm {h₀ H : Heap} {L : Addr} {a b : List (Addr × Obj)} (N : News h₀ L H (a ++ b)) : News h₀ L H (b ++ a) := news_sub N fun q hq => (List.mem_append.mp hq).elim (fun h => List.mem_append_right _ h) fun h => List.mem_append_left _ h
noncomputable def recOf {q : Program} {n : Str} {d : DefRec} {kwd : List (Str × Expr)} (_ : defOf q n = some (d, kwd)) : DefRec := d
noncomputable def lawRec : DefRec := recOf (rfl : defOf Mine.vw (Str.ofString "law") = some (_, _))
noncomputable def lawBody : List Stmt := lawRec.body
noncomputable def lawScope : Scope := lawRec.scope
noncomputable def lawName : Str := lawRec.name
def drop4 : List Stmt → List Stmt
  | _ :: _ :: _ :: _ :: r => r
  | _ => []
def drop5 : List Stmt → List Stmt
  | _ :: _ :: _ :: _ :: _ :: r => r
  | _ => []
noncomputable abbrev lawEnv (L fa : Addr) (cd : Value) : Env := envOfC lawName lawScope L fa cd
end
-- E2
section
section
variable {prog : Program} {w : World} {A : Around} {E : Value → Shared → Prop} {s : Shared} {h₀ : Heap} {L : Addr} {m : Str → Option Value} {env : Env} {elt ct : Expr} {x : Str} {scope : Scope} {cl : List (Str × Addr)} {S : List (Addr × Obj) → Prop} {P : Nat → Value → Prop}
  {Fin : List Value → List (Addr × Obj) → Prop}
theorem compEnd_mono {s₁ s₂ : Shared} {I C D : Addr} {oI oC oD : Obj} {r r' : Value → List (Addr × Obj) → Prop} {y : Value} (h : LCg.CompEnd h₀ L m s₁ I oI C oC D oD S r y s₂) (hr : ∀ news, r y news → r' y news) : LCg.CompEnd h₀ L m s₁ I oI C oC D oD S r' y s₂ := by
  obtain ⟨h', tk, news', e, F, N, o, hS, hy⟩ := h
  exact ⟨h', tk, news', e, F, N, o, hS, hr _ hy⟩
theorem comp_ind (n : Nat) (Inv : Nat → List Value → List (Addr × Obj) → Prop)
    (step : ∀ i ys news v I oI C oC D m₂ h tk (E' : Value → Shared → Prop), i < n → Inv i ys news → P i v → LCg.NsObj oC m₂ → m₂ x = some v → Fr h₀ L h m → News h₀ L h ((I, oI) :: (C, oC) :: (D, LCg.lst ys) :: news) → LCg.Off3 I C D news → ((@Ne Nat I C) ∧ (@Ne Nat I D) ∧ (@Ne Nat C D)) →
      wpAny (model prog w) A (eval elt (compEnvC scope cl C env)) (LCg.CompEnd h₀ L m { s with heap := h, toks := tk } I oI C oC D (LCg.lst ys) S (fun y news' => Inv (i + 1) (ys ++ [y]) news')) E' { s with heap := h, toks := tk })
    (fin : ∀ ys news, Inv n ys news → Fin ys news) : ∀ k i ys news, i + k = n → Inv i ys news → LCg.CompRest prog w A h₀ L m env elt x scope cl s S P Fin k i ys news := by
  intro k
  induction k with
  | zero => intro i ys news e hi; exact fin ys news (by rw [Nat.add_zero] at e; rwa [e] at hi)
  | succ k ih =>
    intro i ys news e hi
    refine LCg.CompRest.succ fun v I oI C oC D m₂ h tk E' hP hN hm F N o d => ?_
    exact wpAny_mono (step i ys news v I oI C oC D m₂ h tk E' (by omega) hi hP hN hm F N o d) (fun y s' hy => compEnd_mono hy fun news' hr => ih (i + 1) _ _ (by omega) hr) fun _ _ e => e
theorem comp_indT (n : Nat) (Inv : Nat → List Value → List (Addr × Obj) → Prop)
    (step : ∀ i ys news v I oI C oC D m₂ h tk (E' : Value → Shared → Prop), i < n → Inv i ys news → P i v → LCg.NsObj oC m₂ → m₂ x = some v → Fr h₀ L h m → News h₀ L h ((I, oI) :: (C, oC) :: (D, LCg.lst ys) :: news) → LCg.Off3 I C D news → ((@Ne Nat I C) ∧ (@Ne Nat I D) ∧ (@Ne Nat C D)) →
      wpAny (model prog w) A (isTrue ct (compEnvC scope cl C env) (eval ct (compEnvC scope cl C env))) (fun ok s' => if ok = true then
        wpAny (model prog w) A (eval elt (compEnvC scope cl C env)) (LCg.CompEnd h₀ L m { s with heap := h, toks := tk } I oI C oC D (LCg.lst ys) S (fun y news' => Inv (i + 1) (ys ++ [y]) news')) E' s'
        else LCg.CompEnd h₀ L m { s with heap := h, toks := tk } I oI C oC D (LCg.lst ys) S (fun _ news' => Inv (i + 1) ys news') Value.none s') E' { s with heap := h, toks := tk })
    (fin : ∀ ys news, Inv n ys news → Fin ys news) : ∀ k i ys news, i + k = n → Inv i ys news → LCt.CompRestT prog w A h₀ L m env ct elt x scope cl s S P Fin k i ys news := by
  intro k
  induction k with
  | zero => intro i ys news e hi; exact fin ys news (by rw [Nat.add_zero] at e; rwa [e] at hi)
  | succ k ih =>
    intro i ys news e hi
    refine LCt.CompRestT.succ fun v I oI C oC D m₂ h tk E' hP hN hm F N o d => ?_
    refine wpAny_mono (step i ys news v I oI C oC D m₂ h tk E' (by omega) hi hP hN hm F N o d) (fun ok s' hy => ?_) fun _ _ e => e
    by_cases hok : ok = true
    · rw [if_pos hok] at hy ⊢
      exact wpAny_mono hy (fun y s' hy => compEnd_mono hy fun news' hr => ih (i + 1) _ _ (by omega) hr) fun _ _ e => e
    · rw [if_neg hok] at hy ⊢
      exact compEnd_mono hy fun news' hr => ih (i + 1) _ _ (by omega) hr
end
end
-- E3
end
end
example {M : Model} {A : Around} {E : Value → Shared → Prop} {s : Shared} {Q : Flow → Shared → Prop} {env : Env} (h : Q .next s) : wpAny M A (execs [] env) Q E s := by
  first | (walk1; exact h) | exact fun _ _ _ => h
section
local macro_rules | `(tactic| walk_at "getAttr ref") => `(tactic| (k_here; k_dflt (refine' get_own ?k1 ?k2 ?k3 ?k4 ?k5 ?k6 ?k7 ?k8 ?k9 ?_; (case k1 => k_asm); (case k2 => k_asm); (case k3 => k_inst); (case k8 => with_reducible assumption); (case k4 => k_is); (case k5 => k_is); (case k6 => k_is); (case k7 => k_is); (case k9 => k_handed); k_whole)))
section
def rowObj (nm : Str) (t : Tok) (v : Value) : Obj := { cls := .type "tuple", data := .seq #[.str nm t, v] }
theorem rows0_elt {w : World} {A : Around} {E : Value → Shared → Prop} {s : Shared} {h₀ : Heap} {L C : Addr} {m m₂ : Str → Option Value} {env : Env} {scope : Scope} {cl : List (Str × Addr)} {news : List (Addr × Obj)} {oC : Obj} {p1 p2 p3 : Pos} {nm : Str} {t : Tok} {Q : Value → Shared → Prop}
    (X : (Mine.fr.heap_1 w.params).In h₀) (F : Fr h₀ L s.heap m) (N : News h₀ L s.heap news) (hC : (C, oC) ∈ news) (hNs : LCg.NsObj oC m₂) (hm : m₂ (Str.ofString "name") = some (.str nm t))
    (hk : (compEnvC scope cl C env).scope.kind = .function) (hx : (compEnvC scope cl C env).kindOf (Str.ofString "name") = some .local)
    (h : ∀ h' tk a, Fr h₀ L h' m → News h₀ L h' ((a, rowObj nm t .none) :: news) → (∀ q ∈ news, q.1 ≠ a) → Q (.ref a) { s with heap := h', toks := tk }) :
    wpAny (model Challenge.rw_nu0320_01.row.prog w) A (eval (.Tuple [.Name (Str.ofString "name") p1, .Constant .none 0 p2] 0 p3) (compEnvC scope cl C env)) Q E s := by
  revert X; k_fill; intro X
  refine hold_post ?_
  k_fold
  (((fail_if_success (with_reducible show Hold _)); first | (k_unfold; (try dsimp only)) | (k_end; wrow_close) | walk1 | (dsimp only; walk1) | (leave1; walk_say "STEP leave1"; try dsimp only)))
  (((fail_if_success (with_reducible show Hold _)); first | (k_unfold; (try dsimp only)) | (k_end; wrow_close) | walk1 | (dsimp only; walk1) | (leave1; walk_say "STEP leave1"; try dsimp only)))
  refine PySem.W.LCgL.ld_own N hC hNs hm ?_ hk hx (by decide)
  (repeat' ((((fail_if_success (with_reducible show Hold _)); first | (k_unfold; (try dsimp only)) | (k_end; wrow_close) | walk1 | (dsimp only; walk1) | (leave1; walk_say "STEP leave1"; try dsimp only)))))
  k_unfold
  try dsimp only
  rename (∀ p : Addr × Obj, p ∈ _ → p.1 < _) => hlt
  exact ⟨h _ _ _ (by with_reducible assumption) (by assumption) (fun q hq => Nat.ne_of_lt (hlt q hq))⟩
local macro_rules | `(tactic| k_mem) => `(tactic| first | exact List.Mem.head _ | (with_reducible assumption) | (refine' List.mem_cons_of_mem _ ?_; k_mem))
local macro_rules | `(tactic| walk_at "eval Name") => `(tactic| (k_dflt (refine' PySem.W.LCgL.ld_own ?N ?hC ?hNs ?hm ?_ ?hk ?hx ?hd; (case N => with_reducible assumption); (case hNs => with_reducible assumption); (case hm => with_reducible assumption); (case hC => k_mem); (case hk => with_reducible assumption); (case hx => with_reducible assumption); (case hd => decide))))
section
variable {w : World} {A : Around} {E : Value → Shared → Prop} {s : Shared} {h₀ : Heap} {L C : Addr} {m m₂ : Str → Option Value} {env : Env} {scope : Scope} {cl : List (Str × Addr)} {news : List (Addr × Obj)} {oC : Obj} {p1 p2 p3 : Pos} {nm : Str} {t : Tok} {Q : Value → Shared → Prop}
theorem row0_elt {r : Addr} {v : Value} (X : (Mine.fr.heap_1 w.params).In h₀) (F : Fr h₀ L s.heap m) (N : News h₀ L s.heap news) (hC : (C, oC) ∈ news) (hNs : LCg.NsObj oC m₂) (hm : m₂ (Str.ofString "row") = some (.ref r)) (hr : (r, rowObj nm t v) ∈ news)
    (hk : (compEnvC scope cl C env).scope.kind = .function) (hx : (compEnvC scope cl C env).kindOf (Str.ofString "row") = some .local)
    (h : ∀ h' tk, Fr h₀ L h' m → News h₀ L h' news → Q (.str nm t) { s with heap := h', toks := tk }) :
    wpAny (model Challenge.rw_nu0320_01.row.prog w) A (eval (.Subscript (.Name (Str.ofString "row") p1) (.Constant (.int 0) 0 p2) p3) (compEnvC scope cl C env)) Q E s := by
  revert X; k_fill; intro X
  have N2 : News h₀ L s.heap ((r, rowObj nm t v) :: news) := news_sub N (List.forall_mem_cons.mpr ⟨hr, fun _ h => h⟩)
  refine hold_post ?_
  k_fold
  (((fail_if_success (with_reducible show Hold _)); first | (k_unfold; (try dsimp only)) | (k_end; wrow_close) | walk1 | (dsimp only; walk1) | (leave1; walk_say "STEP leave1"; try dsimp only)))
  refine PySem.W.LCgL.ld_own N hC hNs hm ?_ hk hx (by decide)
  (repeat' ((((fail_if_success (with_reducible show Hold _)); first | (k_unfold; (try dsimp only)) | (k_end; wrow_close) | walk1 | (dsimp only; walk1) | (leave1; walk_say "STEP leave1"; try dsimp only)))))
  k_unfold
  try dsimp only
  exact ⟨h _ _ F N⟩
theorem name_elt {x d : Addr} {n : Nat} {es : List DictEntry} (X : (Mine.fr.heap_1 w.params).In h₀) (F : Fr h₀ L s.heap m) (N : News h₀ L s.heap news) (hC : (C, oC) ∈ news) (hNs : LCg.NsObj oC m₂) (hm : m₂ (Str.ofString "obj") = some (.ref x)) (hx1 : (x, instObj 52 d) ∈ news) (hx2 : (d, dictOf es n) ∈ news)
    (hg : getL (Str.ofString "name") es = some (some (.str nm t)))
    (hk : (compEnvC scope cl C env).scope.kind = .function) (hx : (compEnvC scope cl C env).kindOf (Str.ofString "obj") = some .local)
    (h : ∀ h' tk, Fr h₀ L h' m → News h₀ L h' news → Q (.str nm t) { s with heap := h', toks := tk }) :
    wpAny (model Challenge.rw_nu0320_01.row.prog w) A (eval (.Attribute (.Name (Str.ofString "obj") p1) (Str.ofString "name") p2) (compEnvC scope cl C env)) Q E s := by
  revert X; k_fill; intro X
  have N2 : News h₀ L s.heap ((x, instObj 52 d) :: (d, dictOf es n) :: news) := news_sub N (List.forall_mem_cons.mpr ⟨hx1, List.forall_mem_cons.mpr ⟨hx2, fun _ h => h⟩⟩)
  refine hold_post ?_
  k_fold
  (((fail_if_success (with_reducible show Hold _)); first | (k_unfold; (try dsimp only)) | (k_end; wrow_close) | walk1 | (dsimp only; walk1) | (leave1; walk_say "STEP leave1"; try dsimp only)))
  refine PySem.W.LCgL.ld_own N hC hNs hm ?_ hk hx (by decide)
  (repeat' ((((fail_if_success (with_reducible show Hold _)); first | (k_unfold; (try dsimp only)) | (k_end; wrow_close) | walk1 | (dsimp only; walk1) | (leave1; walk_say "STEP leave1"; try dsimp only)))))
  k_unfold
  try dsimp only
  exact ⟨h _ _ F N⟩
theorem news_d3 {a b c d : Addr × Obj} {H : Heap} {nx : List (Addr × Obj)} (N : News h₀ L H (a :: b :: c :: d :: nx)) : News h₀ L H ([a] ++ nx) := news_sub N fun q hq => by
  rcases List.mem_cons.mp hq with h | h
  · rw [h]; exact List.Mem.head _
  · exact List.mem_cons_of_mem _ (List.mem_cons_of_mem _ (List.mem_cons_of_mem _ (List.mem_cons_of_mem _ h)))
theorem test_var {Q : Bool → Shared → Prop} {r : Addr} {x d : Addr} {n : Nat} {es : List DictEntry} {kd : Str} {t2 : Tok} {p4 p5 p6 p7 p8 p9 q1 q2 q3 q4 q5 : Pos} (X : (Mine.fr.heap_1 w.params).In h₀) (F : Fr h₀ L s.heap m) (N : News h₀ L s.heap news) (hC : (C, oC) ∈ news) (hNs : LCg.NsObj oC m₂) (hm : m₂ (Str.ofString "row") = some (.ref r)) (hr : (r, rowObj nm t (.ref x)) ∈ news)
    (hx1 : (x, instObj 52 d) ∈ news) (hx2 : (d, dictOf es n) ∈ news) (hg : getL (Str.ofString "kind") es = some (some (.str kd t2)))
    (hk : (compEnvC scope cl C env).scope.kind = .function) (hx : (compEnvC scope cl C env).kindOf (Str.ofString "row") = some .local)
    (h : ∀ h' tk nx, Fr h₀ L h' m → News h₀ L h' (nx ++ news) → (∀ p ∈ nx, ∀ q ∈ news, q.1 ≠ p.1) → Q (isVar kd) { s with heap := h', toks := tk }) :
    wpAny (model Challenge.rw_nu0320_01.row.prog w) A (isTrue (.BoolOp .And [.Compare (.Subscript (.Name (Str.ofString "row") p1) (.Constant (.int 1) 0 p2) p3) [.IsNot] [.Constant .none 0 p4] p5,
      .Compare (.Attribute (.Subscript (.Name (Str.ofString "row") p6) (.Constant (.int 1) 0 p7) p8) (Str.ofString "kind") p9) [.In] [.List [.Constant (.str (Str.ofString "var")) 0 q1, .Constant (.str (Str.ofString "par")) 0 q2] q3] q4] q5) (compEnvC scope cl C env)
      (eval (.BoolOp .And [.Compare (.Subscript (.Name (Str.ofString "row") p1) (.Constant (.int 1) 0 p2) p3) [.IsNot] [.Constant .none 0 p4] p5,
      .Compare (.Attribute (.Subscript (.Name (Str.ofString "row") p6) (.Constant (.int 1) 0 p7) p8) (Str.ofString "kind") p9) [.In] [.List [.Constant (.str (Str.ofString "var")) 0 q1, .Constant (.str (Str.ofString "par")) 0 q2] q3] q4] q5) (compEnvC scope cl C env))) Q E s := by
  revert X; k_fill; intro X
  have N2 : News h₀ L s.heap ((r, rowObj nm t (.ref x)) :: (x, instObj 52 d) :: (d, dictOf es n) :: news) := news_sub N (List.forall_mem_cons.mpr ⟨hr, List.forall_mem_cons.mpr ⟨hx1, List.forall_mem_cons.mpr ⟨hx2, fun _ h => h⟩⟩⟩)
  refine hold_post ?_
  k_fold
  (repeat' ((((fail_if_success (with_reducible show Hold _)); first | (k_unfold; (try dsimp only)) | (k_end; wrow_close) | walk1 | (dsimp only; walk1) | (leave1; walk_say "STEP leave1"; try dsimp only)))))
  all_goals (try refine isTrue_and_nil ?_)
  all_goals (k_unfold; (try dsimp only))
  all_goals (rename (_ ∧ _ ∧ _ ∧ AllLt _ news) => hlt; have hl2 := allLt_mem _ hlt.2.2.2)
  · rename (List.any _ _ = true) => ha
    have hv : isVar kd = true := by
      simp only [List.any_cons, List.any_nil, Bool.or_false, Bool.or_eq_true, beq_iff_eq] at ha
      unfold isVar
      rcases ha with rfl | rfl <;> decide
    simp only [hv] at h
    exact ⟨h _ _ [_] (by with_reducible assumption) (news_d3 (by with_reducible assumption)) (fun p hp q hq => by rw [List.mem_singleton.mp hp]; exact Nat.ne_of_lt (hl2 q hq))⟩
  · rename (List.any _ _ = false) => ha
    have hv : isVar kd = false := by
      simp only [List.any_cons, List.any_nil, Bool.or_false, Bool.or_eq_false_iff, beq_eq_false_iff_ne] at ha
      unfold isVar
      simp only [Bool.or_eq_false_iff, beq_eq_false_iff_ne]
      exact ⟨Ne.symm ha.1, Ne.symm ha.2⟩
    simp only [hv] at h
    exact ⟨h _ _ [_] (by with_reducible assumption) (news_d3 (by with_reducible assumption)) (fun p hp q hq => by rw [List.mem_singleton.mp hp]; exact Nat.ne_of_lt (hl2 q hq))⟩
theorem test_none {Q : Bool → Shared → Prop} {r : Addr} {p4 p5 p6 p7 p8 p9 q1 q2 q3 q4 q5 : Pos} (X : (Mine.fr.heap_1 w.params).In h₀) (F : Fr h₀ L s.heap m) (N : News h₀ L s.heap news) (hC : (C, oC) ∈ news) (hNs : LCg.NsObj oC m₂) (hm : m₂ (Str.ofString "row") = some (.ref r)) (hr : (r, rowObj nm t .none) ∈ news)
    (hk : (compEnvC scope cl C env).scope.kind = .function) (hx : (compEnvC scope cl C env).kindOf (Str.ofString "row") = some .local)
    (h : ∀ h' tk, Fr h₀ L h' m → News h₀ L h' news → Q false { s with heap := h', toks := tk }) :
    wpAny (model Challenge.rw_nu0320_01.row.prog w) A (isTrue (.BoolOp .And [.Compare (.Subscript (.Name (Str.ofString "row") p1) (.Constant (.int 1) 0 p2) p3) [.IsNot] [.Constant .none 0 p4] p5,
      .Compare (.Attribute (.Subscript (.Name (Str.ofString "row") p6) (.Constant (.int 1) 0 p7) p8) (Str.ofString "kind") p9) [.In] [.List [.Constant (.str (Str.ofString "var")) 0 q1, .Constant (.str (Str.ofString "par")) 0 q2] q3] q4] q5) (compEnvC scope cl C env)
      (eval (.BoolOp .And [.Compare (.Subscript (.Name (Str.ofString "row") p1) (.Constant (.int 1) 0 p2) p3) [.IsNot] [.Constant .none 0 p4] p5,
      .Compare (.Attribute (.Subscript (.Name (Str.ofString "row") p6) (.Constant (.int 1) 0 p7) p8) (Str.ofString "kind") p9) [.In] [.List [.Constant (.str (Str.ofString "var")) 0 q1, .Constant (.str (Str.ofString "par")) 0 q2] q3] q4] q5) (compEnvC scope cl C env))) Q E s := by
  revert X; k_fill; intro X
  have N2 : News h₀ L s.heap ((r, rowObj nm t .none) :: news) := news_sub N (List.forall_mem_cons.mpr ⟨hr, fun _ h => h⟩)
  refine hold_post ?_
  k_fold
  (repeat' ((((fail_if_success (with_reducible show Hold _)); first | (k_unfold; (try dsimp only)) | (k_end; wrow_close) | walk1 | (dsimp only; walk1) | (leave1; walk_say "STEP leave1"; try dsimp only)))))
  k_unfold
  try dsimp only
  exact ⟨h _ _ F N⟩
theorem ld_cellC {x : Str} {c : Addr} {o : Obj} {v : Value} {pos : Pos} (N : News h₀ L s.heap news) (hc : cl.lookup x = some c) (hm : (c, o) ∈ news) (hd : o.data = .cell (some v)) (h : Q v s)
    (hk : (compEnvC scope cl C env).scope.kind = .function) (hx : (compEnvC scope cl C env).kindOf x = some .cell) (hb : (x == ("__debug__" : Str)) = false) {M : Model} : wpAny M A (eval (.Name x pos) (compEnvC scope cl C env)) Q E s :=
  wpAny_Name (wpAny_loadName_cell hk hx hc ⟨o, (N _ hm).1, hd⟩ h) hb
local macro_rules | `(tactic| walk_at "eval Name") => `(tactic| (k_dflt (refine' ld_cellC ?N ?hc ?hm ?hd ?_ ?hk ?hx ?hb; (case N => with_reducible assumption); (case hc => with_reducible assumption); (case hm => k_mem); (case hd => with_reducible assumption); (case hk => with_reducible assumption); (case hx => with_reducible assumption); (case hb => decide))))
theorem test_name {Q : Bool → Shared → Prop} {r c : Addr} {v : Value} {oc : Obj} {nm' : Str} {t' : Tok} {p4 p5 : Pos} (X : (Mine.fr.heap_1 w.params).In h₀) (F : Fr h₀ L s.heap m) (N : News h₀ L s.heap news) (hC : (C, oC) ∈ news) (hNs : LCg.NsObj oC m₂) (hm : m₂ (Str.ofString "row") = some (.ref r)) (hr : (r, rowObj nm t v) ∈ news)
    (hk : (compEnvC scope cl C env).scope.kind = .function) (hx : (compEnvC scope cl C env).kindOf (Str.ofString "row") = some .local)
    (hcl : cl.lookup (Str.ofString "name") = some c) (hcm : (c, oc) ∈ news) (hcd : oc.data = .cell (some (.str nm' t'))) (hxc : (compEnvC scope cl C env).kindOf (Str.ofString "name") = some .cell)
    (h : ∀ h' tk, Fr h₀ L h' m → News h₀ L h' news → Q (nm == nm') { s with heap := h', toks := tk }) :
    wpAny (model Challenge.rw_nu0320_01.row.prog w) A (isTrue (.Compare (.Subscript (.Name (Str.ofString "row") p1) (.Constant (.int 0) 0 p2) p3) [.Eq] [.Name (Str.ofString "name") p4] p5) (compEnvC scope cl C env)
      (eval (.Compare (.Subscript (.Name (Str.ofString "row") p1) (.Constant (.int 0) 0 p2) p3) [.Eq] [.Name (Str.ofString "name") p4] p5) (compEnvC scope cl C env))) Q E s := by
  revert X; k_fill; intro X
  have N2 : News h₀ L s.heap ((r, rowObj nm t v) :: news) := news_sub N (List.forall_mem_cons.mpr ⟨hr, fun _ h => h⟩)
  refine hold_post ?_
  k_fold
  (repeat' ((((fail_if_success (with_reducible show Hold _)); first | (k_unfold; (try dsimp only)) | (k_end; wrow_close) | walk1 | (dsimp only; walk1) | (leave1; walk_say "STEP leave1"; try dsimp only)))))
  k_unfold
  try dsimp only
  exact ⟨h _ _ F N⟩
end
end
example {M : Model} {A : Around} {E : Value → Shared → Prop} {s : Shared} {Q : Flow → Shared → Prop} {env : Env} (h : Q .next s) : wpAny M A (execs [] env) Q E s := by
  first | (walk1; exact h) | exact fun _ _ _ => h
-- E4
section
theorem off3_of {I C D : Addr} {l : List (Addr × Obj)} (h : ∀ p ∈ l, p.1 ≠ I ∧ p.1 ≠ C ∧ p.1 ≠ D) : LCg.Off3 I C D l := LCg.Off3.of h
theorem srcAt_mono {h₀ : Heap} {ax : Addr} {its : Array Value} {a b : List (Addr × Obj)} (h : LCg.SrcAt h₀ ax its a) (k : ∀ q ∈ a, q ∈ b) : LCg.SrcAt h₀ ax its b := h.imp id fun ⟨o, hm, r⟩ => ⟨o, k _ hm, r⟩
def rowE (v : Value) (r : Addr × Str × Tok) : Addr × Obj := (r.1, rowObj r.2.1 r.2.2 v)
section
variable {w : World} {A : Around} {s : Shared} {h₀ : Heap} {L : Addr} {m : Str → Option Value} {env : Env} {scope : Scope} {cl : List (Str × Addr)} {Fin : List Value → List (Addr × Obj) → Prop}
theorem rows0_rest {p1 p2 p3 : Pos} {ax : Addr} {its : Array Value} {names : List Str} {news0 : List (Addr × Obj)} (X : (Mine.fr.heap_1 w.params).In h₀)
    (hP : ∀ (i : Nat) (v : Value), its[i]? = some v → ∃ nm t, v = Value.str nm t ∧ names[i]? = some nm) (hS : LCg.SrcAt h₀ ax its news0)
    (hk : ∀ C, (compEnvC scope cl C env).scope.kind = .function) (hx : ∀ C, (compEnvC scope cl C env).kindOf (Str.ofString "name") = some .local)
    (fin : ∀ rs : List (Addr × Str × Tok), rs.map (·.2.1) = names → (rs.map (·.1)).Nodup → (∀ r ∈ rs, ∀ q ∈ news0, q.1 ≠ r.1) → Fin (rs.map fun r => Value.ref r.1) (rs.map (rowE .none) ++ news0)) :
    LCg.CompRest Challenge.rw_nu0320_01.row.prog w A h₀ L m env (.Tuple [.Name (Str.ofString "name") p1, .Constant .none 0 p2] 0 p3) (Str.ofString "name") scope cl s (LCg.SrcAt h₀ ax its) (fun i v => its[i]? = some v) Fin names.length 0 [] news0 := by
  refine comp_ind names.length (fun i ys news => ∃ rs : List (Addr × Str × Tok), ys = rs.map (fun r => Value.ref r.1) ∧ news = rs.map (rowE .none) ++ news0 ∧ rs.map (·.2.1) = names.take i ∧ (rs.map (·.1)).Nodup ∧ (∀ r ∈ rs, ∀ q ∈ news0, q.1 ≠ r.1)) ?_ ?_ _ 0 [] news0 (Nat.zero_add _) ⟨[], rfl, rfl, by simp, by simp, by simp⟩
  · rintro i ys news v I oI C oC D m₂ h tk E' hi ⟨rs, rfl, rfl, hnm, hnd, hoff⟩ hv hNs hm F N o d
    obtain ⟨nm, t, rfl, hnmi⟩ := hP i v hv
    refine rows0_elt X F N (.tail _ (.head _)) hNs hm (hk C) (hx C) ?_
    intro h' tk' a F' N' ha
    have ha' : ∀ r ∈ rs, r.1 ≠ a := fun r hr => ha (rowE .none r) (.tail _ (.tail _ (.tail _ (List.mem_append_left _ (List.mem_map_of_mem hr)))))
    refine LCg.CompEnd.intro F' N' ((rs ++ [(a, nm, t)]).map (rowE .none) ++ news0) ?_ (off3_of ?_) (srcAt_mono hS fun q hq => List.mem_append_right _ hq) ⟨rs ++ [(a, nm, t)], by simp, rfl, ?_, ?_, ?_⟩
    · intro q hq
      simp only [List.map_append, List.map_cons, List.map_nil, List.mem_cons, List.mem_append, List.not_mem_nil, or_false] at hq ⊢
      rcases hq with h | h | h | (h | h) | h
      · simp [h]
      · simp [h]
      · simp [h]
      · simp [h]
      · left; exact h
      · simp [h]
    · have oo := LCg.Off3.mem o
      intro q hq
      simp only [List.map_append, List.map_cons, List.map_nil, List.mem_append, List.mem_cons, List.not_mem_nil, or_false] at hq
      rcases hq with (h | h) | h
      · exact oo q (List.mem_append_left _ h)
      · rw [h]; exact ⟨Ne.symm (ha _ (.head _)), Ne.symm (ha _ (.tail _ (.head _))), Ne.symm (ha _ (.tail _ (.tail _ (.head _))))⟩
      · exact oo q (List.mem_append_right _ h)
    · rw [List.map_append, hnm, List.take_add_one, hnmi]; rfl
    · rw [List.map_append]
      refine List.nodup_append.mpr ⟨hnd, by simp, ?_⟩
      intro b hb c hc
      obtain ⟨r, hr, rfl⟩ := List.mem_map.mp hb
      simp only [List.map_cons, List.map_nil, List.mem_singleton] at hc
      rw [hc]; exact ha' r hr
    · intro r hr
      rcases List.mem_append.mp hr with h | h
      · exact hoff r h
      · rw [List.mem_singleton.mp h]
        exact fun q hq => ha q (.tail _ (.tail _ (.tail _ (List.mem_append_right _ hq))))
  · rintro ys news ⟨rs, rfl, rfl, hnm, hnd, hoff⟩
    exact fin rs (by rw [hnm, List.take_length]) hnd hoff
end
end
-- E5
section
/-- an inserted (or predeclared) object with its row -/
structure It where
  o : OI
  r : Addr
  t : Tok
  pre : Bool
def It.val (i : It) : Value := if i.pre then .none else .ref i.o.x
def It.kv (i : It) : Str × Value := i.o.kv
def It.rf (i : It) : Value := i.o.rf
def It.rr (i : It) : Value := .ref i.r
/-- a scope, with its list of homes -/
structure Frm where
  sx : Addr
  sd : Addr
  nd : Addr
  od : Addr
  ha : Addr
  e1 : Int
  e2 : Int
  e3 : Int
  e4 : Int
  e5 : Int
  b1 : Tok
  b2 : Tok
  b3 : Tok
  b4 : Tok
  b5 : Tok
  b6 : Tok
  b7 : Tok
  tl : Tok
  ll : Tok
  lev : Int
  lab : Str
  on : Obj
  no : Nat
  nh : Nat
  slots : Int
  its : List It
def Frm.sdo (f : Frm) : Obj := scopeD f.e1 f.e2 f.e3 f.e4 f.e5 f.b1 f.b2 f.b3 f.b4 f.b5 f.lev f.b6 (.str f.lab f.tl) f.nd f.od f.slots f.b7
def Frm.cells (f : Frm) : List (Addr × Obj) := [(f.sd, f.sdo), (f.nd, f.on), (f.od, listOf (f.its.map It.rf).toArray f.no), (f.ha, listOf (f.its.map It.rr).toArray f.nh)]
def Frm.muts (f : Frm) : List Addr := [f.sd, f.nd, f.od, f.ha]
def Frm.sv (f : Frm) : Value := .ref f.sx
def Frm.hv (f : Frm) : Value := .ref f.ha
def Frm.lv (f : Frm) : Value := .str f.lab f.ll
/-- what stays through the loop -/
structure Cst where
  pl : Addr
  fl : Addr
  ax : Addr
  ad : Addr
  ak : Addr
  hm : Addr
  lb : Addr
  cc : Addr
  td : Addr
  tx : Addr
  tb : Addr
  tc : Addr
  ty : Addr
  ti : Addr
  tm : Addr
  tn : Addr
  tnn : Nat
  tes : List DictEntry
  c1 : Int
  c2 : Int
  c3 : Int
  c4 : Int
  a1 : Tok
  a2 : Tok
  a3 : Tok
  a4 : Tok
  a5 : Tok
  vs : List Value
  figs : List Int
  nf : Nat
/-- what turns -/
structure Var where
  i0 : Int
  mx : Int
  t1 : Tok
  t2 : Tok
  np : Nat
  a6 : Tok
  nk : Nat
  nh : Nat
  nl : Nat
  co : Obj
  low : List Frm
  top : Frm
  imm : List (Addr × Obj)
def Var.fs (v : Var) : List Frm := v.low ++ [v.top]
def Cst.pool (K : Cst) (v : Var) : Addr × Obj := (K.pl, listOf #[.ref K.fl, .int v.i0 v.t1, .int v.mx v.t2] v.np)
def Cst.adE (K : Cst) (v : Var) : Addr × Obj := (K.ad, scopesD K.c1 K.c2 K.c3 K.c4 K.a1 K.a2 K.a3 K.a4 (.ref K.tx) (.str (Str.ofString "M") K.a5) K.ak v.top.lev v.a6)
def Cst.akE (K : Cst) (v : Var) : Addr × Obj := (K.ak, listOf (v.low.map Frm.sv ++ [v.top.sv]).toArray v.nk)
def Cst.hmE (K : Cst) (v : Var) : Addr × Obj := (K.hm, listOf (v.low.map Frm.hv ++ [v.top.hv]).toArray v.nh)
def Cst.lbE (K : Cst) (v : Var) : Addr × Obj := (K.lb, listOf (v.low.map Frm.lv ++ [v.top.lv]).toArray v.nl)
def Cst.ccE (K : Cst) (v : Var) : Addr × Obj := (K.cc, v.co)
def lowcells (low : List Frm) : List (Addr × Obj) := low.flatMap Frm.cells
def led (K : Cst) (v : Var) : List (Addr × Obj) :=
  K.pool v :: K.adE v :: K.akE v :: K.hmE v :: K.lbE v :: K.ccE v :: (v.top.cells ++ (lowcells v.low ++ v.imm))
def muts (K : Cst) (fs : List Frm) : List Addr := K.pl :: K.ad :: K.ak :: K.hm :: K.lb :: K.cc :: fs.flatMap Frm.muts
def allNames : List Str := first7 ++ names14 ++ [Str.ofString "a", Str.ofString "b", Str.ofString "x1"]
/-- an object and its row, in what does not change -/
structure ItOk (K : Cst) (imm : List (Addr × Obj)) (lev : Int) (i : It) : Prop where
  item : ItemIs imm i.o
  row : (i.r, rowObj i.o.nm i.t i.val) ∈ imm
  pre : i.pre = true → Good imm K.tb K.tc K.ty K.ti K.tm i.o
  lv : i.o.lv = if 0 > lev then 0 else lev
  nm : i.o.nm ∈ allNames
structure FrmOk (K : Cst) (w : World) (imm : List (Addr × Obj)) (f : Frm) : Prop where
  inst : (f.sx, instObj 109 f.sd) ∈ imm
  dict : f.on.IsDictOf (PySem.strKind Challenge.rw_nu0320_01.row.prog w) (f.its.map It.kv)
  lo : (f.nd == sysModules) = false
  items : ∀ i ∈ f.its, ItOk K imm f.lev i
  names : (f.its.map (·.o.nm)).Nodup
  slots : f.slots = ((f.its.filter fun i => isVar i.o.kd).length : Int)
structure Ok (K : Cst) (w : World) (O : List (Addr × Obj)) (j : Nat) (v : Var) : Prop where
  nodup : (muts K v.fs).Nodup
  off : ∀ q ∈ v.imm ++ O, q.1 ∉ muts K v.fs
  apart : ∀ p ∈ v.imm, ∀ q ∈ O, p.1 ≠ q.1
  fl : (K.fl, listOf K.vs.toArray K.nf) ∈ v.imm
  ax : (K.ax, instObj 172 K.ad) ∈ v.imm
  ty : TypesIs v.imm K.td K.tes K.tnn K.tx K.tb K.tc K.ty K.ti K.tm K.tn
  i0 : 0 ≤ v.i0
  i1 : v.i0 ≤ K.figs.length
  mx0 : 0 ≤ v.mx
  mx1 : v.mx < 1009
  hints : IntsAre K.vs K.figs
  figs : K.figs.length ≤ 2400
  co : ∃ c, v.co.data = .cell c
  frs : ∀ f ∈ v.fs, FrmOk K w v.imm f
  levs : ∀ (k : Nat) (f : Frm), v.fs[k]? = some f → f.lev = (k : Int) - 1
  room : v.low.length ≤ 6
  size : ∀ f ∈ v.fs, f.its.length ≤ 21 + j
  bot : ∀ f, v.fs[0]? = some f → ∀ nm ∈ first7 ++ names14, ∃ i ∈ f.its, i.pre = true ∧ i.o.nm = nm
structure Pins (K : Cst) (m : Str → Option Value) : Prop where
  pool : m (Str.ofString "pool") = some (.ref K.pl)
  types : m (Str.ofString "types") = some (.ref K.tx)
  scopes : m (Str.ofString "scopes") = some (.ref K.ax)
  homes : m (Str.ofString "homes") = some (.ref K.hm)
  labels : m (Str.ofString "labels") = some (.ref K.lb)
theorem Pins.map {K : Cst} {m : Str → Option Value} (P : Pins K m) : m = fun y => if y = Str.ofString "pool" then some (.ref K.pl) else if y = Str.ofString "types" then some (.ref K.tx) else if y = Str.ofString "scopes" then some (.ref K.ax) else
    if y = Str.ofString "homes" then some (.ref K.hm) else if y = Str.ofString "labels" then some (.ref K.lb) else m y := by
  funext y
  by_cases h1 : y = Str.ofString "pool"
  · rw [if_pos h1, h1, P.pool]
  by_cases h2 : y = Str.ofString "types"
  · rw [if_neg h1, if_pos h2, h2, P.types]
  by_cases h3 : y = Str.ofString "scopes"
  · rw [if_neg h1, if_neg h2, if_pos h3, h3, P.scopes]
  by_cases h4 : y = Str.ofString "homes"
  · rw [if_neg h1, if_neg h2, if_neg h3, if_pos h4, h4, P.homes]
  by_cases h5 : y = Str.ofString "labels"
  · rw [if_neg h1, if_neg h2, if_neg h3, if_neg h4, if_pos h5, h5, P.labels]
  rw [if_neg h1, if_neg h2, if_neg h3, if_neg h4, if_neg h5]
theorem cells_muts (fs : List Frm) : (fs.flatMap Frm.cells).map (·.1) = fs.flatMap Frm.muts := by
  induction fs with
  | nil => rfl
  | cons f r ih => rw [List.flatMap_cons, List.flatMap_cons, List.map_append, ih]; rfl
end
-- Eps
section
noncomputable def dFrm : Frm := ⟨0, 0, 0, 0, 0, 0, 0, 0, 0, 0, 0, 0, 0, 0, 0, 0, 0, 0, 0, 0, default, default, 0, 0, 0, []⟩
noncomputable def dCst : Cst := ⟨0, 0, 0, 0, 0, 0, 0, 0, 0, 0, 0, 0, 0, 0, 0, 0, 0, [], 0, 0, 0, 0, 0, 0, 0, 0, 0, [], [], 0⟩
noncomputable def dVar : Var := ⟨0, 0, 0, 0, 0, 0, 0, 0, 0, default, [], dFrm, []⟩
end
-- E6
section
theorem off1_mem {D : Addr} (l : List (Addr × Obj)) (h : LCg.Off1 D l) : ∀ p ∈ l, p.1 ≠ D := by
  induction l with
  | nil => exact List.forall_mem_nil _
  | cons p r ih => exact List.forall_mem_cons.mpr ⟨h.1, ih h.2⟩
def mkIts (its : List OI) (rs : List (Addr × Str × Tok)) : List It := List.zipWith (fun o r => It.mk o r.1 r.2.2 true) its rs
theorem mk_rf : ∀ (its : List OI) (rs : List (Addr × Str × Tok)), its.length = rs.length → (mkIts its rs).map It.rf = its.map OI.rf
  | [], [], _ => rfl
  | o :: r, q :: t, h => by
    show OI.rf o :: (mkIts r t).map It.rf = _
    rw [mk_rf r t (by simpa using h)]; rfl
theorem mk_kv : ∀ (its : List OI) (rs : List (Addr × Str × Tok)), its.length = rs.length → (mkIts its rs).map It.kv = its.map OI.kv
  | [], [], _ => rfl
  | o :: r, q :: t, h => by
    show OI.kv o :: (mkIts r t).map It.kv = _
    rw [mk_kv r t (by simpa using h)]; rfl
theorem mk_nm : ∀ (its : List OI) (rs : List (Addr × Str × Tok)), its.length = rs.length → (mkIts its rs).map (·.o.nm) = its.map OI.nm
  | [], [], _ => rfl
  | o :: r, q :: t, h => by
    show o.nm :: (mkIts r t).map (·.o.nm) = _
    rw [mk_nm r t (by simpa using h)]; rfl
theorem mk_rr : ∀ (its : List OI) (rs : List (Addr × Str × Tok)), its.length = rs.length → (mkIts its rs).map It.rr = rs.map fun r => Value.ref r.1
  | [], [], _ => rfl
  | o :: r, q :: t, h => by
    show Value.ref q.1 :: (mkIts r t).map It.rr = _
    rw [mk_rr r t (by simpa using h)]; rfl
theorem mk_len (its : List OI) (rs : List (Addr × Str × Tok)) (h : its.length = rs.length) : (mkIts its rs).length = its.length := by
  unfold mkIts; rw [List.length_zipWith, h, Nat.min_self]
theorem mk_mem : ∀ {its : List OI} {rs : List (Addr × Str × Tok)}, its.map OI.nm = rs.map (·.2.1) → ∀ i ∈ mkIts its rs, i.pre = true ∧ i.o ∈ its ∧ (i.r, i.o.nm, i.t) ∈ rs
  | [], _, _, i, hi => by simp [mkIts] at hi
  | _ :: _, [], h, _, _ => by simp at h
  | o :: r, q :: t, h, i, hi => by
    simp only [List.map_cons, List.cons.injEq] at h
    rcases List.mem_cons.mp hi with rfl | hi
    · exact ⟨rfl, .head _, by show (q.1, o.nm, q.2.2) ∈ _; rw [h.1]; exact .head _⟩
    · obtain ⟨a, b, c⟩ := mk_mem h.2 i hi
      exact ⟨a, .tail _ b, .tail _ c⟩
theorem FormIs.mono {R R' : List (Addr × Obj)} {t : Addr} {f : String} (h : FormIs R t f) (k : ∀ q ∈ R, q ∈ R') : FormIs R' t f := by
  obtain ⟨d, es, n, kk, a, b, c⟩ := h
  exact ⟨d, es, n, kk, k _ a, k _ b, c⟩
theorem TypesIs.mono {R R' : List (Addr × Obj)} {td : Addr} {es : List DictEntry} {n : Nat} {tx tb tc ty ti tm tn : Addr} (h : TypesIs R td es n tx tb tc ty ti tm tn) (k : ∀ q ∈ R, q ∈ R') : TypesIs R' td es n tx tb tc ty ti tm tn :=
  ⟨k _ h.inst, k _ h.dict, h.boolean, h.char, h.byte, h.integer, h.mask, h.none, h.f1.mono k, h.f2.mono k, h.f3.mono k, h.f4.mono k, h.f5.mono k⟩
def mkK (pl fl ax ad ak hm lb cc td tx tb tc ty ti tm tn : Addr) (tnn : Nat) (tes : List DictEntry) (c1 c2 c3 c4 : Int) (a1 a2 a3 a4 a5 : Tok) (vs : List Value) (figs : List Int) (nf : Nat) : Cst :=
  ⟨pl, fl, ax, ad, ak, hm, lb, cc, td, tx, tb, tc, ty, ti, tm, tn, tnn, tes, c1, c2, c3, c4, a1, a2, a3, a4, a5, vs, figs, nf⟩
namespace Zstartok
def zSt (w : World) (h₀ : Heap) (h : Heap) (L : Addr) (co : Obj) (pl : Addr) (fl : Addr) (ax : Addr) (ad : Addr) (ak : Addr) (sx : Addr) (sd : Addr) (nd : Addr) (od : Addr) (td : Addr) (tx : Addr) (tb : Addr) (tc : Addr) (ty : Addr) (ti : Addr) (tm : Addr) (tn : Addr) (hm : Addr) (lb : Addr) (Dh : Addr) (cc : Addr) (vs : List Value) (figs : List Int) (mx : Int) (np : Nat) (nf : Nat) (nk : Nat) (no : Nat) (tnn : Nat) (nDh : Nat) (nhm : Nat) (nlb : Nat) (t1 : Tok) (t2 : Tok) (ll : Tok) (c1 : Int) (c2 : Int) (c3 : Int) (c4 : Int) (e1 : Int) (e2 : Int) (e3 : Int) (e4 : Int) (e5 : Int) (a1 : Tok) (a2 : Tok) (a3 : Tok) (a4 : Tok) (a5 : Tok) (a6 : Tok) (b1 : Tok) (b2 : Tok) (b3 : Tok) (b4 : Tok) (b5 : Tok) (b6 : Tok) (b7 : Tok) (tl : Tok) (its : List OI) (on : Obj) (R : List (Addr × Obj)) (Y : List (Addr × Obj)) (tes : List DictEntry) (rs : List (Addr × Str × Tok)) : Prop := ∀ (N : News h₀ L h ((lb, listOf [Value.str (Str.ofString "") ll].toArray nlb) :: (hm, listOf [Value.ref Dh].toArray nhm) :: (Dh, listOf (rs.map fun r => Value.ref r.1).toArray nDh) :: (rs.map (rowE .none) ++ Y))) (hY : ∀ q ∈ (pl, listOf #[.ref fl, .int 0 t1, .int mx t2] np) :: (fl, listOf vs.toArray nf) :: (ax, instObj 172 ad) :: (ad, scopesD c1 c2 c3 c4 a1 a2 a3 a4 (.ref tx) (.str (Str.ofString "M") a5) ak (-1) a6) :: (ak, listOf [Value.ref sx].toArray nk) :: (cc, co) :: (sx, instObj 109 sd) ::
      (sd, scopeD e1 e2 e3 e4 e5 b1 b2 b3 b4 b5 (-1) b6 (.str (Str.ofString "") tl) nd od 0 b7) :: (nd, on) :: (od, listOf (its.map OI.rf).toArray no) :: R, q ∈ Y) (olb : ∀ q ∈ (hm, listOf [Value.ref Dh].toArray nhm) :: (Dh, listOf (rs.map fun r => Value.ref r.1).toArray nDh) :: (rs.map (rowE .none) ++ Y), q.1 ≠ lb) (ohm : ∀ q ∈ (Dh, listOf (rs.map fun r => Value.ref r.1).toArray nDh) :: (rs.map (rowE .none) ++ Y), q.1 ≠ hm) (oDh : ∀ q ∈ rs.map (rowE .none) ++ Y, q.1 ≠ Dh) (hro : ∀ r ∈ rs, ∀ q ∈ Y, q.1 ≠ r.1) (hnd : [pl, fl, ax, ad, ak, cc, sx, sd, nd, od].Nodup) (hR : OffS [pl, fl, ax, ad, ak, cc, sx, sd, nd, od] R) (hco : co.data = .cell none) (hI : IntsAre vs figs) (hfl : figs.length ≤ 2400) (hm1 : 0 ≤ mx) (hm2 : mx < 1009) (hlo : (nd == sysModules) = false) (hkv : on.IsDictOf (PySem.strKind Challenge.rw_nu0320_01.row.prog w) (its.map OI.kv)) (hgood : ∀ i ∈ its, Good R tb tc ty ti tm i) (hnm : its.map OI.nm = first7 ++ names14) (hrs : rs.map (·.2.1) = first7 ++ names14) (hT : TypesIs R td tes tnn tx tb tc ty ti tm tn), ∃ v : Var, News h₀ L h (led (mkK pl fl ax ad ak hm lb cc td tx tb tc ty ti tm tn tnn tes c1 c2 c3 c4 a1 a2 a3 a4 a5 vs figs nf) v) ∧ Ok (mkK pl fl ax ad ak hm lb cc td tx tb tc ty ti tm tn tnn tes c1 c2 c3 c4 a1 a2 a3 a4 a5 vs figs nf) w [] 0 v
def zSc (zz : (World) × (Heap) × (Heap) × (Addr) × (Obj) × (Addr) × (Addr) × (Addr) × (Addr) × (Addr) × (Addr) × (Addr) × (Addr) × (Addr) × (Addr) × (Addr) × (Addr) × (Addr) × (Addr) × (Addr) × (Addr) × (Addr) × (Addr) × (Addr) × (Addr) × (Addr) × (List Value) × (List Int) × (Int) × (Nat) × (Nat) × (Nat) × (Nat) × (Nat) × (Nat) × (Nat) × (Nat) × (Tok) × (Tok) × (Tok) × (Int) × (Int) × (Int) × (Int) × (Int) × (Int) × (Int) × (Int) × (Int) × (Tok) × (Tok) × (Tok) × (Tok) × (Tok) × (Tok) × (Tok) × (Tok) × (Tok) × (Tok) × (Tok) × (Tok) × (Tok) × (Tok) × (List OI) × (Obj) × (List (Addr × Obj)) × (List (Addr × Obj)) × (List DictEntry) × (List (Addr × Str × Tok))) : Prop := zSt zz.1 zz.2.1 zz.2.2.1 zz.2.2.2.1 zz.2.2.2.2.1 zz.2.2.2.2.2.1 zz.2.2.2.2.2.2.1 zz.2.2.2.2.2.2.2.1 zz.2.2.2.2.2.2.2.2.1 zz.2.2.2.2.2.2.2.2.2.1 zz.2.2.2.2.2.2.2.2.2.2.1 zz.2.2.2.2.2.2.2.2.2.2.2.1 zz.2.2.2.2.2.2.2.2.2.2.2.2.1 zz.2.2.2.2.2.2.2.2.2.2.2.2.2.1 zz.2.2.2.2.2.2.2.2.2.2.2.2.2.2.1 zz.2.2.2.2.2.2.2.2.2.2.2.2.2.2.2.1 zz.2.2.2.2.2.2.2.2.2.2.2.2.2.2.2.2.1 zz.2.2.2.2.2.2.2.2.2.2.2.2.2.2.2.2.2.1 zz.2.2.2.2.2.2.2.2.2.2.2.2.2.2.2.2.2.2.1 zz.2.2.2.2.2.2.2.2.2.2.2.2.2.2.2.2.2.2.2.1 zz.2.2.2.2.2.2.2.2.2.2.2.2.2.2.2.2.2.2.2.2.1 zz.2.2.2.2.2.2.2.2.2.2.2.2.2.2.2.2.2.2.2.2.2.1 zz.2.2.2.2.2.2.2.2.2.2.2.2.2.2.2.2.2.2.2.2.2.2.1 zz.2.2.2.2.2.2.2.2.2.2.2.2.2.2.2.2.2.2.2.2.2.2.2.1 zz.2.2.2.2.2.2.2.2.2.2.2.2.2.2.2.2.2.2.2.2.2.2.2.2.1 zz.2.2.2.2.2.2.2.2.2.2.2.2.2.2.2.2.2.2.2.2.2.2.2.2.2.1 zz.2.2.2.2.2.2.2.2.2.2.2.2.2.2.2.2.2.2.2.2.2.2.2.2.2.2.1 zz.2.2.2.2.2.2.2.2.2.2.2.2.2.2.2.2.2.2.2.2.2.2.2.2.2.2.2.1 zz.2.2.2.2.2.2.2.2.2.2.2.2.2.2.2.2.2.2.2.2.2.2.2.2.2.2.2.2.1 zz.2.2.2.2.2.2.2.2.2.2.2.2.2.2.2.2.2.2.2.2.2.2.2.2.2.2.2.2.2.1 zz.2.2.2.2.2.2.2.2.2.2.2.2.2.2.2.2.2.2.2.2.2.2.2.2.2.2.2.2.2.2.1 zz.2.2.2.2.2.2.2.2.2.2.2.2.2.2.2.2.2.2.2.2.2.2.2.2.2.2.2.2.2.2.2.1 zz.2.2.2.2.2.2.2.2.2.2.2.2.2.2.2.2.2.2.2.2.2.2.2.2.2.2.2.2.2.2.2.2.1 zz.2.2.2.2.2.2.2.2.2.2.2.2.2.2.2.2.2.2.2.2.2.2.2.2.2.2.2.2.2.2.2.2.2.1 zz.2.2.2.2.2.2.2.2.2.2.2.2.2.2.2.2.2.2.2.2.2.2.2.2.2.2.2.2.2.2.2.2.2.2.1 zz.2.2.2.2.2.2.2.2.2.2.2.2.2.2.2.2.2.2.2.2.2.2.2.2.2.2.2.2.2.2.2.2.2.2.2.1 zz.2.2.2.2.2.2.2.2.2.2.2.2.2.2.2.2.2.2.2.2.2.2.2.2.2.2.2.2.2.2.2.2.2.2.2.2.1 zz.2.2.2.2.2.2.2.2.2.2.2.2.2.2.2.2.2.2.2.2.2.2.2.2.2.2.2.2.2.2.2.2.2.2.2.2.2.1 zz.2.2.2.2.2.2.2.2.2.2.2.2.2.2.2.2.2.2.2.2.2.2.2.2.2.2.2.2.2.2.2.2.2.2.2.2.2.2.1 zz.2.2.2.2.2.2.2.2.2.2.2.2.2.2.2.2.2.2.2.2.2.2.2.2.2.2.2.2.2.2.2.2.2.2.2.2.2.2.2.1 zz.2.2.2.2.2.2.2.2.2.2.2.2.2.2.2.2.2.2.2.2.2.2.2.2.2.2.2.2.2.2.2.2.2.2.2.2.2.2.2.2.1 zz.2.2.2.2.2.2.2.2.2.2.2.2.2.2.2.2.2.2.2.2.2.2.2.2.2.2.2.2.2.2.2.2.2.2.2.2.2.2.2.2.2.1 zz.2.2.2.2.2.2.2.2.2.2.2.2.2.2.2.2.2.2.2.2.2.2.2.2.2.2.2.2.2.2.2.2.2.2.2.2.2.2.2.2.2.2.1 zz.2.2.2.2.2.2.2.2.2.2.2.2.2.2.2.2.2.2.2.2.2.2.2.2.2.2.2.2.2.2.2.2.2.2.2.2.2.2.2.2.2.2.2.1 zz.2.2.2.2.2.2.2.2.2.2.2.2.2.2.2.2.2.2.2.2.2.2.2.2.2.2.2.2.2.2.2.2.2.2.2.2.2.2.2.2.2.2.2.2.1 zz.2.2.2.2.2.2.2.2.2.2.2.2.2.2.2.2.2.2.2.2.2.2.2.2.2.2.2.2.2.2.2.2.2.2.2.2.2.2.2.2.2.2.2.2.2.1 zz.2.2.2.2.2.2.2.2.2.2.2.2.2.2.2.2.2.2.2.2.2.2.2.2.2.2.2.2.2.2.2.2.2.2.2.2.2.2.2.2.2.2.2.2.2.2.1 zz.2.2.2.2.2.2.2.2.2.2.2.2.2.2.2.2.2.2.2.2.2.2.2.2.2.2.2.2.2.2.2.2.2.2.2.2.2.2.2.2.2.2.2.2.2.2.2.1 zz.2.2.2.2.2.2.2.2.2.2.2.2.2.2.2.2.2.2.2.2.2.2.2.2.2.2.2.2.2.2.2.2.2.2.2.2.2.2.2.2.2.2.2.2.2.2.2.2.1 zz.2.2.2.2.2.2.2.2.2.2.2.2.2.2.2.2.2.2.2.2.2.2.2.2.2.2.2.2.2.2.2.2.2.2.2.2.2.2.2.2.2.2.2.2.2.2.2.2.2.1 zz.2.2.2.2.2.2.2.2.2.2.2.2.2.2.2.2.2.2.2.2.2.2.2.2.2.2.2.2.2.2.2.2.2.2.2.2.2.2.2.2.2.2.2.2.2.2.2.2.2.2.1 zz.2.2.2.2.2.2.2.2.2.2.2.2.2.2.2.2.2.2.2.2.2.2.2.2.2.2.2.2.2.2.2.2.2.2.2.2.2.2.2.2.2.2.2.2.2.2.2.2.2.2.2.1 zz.2.2.2.2.2.2.2.2.2.2.2.2.2.2.2.2.2.2.2.2.2.2.2.2.2.2.2.2.2.2.2.2.2.2.2.2.2.2.2.2.2.2.2.2.2.2.2.2.2.2.2.2.1 zz.2.2.2.2.2.2.2.2.2.2.2.2.2.2.2.2.2.2.2.2.2.2.2.2.2.2.2.2.2.2.2.2.2.2.2.2.2.2.2.2.2.2.2.2.2.2.2.2.2.2.2.2.2.1 zz.2.2.2.2.2.2.2.2.2.2.2.2.2.2.2.2.2.2.2.2.2.2.2.2.2.2.2.2.2.2.2.2.2.2.2.2.2.2.2.2.2.2.2.2.2.2.2.2.2.2.2.2.2.2.1 zz.2.2.2.2.2.2.2.2.2.2.2.2.2.2.2.2.2.2.2.2.2.2.2.2.2.2.2.2.2.2.2.2.2.2.2.2.2.2.2.2.2.2.2.2.2.2.2.2.2.2.2.2.2.2.2.1 zz.2.2.2.2.2.2.2.2.2.2.2.2.2.2.2.2.2.2.2.2.2.2.2.2.2.2.2.2.2.2.2.2.2.2.2.2.2.2.2.2.2.2.2.2.2.2.2.2.2.2.2.2.2.2.2.2.1 zz.2.2.2.2.2.2.2.2.2.2.2.2.2.2.2.2.2.2.2.2.2.2.2.2.2.2.2.2.2.2.2.2.2.2.2.2.2.2.2.2.2.2.2.2.2.2.2.2.2.2.2.2.2.2.2.2.2.1 zz.2.2.2.2.2.2.2.2.2.2.2.2.2.2.2.2.2.2.2.2.2.2.2.2.2.2.2.2.2.2.2.2.2.2.2.2.2.2.2.2.2.2.2.2.2.2.2.2.2.2.2.2.2.2.2.2.2.2.1 zz.2.2.2.2.2.2.2.2.2.2.2.2.2.2.2.2.2.2.2.2.2.2.2.2.2.2.2.2.2.2.2.2.2.2.2.2.2.2.2.2.2.2.2.2.2.2.2.2.2.2.2.2.2.2.2.2.2.2.2.1 zz.2.2.2.2.2.2.2.2.2.2.2.2.2.2.2.2.2.2.2.2.2.2.2.2.2.2.2.2.2.2.2.2.2.2.2.2.2.2.2.2.2.2.2.2.2.2.2.2.2.2.2.2.2.2.2.2.2.2.2.2.1 zz.2.2.2.2.2.2.2.2.2.2.2.2.2.2.2.2.2.2.2.2.2.2.2.2.2.2.2.2.2.2.2.2.2.2.2.2.2.2.2.2.2.2.2.2.2.2.2.2.2.2.2.2.2.2.2.2.2.2.2.2.2.1 zz.2.2.2.2.2.2.2.2.2.2.2.2.2.2.2.2.2.2.2.2.2.2.2.2.2.2.2.2.2.2.2.2.2.2.2.2.2.2.2.2.2.2.2.2.2.2.2.2.2.2.2.2.2.2.2.2.2.2.2.2.2.2.1 zz.2.2.2.2.2.2.2.2.2.2.2.2.2.2.2.2.2.2.2.2.2.2.2.2.2.2.2.2.2.2.2.2.2.2.2.2.2.2.2.2.2.2.2.2.2.2.2.2.2.2.2.2.2.2.2.2.2.2.2.2.2.2.2.1 zz.2.2.2.2.2.2.2.2.2.2.2.2.2.2.2.2.2.2.2.2.2.2.2.2.2.2.2.2.2.2.2.2.2.2.2.2.2.2.2.2.2.2.2.2.2.2.2.2.2.2.2.2.2.2.2.2.2.2.2.2.2.2.2.2.1 zz.2.2.2.2.2.2.2.2.2.2.2.2.2.2.2.2.2.2.2.2.2.2.2.2.2.2.2.2.2.2.2.2.2.2.2.2.2.2.2.2.2.2.2.2.2.2.2.2.2.2.2.2.2.2.2.2.2.2.2.2.2.2.2.2.2.1 zz.2.2.2.2.2.2.2.2.2.2.2.2.2.2.2.2.2.2.2.2.2.2.2.2.2.2.2.2.2.2.2.2.2.2.2.2.2.2.2.2.2.2.2.2.2.2.2.2.2.2.2.2.2.2.2.2.2.2.2.2.2.2.2.2.2.2.1 zz.2.2.2.2.2.2.2.2.2.2.2.2.2.2.2.2.2.2.2.2.2.2.2.2.2.2.2.2.2.2.2.2.2.2.2.2.2.2.2.2.2.2.2.2.2.2.2.2.2.2.2.2.2.2.2.2.2.2.2.2.2.2.2.2.2.2.2.1 zz.2.2.2.2.2.2.2.2.2.2.2.2.2.2.2.2.2.2.2.2.2.2.2.2.2.2.2.2.2.2.2.2.2.2.2.2.2.2.2.2.2.2.2.2.2.2.2.2.2.2.2.2.2.2.2.2.2.2.2.2.2.2.2.2.2.2.2.2
theorem zNe : Nonempty ((World) × (Heap) × (Heap) × (Addr) × (Obj) × (Addr) × (Addr) × (Addr) × (Addr) × (Addr) × (Addr) × (Addr) × (Addr) × (Addr) × (Addr) × (Addr) × (Addr) × (Addr) × (Addr) × (Addr) × (Addr) × (Addr) × (Addr) × (Addr) × (Addr) × (Addr) × (List Value) × (List Int) × (Int) × (Nat) × (Nat) × (Nat) × (Nat) × (Nat) × (Nat) × (Nat) × (Nat) × (Tok) × (Tok) × (Tok) × (Int) × (Int) × (Int) × (Int) × (Int) × (Int) × (Int) × (Int) × (Int) × (Tok) × (Tok) × (Tok) × (Tok) × (Tok) × (Tok) × (Tok) × (Tok) × (Tok) × (Tok) × (Tok) × (Tok) × (Tok) × (Tok) × (List OI) × (Obj) × (List (Addr × Obj)) × (List (Addr × Obj)) × (List DictEntry) × (List (Addr × Str × Tok))) := ⟨(dWorld, default, default, default, default, default, default, default, default, default, default, default, default, default, default, default, default, default, default, default, default, default, default, default, default, default, default, default, default, default, default, default, default, default, default, default, default, default, default, default, default, default, default, default, default, default, default, default, default, default, default, default, default, default, default, default, default, default, default, default, default, default, default, default, default, default, default, default, default)⟩
noncomputable def zC : (World) × (Heap) × (Heap) × (Addr) × (Obj) × (Addr) × (Addr) × (Addr) × (Addr) × (Addr) × (Addr) × (Addr) × (Addr) × (Addr) × (Addr) × (Addr) × (Addr) × (Addr) × (Addr) × (Addr) × (Addr) × (Addr) × (Addr) × (Addr) × (Addr) × (Addr) × (List Value) × (List Int) × (Int) × (Nat) × (Nat) × (Nat) × (Nat) × (Nat) × (Nat) × (Nat) × (Nat) × (Tok) × (Tok) × (Tok) × (Int) × (Int) × (Int) × (Int) × (Int) × (Int) × (Int) × (Int) × (Int) × (Tok) × (Tok) × (Tok) × (Tok) × (Tok) × (Tok) × (Tok) × (Tok) × (Tok) × (Tok) × (Tok) × (Tok) × (Tok) × (Tok) × (List OI) × (Obj) × (List (Addr × Obj)) × (List (Addr × Obj)) × (List DictEntry) × (List (Addr × Str × Tok)) := @Classical.epsilon _ zNe fun c => ¬ zSc c
noncomputable def w : World := zC.1
noncomputable def h₀ : Heap := zC.2.1
noncomputable def h : Heap := zC.2.2.1
noncomputable def L : Addr := zC.2.2.2.1
noncomputable def co : Obj := zC.2.2.2.2.1
noncomputable def pl : Addr := zC.2.2.2.2.2.1
noncomputable def fl : Addr := zC.2.2.2.2.2.2.1
noncomputable def ax : Addr := zC.2.2.2.2.2.2.2.1
noncomputable def ad : Addr := zC.2.2.2.2.2.2.2.2.1
noncomputable def ak : Addr := zC.2.2.2.2.2.2.2.2.2.1
noncomputable def sx : Addr := zC.2.2.2.2.2.2.2.2.2.2.1
noncomputable def sd : Addr := zC.2.2.2.2.2.2.2.2.2.2.2.1
noncomputable def nd : Addr := zC.2.2.2.2.2.2.2.2.2.2.2.2.1
noncomputable def od : Addr := zC.2.2.2.2.2.2.2.2.2.2.2.2.2.1
noncomputable def td : Addr := zC.2.2.2.2.2.2.2.2.2.2.2.2.2.2.1
noncomputable def tx : Addr := zC.2.2.2.2.2.2.2.2.2.2.2.2.2.2.2.1
noncomputable def tb : Addr := zC.2.2.2.2.2.2.2.2.2.2.2.2.2.2.2.2.1
noncomputable def tc : Addr := zC.2.2.2.2.2.2.2.2.2.2.2.2.2.2.2.2.2.1
noncomputable def ty : Addr := zC.2.2.2.2.2.2.2.2.2.2.2.2.2.2.2.2.2.2.1
noncomputable def ti : Addr := zC.2.2.2.2.2.2.2.2.2.2.2.2.2.2.2.2.2.2.2.1
noncomputable def tm : Addr := zC.2.2.2.2.2.2.2.2.2.2.2.2.2.2.2.2.2.2.2.2.1
noncomputable def tn : Addr := zC.2.2.2.2.2.2.2.2.2.2.2.2.2.2.2.2.2.2.2.2.2.1
noncomputable def hm : Addr := zC.2.2.2.2.2.2.2.2.2.2.2.2.2.2.2.2.2.2.2.2.2.2.1
noncomputable def lb : Addr := zC.2.2.2.2.2.2.2.2.2.2.2.2.2.2.2.2.2.2.2.2.2.2.2.1
noncomputable def Dh : Addr := zC.2.2.2.2.2.2.2.2.2.2.2.2.2.2.2.2.2.2.2.2.2.2.2.2.1
noncomputable def cc : Addr := zC.2.2.2.2.2.2.2.2.2.2.2.2.2.2.2.2.2.2.2.2.2.2.2.2.2.1
noncomputable def vs : List Value := zC.2.2.2.2.2.2.2.2.2.2.2.2.2.2.2.2.2.2.2.2.2.2.2.2.2.2.1
noncomputable def figs : List Int := zC.2.2.2.2.2.2.2.2.2.2.2.2.2.2.2.2.2.2.2.2.2.2.2.2.2.2.2.1
noncomputable def mx : Int := zC.2.2.2.2.2.2.2.2.2.2.2.2.2.2.2.2.2.2.2.2.2.2.2.2.2.2.2.2.1
noncomputable def np : Nat := zC.2.2.2.2.2.2.2.2.2.2.2.2.2.2.2.2.2.2.2.2.2.2.2.2.2.2.2.2.2.1
noncomputable def nf : Nat := zC.2.2.2.2.2.2.2.2.2.2.2.2.2.2.2.2.2.2.2.2.2.2.2.2.2.2.2.2.2.2.1
noncomputable def nk : Nat := zC.2.2.2.2.2.2.2.2.2.2.2.2.2.2.2.2.2.2.2.2.2.2.2.2.2.2.2.2.2.2.2.1
noncomputable def no : Nat := zC.2.2.2.2.2.2.2.2.2.2.2.2.2.2.2.2.2.2.2.2.2.2.2.2.2.2.2.2.2.2.2.2.1
noncomputable def tnn : Nat := zC.2.2.2.2.2.2.2.2.2.2.2.2.2.2.2.2.2.2.2.2.2.2.2.2.2.2.2.2.2.2.2.2.2.1
noncomputable def nDh : Nat := zC.2.2.2.2.2.2.2.2.2.2.2.2.2.2.2.2.2.2.2.2.2.2.2.2.2.2.2.2.2.2.2.2.2.2.1
noncomputable def nhm : Nat := zC.2.2.2.2.2.2.2.2.2.2.2.2.2.2.2.2.2.2.2.2.2.2.2.2.2.2.2.2.2.2.2.2.2.2.2.1
noncomputable def nlb : Nat := zC.2.2.2.2.2.2.2.2.2.2.2.2.2.2.2.2.2.2.2.2.2.2.2.2.2.2.2.2.2.2.2.2.2.2.2.2.1
noncomputable def t1 : Tok := zC.2.2.2.2.2.2.2.2.2.2.2.2.2.2.2.2.2.2.2.2.2.2.2.2.2.2.2.2.2.2.2.2.2.2.2.2.2.1
noncomputable def t2 : Tok := zC.2.2.2.2.2.2.2.2.2.2.2.2.2.2.2.2.2.2.2.2.2.2.2.2.2.2.2.2.2.2.2.2.2.2.2.2.2.2.1
noncomputable def ll : Tok := zC.2.2.2.2.2.2.2.2.2.2.2.2.2.2.2.2.2.2.2.2.2.2.2.2.2.2.2.2.2.2.2.2.2.2.2.2.2.2.2.1
noncomputable def c1 : Int := zC.2.2.2.2.2.2.2.2.2.2.2.2.2.2.2.2.2.2.2.2.2.2.2.2.2.2.2.2.2.2.2.2.2.2.2.2.2.2.2.2.1
noncomputable def c2 : Int := zC.2.2.2.2.2.2.2.2.2.2.2.2.2.2.2.2.2.2.2.2.2.2.2.2.2.2.2.2.2.2.2.2.2.2.2.2.2.2.2.2.2.1
noncomputable def c3 : Int := zC.2.2.2.2.2.2.2.2.2.2.2.2.2.2.2.2.2.2.2.2.2.2.2.2.2.2.2.2.2.2.2.2.2.2.2.2.2.2.2.2.2.2.1
noncomputable def c4 : Int := zC.2.2.2.2.2.2.2.2.2.2.2.2.2.2.2.2.2.2.2.2.2.2.2.2.2.2.2.2.2.2.2.2.2.2.2.2.2.2.2.2.2.2.2.1
noncomputable def e1 : Int := zC.2.2.2.2.2.2.2.2.2.2.2.2.2.2.2.2.2.2.2.2.2.2.2.2.2.2.2.2.2.2.2.2.2.2.2.2.2.2.2.2.2.2.2.2.1
noncomputable def e2 : Int := zC.2.2.2.2.2.2.2.2.2.2.2.2.2.2.2.2.2.2.2.2.2.2.2.2.2.2.2.2.2.2.2.2.2.2.2.2.2.2.2.2.2.2.2.2.2.1
noncomputable def e3 : Int := zC.2.2.2.2.2.2.2.2.2.2.2.2.2.2.2.2.2.2.2.2.2.2.2.2.2.2.2.2.2.2.2.2.2.2.2.2.2.2.2.2.2.2.2.2.2.2.1
noncomputable def e4 : Int := zC.2.2.2.2.2.2.2.2.2.2.2.2.2.2.2.2.2.2.2.2.2.2.2.2.2.2.2.2.2.2.2.2.2.2.2.2.2.2.2.2.2.2.2.2.2.2.2.1
noncomputable def e5 : Int := zC.2.2.2.2.2.2.2.2.2.2.2.2.2.2.2.2.2.2.2.2.2.2.2.2.2.2.2.2.2.2.2.2.2.2.2.2.2.2.2.2.2.2.2.2.2.2.2.2.1
noncomputable def a1 : Tok := zC.2.2.2.2.2.2.2.2.2.2.2.2.2.2.2.2.2.2.2.2.2.2.2.2.2.2.2.2.2.2.2.2.2.2.2.2.2.2.2.2.2.2.2.2.2.2.2.2.2.1
noncomputable def a2 : Tok := zC.2.2.2.2.2.2.2.2.2.2.2.2.2.2.2.2.2.2.2.2.2.2.2.2.2.2.2.2.2.2.2.2.2.2.2.2.2.2.2.2.2.2.2.2.2.2.2.2.2.2.1
noncomputable def a3 : Tok := zC.2.2.2.2.2.2.2.2.2.2.2.2.2.2.2.2.2.2.2.2.2.2.2.2.2.2.2.2.2.2.2.2.2.2.2.2.2.2.2.2.2.2.2.2.2.2.2.2.2.2.2.1
noncomputable def a4 : Tok := zC.2.2.2.2.2.2.2.2.2.2.2.2.2.2.2.2.2.2.2.2.2.2.2.2.2.2.2.2.2.2.2.2.2.2.2.2.2.2.2.2.2.2.2.2.2.2.2.2.2.2.2.2.1
noncomputable def a5 : Tok := zC.2.2.2.2.2.2.2.2.2.2.2.2.2.2.2.2.2.2.2.2.2.2.2.2.2.2.2.2.2.2.2.2.2.2.2.2.2.2.2.2.2.2.2.2.2.2.2.2.2.2.2.2.2.1
noncomputable def a6 : Tok := zC.2.2.2.2.2.2.2.2.2.2.2.2.2.2.2.2.2.2.2.2.2.2.2.2.2.2.2.2.2.2.2.2.2.2.2.2.2.2.2.2.2.2.2.2.2.2.2.2.2.2.2.2.2.2.1
noncomputable def b1 : Tok := zC.2.2.2.2.2.2.2.2.2.2.2.2.2.2.2.2.2.2.2.2.2.2.2.2.2.2.2.2.2.2.2.2.2.2.2.2.2.2.2.2.2.2.2.2.2.2.2.2.2.2.2.2.2.2.2.1
noncomputable def b2 : Tok := zC.2.2.2.2.2.2.2.2.2.2.2.2.2.2.2.2.2.2.2.2.2.2.2.2.2.2.2.2.2.2.2.2.2.2.2.2.2.2.2.2.2.2.2.2.2.2.2.2.2.2.2.2.2.2.2.2.1
noncomputable def b3 : Tok := zC.2.2.2.2.2.2.2.2.2.2.2.2.2.2.2.2.2.2.2.2.2.2.2.2.2.2.2.2.2.2.2.2.2.2.2.2.2.2.2.2.2.2.2.2.2.2.2.2.2.2.2.2.2.2.2.2.2.1
noncomputable def b4 : Tok := zC.2.2.2.2.2.2.2.2.2.2.2.2.2.2.2.2.2.2.2.2.2.2.2.2.2.2.2.2.2.2.2.2.2.2.2.2.2.2.2.2.2.2.2.2.2.2.2.2.2.2.2.2.2.2.2.2.2.2.1
noncomputable def b5 : Tok := zC.2.2.2.2.2.2.2.2.2.2.2.2.2.2.2.2.2.2.2.2.2.2.2.2.2.2.2.2.2.2.2.2.2.2.2.2.2.2.2.2.2.2.2.2.2.2.2.2.2.2.2.2.2.2.2.2.2.2.2.1
noncomputable def b6 : Tok := zC.2.2.2.2.2.2.2.2.2.2.2.2.2.2.2.2.2.2.2.2.2.2.2.2.2.2.2.2.2.2.2.2.2.2.2.2.2.2.2.2.2.2.2.2.2.2.2.2.2.2.2.2.2.2.2.2.2.2.2.2.1
noncomputable def b7 : Tok := zC.2.2.2.2.2.2.2.2.2.2.2.2.2.2.2.2.2.2.2.2.2.2.2.2.2.2.2.2.2.2.2.2.2.2.2.2.2.2.2.2.2.2.2.2.2.2.2.2.2.2.2.2.2.2.2.2.2.2.2.2.2.1
noncomputable def tl : Tok := zC.2.2.2.2.2.2.2.2.2.2.2.2.2.2.2.2.2.2.2.2.2.2.2.2.2.2.2.2.2.2.2.2.2.2.2.2.2.2.2.2.2.2.2.2.2.2.2.2.2.2.2.2.2.2.2.2.2.2.2.2.2.2.1
noncomputable def its : List OI := zC.2.2.2.2.2.2.2.2.2.2.2.2.2.2.2.2.2.2.2.2.2.2.2.2.2.2.2.2.2.2.2.2.2.2.2.2.2.2.2.2.2.2.2.2.2.2.2.2.2.2.2.2.2.2.2.2.2.2.2.2.2.2.2.1
noncomputable def on : Obj := zC.2.2.2.2.2.2.2.2.2.2.2.2.2.2.2.2.2.2.2.2.2.2.2.2.2.2.2.2.2.2.2.2.2.2.2.2.2.2.2.2.2.2.2.2.2.2.2.2.2.2.2.2.2.2.2.2.2.2.2.2.2.2.2.2.1
noncomputable def R : List (Addr × Obj) := zC.2.2.2.2.2.2.2.2.2.2.2.2.2.2.2.2.2.2.2.2.2.2.2.2.2.2.2.2.2.2.2.2.2.2.2.2.2.2.2.2.2.2.2.2.2.2.2.2.2.2.2.2.2.2.2.2.2.2.2.2.2.2.2.2.2.1
noncomputable def Y : List (Addr × Obj) := zC.2.2.2.2.2.2.2.2.2.2.2.2.2.2.2.2.2.2.2.2.2.2.2.2.2.2.2.2.2.2.2.2.2.2.2.2.2.2.2.2.2.2.2.2.2.2.2.2.2.2.2.2.2.2.2.2.2.2.2.2.2.2.2.2.2.2.1
noncomputable def tes : List DictEntry := zC.2.2.2.2.2.2.2.2.2.2.2.2.2.2.2.2.2.2.2.2.2.2.2.2.2.2.2.2.2.2.2.2.2.2.2.2.2.2.2.2.2.2.2.2.2.2.2.2.2.2.2.2.2.2.2.2.2.2.2.2.2.2.2.2.2.2.2.1
noncomputable def rs : List (Addr × Str × Tok) := zC.2.2.2.2.2.2.2.2.2.2.2.2.2.2.2.2.2.2.2.2.2.2.2.2.2.2.2.2.2.2.2.2.2.2.2.2.2.2.2.2.2.2.2.2.2.2.2.2.2.2.2.2.2.2.2.2.2.2.2.2.2.2.2.2.2.2.2.2
theorem zCore (N : News h₀ L h ((lb, listOf [Value.str (Str.ofString "") ll].toArray nlb) :: (hm, listOf [Value.ref Dh].toArray nhm) :: (Dh, listOf (rs.map fun r => Value.ref r.1).toArray nDh) :: (rs.map (rowE .none) ++ Y))) (hY : ∀ q ∈ (pl, listOf #[.ref fl, .int 0 t1, .int mx t2] np) :: (fl, listOf vs.toArray nf) :: (ax, instObj 172 ad) :: (ad, scopesD c1 c2 c3 c4 a1 a2 a3 a4 (.ref tx) (.str (Str.ofString "M") a5) ak (-1) a6) :: (ak, listOf [Value.ref sx].toArray nk) :: (cc, co) :: (sx, instObj 109 sd) ::
      (sd, scopeD e1 e2 e3 e4 e5 b1 b2 b3 b4 b5 (-1) b6 (.str (Str.ofString "") tl) nd od 0 b7) :: (nd, on) :: (od, listOf (its.map OI.rf).toArray no) :: R, q ∈ Y) (olb : ∀ q ∈ (hm, listOf [Value.ref Dh].toArray nhm) :: (Dh, listOf (rs.map fun r => Value.ref r.1).toArray nDh) :: (rs.map (rowE .none) ++ Y), q.1 ≠ lb) (ohm : ∀ q ∈ (Dh, listOf (rs.map fun r => Value.ref r.1).toArray nDh) :: (rs.map (rowE .none) ++ Y), q.1 ≠ hm) (oDh : ∀ q ∈ rs.map (rowE .none) ++ Y, q.1 ≠ Dh) (hro : ∀ r ∈ rs, ∀ q ∈ Y, q.1 ≠ r.1) (hnd : [pl, fl, ax, ad, ak, cc, sx, sd, nd, od].Nodup) (hR : OffS [pl, fl, ax, ad, ak, cc, sx, sd, nd, od] R) (hco : co.data = .cell none) (hI : IntsAre vs figs) (hfl : figs.length ≤ 2400) (hm1 : 0 ≤ mx) (hm2 : mx < 1009) (hlo : (nd == sysModules) = false) (hkv : on.IsDictOf (PySem.strKind Challenge.rw_nu0320_01.row.prog w) (its.map OI.kv)) (hgood : ∀ i ∈ its, Good R tb tc ty ti tm i) (hnm : its.map OI.nm = first7 ++ names14) (hrs : rs.map (·.2.1) = first7 ++ names14) (hT : TypesIs R td tes tnn tx tb tc ty ti tm tn) : ∃ v : Var, News h₀ L h (led (mkK pl fl ax ad ak hm lb cc td tx tb tc ty ti tm tn tnn tes c1 c2 c3 c4 a1 a2 a3 a4 a5 vs figs nf) v) ∧ Ok (mkK pl fl ax ad ak hm lb cc td tx tb tc ty ti tm tn tnn tes c1 c2 c3 c4 a1 a2 a3 a4 a5 vs figs nf) w [] 0 v := by
  have hlen : its.length = rs.length := by rw [← List.length_map (f := OI.nm), hnm, ← hrs, List.length_map]
  refine ⟨{ i0 := 0, mx := mx, t1 := t1, t2 := t2, np := np, a6 := a6, nk := nk, nh := nhm, nl := nlb, co := co, low := [], top := ⟨sx, sd, nd, od, Dh, e1, e2, e3, e4, e5, b1, b2, b3, b4, b5, b6, b7, tl, ll, -1, Str.ofString "", on, no, nDh, 0, mkIts its rs⟩, imm := (fl, listOf vs.toArray nf) :: (ax, instObj 172 ad) :: (sx, instObj 109 sd) :: (rs.map (rowE .none) ++ R) }, ?_, ?_⟩
  · refine news_sub N ?_
    have inY : ∀ q ∈ Y, q ∈ (lb, listOf [Value.str (Str.ofString "") ll].toArray nlb) :: (hm, listOf [Value.ref Dh].toArray nhm) :: (Dh, listOf (rs.map fun r => Value.ref r.1).toArray nDh) :: (rs.map (rowE .none) ++ Y) := fun q hq => .tail _ (.tail _ (.tail _ (List.mem_append_right _ hq)))
    have e1 := mk_rf its rs hlen
    have e2 := mk_rr its rs hlen
    rw [← e1] at hY
    rw [← e2] at inY ⊢
    intro q hq
    rcases List.mem_cons.mp hq with rfl | hq
    · exact inY _ (hY _ (.head _))
    rcases List.mem_cons.mp hq with rfl | hq
    · exact inY _ (hY _ (.tail _ (.tail _ (.tail _ (.head _)))))
    rcases List.mem_cons.mp hq with rfl | hq
    · exact inY _ (hY _ (.tail _ (.tail _ (.tail _ (.tail _ (.head _))))))
    rcases List.mem_cons.mp hq with rfl | hq
    · exact .tail _ (.head _)
    rcases List.mem_cons.mp hq with rfl | hq
    · exact .head _
    rcases List.mem_cons.mp hq with rfl | hq
    · exact inY _ (hY _ (.tail _ (.tail _ (.tail _ (.tail _ (.tail _ (.head _)))))))
    rcases List.mem_cons.mp hq with rfl | hq
    · exact inY _ (hY _ (.tail _ (.tail _ (.tail _ (.tail _ (.tail _ (.tail _ (.tail _ (.head _)))))))))
    rcases List.mem_cons.mp hq with rfl | hq
    · exact inY _ (hY _ (.tail _ (.tail _ (.tail _ (.tail _ (.tail _ (.tail _ (.tail _ (.tail _ (.head _))))))))))
    rcases List.mem_cons.mp hq with rfl | hq
    · exact inY _ (hY _ (.tail _ (.tail _ (.tail _ (.tail _ (.tail _ (.tail _ (.tail _ (.tail _ (.tail _ (.head _)))))))))))
    rcases List.mem_cons.mp hq with rfl | hq
    · exact .tail _ (.tail _ (.head _))
    rcases List.mem_cons.mp hq with rfl | hq
    · exact inY _ (hY _ (.tail _ (.head _)))
    rcases List.mem_cons.mp hq with rfl | hq
    · exact inY _ (hY _ (.tail _ (.tail _ (.head _))))
    rcases List.mem_cons.mp hq with rfl | hq
    · exact inY _ (hY _ (.tail _ (.tail _ (.tail _ (.tail _ (.tail _ (.tail _ (.head _))))))))
    rcases List.mem_append.mp hq with hq | hq
    · exact .tail _ (.tail _ (.tail _ (List.mem_append_left _ hq)))
    · exact inY _ (hY _ (.tail _ (.tail _ (.tail _ (.tail _ (.tail _ (.tail _ (.tail _ (.tail _ (.tail _ (.tail _ hq)))))))))))
  · have hNm : ∀ i ∈ mkIts its rs, i.pre = true ∧ i.o ∈ its ∧ (i.r, i.o.nm, i.t) ∈ rs := mk_mem (hnm.trans hrs.symm)
    have hpl : pl ∈ [pl, fl, ax, ad, ak, cc, sx, sd, nd, od] := .head _
    have y1 := hY _ (.head _)
    have y2 := hY _ (.tail _ (.head _))
    have y3 := hY _ (.tail _ (.tail _ (.head _)))
    have y4 := hY _ (.tail _ (.tail _ (.tail _ (.head _))))
    have y5 := hY _ (.tail _ (.tail _ (.tail _ (.tail _ (.head _)))))
    have y6 := hY _ (.tail _ (.tail _ (.tail _ (.tail _ (.tail _ (.head _))))))
    have y7 := hY _ (.tail _ (.tail _ (.tail _ (.tail _ (.tail _ (.tail _ (.head _)))))))
    have y8 := hY _ (.tail _ (.tail _ (.tail _ (.tail _ (.tail _ (.tail _ (.tail _ (.head _))))))))
    have y9 := hY _ (.tail _ (.tail _ (.tail _ (.tail _ (.tail _ (.tail _ (.tail _ (.tail _ (.head _)))))))))
    have y10 := hY _ (.tail _ (.tail _ (.tail _ (.tail _ (.tail _ (.tail _ (.tail _ (.tail _ (.tail _ (.head _))))))))))
    have yR : ∀ q ∈ R, q ∈ Y := fun q hq => hY _ (.tail _ (.tail _ (.tail _ (.tail _ (.tail _ (.tail _ (.tail _ (.tail _ (.tail _ (.tail _ hq))))))))))
    have lb1 := olb _ (.head _)
    have lb2 := olb _ (.tail _ (.head _))
    replace olb : ∀ q ∈ rs.map (rowE .none) ++ Y, q.1 ≠ lb := fun q hq => olb q (.tail _ (.tail _ hq))
    have hm1' := ohm _ (.head _)
    replace ohm : ∀ q ∈ rs.map (rowE .none) ++ Y, q.1 ≠ hm := fun q hq => ohm q (.tail _ hq)
    have inY : ∀ q ∈ Y, q.1 ≠ lb ∧ q.1 ≠ hm ∧ q.1 ≠ Dh := fun q hq => ⟨olb q (List.mem_append_right _ hq), ohm q (List.mem_append_right _ hq), oDh q (List.mem_append_right _ hq)⟩
    have inR : ∀ q ∈ rs.map (rowE .none), q.1 ≠ lb ∧ q.1 ≠ hm ∧ q.1 ≠ Dh := fun q hq => ⟨olb q (List.mem_append_left _ hq), ohm q (List.mem_append_left _ hq), oDh q (List.mem_append_left _ hq)⟩
    have hnd' := hnd
    simp only [List.nodup_cons, List.mem_cons, not_or, List.not_mem_nil, not_false_eq_true, and_true, List.nodup_nil] at hnd'
    obtain ⟨⟨p1, p2, p3, p4, p5, p6, p7, p8, p9⟩, ⟨f1, f2, f3, f4, f5, f6, f7, f8⟩, ⟨x1, x2, x3, x4, x5, x6, x7⟩, ⟨d1, d2, d3, d4, d5, d6⟩, ⟨k1, k2, k3, k4, k5⟩, ⟨s1, s2, s3, s4⟩, ⟨g1, g2, g3⟩, ⟨j1, j2⟩, j3⟩ := hnd'
    have z1 := inY _ y1
    have z2 := inY _ y2
    have z3 := inY _ y3
    have z4 := inY _ y4
    have z5 := inY _ y5
    have z6 := inY _ y6
    have z7 := inY _ y7
    have z8 := inY _ y8
    have z9 := inY _ y9
    have z10 := inY _ y10
    dsimp only at z1 z2 z3 z4 z5 z6 z7 z8 z9 z10 lb1 lb2 hm1'
    refine ⟨?nodup, ?off, (fun _ _ _ h => nomatch h), .head _, .tail _ (.head _), ?ty, Int.le_refl _, by simp [mkK], hm1, hm2, hI, hfl, ⟨none, hco⟩, ?frs, ?levs, Nat.zero_le _, ?size, ?bot⟩
    case nodup =>
      simp only [muts, Var.fs, mkK, List.nil_append, List.flatMap_cons, List.flatMap_nil, List.append_nil, Frm.muts, List.nodup_cons, List.mem_cons, not_or, List.not_mem_nil, not_false_eq_true, and_true, List.nodup_nil]
      exact ⟨⟨p3, p4, z1.2.1, z1.1, p5, p7, p8, p9, z1.2.2⟩, ⟨d1, z4.2.1, z4.1, d2, d4, d5, d6, z4.2.2⟩, ⟨z5.2.1, z5.1, k1, k3, k4, k5, z5.2.2⟩, ⟨lb1, Ne.symm z6.2.1, Ne.symm z8.2.1, Ne.symm z9.2.1, Ne.symm z10.2.1, Ne.symm hm1'⟩,
        ⟨Ne.symm z6.1, Ne.symm z8.1, Ne.symm z9.1, Ne.symm z10.1, Ne.symm lb2⟩, ⟨s2, s3, s4, z6.2.2⟩, ⟨j1, j2, z8.2.2⟩, ⟨j3, z9.2.2⟩, z10.2.2⟩
    case off =>
      have key : ∀ a, a ≠ pl → a ≠ ad → a ≠ ak → a ≠ hm → a ≠ lb → a ≠ cc → a ≠ sd → a ≠ nd → a ≠ od → a ≠ Dh → a ∉ muts (mkK pl fl ax ad ak hm lb cc td tx tb tc ty ti tm tn tnn tes c1 c2 c3 c4 a1 a2 a3 a4 a5 vs figs nf) ([] ++ [⟨sx, sd, nd, od, Dh, e1, e2, e3, e4, e5, b1, b2, b3, b4, b5, b6, b7, tl, ll, -1, Str.ofString "", on, no, nDh, 0, mkIts its rs⟩]) := by
        intro a h1 h2 h3 h4 h5 h6 h7 h8 h9 h10
        simp only [muts, mkK, List.nil_append, List.flatMap_cons, List.flatMap_nil, List.append_nil, Frm.muts, List.mem_cons, not_or, List.not_mem_nil, not_false_eq_true, and_true]
        exact ⟨h1, h2, h3, h4, h5, h6, h7, h8, h9, h10⟩
      intro q hq
      simp only [List.append_nil] at hq
      rcases List.mem_cons.mp hq with rfl | hq
      · exact key _ (Ne.symm p1) f2 f3 z2.2.1 z2.1 f4 f6 f7 f8 z2.2.2
      rcases List.mem_cons.mp hq with rfl | hq
      · exact key _ (Ne.symm p2) x1 x2 z3.2.1 z3.1 x3 x5 x6 x7 z3.2.2
      rcases List.mem_cons.mp hq with rfl | hq
      · exact key _ (Ne.symm p6) (Ne.symm d3) (Ne.symm k2) z7.2.1 z7.1 (Ne.symm s1) g1 g2 g3 z7.2.2
      rcases List.mem_append.mp hq with hq | hq
      · have := inR q hq
        obtain ⟨r, hr, rfl⟩ := List.mem_map.mp hq
        have ho := hro r hr
        exact key _ (Ne.symm (ho _ y1)) (Ne.symm (ho _ y4)) (Ne.symm (ho _ y5)) this.2.1 this.1 (Ne.symm (ho _ y6)) (Ne.symm (ho _ y8)) (Ne.symm (ho _ y9)) (Ne.symm (ho _ y10)) this.2.2
      · have := inY q (yR q hq)
        exact key _ (hR _ (.head _) q hq) (hR _ (.tail _ (.tail _ (.tail _ (.head _)))) q hq) (hR _ (.tail _ (.tail _ (.tail _ (.tail _ (.head _))))) q hq) this.2.1 this.1 (hR _ (.tail _ (.tail _ (.tail _ (.tail _ (.tail _ (.head _)))))) q hq) (hR _ (.tail _ (.tail _ (.tail _ (.tail _ (.tail _ (.tail _ (.tail _ (.head _)))))))) q hq) (hR _ (.tail _ (.tail _ (.tail _ (.tail _ (.tail _ (.tail _ (.tail _ (.tail _ (.head _))))))))) q hq) (hR _ (.tail _ (.tail _ (.tail _ (.tail _ (.tail _ (.tail _ (.tail _ (.tail _ (.tail _ (.head _)))))))))) q hq) this.2.2
    case ty => exact hT.mono fun q hq => .tail _ (.tail _ (.tail _ (List.mem_append_right _ hq)))
    case frs =>
      intro f hf
      rw [show Var.fs _ = [_] from rfl, List.mem_singleton] at hf
      subst hf
      refine ⟨.tail _ (.tail _ (.head _)), by rw [mk_kv its rs hlen]; exact hkv, hlo, fun i hi => ?_, ?_, ?_⟩
      · obtain ⟨h1, h2, h3⟩ := hNm i hi
        have hg := (hgood _ h2).mono (R' := (fl, listOf vs.toArray nf) :: (ax, instObj 172 ad) :: (sx, instObj 109 sd) :: (rs.map (rowE .none) ++ R)) fun q hq => .tail _ (.tail _ (.tail _ (List.mem_append_right _ hq)))
        obtain ⟨es, n, t1, t2, t3, tp, md, sl, val, g1, g2, g3, g4, g5, g6⟩ := id hg
        refine ⟨⟨es, n, t1, t2, t3, tp, md, sl, val, g1, g2, g3⟩, ?_, fun _ => hg, by rw [g4]; rfl, ?_⟩
        · refine .tail _ (.tail _ (.tail _ (List.mem_append_left _ ?_)))
          have : i.val = .none := by unfold It.val; rw [if_pos h1]
          rw [this]
          exact List.mem_map_of_mem (f := rowE .none) h3
        · have : i.o.nm ∈ its.map OI.nm := List.mem_map_of_mem h2
          rw [hnm] at this
          exact List.mem_append_left _ this
      · rw [mk_nm its rs hlen, hnm]; decide +kernel
      · have : (mkIts its rs).filter (fun i => isVar i.o.kd) = [] := List.filter_eq_nil_iff.mpr fun i hi => by
          obtain ⟨h1, h2, h3⟩ := hNm i hi
          obtain ⟨es, n, t1, t2, t3, tp, md, sl, val, g1, g2, g3, g4, g5, g6⟩ := hgood _ h2
          rw [g5]; exact Bool.false_ne_true
        rw [this]; rfl
    case levs =>
      intro k f hf
      rw [show Var.fs _ = [_] from rfl] at hf
      cases k with
      | zero => simp only [List.getElem?_cons_zero, Option.some.injEq] at hf; subst hf; rfl
      | succ k => simp at hf
    case size =>
      intro f hf
      rw [show Var.fs _ = [_] from rfl, List.mem_singleton] at hf
      subst hf
      show (mkIts its rs).length ≤ 21
      rw [mk_len its rs hlen, ← List.length_map (f := OI.nm), hnm]
      decide
    case bot =>
      intro f hf nm hm
      rw [show Var.fs _ = [_] from rfl] at hf
      simp only [List.getElem?_cons_zero, Option.some.injEq] at hf
      subst hf
      rw [← hnm, ← mk_nm its rs hlen] at hm
      obtain ⟨i, hi, e⟩ := List.mem_map.mp hm
      exact ⟨i, hi, (hNm i hi).1, e⟩
end Zstartok
theorem start_ok {w : World} {h₀ : Heap} {h : Heap} {L : Addr} {co : Obj} {pl : Addr} {fl : Addr} {ax : Addr} {ad : Addr} {ak : Addr} {sx : Addr} {sd : Addr} {nd : Addr} {od : Addr} {td : Addr} {tx : Addr} {tb : Addr} {tc : Addr} {ty : Addr} {ti : Addr} {tm : Addr} {tn : Addr} {hm : Addr} {lb : Addr} {Dh : Addr} {cc : Addr} {vs : List Value} {figs : List Int} {mx : Int} {np : Nat} {nf : Nat} {nk : Nat} {no : Nat} {tnn : Nat} {nDh : Nat} {nhm : Nat} {nlb : Nat} {t1 : Tok} {t2 : Tok} {ll : Tok} {c1 : Int} {c2 : Int} {c3 : Int} {c4 : Int} {e1 : Int} {e2 : Int} {e3 : Int} {e4 : Int} {e5 : Int} {a1 : Tok} {a2 : Tok} {a3 : Tok} {a4 : Tok} {a5 : Tok} {a6 : Tok} {b1 : Tok} {b2 : Tok} {b3 : Tok} {b4 : Tok} {b5 : Tok} {b6 : Tok} {b7 : Tok} {tl : Tok} {its : List OI} {on : Obj} {R : List (Addr × Obj)} {Y : List (Addr × Obj)} {tes : List DictEntry} {rs : List (Addr × Str × Tok)} (N : News h₀ L h ((lb, listOf [Value.str (Str.ofString "") ll].toArray nlb) :: (hm, listOf [Value.ref Dh].toArray nhm) :: (Dh, listOf (rs.map fun r => Value.ref r.1).toArray nDh) :: (rs.map (rowE .none) ++ Y))) (hY : ∀ q ∈ (pl, listOf #[.ref fl, .int 0 t1, .int mx t2] np) :: (fl, listOf vs.toArray nf) :: (ax, instObj 172 ad) :: (ad, scopesD c1 c2 c3 c4 a1 a2 a3 a4 (.ref tx) (.str (Str.ofString "M") a5) ak (-1) a6) :: (ak, listOf [Value.ref sx].toArray nk) :: (cc, co) :: (sx, instObj 109 sd) ::
      (sd, scopeD e1 e2 e3 e4 e5 b1 b2 b3 b4 b5 (-1) b6 (.str (Str.ofString "") tl) nd od 0 b7) :: (nd, on) :: (od, listOf (its.map OI.rf).toArray no) :: R, q ∈ Y) (olb : ∀ q ∈ (hm, listOf [Value.ref Dh].toArray nhm) :: (Dh, listOf (rs.map fun r => Value.ref r.1).toArray nDh) :: (rs.map (rowE .none) ++ Y), q.1 ≠ lb) (ohm : ∀ q ∈ (Dh, listOf (rs.map fun r => Value.ref r.1).toArray nDh) :: (rs.map (rowE .none) ++ Y), q.1 ≠ hm) (oDh : ∀ q ∈ rs.map (rowE .none) ++ Y, q.1 ≠ Dh) (hro : ∀ r ∈ rs, ∀ q ∈ Y, q.1 ≠ r.1) (hnd : [pl, fl, ax, ad, ak, cc, sx, sd, nd, od].Nodup) (hR : OffS [pl, fl, ax, ad, ak, cc, sx, sd, nd, od] R) (hco : co.data = .cell none) (hI : IntsAre vs figs) (hfl : figs.length ≤ 2400) (hm1 : 0 ≤ mx) (hm2 : mx < 1009) (hlo : (nd == sysModules) = false) (hkv : on.IsDictOf (PySem.strKind Challenge.rw_nu0320_01.row.prog w) (its.map OI.kv)) (hgood : ∀ i ∈ its, Good R tb tc ty ti tm i) (hnm : its.map OI.nm = first7 ++ names14) (hrs : rs.map (·.2.1) = first7 ++ names14) (hT : TypesIs R td tes tnn tx tb tc ty ti tm tn) :
    ∃ v : Var, News h₀ L h (led (mkK pl fl ax ad ak hm lb cc td tx tb tc ty ti tm tn tnn tes c1 c2 c3 c4 a1 a2 a3 a4 a5 vs figs nf) v) ∧ Ok (mkK pl fl ax ad ak hm lb cc td tx tb tc ty ti tm tn tnn tes c1 c2 c3 c4 a1 a2 a3 a4 a5 vs figs nf) w [] 0 v :=
  (eps_all (ne := Zstartok.zNe) (P := Zstartok.zSc) Zstartok.zCore : ∀ c, Zstartok.zSc c) (w, h₀, h, L, co, pl, fl, ax, ad, ak, sx, sd, nd, od, td, tx, tb, tc, ty, ti, tm, tn, hm, lb, Dh, cc, vs, figs, mx, np, nf, nk, no, tnn, nDh, nhm, nlb, t1, t2, ll, c1, c2, c3, c4, e1, e2, e3, e4, e5, a1, a2, a3, a4, a5, a6, b1, b2, b3, b4, b5, b6, b7, tl, its, on, R, Y, tes, rs) N hY olb ohm oDh hro hnd hR hco hI hfl hm1 hm2 hlo hkv hgood hnm hrs hT
end
-- L0
section
def headBody : List Stmt → List Stmt
  | .For _ _ b _ _ :: _ => b
  | _ => []
def third : List Stmt → List Stmt
  | _ :: _ :: x :: _ => [x]
  | _ => []
def thenOf : List Stmt → List Stmt
  | .If _ b _ _ :: _ => b
  | _ => []
def elseOf : List Stmt → List Stmt
  | .If _ _ b _ :: _ => b
  | _ => []
noncomputable def turnBody : List Stmt := headBody (drop5 (drop4 lawBody))
noncomputable def brA : List Stmt := thenOf (third turnBody)
noncomputable def brB : List Stmt := thenOf (elseOf (third turnBody))
noncomputable def brC : List Stmt := thenOf (elseOf (elseOf (third turnBody)))
noncomputable def brD : List Stmt := elseOf (elseOf (elseOf (third turnBody)))
def tops (K : Cst) (v : Var) : List Addr := [K.pl, K.ad, K.ak, K.hm, K.lb, K.cc, v.top.sd, v.top.nd, v.top.od, v.top.ha]
def rest (v : Var) (O : List (Addr × Obj)) : List (Addr × Obj) := lowcells v.low ++ (v.imm ++ O)
theorem tops_perm (K : Cst) (v : Var) : (muts K v.fs).Perm (tops K v ++ v.low.flatMap Frm.muts) := by
  unfold muts tops Var.fs
  rw [List.flatMap_append]
  simp only [List.flatMap_cons, List.flatMap_nil, List.append_nil, Frm.muts, List.cons_append, List.nil_append]
  refine .cons _ (.cons _ (.cons _ (.cons _ (.cons _ (.cons _ ?_)))))
  exact List.perm_append_comm
theorem Ok.tops {K : Cst} {w : World} {O : List (Addr × Obj)} {j : Nat} {v : Var} (k : Ok K w O j v) : (tops K v).Nodup :=
  (List.nodup_append.mp ((tops_perm K v).nodup_iff.mp k.nodup)).1
theorem lowcells_mem {low : List Frm} {q : Addr × Obj} (h : q ∈ lowcells low) : q.1 ∈ low.flatMap Frm.muts := by
  rw [← cells_muts]; exact List.mem_map_of_mem h
theorem Ok.rest {K : Cst} {w : World} {O : List (Addr × Obj)} {j : Nat} {v : Var} (k : Ok K w O j v) : OffS (Mine.tops K v) (Mine.rest v O) := by
  intro a ha q hq e
  rcases List.mem_append.mp hq with hq | hq
  · have := (List.nodup_append.mp ((tops_perm K v).nodup_iff.mp k.nodup)).2.2 a ha q.1 (lowcells_mem hq)
    exact this e.symm
  · exact k.off q hq ((tops_perm K v).mem_iff.mpr (List.mem_append_left _ (e ▸ ha)))
theorem led_open {K : Cst} {v : Var} {O : List (Addr × Obj)} : led K v ++ O = K.pool v :: K.adE v :: K.akE v :: K.hmE v :: K.lbE v :: K.ccE v :: (v.top.sd, v.top.sdo) :: (v.top.nd, v.top.on) :: (v.top.od, listOf (v.top.its.map It.rf).toArray v.top.no) :: (v.top.ha, listOf (v.top.its.map It.rr).toArray v.top.nh) :: Mine.rest v O := by
  unfold led Mine.rest Frm.cells
  simp only [List.cons_append, List.append_assoc, List.nil_append]
theorem len_L {prog : Program} {w : World} {A : Around} {E : Value → Shared → Prop} {s : Shared} {h₀ : Heap} {L l : Addr} {news : List (Addr × Obj)} {vs : List Value} {n k : Nat} {Q : Value → Shared → Prop} (N : News h₀ L s.heap news) (hm : (l, listOf vs.toArray n) ∈ news) (e : vs.length = k) (hz : k ≤ 1000)
    (h : Q (.int (k : Int) (s.toks + 1)) { s with toks := s.toks + 1 + 1 }) : wpAny (model prog w) A (call (.builtin "len") [.ref l]) Q E s := by
  refine len_list (items := vs.toArray) ⟨_, (N _ hm).1, rfl, n, rfl⟩ (by rw [List.size_toArray]; omega) ?_
  rw [List.size_toArray, e]; exact h
theorem lowcells_snoc (low : List Frm) (f : Frm) : lowcells (low ++ [f]) = lowcells low ++ f.cells := by
  unfold lowcells; rw [List.flatMap_append]; simp
theorem ne_int_same {prog : Program} {w : World} {A : Around} {E : Value → Shared → Prop} {s : Shared} {a b : Int} {t u : Tok} {Q : Value → Shared → Prop} (e : a = b) (h : Q (.bool false) s) : wpAny (model prog w) A (compareOp .NotEq (.int a t) (.int b u)) Q E s := by
  subst e; exact PyProof.Rows.ne_int (by simpa using h)
theorem ne_str_same {prog : Program} {w : World} {A : Around} {E : Value → Shared → Prop} {s : Shared} {a : Str} {t u : Tok} {Q : Value → Shared → Prop} (h : Q (.bool false) s) : wpAny (model prog w) A (compareOp .NotEq (.str a t) (.str a u)) Q E s :=
  PyProof.Rows.ne_str (by simpa using h)
end
-- LK
section
theorem ItOk.mono {K : Cst} {imm imm' : List (Addr × Obj)} {lev : Int} {i : It} (h : ItOk K imm lev i) (k : ∀ q ∈ imm, q ∈ imm') : ItOk K imm' lev i :=
  ⟨h.item.mono k, k _ h.row, fun p => (h.pre p).mono k, h.lv, h.nm⟩
theorem FrmOk.mono {K : Cst} {w : World} {imm imm' : List (Addr × Obj)} {f : Frm} (h : FrmOk K w imm f) (k : ∀ q ∈ imm, q ∈ imm') : FrmOk K w imm' f :=
  ⟨k _ h.inst, h.dict, h.lo, fun i hi => (h.items i hi).mono k, h.names, h.slots⟩
theorem muts_led {K : Cst} {v : Var} : ∀ a ∈ muts K v.fs, ∃ q ∈ led K v, q.1 = a := by
  intro a ha
  simp only [muts, Var.fs, List.flatMap_append, List.mem_cons, List.mem_append, List.flatMap_cons, List.flatMap_nil, List.append_nil] at ha
  unfold led
  simp only [List.mem_cons, List.mem_append]
  rcases ha with rfl | rfl | rfl | rfl | rfl | rfl | h | h
  · exact ⟨_, .inl rfl, rfl⟩
  · exact ⟨_, .inr (.inl rfl), rfl⟩
  · exact ⟨_, .inr (.inr (.inl rfl)), rfl⟩
  · exact ⟨_, .inr (.inr (.inr (.inl rfl))), rfl⟩
  · exact ⟨_, .inr (.inr (.inr (.inr (.inl rfl)))), rfl⟩
  · exact ⟨_, .inr (.inr (.inr (.inr (.inr (.inl rfl))))), rfl⟩
  · rw [← cells_muts] at h
    obtain ⟨q, hq, e⟩ := List.mem_map.mp h
    exact ⟨q, .inr (.inr (.inr (.inr (.inr (.inr (.inr (.inl hq))))))), e⟩
  · have : a ∈ v.top.cells.map (·.1) := h
    obtain ⟨q, hq, e⟩ := List.mem_map.mp this
    exact ⟨q, .inr (.inr (.inr (.inr (.inr (.inr (.inl hq)))))), e⟩
theorem muts_snoc (K : Cst) (fs : List Frm) (f : Frm) : muts K (fs ++ [f]) = muts K fs ++ f.muts := by
  unfold muts; rw [List.flatMap_append]; simp
theorem nodup4' {a b c d : Addr} (h : [a, b, c, d].Nodup) : (a ≠ b ∧ a ≠ c ∧ a ≠ d) ∧ (b ≠ c ∧ b ≠ d) ∧ c ≠ d := by
  simp only [List.nodup_cons, List.mem_cons, not_or, List.not_mem_nil, not_false_eq_true, and_true, List.nodup_nil] at h
  exact ⟨h.1, h.2.1, h.2.2⟩
namespace Zopenend
def zSt (K : Cst) (w : World) (Ow : List (Addr × Obj)) (j : Nat) (v : Var) (h₀ : Heap) (h : Heap) (L : Addr) (sx : Addr) (sd : Addr) (nd : Addr) (od : Addr) (l' : Addr) (e1 : Int) (e2 : Int) (e3 : Int) (e4 : Int) (e5 : Int) (i' : Int) (mx' : Int) (b1 : Tok) (b2 : Tok) (b3 : Tok) (b4 : Tok) (b5 : Tok) (b6 : Tok) (b7 : Tok) (tl : Tok) (tlab : Tok) (ti' : Tok) (tm' : Tok) (a6' : Tok) (on : Obj) (no : Nat) (nk' : Nat) (np' : Nat) (label : Str) : Prop := ∀ (O : Ok K w Ow j v) (hlen : v.low.length + 1 < 7) (N : News h₀ L h ((l', listOf ([] : List Value).toArray 0) :: (sx, instObj 109 sd) :: (sd, scopeD e1 e2 e3 e4 e5 b1 b2 b3 b4 b5 (v.top.lev + 1) b6 (.str label tl) nd od 0 b7) :: (nd, on) :: (od, listOf ([] : List Value).toArray no) :: (K.pl, listOf #[.ref K.fl, .int i' ti', .int mx' tm'] np') ::
    (K.ad, scopesD K.c1 K.c2 K.c3 K.c4 K.a1 K.a2 K.a3 K.a4 (.ref K.tx) (.str (Str.ofString "M") K.a5) K.ak (v.top.lev + 1) a6') :: (K.ak, listOf (v.low.map Frm.sv ++ [Value.ref v.top.sx] ++ [Value.ref sx]).toArray nk') ::
    (K.hm, listOf (v.low.map Frm.hv ++ [Value.ref v.top.ha] ++ [Value.ref l']).toArray (v.nh + 1)) :: (K.lb, listOf (v.low.map Frm.lv ++ [Value.str v.top.lab v.top.ll] ++ [Value.str label tlab]).toArray (v.nl + 1)) :: (K.cc, v.co) :: (v.top.sd, v.top.sdo) :: (v.top.nd, v.top.on) :: (v.top.od, listOf (v.top.its.map It.rf).toArray v.top.no) ::
    (v.top.ha, listOf (v.top.its.map It.rr).toArray v.top.nh) :: rest v Ow)) (hi0 : 0 ≤ i') (hi1 : i' ≤ K.figs.length) (hmx0 : 0 ≤ mx') (hmx1 : mx' < 1009) (hon : on.IsDictOf (PySem.strKind Challenge.rw_nu0320_01.row.prog w) []) (hlo : (nd == sysModules) = false) (hf : ∀ q ∈ led K v ++ Ow, q.1 ≠ sx ∧ q.1 ≠ sd ∧ q.1 ≠ nd ∧ q.1 ≠ od) (hl : ∀ q ∈ led K v ++ Ow, q.1 ≠ l') (hnd : [sx, sd, nd, od].Nodup) (hl4 : sx ≠ l' ∧ sd ≠ l' ∧ nd ≠ l' ∧ od ≠ l'), ∃ v', News h₀ L h (led K v' ++ Ow) ∧ Ok K w Ow (j + 1) v'
def zSc (zz : (Cst) × (World) × (List (Addr × Obj)) × (Nat) × (Var) × (Heap) × (Heap) × (Addr) × (Addr) × (Addr) × (Addr) × (Addr) × (Addr) × (Int) × (Int) × (Int) × (Int) × (Int) × (Int) × (Int) × (Tok) × (Tok) × (Tok) × (Tok) × (Tok) × (Tok) × (Tok) × (Tok) × (Tok) × (Tok) × (Tok) × (Tok) × (Obj) × (Nat) × (Nat) × (Nat) × (Str)) : Prop := zSt zz.1 zz.2.1 zz.2.2.1 zz.2.2.2.1 zz.2.2.2.2.1 zz.2.2.2.2.2.1 zz.2.2.2.2.2.2.1 zz.2.2.2.2.2.2.2.1 zz.2.2.2.2.2.2.2.2.1 zz.2.2.2.2.2.2.2.2.2.1 zz.2.2.2.2.2.2.2.2.2.2.1 zz.2.2.2.2.2.2.2.2.2.2.2.1 zz.2.2.2.2.2.2.2.2.2.2.2.2.1 zz.2.2.2.2.2.2.2.2.2.2.2.2.2.1 zz.2.2.2.2.2.2.2.2.2.2.2.2.2.2.1 zz.2.2.2.2.2.2.2.2.2.2.2.2.2.2.2.1 zz.2.2.2.2.2.2.2.2.2.2.2.2.2.2.2.2.1 zz.2.2.2.2.2.2.2.2.2.2.2.2.2.2.2.2.2.1 zz.2.2.2.2.2.2.2.2.2.2.2.2.2.2.2.2.2.2.1 zz.2.2.2.2.2.2.2.2.2.2.2.2.2.2.2.2.2.2.2.1 zz.2.2.2.2.2.2.2.2.2.2.2.2.2.2.2.2.2.2.2.2.1 zz.2.2.2.2.2.2.2.2.2.2.2.2.2.2.2.2.2.2.2.2.2.1 zz.2.2.2.2.2.2.2.2.2.2.2.2.2.2.2.2.2.2.2.2.2.2.1 zz.2.2.2.2.2.2.2.2.2.2.2.2.2.2.2.2.2.2.2.2.2.2.2.1 zz.2.2.2.2.2.2.2.2.2.2.2.2.2.2.2.2.2.2.2.2.2.2.2.2.1 zz.2.2.2.2.2.2.2.2.2.2.2.2.2.2.2.2.2.2.2.2.2.2.2.2.2.1 zz.2.2.2.2.2.2.2.2.2.2.2.2.2.2.2.2.2.2.2.2.2.2.2.2.2.2.1 zz.2.2.2.2.2.2.2.2.2.2.2.2.2.2.2.2.2.2.2.2.2.2.2.2.2.2.2.1 zz.2.2.2.2.2.2.2.2.2.2.2.2.2.2.2.2.2.2.2.2.2.2.2.2.2.2.2.2.1 zz.2.2.2.2.2.2.2.2.2.2.2.2.2.2.2.2.2.2.2.2.2.2.2.2.2.2.2.2.2.1 zz.2.2.2.2.2.2.2.2.2.2.2.2.2.2.2.2.2.2.2.2.2.2.2.2.2.2.2.2.2.2.1 zz.2.2.2.2.2.2.2.2.2.2.2.2.2.2.2.2.2.2.2.2.2.2.2.2.2.2.2.2.2.2.2.1 zz.2.2.2.2.2.2.2.2.2.2.2.2.2.2.2.2.2.2.2.2.2.2.2.2.2.2.2.2.2.2.2.2.1 zz.2.2.2.2.2.2.2.2.2.2.2.2.2.2.2.2.2.2.2.2.2.2.2.2.2.2.2.2.2.2.2.2.2.1 zz.2.2.2.2.2.2.2.2.2.2.2.2.2.2.2.2.2.2.2.2.2.2.2.2.2.2.2.2.2.2.2.2.2.2.1 zz.2.2.2.2.2.2.2.2.2.2.2.2.2.2.2.2.2.2.2.2.2.2.2.2.2.2.2.2.2.2.2.2.2.2.2.1 zz.2.2.2.2.2.2.2.2.2.2.2.2.2.2.2.2.2.2.2.2.2.2.2.2.2.2.2.2.2.2.2.2.2.2.2.2
theorem zNe : Nonempty ((Cst) × (World) × (List (Addr × Obj)) × (Nat) × (Var) × (Heap) × (Heap) × (Addr) × (Addr) × (Addr) × (Addr) × (Addr) × (Addr) × (Int) × (Int) × (Int) × (Int) × (Int) × (Int) × (Int) × (Tok) × (Tok) × (Tok) × (Tok) × (Tok) × (Tok) × (Tok) × (Tok) × (Tok) × (Tok) × (Tok) × (Tok) × (Obj) × (Nat) × (Nat) × (Nat) × (Str)) := ⟨(dCst, dWorld, default, default, dVar, default, default, default, default, default, default, default, default, default, default, default, default, default, default, default, default, default, default, default, default, default, default, default, default, default, default, default, default, default, default, default, default)⟩
noncomputable def zC : (Cst) × (World) × (List (Addr × Obj)) × (Nat) × (Var) × (Heap) × (Heap) × (Addr) × (Addr) × (Addr) × (Addr) × (Addr) × (Addr) × (Int) × (Int) × (Int) × (Int) × (Int) × (Int) × (Int) × (Tok) × (Tok) × (Tok) × (Tok) × (Tok) × (Tok) × (Tok) × (Tok) × (Tok) × (Tok) × (Tok) × (Tok) × (Obj) × (Nat) × (Nat) × (Nat) × (Str) := @Classical.epsilon _ zNe fun c => ¬ zSc c
noncomputable def K : Cst := zC.1
noncomputable def w : World := zC.2.1
noncomputable def Ow : List (Addr × Obj) := zC.2.2.1
noncomputable def j : Nat := zC.2.2.2.1
noncomputable def v : Var := zC.2.2.2.2.1
noncomputable def h₀ : Heap := zC.2.2.2.2.2.1
noncomputable def h : Heap := zC.2.2.2.2.2.2.1
noncomputable def L : Addr := zC.2.2.2.2.2.2.2.1
noncomputable def sx : Addr := zC.2.2.2.2.2.2.2.2.1
noncomputable def sd : Addr := zC.2.2.2.2.2.2.2.2.2.1
noncomputable def nd : Addr := zC.2.2.2.2.2.2.2.2.2.2.1
noncomputable def od : Addr := zC.2.2.2.2.2.2.2.2.2.2.2.1
noncomputable def l' : Addr := zC.2.2.2.2.2.2.2.2.2.2.2.2.1
noncomputable def e1 : Int := zC.2.2.2.2.2.2.2.2.2.2.2.2.2.1
noncomputable def e2 : Int := zC.2.2.2.2.2.2.2.2.2.2.2.2.2.2.1
noncomputable def e3 : Int := zC.2.2.2.2.2.2.2.2.2.2.2.2.2.2.2.1
noncomputable def e4 : Int := zC.2.2.2.2.2.2.2.2.2.2.2.2.2.2.2.2.1
noncomputable def e5 : Int := zC.2.2.2.2.2.2.2.2.2.2.2.2.2.2.2.2.2.1
noncomputable def i' : Int := zC.2.2.2.2.2.2.2.2.2.2.2.2.2.2.2.2.2.2.1
noncomputable def mx' : Int := zC.2.2.2.2.2.2.2.2.2.2.2.2.2.2.2.2.2.2.2.1
noncomputable def b1 : Tok := zC.2.2.2.2.2.2.2.2.2.2.2.2.2.2.2.2.2.2.2.2.1
noncomputable def b2 : Tok := zC.2.2.2.2.2.2.2.2.2.2.2.2.2.2.2.2.2.2.2.2.2.1
noncomputable def b3 : Tok := zC.2.2.2.2.2.2.2.2.2.2.2.2.2.2.2.2.2.2.2.2.2.2.1
noncomputable def b4 : Tok := zC.2.2.2.2.2.2.2.2.2.2.2.2.2.2.2.2.2.2.2.2.2.2.2.1
noncomputable def b5 : Tok := zC.2.2.2.2.2.2.2.2.2.2.2.2.2.2.2.2.2.2.2.2.2.2.2.2.1
noncomputable def b6 : Tok := zC.2.2.2.2.2.2.2.2.2.2.2.2.2.2.2.2.2.2.2.2.2.2.2.2.2.1
noncomputable def b7 : Tok := zC.2.2.2.2.2.2.2.2.2.2.2.2.2.2.2.2.2.2.2.2.2.2.2.2.2.2.1
noncomputable def tl : Tok := zC.2.2.2.2.2.2.2.2.2.2.2.2.2.2.2.2.2.2.2.2.2.2.2.2.2.2.2.1
noncomputable def tlab : Tok := zC.2.2.2.2.2.2.2.2.2.2.2.2.2.2.2.2.2.2.2.2.2.2.2.2.2.2.2.2.1
noncomputable def ti' : Tok := zC.2.2.2.2.2.2.2.2.2.2.2.2.2.2.2.2.2.2.2.2.2.2.2.2.2.2.2.2.2.1
noncomputable def tm' : Tok := zC.2.2.2.2.2.2.2.2.2.2.2.2.2.2.2.2.2.2.2.2.2.2.2.2.2.2.2.2.2.2.1
noncomputable def a6' : Tok := zC.2.2.2.2.2.2.2.2.2.2.2.2.2.2.2.2.2.2.2.2.2.2.2.2.2.2.2.2.2.2.2.1
noncomputable def on : Obj := zC.2.2.2.2.2.2.2.2.2.2.2.2.2.2.2.2.2.2.2.2.2.2.2.2.2.2.2.2.2.2.2.2.1
noncomputable def no : Nat := zC.2.2.2.2.2.2.2.2.2.2.2.2.2.2.2.2.2.2.2.2.2.2.2.2.2.2.2.2.2.2.2.2.2.1
noncomputable def nk' : Nat := zC.2.2.2.2.2.2.2.2.2.2.2.2.2.2.2.2.2.2.2.2.2.2.2.2.2.2.2.2.2.2.2.2.2.2.1
noncomputable def np' : Nat := zC.2.2.2.2.2.2.2.2.2.2.2.2.2.2.2.2.2.2.2.2.2.2.2.2.2.2.2.2.2.2.2.2.2.2.2.1
noncomputable def label : Str := zC.2.2.2.2.2.2.2.2.2.2.2.2.2.2.2.2.2.2.2.2.2.2.2.2.2.2.2.2.2.2.2.2.2.2.2.2
theorem zCore (O : Ok K w Ow j v) (hlen : v.low.length + 1 < 7) (N : News h₀ L h ((l', listOf ([] : List Value).toArray 0) :: (sx, instObj 109 sd) :: (sd, scopeD e1 e2 e3 e4 e5 b1 b2 b3 b4 b5 (v.top.lev + 1) b6 (.str label tl) nd od 0 b7) :: (nd, on) :: (od, listOf ([] : List Value).toArray no) :: (K.pl, listOf #[.ref K.fl, .int i' ti', .int mx' tm'] np') ::
    (K.ad, scopesD K.c1 K.c2 K.c3 K.c4 K.a1 K.a2 K.a3 K.a4 (.ref K.tx) (.str (Str.ofString "M") K.a5) K.ak (v.top.lev + 1) a6') :: (K.ak, listOf (v.low.map Frm.sv ++ [Value.ref v.top.sx] ++ [Value.ref sx]).toArray nk') ::
    (K.hm, listOf (v.low.map Frm.hv ++ [Value.ref v.top.ha] ++ [Value.ref l']).toArray (v.nh + 1)) :: (K.lb, listOf (v.low.map Frm.lv ++ [Value.str v.top.lab v.top.ll] ++ [Value.str label tlab]).toArray (v.nl + 1)) :: (K.cc, v.co) :: (v.top.sd, v.top.sdo) :: (v.top.nd, v.top.on) :: (v.top.od, listOf (v.top.its.map It.rf).toArray v.top.no) ::
    (v.top.ha, listOf (v.top.its.map It.rr).toArray v.top.nh) :: rest v Ow)) (hi0 : 0 ≤ i') (hi1 : i' ≤ K.figs.length) (hmx0 : 0 ≤ mx') (hmx1 : mx' < 1009) (hon : on.IsDictOf (PySem.strKind Challenge.rw_nu0320_01.row.prog w) []) (hlo : (nd == sysModules) = false) (hf : ∀ q ∈ led K v ++ Ow, q.1 ≠ sx ∧ q.1 ≠ sd ∧ q.1 ≠ nd ∧ q.1 ≠ od) (hl : ∀ q ∈ led K v ++ Ow, q.1 ≠ l') (hnd : [sx, sd, nd, od].Nodup) (hl4 : sx ≠ l' ∧ sd ≠ l' ∧ nd ≠ l' ∧ od ≠ l') : ∃ v', News h₀ L h (led K v' ++ Ow) ∧ Ok K w Ow (j + 1) v' := by
  obtain ⟨⟨x1, x2, x3⟩, ⟨x4, x5⟩, x6⟩ := nodup4' hnd
  obtain ⟨l1, l2, l3, l4⟩ := hl4
  refine ⟨{ v with i0 := i', mx := mx', t1 := ti', t2 := tm', np := np', a6 := a6', nk := nk', nh := v.nh + 1, nl := v.nl + 1, low := v.low ++ [v.top], top := ⟨sx, sd, nd, od, l', e1, e2, e3, e4, e5, b1, b2, b3, b4, b5, b6, b7, tl, tlab, v.top.lev + 1, label, on, no, 0, 0, []⟩, imm := (sx, instObj 109 sd) :: v.imm }, ?_, ?_⟩
  · have e3 : (v.low ++ [v.top]).map Frm.sv ++ [Value.ref sx] = v.low.map Frm.sv ++ [Value.ref v.top.sx] ++ [Value.ref sx] := by rw [List.map_append]; rfl
    have e4 : (v.low ++ [v.top]).map Frm.hv ++ [Value.ref l'] = v.low.map Frm.hv ++ [Value.ref v.top.ha] ++ [Value.ref l'] := by rw [List.map_append]; rfl
    have e5 : (v.low ++ [v.top]).map Frm.lv ++ [Value.str label tlab] = v.low.map Frm.lv ++ [Value.str v.top.lab v.top.ll] ++ [Value.str label tlab] := by rw [List.map_append]; rfl
    rw [← e3, ← e4, ← e5] at N
    rw [led_open]
    have R0 : ∀ q ∈ rest v Ow, h.get? q.1 = some q.2 ∧ q.1 ≠ L ∧ h₀.get? q.1 = none := fun q hq => N q (.tail _ (.tail _ (.tail _ (.tail _ (.tail _ (.tail _ (.tail _ (.tail _ (.tail _ (.tail _ (.tail _ (.tail _ (.tail _ (.tail _ (.tail _ hq)))))))))))))))
    intro q hq
    rcases List.mem_cons.mp hq with rfl | hq
    · exact N _ (.tail _ (.tail _ (.tail _ (.tail _ (.tail _ (.head _))))))
    rcases List.mem_cons.mp hq with rfl | hq
    · exact N _ (.tail _ (.tail _ (.tail _ (.tail _ (.tail _ (.tail _ (.head _)))))))
    rcases List.mem_cons.mp hq with rfl | hq
    · exact N _ (.tail _ (.tail _ (.tail _ (.tail _ (.tail _ (.tail _ (.tail _ (.head _))))))))
    rcases List.mem_cons.mp hq with rfl | hq
    · exact N _ (.tail _ (.tail _ (.tail _ (.tail _ (.tail _ (.tail _ (.tail _ (.tail _ (.head _)))))))))
    rcases List.mem_cons.mp hq with rfl | hq
    · exact N _ (.tail _ (.tail _ (.tail _ (.tail _ (.tail _ (.tail _ (.tail _ (.tail _ (.tail _ (.head _))))))))))
    rcases List.mem_cons.mp hq with rfl | hq
    · exact N _ (.tail _ (.tail _ (.tail _ (.tail _ (.tail _ (.tail _ (.tail _ (.tail _ (.tail _ (.tail _ (.head _)))))))))))
    rcases List.mem_cons.mp hq with rfl | hq
    · exact N _ (.tail _ (.tail _ (.head _)))
    rcases List.mem_cons.mp hq with rfl | hq
    · exact N _ (.tail _ (.tail _ (.tail _ (.head _))))
    rcases List.mem_cons.mp hq with rfl | hq
    · exact N _ (.tail _ (.tail _ (.tail _ (.tail _ (.head _)))))
    rcases List.mem_cons.mp hq with rfl | hq
    · exact N _ (.head _)
    unfold rest at hq
    rw [lowcells_snoc] at hq
    rcases List.mem_append.mp hq with hq | hq
    · rcases List.mem_append.mp hq with hq | hq
      · exact R0 q (List.mem_append_left _ hq)
      rcases List.mem_cons.mp hq with rfl | hq
      · exact N _ (.tail _ (.tail _ (.tail _ (.tail _ (.tail _ (.tail _ (.tail _ (.tail _ (.tail _ (.tail _ (.tail _ (.head _))))))))))))
      rcases List.mem_cons.mp hq with rfl | hq
      · exact N _ (.tail _ (.tail _ (.tail _ (.tail _ (.tail _ (.tail _ (.tail _ (.tail _ (.tail _ (.tail _ (.tail _ (.tail _ (.head _)))))))))))))
      rcases List.mem_cons.mp hq with rfl | hq
      · exact N _ (.tail _ (.tail _ (.tail _ (.tail _ (.tail _ (.tail _ (.tail _ (.tail _ (.tail _ (.tail _ (.tail _ (.tail _ (.tail _ (.head _))))))))))))))
      rcases List.mem_cons.mp hq with rfl | hq
      · exact N _ (.tail _ (.tail _ (.tail _ (.tail _ (.tail _ (.tail _ (.tail _ (.tail _ (.tail _ (.tail _ (.tail _ (.tail _ (.tail _ (.tail _ (.head _)))))))))))))))
      · cases hq
    rcases List.mem_cons.mp hq with rfl | hq
    · exact N _ (.tail _ (.head _))
    · exact R0 q (List.mem_append_right _ hq)
  · have key : ∀ a ∈ muts K v.fs, a ≠ sx ∧ a ≠ sd ∧ a ≠ nd ∧ a ≠ od ∧ a ≠ l' := fun a ha => by
      obtain ⟨q, hq, rfl⟩ := muts_led a ha
      have h1 := hf q (List.mem_append_left _ hq)
      exact ⟨h1.1, h1.2.1, h1.2.2.1, h1.2.2.2, hl q (List.mem_append_left _ hq)⟩
    have immled : ∀ q ∈ v.imm ++ Ow, q ∈ led K v ++ Ow := fun q hq => by
      rcases List.mem_append.mp hq with h | h
      · exact List.mem_append_left _ (by unfold led; simp [h])
      · exact List.mem_append_right _ h
    have fse : Var.fs { v with i0 := i', mx := mx', t1 := ti', t2 := tm', np := np', a6 := a6', nk := nk', nh := v.nh + 1, nl := v.nl + 1, low := v.low ++ [v.top], top := ⟨sx, sd, nd, od, l', e1, e2, e3, e4, e5, b1, b2, b3, b4, b5, b6, b7, tl, tlab, v.top.lev + 1, label, on, no, 0, 0, []⟩, imm := (sx, instObj 109 sd) :: v.imm } = v.fs ++ [⟨sx, sd, nd, od, l', e1, e2, e3, e4, e5, b1, b2, b3, b4, b5, b6, b7, tl, tlab, v.top.lev + 1, label, on, no, 0, 0, []⟩] := rfl
    have sub : ∀ q ∈ v.imm, q ∈ (sx, instObj 109 sd) :: v.imm := fun q hq => .tail _ hq
    refine ⟨?_, ?_, ?_, .tail _ O.fl, .tail _ O.ax, O.ty.mono sub, hi0, hi1, hmx0, hmx1, O.hints, O.figs, O.co, ?_, ?_, ?_, ?_, ?_⟩
    · rw [fse, muts_snoc]
      refine List.nodup_append.mpr ⟨O.nodup, ?_, ?_⟩
      · simp only [Frm.muts, List.nodup_cons, List.mem_cons, not_or, List.not_mem_nil, not_false_eq_true, and_true, List.nodup_nil]
        exact ⟨⟨x4, x5, l2⟩, ⟨x6, l3⟩, l4⟩
      · intro a ha b hb e
        have h1 := key a ha
        simp only [Frm.muts, List.mem_cons, List.not_mem_nil, or_false] at hb
        rcases hb with h | h | h | h <;> rw [h] at e
        · exact h1.2.1 e
        · exact h1.2.2.1 e
        · exact h1.2.2.2.1 e
        · exact h1.2.2.2.2 e
    · rw [fse, muts_snoc]
      intro q hq hm
      rcases List.mem_append.mp hm with hm | hm
      · rcases List.mem_cons.mp hq with rfl | hq
        · exact (key _ hm).1 rfl
        · exact O.off q hq hm
      · simp only [Frm.muts, List.mem_cons, List.not_mem_nil, or_false] at hm
        rcases List.mem_cons.mp hq with rfl | hq
        · rcases hm with h | h | h | h
          · exact x1 h
          · exact x2 h
          · exact x3 h
          · exact l1 h
        · have h1 := hf q (immled q hq)
          have h2 := hl q (immled q hq)
          rcases hm with h | h | h | h
          · exact h1.2.1 h
          · exact h1.2.2.1 h
          · exact h1.2.2.2 h
          · exact h2 h
    · intro p hp q hq
      rcases List.mem_cons.mp hp with rfl | hp
      · exact Ne.symm (hf q (List.mem_append_right _ hq)).1
      · exact O.apart p hp q hq
    · rw [fse]
      intro f hf
      rcases List.mem_append.mp hf with h | h
      · exact (O.frs f h).mono sub
      · rw [List.mem_singleton.mp h]
        exact ⟨.head _, hon, hlo, List.forall_mem_nil _, List.nodup_nil, rfl⟩
    · rw [fse]
      intro k f hk
      rcases Nat.lt_or_ge k v.fs.length with hl | hl
      · rw [List.getElem?_append_left hl] at hk
        exact O.levs k f hk
      · rw [List.getElem?_append_right hl] at hk
        have hlv : v.top.lev = (v.low.length : Int) - 1 := O.levs v.low.length v.top (by unfold Var.fs; simp)
        have hfl : v.fs.length = v.low.length + 1 := by unfold Var.fs; simp
        cases hkk : k - v.fs.length with
        | zero =>
          rw [hkk] at hk
          simp only [List.getElem?_cons_zero, Option.some.injEq] at hk
          subst hk
          show v.top.lev + 1 = _
          omega
        | succ n => rw [hkk] at hk; simp at hk
    · show (v.low ++ [v.top]).length ≤ 6
      rw [List.length_append]; simp; omega
    · rw [fse]
      intro f hf
      rcases List.mem_append.mp hf with h | h
      · exact Nat.le_trans (O.size f h) (by omega)
      · rw [List.mem_singleton.mp h]; exact Nat.zero_le _
    · rw [fse]
      intro f hf
      rw [List.getElem?_append_left (by unfold Var.fs; simp)] at hf
      exact O.bot f hf
end Zopenend
theorem open_end {K : Cst} {w : World} {Ow : List (Addr × Obj)} {j : Nat} {v : Var} {h₀ : Heap} {h : Heap} {L : Addr} {sx : Addr} {sd : Addr} {nd : Addr} {od : Addr} {l' : Addr} {e1 : Int} {e2 : Int} {e3 : Int} {e4 : Int} {e5 : Int} {i' : Int} {mx' : Int} {b1 : Tok} {b2 : Tok} {b3 : Tok} {b4 : Tok} {b5 : Tok} {b6 : Tok} {b7 : Tok} {tl : Tok} {tlab : Tok} {ti' : Tok} {tm' : Tok} {a6' : Tok} {on : Obj} {no : Nat} {nk' : Nat} {np' : Nat} {label : Str} (O : Ok K w Ow j v) (hlen : v.low.length + 1 < 7) (N : News h₀ L h ((l', listOf ([] : List Value).toArray 0) :: (sx, instObj 109 sd) :: (sd, scopeD e1 e2 e3 e4 e5 b1 b2 b3 b4 b5 (v.top.lev + 1) b6 (.str label tl) nd od 0 b7) :: (nd, on) :: (od, listOf ([] : List Value).toArray no) :: (K.pl, listOf #[.ref K.fl, .int i' ti', .int mx' tm'] np') ::
    (K.ad, scopesD K.c1 K.c2 K.c3 K.c4 K.a1 K.a2 K.a3 K.a4 (.ref K.tx) (.str (Str.ofString "M") K.a5) K.ak (v.top.lev + 1) a6') :: (K.ak, listOf (v.low.map Frm.sv ++ [Value.ref v.top.sx] ++ [Value.ref sx]).toArray nk') ::
    (K.hm, listOf (v.low.map Frm.hv ++ [Value.ref v.top.ha] ++ [Value.ref l']).toArray (v.nh + 1)) :: (K.lb, listOf (v.low.map Frm.lv ++ [Value.str v.top.lab v.top.ll] ++ [Value.str label tlab]).toArray (v.nl + 1)) :: (K.cc, v.co) :: (v.top.sd, v.top.sdo) :: (v.top.nd, v.top.on) :: (v.top.od, listOf (v.top.its.map It.rf).toArray v.top.no) ::
    (v.top.ha, listOf (v.top.its.map It.rr).toArray v.top.nh) :: rest v Ow)) (hi0 : 0 ≤ i') (hi1 : i' ≤ K.figs.length) (hmx0 : 0 ≤ mx') (hmx1 : mx' < 1009) (hon : on.IsDictOf (PySem.strKind Challenge.rw_nu0320_01.row.prog w) []) (hlo : (nd == sysModules) = false) (hf : ∀ q ∈ led K v ++ Ow, q.1 ≠ sx ∧ q.1 ≠ sd ∧ q.1 ≠ nd ∧ q.1 ≠ od) (hl : ∀ q ∈ led K v ++ Ow, q.1 ≠ l') (hnd : [sx, sd, nd, od].Nodup) (hl4 : sx ≠ l' ∧ sd ≠ l' ∧ nd ≠ l' ∧ od ≠ l') :
    ∃ v', News h₀ L h (led K v' ++ Ow) ∧ Ok K w Ow (j + 1) v' :=
  (eps_all (ne := Zopenend.zNe) (P := Zopenend.zSc) Zopenend.zCore : ∀ c, Zopenend.zSc c) (K, w, Ow, j, v, h₀, h, L, sx, sd, nd, od, l', e1, e2, e3, e4, e5, i', mx', b1, b2, b3, b4, b5, b6, b7, tl, tlab, ti', tm', a6', on, no, nk', np', label) O hlen N hi0 hi1 hmx0 hmx1 hon hlo hf hl hnd hl4
end
-- E7
section
theorem strs_snoc : ∀ {vs : List Value} {ys : List Str} {x : Str} {t : Tok}, StrsAre vs ys → StrsAre (vs ++ [.str x t]) (ys ++ [x])
  | _, _, x, t, .nil => .cons x t .nil
  | _, _, _, _, .cons y u h => .cons y u (strs_snoc h)
theorem its_get {its : List It} {f : It → Value} {i : Nat} {v : Value} (h : ((its.map f).toArray)[i]? = some v) : ∃ it, its[i]? = some it ∧ v = f it ∧ it ∈ its := by
  rw [List.getElem?_toArray, List.getElem?_map] at h
  obtain ⟨it, h1, h2⟩ := Option.map_eq_some_iff.mp h
  exact ⟨it, h1, h2.symm, List.mem_of_getElem? h1⟩
section
variable {w : World} {A : Around} {s : Shared} {h₀ : Heap} {L : Addr} {m : Str → Option Value} {env : Env} {scope : Scope} {cl : List (Str × Addr)} {Fin : List Value → List (Addr × Obj) → Prop}
theorem order_rest {p1 p2 : Pos} {ax : Addr} {its : List It} {news0 : List (Addr × Obj)} (X : (Mine.fr.heap_1 w.params).In h₀) (hS : LCg.SrcAt h₀ ax (its.map It.rf).toArray news0)
    (hit : ∀ i ∈ its, ItemIs news0 i.o)
    (hk : ∀ C, (compEnvC scope cl C env).scope.kind = .function) (hx : ∀ C, (compEnvC scope cl C env).kindOf (Str.ofString "obj") = some .local)
    (fin : ∀ ys, StrsAre ys (its.map (·.o.nm)) → Fin ys news0) :
    LCg.CompRest Challenge.rw_nu0320_01.row.prog w A h₀ L m env (.Attribute (.Name (Str.ofString "obj") p1) (Str.ofString "name") p2) (Str.ofString "obj") scope cl s (LCg.SrcAt h₀ ax (its.map It.rf).toArray) (fun i v => (its.map It.rf).toArray[i]? = some v) Fin its.length 0 [] news0 := by
  refine comp_ind its.length (fun i ys news => news = news0 ∧ StrsAre ys ((its.map (·.o.nm)).take i)) ?_ ?_ _ 0 [] news0 (Nat.zero_add _) ⟨rfl, .nil⟩
  · rintro i ys news v I oI C oC D m₂ h tk E' hi ⟨rfl, hys⟩ hv hNs hm F N o d
    obtain ⟨it, hit1, rfl, hitm⟩ := its_get hv
    obtain ⟨es, n, t1, t2, t3, tp, md, sl, val, g1, g2, g3⟩ := hit it hitm
    refine name_elt X F N (.tail _ (.head _)) hNs hm (.tail _ (.tail _ (.tail _ g1))) (.tail _ (.tail _ (.tail _ g2))) g3.name (hk C) (hx C) ?_
    intro h' tk' F' N'
    refine LCg.CompEnd.intro F' N' news (fun _ h => h) o hS ⟨rfl, ?_⟩
    rw [List.take_add_one, List.getElem?_map, hit1]
    exact strs_snoc hys
  · rintro ys news ⟨rfl, hys⟩
    exact fin ys (by rw [← List.length_map (f := fun i : It => i.o.nm), List.take_length] at hys; exact hys)
theorem rows_rest {p1 p2 p3 : Pos} {ax : Addr} {its : List It} {news0 : List (Addr × Obj)} (X : (Mine.fr.heap_1 w.params).In h₀) (hS : LCg.SrcAt h₀ ax (its.map It.rr).toArray news0)
    (hit : ∀ i ∈ its, (i.r, rowObj i.o.nm i.t i.val) ∈ news0)
    (hk : ∀ C, (compEnvC scope cl C env).scope.kind = .function) (hx : ∀ C, (compEnvC scope cl C env).kindOf (Str.ofString "row") = some .local)
    (fin : ∀ ys, StrsAre ys (its.map (·.o.nm)) → Fin ys news0) :
    LCg.CompRest Challenge.rw_nu0320_01.row.prog w A h₀ L m env (.Subscript (.Name (Str.ofString "row") p1) (.Constant (.int 0) 0 p2) p3) (Str.ofString "row") scope cl s (LCg.SrcAt h₀ ax (its.map It.rr).toArray) (fun i v => (its.map It.rr).toArray[i]? = some v) Fin its.length 0 [] news0 := by
  refine comp_ind its.length (fun i ys news => news = news0 ∧ StrsAre ys ((its.map (·.o.nm)).take i)) ?_ ?_ _ 0 [] news0 (Nat.zero_add _) ⟨rfl, .nil⟩
  · rintro i ys news v I oI C oC D m₂ h tk E' hi ⟨rfl, hys⟩ hv hNs hm F N o d
    obtain ⟨it, hit1, rfl, hitm⟩ := its_get hv
    refine row0_elt X F N (.tail _ (.head _)) hNs hm (.tail _ (.tail _ (.tail _ (hit it hitm)))) (hk C) (hx C) ?_
    intro h' tk' F' N'
    refine LCg.CompEnd.intro F' N' news (fun _ h => h) o hS ⟨rfl, ?_⟩
    rw [List.take_add_one, List.getElem?_map, hit1]
    exact strs_snoc hys
  · rintro ys news ⟨rfl, hys⟩
    exact fin ys (by rw [← List.length_map (f := fun i : It => i.o.nm), List.take_length] at hys; exact hys)
end
theorem names_ok {its : List It} (h : ∀ i ∈ its, i.o.nm ∈ allNames) : (its.map (·.o.nm)).all PyData.strOk = true := by
  have key : allNames.all PyData.strOk = true := by decide +kernel
  rw [List.all_eq_true]
  intro x hx
  obtain ⟨i, hi, rfl⟩ := List.mem_map.mp hx
  exact List.all_eq_true.mp key _ (h i hi)
end
-- LK2
section
theorem close_end {K : Cst} {w : World} {Ow : List (Addr × Obj)} {j : Nat} {v : Var} {h₀ h : Heap} {L : Addr} {a6' : Tok} {nk' : Nat} {low' : List Frm} {g : Frm} {Z : List (Addr × Obj)}
    (O : Ok K w Ow j v) (hlow : v.low = low' ++ [g])
    (N : News h₀ L h ((K.pl, listOf #[.ref K.fl, .int v.i0 v.t1, .int v.mx v.t2] v.np) ::
    (K.ad, scopesD K.c1 K.c2 K.c3 K.c4 K.a1 K.a2 K.a3 K.a4 (.ref K.tx) (.str (Str.ofString "M") K.a5) K.ak g.lev a6') :: (K.ak, listOf (low'.map Frm.sv ++ [Value.ref g.sx]).toArray nk') ::
    (K.hm, listOf (low'.map Frm.hv ++ [Value.ref g.ha]).toArray (v.nh + 1)) :: (K.lb, listOf (low'.map Frm.lv ++ [Value.str g.lab g.ll]).toArray (v.nl + 1)) :: (K.cc, v.co) :: Z)) (hZ : ∀ q ∈ rest v Ow, q ∈ Z) :
    ∃ v', News h₀ L h (led K v' ++ Ow) ∧ Ok K w Ow (j + 1) v' := by
  have fse : v.fs = (low' ++ [g]) ++ [v.top] := by unfold Var.fs; rw [hlow]
  have sub : ∀ f ∈ low' ++ [g], f ∈ v.fs := fun f hf => by rw [fse]; exact List.mem_append_left _ hf
  have hm : ∀ a ∈ muts K (low' ++ [g]), a ∈ muts K v.fs := fun a ha => by rw [fse, muts_snoc K (low' ++ [g])]; exact List.mem_append_left _ ha
  refine ⟨{ v with a6 := a6', nk := nk', nh := v.nh + 1, nl := v.nl + 1, low := low', top := g }, news_sub N ?_, ?_⟩
  · intro q hq
    unfold led at hq
    simp only [List.cons_append, List.append_assoc] at hq
    rcases List.mem_cons.mp hq with rfl | hq
    · exact .head _
    rcases List.mem_cons.mp hq with rfl | hq
    · exact .tail _ (.head _)
    rcases List.mem_cons.mp hq with rfl | hq
    · exact .tail _ (.tail _ (.head _))
    rcases List.mem_cons.mp hq with rfl | hq
    · exact .tail _ (.tail _ (.tail _ (.head _)))
    rcases List.mem_cons.mp hq with rfl | hq
    · exact .tail _ (.tail _ (.tail _ (.tail _ (.head _))))
    rcases List.mem_cons.mp hq with rfl | hq
    · exact .tail _ (.tail _ (.tail _ (.tail _ (.tail _ (.head _)))))
    refine .tail _ (.tail _ (.tail _ (.tail _ (.tail _ (.tail _ (hZ q ?_))))))
    unfold rest
    rw [hlow, lowcells_snoc]
    simp only [List.mem_append] at hq ⊢
    rcases hq with h | h | h | h
    · exact .inl (.inr h)
    · exact .inl (.inl h)
    · exact .inr (.inl h)
    · exact .inr (.inr h)
  · refine ⟨?_, fun q hq hm' => O.off q hq (hm _ hm'), O.apart, O.fl, O.ax, O.ty, O.i0, O.i1, O.mx0, O.mx1, O.hints, O.figs, O.co, fun f hf => O.frs f (sub f hf), ?_, ?_, fun f hf => Nat.le_trans (O.size f (sub f hf)) (by omega), ?_⟩
    · have := O.nodup
      rw [fse, muts_snoc K (low' ++ [g])] at this
      exact (List.nodup_append.mp this).1
    · intro k f hk
      refine O.levs k f ?_
      rw [fse, List.getElem?_append_left]
      · exact hk
      · exact (List.getElem?_eq_some_iff.mp hk).1
    · have := O.room; rw [hlow, List.length_append] at this; show low'.length ≤ 6; omega
    · intro f hf
      refine O.bot f ?_
      rw [fse, List.getElem?_append_left]
      · exact hf
      · simp
theorem inst_cls {h₀ H : Heap} {L a : Addr} {news : List (Addr × Obj)} {C C' d d' : Addr} (N : News h₀ L H news) (h1 : (a, instObj C d) ∈ news) (h2 : (a, instObj C' d') ∈ news) : C = C' ∧ d = d' := by
  have e := congrArg Prod.snd (news_fun N h1 h2 rfl)
  simp only [instObj, Obj.mk.injEq, Value.ref.injEq, Option.some.injEq] at e
  exact ⟨e.1, e.2.1⟩
theorem in_names {prog : Program} {w : World} {A : Around} {E : Value → Shared → Prop} {s : Shared} {h₀ : Heap} {L l : Addr} {news : List (Addr × Obj)} {vs : List Value} {ys : List Str} {k : Str} {t : Tok} {b : Bool} {Q : Value → Shared → Prop} (N : News h₀ L s.heap news) (hm : (l, LCg.lst vs) ∈ news) (hS : StrsAre vs ys) (hb : ys.any (· == k) = b)
    (h : Q (.bool b) s) : wpAny (model prog w) A (compareOp .In (.str k t) (.ref l)) Q E s :=
  in_list_strs ⟨_, (N _ hm).1, rfl, _, rfl⟩ hS (by rw [hb]; exact h)
theorem any_names (its : List It) (nm : Str) : (its.map (·.o.nm)).any (· == nm) = (valueAt (its.map It.kv) nm).isSome := by
  rw [valueAt_isSome_eq_any, List.any_map, List.any_map]
  congr 1
theorem pool_end {K : Cst} {w : World} {Ow : List (Addr × Obj)} {j : Nat} {v : Var} {h₀ h : Heap} {L : Addr} {i' mx' : Int} {ti' tm' : Tok}
    (O : Ok K w Ow j v) (N : News h₀ L h ((K.pl, listOf #[.ref K.fl, .int i' ti', .int mx' tm'] v.np) :: (K.ad, scopesD K.c1 K.c2 K.c3 K.c4 K.a1 K.a2 K.a3 K.a4 (.ref K.tx) (.str (Str.ofString "M") K.a5) K.ak v.top.lev v.a6) :: (K.ak, listOf (v.low.map Frm.sv ++ [Value.ref v.top.sx]).toArray v.nk) ::
    (K.hm, listOf (v.low.map Frm.hv ++ [Value.ref v.top.ha]).toArray v.nh) :: (K.lb, listOf (v.low.map Frm.lv ++ [Value.str v.top.lab v.top.ll]).toArray v.nl) :: (K.cc, v.co) ::
    (v.top.sd, v.top.sdo) :: (v.top.nd, v.top.on) :: (v.top.od, listOf (v.top.its.map It.rf).toArray v.top.no) :: (v.top.ha, listOf (v.top.its.map It.rr).toArray v.top.nh) :: rest v Ow))
    (hi0 : 0 ≤ i') (hi1 : i' ≤ K.figs.length) (hmx0 : 0 ≤ mx') (hmx1 : mx' < 1009) : ∃ v', News h₀ L h (led K v' ++ Ow) ∧ Ok K w Ow (j + 1) v' := by
  refine ⟨{ v with i0 := i', mx := mx', t1 := ti', t2 := tm' }, ?_, ?_⟩
  · rw [led_open]; exact N
  · exact ⟨O.nodup, O.off, O.apart, O.fl, O.ax, O.ty, hi0, hi1, hmx0, hmx1, O.hints, O.figs, O.co, O.frs, O.levs, O.room, fun f hf => Nat.le_trans (O.size f hf) (by omega), O.bot⟩
end
-- LK3
section
theorem ne_tup4 {prog : Program} {w : World} {A : Around} {E : Value → Shared → Prop} {s : Shared} {h₀ : Heap} {L a b : Addr} {news : List (Addr × Obj)} {x y : Str} {i l1 l2 : Int} {t1 t2 t3 t4 u1 u2 u3 u4 : Tok} {n1 n2 : Nat} {Q : Value → Shared → Prop} (N : News h₀ L s.heap news)
    (ha : (a, ({ cls := .type "tuple", data := .seq #[.str x t1, .str y t2, .int i t3, .int l1 t4] n1 } : Obj)) ∈ news) (hb : (b, ({ cls := .type "tuple", data := .seq #[.str x u1, .str y u2, .int i u3, .int l2 u4] n2 } : Obj)) ∈ news) (e : l1 = l2)
    (hx : PyData.strOk x = true) (hy : PyData.strOk y = true) (hu : A.units + 64 < cLine) (h : Q (.bool false) s) : wpAny (model prog w) A (compareOp .NotEq (.ref a) (.ref b)) Q E s := by
  subst e
  have c : ∀ (t1 t2 t3 t4 : Tok), CarriedAll [Value.str x t1, Value.str y t2, Value.int i t3, Value.int l1 t4] [PyData.str x, PyData.str y, PyData.int i, PyData.int l1] := fun t1 t2 t3 t4 => .cons (.str _ _) (.cons (.str _ _) (.cons (.int _ _) (.cons (.int _ _) .nil)))
  have hs : SeqAt.shaped (.tuple [PyData.str x, PyData.str y, PyData.int i, PyData.int l1]) = true := by simp [SeqAt.shaped, PyData.canLay0, PyData.canLayAll0, PyData.depth, PyData.depthAll, hx, hy]
  refine ne_dataH_same (reads_newDataT ⟨_, (N _ ha).1, rfl, n1, rfl⟩ (c t1 t2 t3 t4)) (reads_newDataT ⟨_, (N _ hb).1, rfl, n2, rfl⟩ (c u1 u2 u3 u4)) hs hs hu ?_ ?_
  · rfl
  · simpa [PySem.Spec.same, PySem.Spec.sameAll] using h
theorem in_vp {prog : Program} {w : World} {A : Around} {E : Value → Shared → Prop} {s : Shared} {h₀ : Heap} {L l : Addr} {news : List (Addr × Obj)} {k : Str} {t t1 t2 : Tok} {n : Nat} {b : Bool} {Q : Value → Shared → Prop} (N : News h₀ L s.heap news) (hm : (l, listOf #[.str (Str.ofString "var") t1, .str (Str.ofString "par") t2] n) ∈ news) (hb : isVar k = b)
    (h : Q (.bool b) s) : wpAny (model prog w) A (compareOp .In (.str k t) (.ref l)) Q E s := by
  refine in_list_strs (vs := [.str (Str.ofString "var") t1, .str (Str.ofString "par") t2]) (ys := [Str.ofString "var", Str.ofString "par"]) ⟨_, (N _ hm).1, rfl, n, rfl⟩ (by repeat constructor) ?_
  have e : ([Str.ofString "var", Str.ofString "par"].any fun x => x == k) = isVar k := by
    unfold isVar
    simp only [List.any_cons, List.any_nil, Bool.or_false]
    rw [BEq.comm (a := Str.ofString "var"), BEq.comm (a := Str.ofString "par")]
  rw [e, hb]; exact h
theorem ins_news {h₀ h : Heap} {L : Addr} {a1 a2 a3 row b1 xi di b2 : Addr × Obj} {Z : List (Addr × Obj)} (N : News h₀ L h (a1 :: a2 :: a3 :: row :: b1 :: xi :: di :: b2 :: Z)) : News h₀ L h (row :: xi :: di :: Z) := news_sub N fun q hq => by
  simp only [List.mem_cons] at hq ⊢
  rcases hq with h | h | h | h <;> simp [h]
namespace Zinsend
def zSt (K : Cst) (w : World) (Ow : List (Addr × Obj)) (j : Nat) (v : Var) (h₀ : Heap) (h : Heap) (L : Addr) (D' : Addr) (x : Addr) (dd : Addr) (i' : Int) (mx' : Int) (st : Int) (sl' : Int) (ti' : Tok) (tm' : Tok) (tn : Tok) (tkd : Tok) (tst : Tok) (t4 : Tok) (nm : Str) (kind : Str) (es : List DictEntry) (ne : Nat) (no' : Nat) (onames' : Obj) (md : Str) (slv : Int) (ty : Value) : Prop := ∀ (O : Ok K w Ow j v) (N : News h₀ L h ((D', rowObj nm tn (.ref x)) :: (x, instObj 52 dd) :: (dd, dictOf es ne) :: (K.pl, listOf #[.ref K.fl, .int i' ti', .int mx' tm'] v.np) :: (K.ad, scopesD K.c1 K.c2 K.c3 K.c4 K.a1 K.a2 K.a3 K.a4 (.ref K.tx) (.str (Str.ofString "M") K.a5) K.ak v.top.lev v.a6) :: (K.ak, listOf (v.low.map Frm.sv ++ [Value.ref v.top.sx]).toArray v.nk) ::
    (K.hm, listOf (v.low.map Frm.hv ++ [Value.ref v.top.ha]).toArray v.nh) :: (K.lb, listOf (v.low.map Frm.lv ++ [Value.str v.top.lab v.top.ll]).toArray v.nl) :: (K.cc, v.co) ::
    (v.top.sd, scopeD v.top.e1 v.top.e2 v.top.e3 v.top.e4 v.top.e5 v.top.b1 v.top.b2 v.top.b3 v.top.b4 v.top.b5 v.top.lev v.top.b6 (.str v.top.lab v.top.tl) v.top.nd v.top.od sl' t4) :: (v.top.nd, onames') :: (v.top.od, listOf (v.top.its.map It.rf ++ [Value.ref x]).toArray no') :: (v.top.ha, listOf (v.top.its.map It.rr ++ [Value.ref D']).toArray (v.top.nh + 1)) :: rest v Ow)) (hi0 : 0 ≤ i') (hi1 : i' ≤ K.figs.length) (hmx0 : 0 ≤ mx') (hmx1 : mx' < 1009) (hf : ∀ q ∈ led K v ++ Ow, q.1 ≠ D' ∧ q.1 ≠ x ∧ q.1 ≠ dd) (hob : ObjIs es (.str nm tn) (.str kind tkd) ty (.int st tst) (if 0 > v.top.lev then 0 else v.top.lev) md slv .none) (hkv : onames'.IsDictOf (PySem.strKind Challenge.rw_nu0320_01.row.prog w) (v.top.its.map It.kv ++ [(nm, .ref x)])) (hnm : nm ∈ allNames) (hnew : valueAt (v.top.its.map It.kv) nm = none) (hsl : sl' = if isVar kind then v.top.slots + 1 else v.top.slots), ∃ v', News h₀ L h (led K v' ++ Ow) ∧ Ok K w Ow (j + 1) v'
def zSc (zz : (Cst) × (World) × (List (Addr × Obj)) × (Nat) × (Var) × (Heap) × (Heap) × (Addr) × (Addr) × (Addr) × (Addr) × (Int) × (Int) × (Int) × (Int) × (Tok) × (Tok) × (Tok) × (Tok) × (Tok) × (Tok) × (Str) × (Str) × (List DictEntry) × (Nat) × (Nat) × (Obj) × (Str) × (Int) × (Value)) : Prop := zSt zz.1 zz.2.1 zz.2.2.1 zz.2.2.2.1 zz.2.2.2.2.1 zz.2.2.2.2.2.1 zz.2.2.2.2.2.2.1 zz.2.2.2.2.2.2.2.1 zz.2.2.2.2.2.2.2.2.1 zz.2.2.2.2.2.2.2.2.2.1 zz.2.2.2.2.2.2.2.2.2.2.1 zz.2.2.2.2.2.2.2.2.2.2.2.1 zz.2.2.2.2.2.2.2.2.2.2.2.2.1 zz.2.2.2.2.2.2.2.2.2.2.2.2.2.1 zz.2.2.2.2.2.2.2.2.2.2.2.2.2.2.1 zz.2.2.2.2.2.2.2.2.2.2.2.2.2.2.2.1 zz.2.2.2.2.2.2.2.2.2.2.2.2.2.2.2.2.1 zz.2.2.2.2.2.2.2.2.2.2.2.2.2.2.2.2.2.1 zz.2.2.2.2.2.2.2.2.2.2.2.2.2.2.2.2.2.2.1 zz.2.2.2.2.2.2.2.2.2.2.2.2.2.2.2.2.2.2.2.1 zz.2.2.2.2.2.2.2.2.2.2.2.2.2.2.2.2.2.2.2.2.1 zz.2.2.2.2.2.2.2.2.2.2.2.2.2.2.2.2.2.2.2.2.2.1 zz.2.2.2.2.2.2.2.2.2.2.2.2.2.2.2.2.2.2.2.2.2.2.1 zz.2.2.2.2.2.2.2.2.2.2.2.2.2.2.2.2.2.2.2.2.2.2.2.1 zz.2.2.2.2.2.2.2.2.2.2.2.2.2.2.2.2.2.2.2.2.2.2.2.2.1 zz.2.2.2.2.2.2.2.2.2.2.2.2.2.2.2.2.2.2.2.2.2.2.2.2.2.1 zz.2.2.2.2.2.2.2.2.2.2.2.2.2.2.2.2.2.2.2.2.2.2.2.2.2.2.1 zz.2.2.2.2.2.2.2.2.2.2.2.2.2.2.2.2.2.2.2.2.2.2.2.2.2.2.2.1 zz.2.2.2.2.2.2.2.2.2.2.2.2.2.2.2.2.2.2.2.2.2.2.2.2.2.2.2.2.1 zz.2.2.2.2.2.2.2.2.2.2.2.2.2.2.2.2.2.2.2.2.2.2.2.2.2.2.2.2.2
theorem zNe : Nonempty ((Cst) × (World) × (List (Addr × Obj)) × (Nat) × (Var) × (Heap) × (Heap) × (Addr) × (Addr) × (Addr) × (Addr) × (Int) × (Int) × (Int) × (Int) × (Tok) × (Tok) × (Tok) × (Tok) × (Tok) × (Tok) × (Str) × (Str) × (List DictEntry) × (Nat) × (Nat) × (Obj) × (Str) × (Int) × (Value)) := ⟨(dCst, dWorld, default, default, dVar, default, default, default, default, default, default, default, default, default, default, default, default, default, default, default, default, default, default, default, default, default, default, default, default, default)⟩
noncomputable def zC : (Cst) × (World) × (List (Addr × Obj)) × (Nat) × (Var) × (Heap) × (Heap) × (Addr) × (Addr) × (Addr) × (Addr) × (Int) × (Int) × (Int) × (Int) × (Tok) × (Tok) × (Tok) × (Tok) × (Tok) × (Tok) × (Str) × (Str) × (List DictEntry) × (Nat) × (Nat) × (Obj) × (Str) × (Int) × (Value) := @Classical.epsilon _ zNe fun c => ¬ zSc c
noncomputable def K : Cst := zC.1
noncomputable def w : World := zC.2.1
noncomputable def Ow : List (Addr × Obj) := zC.2.2.1
noncomputable def j : Nat := zC.2.2.2.1
noncomputable def v : Var := zC.2.2.2.2.1
noncomputable def h₀ : Heap := zC.2.2.2.2.2.1
noncomputable def h : Heap := zC.2.2.2.2.2.2.1
noncomputable def L : Addr := zC.2.2.2.2.2.2.2.1
noncomputable def D' : Addr := zC.2.2.2.2.2.2.2.2.1
noncomputable def x : Addr := zC.2.2.2.2.2.2.2.2.2.1
noncomputable def dd : Addr := zC.2.2.2.2.2.2.2.2.2.2.1
noncomputable def i' : Int := zC.2.2.2.2.2.2.2.2.2.2.2.1
noncomputable def mx' : Int := zC.2.2.2.2.2.2.2.2.2.2.2.2.1
noncomputable def st : Int := zC.2.2.2.2.2.2.2.2.2.2.2.2.2.1
noncomputable def sl' : Int := zC.2.2.2.2.2.2.2.2.2.2.2.2.2.2.1
noncomputable def ti' : Tok := zC.2.2.2.2.2.2.2.2.2.2.2.2.2.2.2.1
noncomputable def tm' : Tok := zC.2.2.2.2.2.2.2.2.2.2.2.2.2.2.2.2.1
noncomputable def tn : Tok := zC.2.2.2.2.2.2.2.2.2.2.2.2.2.2.2.2.2.1
noncomputable def tkd : Tok := zC.2.2.2.2.2.2.2.2.2.2.2.2.2.2.2.2.2.2.1
noncomputable def tst : Tok := zC.2.2.2.2.2.2.2.2.2.2.2.2.2.2.2.2.2.2.2.1
noncomputable def t4 : Tok := zC.2.2.2.2.2.2.2.2.2.2.2.2.2.2.2.2.2.2.2.2.1
noncomputable def nm : Str := zC.2.2.2.2.2.2.2.2.2.2.2.2.2.2.2.2.2.2.2.2.2.1
noncomputable def kind : Str := zC.2.2.2.2.2.2.2.2.2.2.2.2.2.2.2.2.2.2.2.2.2.2.1
noncomputable def es : List DictEntry := zC.2.2.2.2.2.2.2.2.2.2.2.2.2.2.2.2.2.2.2.2.2.2.2.1
noncomputable def ne : Nat := zC.2.2.2.2.2.2.2.2.2.2.2.2.2.2.2.2.2.2.2.2.2.2.2.2.1
noncomputable def no' : Nat := zC.2.2.2.2.2.2.2.2.2.2.2.2.2.2.2.2.2.2.2.2.2.2.2.2.2.1
noncomputable def onames' : Obj := zC.2.2.2.2.2.2.2.2.2.2.2.2.2.2.2.2.2.2.2.2.2.2.2.2.2.2.1
noncomputable def md : Str := zC.2.2.2.2.2.2.2.2.2.2.2.2.2.2.2.2.2.2.2.2.2.2.2.2.2.2.2.1
noncomputable def slv : Int := zC.2.2.2.2.2.2.2.2.2.2.2.2.2.2.2.2.2.2.2.2.2.2.2.2.2.2.2.2.1
noncomputable def ty : Value := zC.2.2.2.2.2.2.2.2.2.2.2.2.2.2.2.2.2.2.2.2.2.2.2.2.2.2.2.2.2
theorem zCore (O : Ok K w Ow j v) (N : News h₀ L h ((D', rowObj nm tn (.ref x)) :: (x, instObj 52 dd) :: (dd, dictOf es ne) :: (K.pl, listOf #[.ref K.fl, .int i' ti', .int mx' tm'] v.np) :: (K.ad, scopesD K.c1 K.c2 K.c3 K.c4 K.a1 K.a2 K.a3 K.a4 (.ref K.tx) (.str (Str.ofString "M") K.a5) K.ak v.top.lev v.a6) :: (K.ak, listOf (v.low.map Frm.sv ++ [Value.ref v.top.sx]).toArray v.nk) ::
    (K.hm, listOf (v.low.map Frm.hv ++ [Value.ref v.top.ha]).toArray v.nh) :: (K.lb, listOf (v.low.map Frm.lv ++ [Value.str v.top.lab v.top.ll]).toArray v.nl) :: (K.cc, v.co) ::
    (v.top.sd, scopeD v.top.e1 v.top.e2 v.top.e3 v.top.e4 v.top.e5 v.top.b1 v.top.b2 v.top.b3 v.top.b4 v.top.b5 v.top.lev v.top.b6 (.str v.top.lab v.top.tl) v.top.nd v.top.od sl' t4) :: (v.top.nd, onames') :: (v.top.od, listOf (v.top.its.map It.rf ++ [Value.ref x]).toArray no') :: (v.top.ha, listOf (v.top.its.map It.rr ++ [Value.ref D']).toArray (v.top.nh + 1)) :: rest v Ow)) (hi0 : 0 ≤ i') (hi1 : i' ≤ K.figs.length) (hmx0 : 0 ≤ mx') (hmx1 : mx' < 1009) (hf : ∀ q ∈ led K v ++ Ow, q.1 ≠ D' ∧ q.1 ≠ x ∧ q.1 ≠ dd) (hob : ObjIs es (.str nm tn) (.str kind tkd) ty (.int st tst) (if 0 > v.top.lev then 0 else v.top.lev) md slv .none) (hkv : onames'.IsDictOf (PySem.strKind Challenge.rw_nu0320_01.row.prog w) (v.top.its.map It.kv ++ [(nm, .ref x)])) (hnm : nm ∈ allNames) (hnew : valueAt (v.top.its.map It.kv) nm = none) (hsl : sl' = if isVar kind then v.top.slots + 1 else v.top.slots) : ∃ v', News h₀ L h (led K v' ++ Ow) ∧ Ok K w Ow (j + 1) v' := by
  have sub : ∀ q ∈ v.imm, q ∈ (D', rowObj nm tn (.ref x)) :: (x, instObj 52 dd) :: (dd, dictOf es ne) :: v.imm := fun q hq => .tail _ (.tail _ (.tail _ hq))
  have htop : v.top ∈ v.fs := List.mem_append_right _ (.head _)
  have fro := O.frs v.top htop
  refine ⟨{ v with i0 := i', mx := mx', t1 := ti', t2 := tm', top := { v.top with on := onames', no := no', nh := v.top.nh + 1, slots := sl', b7 := t4, its := v.top.its ++ [⟨⟨x, dd, nm, kind, st, if 0 > v.top.lev then 0 else v.top.lev⟩, D', tn, false⟩] }, imm := (D', rowObj nm tn (.ref x)) :: (x, instObj 52 dd) :: (dd, dictOf es ne) :: v.imm }, ?_, ?_⟩
  · rw [led_open]
    have R0 : ∀ q ∈ rest v Ow, h.get? q.1 = some q.2 ∧ q.1 ≠ L ∧ h₀.get? q.1 = none := fun q hq => N q (.tail _ (.tail _ (.tail _ (.tail _ (.tail _ (.tail _ (.tail _ (.tail _ (.tail _ (.tail _ (.tail _ (.tail _ (.tail _ hq)))))))))))))
    have e3 : (v.top.its ++ [It.mk ⟨x, dd, nm, kind, st, if 0 > v.top.lev then 0 else v.top.lev⟩ D' tn false]).map It.rf = v.top.its.map It.rf ++ [Value.ref x] := by rw [List.map_append]; rfl
    have e4 : (v.top.its ++ [It.mk ⟨x, dd, nm, kind, st, if 0 > v.top.lev then 0 else v.top.lev⟩ D' tn false]).map It.rr = v.top.its.map It.rr ++ [Value.ref D'] := by rw [List.map_append]; rfl
    rw [← e3, ← e4] at N
    intro q hq
    rcases List.mem_cons.mp hq with rfl | hq
    · exact N _ (.tail _ (.tail _ (.tail _ (.head _))))
    rcases List.mem_cons.mp hq with rfl | hq
    · exact N _ (.tail _ (.tail _ (.tail _ (.tail _ (.head _)))))
    rcases List.mem_cons.mp hq with rfl | hq
    · exact N _ (.tail _ (.tail _ (.tail _ (.tail _ (.tail _ (.head _))))))
    rcases List.mem_cons.mp hq with rfl | hq
    · exact N _ (.tail _ (.tail _ (.tail _ (.tail _ (.tail _ (.tail _ (.head _)))))))
    rcases List.mem_cons.mp hq with rfl | hq
    · exact N _ (.tail _ (.tail _ (.tail _ (.tail _ (.tail _ (.tail _ (.tail _ (.head _))))))))
    rcases List.mem_cons.mp hq with rfl | hq
    · exact N _ (.tail _ (.tail _ (.tail _ (.tail _ (.tail _ (.tail _ (.tail _ (.tail _ (.head _)))))))))
    rcases List.mem_cons.mp hq with rfl | hq
    · exact N _ (.tail _ (.tail _ (.tail _ (.tail _ (.tail _ (.tail _ (.tail _ (.tail _ (.tail _ (.head _))))))))))
    rcases List.mem_cons.mp hq with rfl | hq
    · exact N _ (.tail _ (.tail _ (.tail _ (.tail _ (.tail _ (.tail _ (.tail _ (.tail _ (.tail _ (.tail _ (.head _)))))))))))
    rcases List.mem_cons.mp hq with rfl | hq
    · exact N _ (.tail _ (.tail _ (.tail _ (.tail _ (.tail _ (.tail _ (.tail _ (.tail _ (.tail _ (.tail _ (.tail _ (.head _))))))))))))
    rcases List.mem_cons.mp hq with rfl | hq
    · exact N _ (.tail _ (.tail _ (.tail _ (.tail _ (.tail _ (.tail _ (.tail _ (.tail _ (.tail _ (.tail _ (.tail _ (.tail _ (.head _)))))))))))))
    unfold rest at hq
    rcases List.mem_append.mp hq with hq | hq
    · exact R0 q (List.mem_append_left _ hq)
    rcases List.mem_cons.mp hq with rfl | hq
    · exact N _ (.head _)
    rcases List.mem_cons.mp hq with rfl | hq
    · exact N _ (.tail _ (.head _))
    rcases List.mem_cons.mp hq with rfl | hq
    · exact N _ (.tail _ (.tail _ (.head _)))
    · exact R0 q (List.mem_append_right _ hq)
  · have immled : ∀ q ∈ v.imm ++ Ow, q ∈ led K v ++ Ow := fun q hq => by
      rcases List.mem_append.mp hq with h | h
      · exact List.mem_append_left _ (by unfold led; simp [h])
      · exact List.mem_append_right _ h
    have key : ∀ a ∈ muts K v.fs, a ≠ D' ∧ a ≠ x ∧ a ≠ dd := fun a ha => by
      obtain ⟨q, hq, rfl⟩ := muts_led a ha
      exact hf q (List.mem_append_left _ hq)
    have mfs : muts K (v.low ++ [{ v.top with on := onames', no := no', nh := v.top.nh + 1, slots := sl', b7 := t4, its := v.top.its ++ [⟨⟨x, dd, nm, kind, st, if 0 > v.top.lev then 0 else v.top.lev⟩, D', tn, false⟩] }]) = muts K v.fs := by
      unfold Var.fs; rw [muts_snoc, muts_snoc]; rfl
    have hnn : nm ∉ v.top.its.map (·.o.nm) := fun hm => by
      have h1 := any_names v.top.its nm
      rw [hnew] at h1
      have h2 : (v.top.its.map (·.o.nm)).any (· == nm) = true := List.any_eq_true.mpr ⟨nm, hm, by simp⟩
      rw [h2] at h1; cases h1
    refine ⟨(by show (muts K (v.low ++ [_])).Nodup; rw [mfs]; exact O.nodup), ?off, ?apart, sub _ O.fl, sub _ O.ax, O.ty.mono sub, hi0, hi1, hmx0, hmx1, O.hints, O.figs, O.co, ?frs, ?levs, O.room, ?size, ?bot⟩
    case off =>
      intro q hq
      show q.1 ∉ muts K (v.low ++ [_])
      rw [mfs]
      intro hm
      have hk := key _ hm
      rcases List.mem_cons.mp hq with rfl | hq
      · exact hk.1 rfl
      rcases List.mem_cons.mp hq with rfl | hq
      · exact hk.2.1 rfl
      rcases List.mem_cons.mp hq with rfl | hq
      · exact hk.2.2 rfl
      exact O.off q hq hm
    case apart =>
      intro p hp q hq
      have hk := hf q (List.mem_append_right _ hq)
      rcases List.mem_cons.mp hp with rfl | hp
      · exact Ne.symm hk.1
      rcases List.mem_cons.mp hp with rfl | hp
      · exact Ne.symm hk.2.1
      rcases List.mem_cons.mp hp with rfl | hp
      · exact Ne.symm hk.2.2
      exact O.apart p hp q hq
    case frs =>
      intro f hfm
      rcases List.mem_append.mp hfm with hl | hl
      · exact (O.frs f (List.mem_append_left _ hl)).mono sub
      · rw [List.mem_singleton.mp hl]
        refine ⟨sub _ fro.inst, ?_, fro.lo, ?_, ?_, ?_⟩
        · show onames'.IsDictOf _ ((v.top.its ++ [_]).map It.kv)
          rw [List.map_append]; exact hkv
        · intro i hi
          rcases List.mem_append.mp hi with h1 | h1
          · exact (fro.items i h1).mono sub
          · rw [List.mem_singleton.mp h1]
            exact ⟨⟨es, ne, tn, tkd, tst, ty, md, slv, .none, .tail _ (.head _), .tail _ (.tail _ (.head _)), hob⟩, .head _, fun h => (by cases h), rfl, hnm⟩
        · show ((v.top.its ++ [_]).map (fun i : It => i.o.nm)).Nodup
          rw [List.map_append]
          refine List.nodup_append.mpr ⟨fro.names, by simp, ?_⟩
          intro a ha b hb e
          simp only [List.map_cons, List.map_nil, List.mem_singleton] at hb
          rw [e, hb] at ha
          exact hnn ha
        · show sl' = (((v.top.its ++ [_]).filter fun i : It => isVar i.o.kd).length : Int)
          rw [List.filter_append, List.length_append, hsl, fro.slots]
          cases hv : isVar kind <;> simp [hv]
    case levs =>
      intro k f hk
      rcases Nat.lt_or_ge k v.low.length with hl | hl
      · have hk' : (v.low ++ [_])[k]? = some f := hk
        rw [List.getElem?_append_left hl] at hk'
        exact O.levs k f (by unfold Var.fs; rw [List.getElem?_append_left hl]; exact hk')
      · have hk' : (v.low ++ [_])[k]? = some f := hk
        rw [List.getElem?_append_right hl] at hk'
        have h0 := O.levs k v.top
        cases hkk : k - v.low.length with
        | zero =>
          rw [hkk] at hk'
          simp only [List.getElem?_cons_zero, Option.some.injEq] at hk'
          rw [← hk']
          exact h0 (by unfold Var.fs; rw [List.getElem?_append_right hl, hkk]; rfl)
        | succ n => rw [hkk] at hk'; simp at hk'
    case size =>
      intro f hfm
      rcases List.mem_append.mp hfm with hl | hl
      · exact Nat.le_trans (O.size f (List.mem_append_left _ hl)) (by omega)
      · rw [List.mem_singleton.mp hl]
        have := O.size v.top htop
        show (v.top.its ++ [_]).length ≤ _
        rw [List.length_append]; simp only [List.length_cons, List.length_nil]; omega
    case bot =>
      intro f hf0 nm' hm
      have hf0' : (v.low ++ [_])[0]? = some f := hf0
      cases hlw : v.low with
      | nil =>
        rw [hlw] at hf0'
        simp only [List.nil_append, List.getElem?_cons_zero, Option.some.injEq] at hf0'
        obtain ⟨i, hi, e⟩ := O.bot v.top (by unfold Var.fs; rw [hlw]; rfl) nm' hm
        rw [← hf0']
        exact ⟨i, List.mem_append_left _ hi, e⟩
      | cons g r =>
        rw [hlw] at hf0'
        exact O.bot f (by unfold Var.fs; rw [hlw]; exact hf0') nm' hm
end Zinsend
theorem ins_end {K : Cst} {w : World} {Ow : List (Addr × Obj)} {j : Nat} {v : Var} {h₀ : Heap} {h : Heap} {L : Addr} {D' : Addr} {x : Addr} {dd : Addr} {i' : Int} {mx' : Int} {st : Int} {sl' : Int} {ti' : Tok} {tm' : Tok} {tn : Tok} {tkd : Tok} {tst : Tok} {t4 : Tok} {nm : Str} {kind : Str} {es : List DictEntry} {ne : Nat} {no' : Nat} {onames' : Obj} {md : Str} {slv : Int} {ty : Value} (O : Ok K w Ow j v) (N : News h₀ L h ((D', rowObj nm tn (.ref x)) :: (x, instObj 52 dd) :: (dd, dictOf es ne) :: (K.pl, listOf #[.ref K.fl, .int i' ti', .int mx' tm'] v.np) :: (K.ad, scopesD K.c1 K.c2 K.c3 K.c4 K.a1 K.a2 K.a3 K.a4 (.ref K.tx) (.str (Str.ofString "M") K.a5) K.ak v.top.lev v.a6) :: (K.ak, listOf (v.low.map Frm.sv ++ [Value.ref v.top.sx]).toArray v.nk) ::
    (K.hm, listOf (v.low.map Frm.hv ++ [Value.ref v.top.ha]).toArray v.nh) :: (K.lb, listOf (v.low.map Frm.lv ++ [Value.str v.top.lab v.top.ll]).toArray v.nl) :: (K.cc, v.co) ::
    (v.top.sd, scopeD v.top.e1 v.top.e2 v.top.e3 v.top.e4 v.top.e5 v.top.b1 v.top.b2 v.top.b3 v.top.b4 v.top.b5 v.top.lev v.top.b6 (.str v.top.lab v.top.tl) v.top.nd v.top.od sl' t4) :: (v.top.nd, onames') :: (v.top.od, listOf (v.top.its.map It.rf ++ [Value.ref x]).toArray no') :: (v.top.ha, listOf (v.top.its.map It.rr ++ [Value.ref D']).toArray (v.top.nh + 1)) :: rest v Ow)) (hi0 : 0 ≤ i') (hi1 : i' ≤ K.figs.length) (hmx0 : 0 ≤ mx') (hmx1 : mx' < 1009) (hf : ∀ q ∈ led K v ++ Ow, q.1 ≠ D' ∧ q.1 ≠ x ∧ q.1 ≠ dd) (hob : ObjIs es (.str nm tn) (.str kind tkd) ty (.int st tst) (if 0 > v.top.lev then 0 else v.top.lev) md slv .none) (hkv : onames'.IsDictOf (PySem.strKind Challenge.rw_nu0320_01.row.prog w) (v.top.its.map It.kv ++ [(nm, .ref x)])) (hnm : nm ∈ allNames) (hnew : valueAt (v.top.its.map It.kv) nm = none) (hsl : sl' = if isVar kind then v.top.slots + 1 else v.top.slots) :
    ∃ v', News h₀ L h (led K v' ++ Ow) ∧ Ok K w Ow (j + 1) v' :=
  (eps_all (ne := Zinsend.zNe) (P := Zinsend.zSc) Zinsend.zCore : ∀ c, Zinsend.zSc c) (K, w, Ow, j, v, h₀, h, L, D', x, dd, i', mx', st, sl', ti', tm', tn, tkd, tst, t4, nm, kind, es, ne, no', onames', md, slv, ty) O N hi0 hi1 hmx0 hmx1 hf hob hkv hnm hnew hsl
end
-- E8
section
section
variable {w : World} {A : Around} {E : Value → Shared → Prop} {s : Shared} {h₀ : Heap} {L : Addr} {m : Str → Option Value} {env : Env} {scope : Scope} {cl : List (Str × Addr)} {Fin : List Value → List (Addr × Obj) → Prop}
theorem one_elt {p : Pos} {env : Env} {Q : Value → Shared → Prop} (X : (Mine.fr.heap_1 w.params).In h₀) (F : Fr h₀ L s.heap m) (h : ∀ tk t, Q (.int 1 t) { s with toks := tk }) : wpAny (model Challenge.rw_nu0320_01.row.prog w) A (eval (.Constant (.int 1) 0 p) env) Q E s := by
  revert X; k_fill; intro X
  refine hold_post ?_
  k_fold
  (repeat' ((((fail_if_success (with_reducible show Hold _)); first | (k_unfold; (try dsimp only)) | (k_end; wrow_close) | walk1 | (dsimp only; walk1) | (leave1; walk_say "STEP leave1"; try dsimp only)))))
  k_unfold
  try dsimp only
  exact ⟨h _ _⟩
theorem count_rest {p1 p2 p3 p4 p5 p6 p7 p8 p9 q1 q2 q3 q4 q5 q6 : Pos} {ax : Addr} {its : List It} {news0 : List (Addr × Obj)} (X : (Mine.fr.heap_1 w.params).In h₀) (hS : LCg.SrcAt h₀ ax (its.map It.rr).toArray news0)
    (hrow : ∀ i ∈ its, (i.r, rowObj i.o.nm i.t i.val) ∈ news0) (hit : ∀ i ∈ its, ItemIs news0 i.o) (hpre : ∀ i ∈ its, i.pre = true → isVar i.o.kd = false)
    (hk : ∀ C, (compEnvC scope cl C env).scope.kind = .function) (hx : ∀ C, (compEnvC scope cl C env).kindOf (Str.ofString "row") = some .local)
    (fin : ∀ ys extra, ys.length = (its.filter fun i => isVar i.o.kd).length → (∀ p ∈ extra, ∀ q ∈ news0, q.1 ≠ p.1) → Fin ys (extra ++ news0)) :
    LCt.CompRestT Challenge.rw_nu0320_01.row.prog w A h₀ L m env (.BoolOp .And [.Compare (.Subscript (.Name (Str.ofString "row") p1) (.Constant (.int 1) 0 p2) p3) [.IsNot] [.Constant .none 0 p4] p5,
      .Compare (.Attribute (.Subscript (.Name (Str.ofString "row") p6) (.Constant (.int 1) 0 p7) p8) (Str.ofString "kind") p9) [.In] [.List [.Constant (.str (Str.ofString "var")) 0 q1, .Constant (.str (Str.ofString "par")) 0 q2] q3] q4] q5) (.Constant (.int 1) 0 q6) (Str.ofString "row") scope cl s (LCg.SrcAt h₀ ax (its.map It.rr).toArray) (fun i v => (its.map It.rr).toArray[i]? = some v) Fin its.length 0 [] news0 := by
  refine comp_indT its.length (fun i ys news => ∃ extra, news = extra ++ news0 ∧ (∀ p ∈ extra, ∀ q ∈ news0, q.1 ≠ p.1) ∧ ys.length = ((its.take i).filter fun i => isVar i.o.kd).length) ?_ ?_ _ 0 [] news0 (Nat.zero_add _) ⟨[], rfl, List.forall_mem_nil _, rfl⟩
  · rintro i ys news v I oI C oC D m₂ h tk E' hi ⟨extra, rfl, hoff, hys⟩ hv hNs hm F N o d
    obtain ⟨it, hit1, rfl, hitm⟩ := its_get hv
    have htk : its.take (i + 1) = its.take i ++ [it] := by rw [List.take_add_one, hit1]; rfl
    have hr := hrow it hitm
    cases hp : it.pre with
    | true =>
      have hval : it.val = .none := by unfold It.val; rw [if_pos hp]
      rw [hval] at hr
      have hv0 := hpre it hitm hp
      refine test_none X F N (.tail _ (.head _)) hNs hm (.tail _ (.tail _ (.tail _ (List.mem_append_right _ hr)))) (hk C) (hx C) ?_
      intro h' tk' F' N'
      rw [if_neg Bool.false_ne_true]
      exact LCg.CompEnd.intro F' N' (extra ++ news0) (fun _ h => h) o (srcAt_mono hS fun q hq => List.mem_append_right _ hq) ⟨extra, rfl, hoff, by rw [htk, List.filter_append, hys]; simp [hv0]⟩
    | false =>
      have hval : it.val = .ref it.o.x := by unfold It.val; rw [hp]; rfl
      rw [hval] at hr
      obtain ⟨es, n, t1, t2, t3, tp, md, sl, val, g1, g2, g3⟩ := hit it hitm
      refine test_var X F N (.tail _ (.head _)) hNs hm (.tail _ (.tail _ (.tail _ (List.mem_append_right _ hr)))) (.tail _ (.tail _ (.tail _ (List.mem_append_right _ g1)))) (.tail _ (.tail _ (.tail _ (List.mem_append_right _ g2)))) g3.kind (hk C) (hx C) ?_
      intro h' tk' nx F' N' ho
      have oo := LCg.Off3.mem o
      have hO : LCg.Off3 I C D (nx ++ (extra ++ news0)) := off3_of fun q hq => by
        rcases List.mem_append.mp hq with h | h
        · exact ⟨Ne.symm (ho q h _ (.head _)), Ne.symm (ho q h _ (.tail _ (.head _))), Ne.symm (ho q h _ (.tail _ (.tail _ (.head _))))⟩
        · exact oo q h
      have hsub : ∀ q ∈ (I, oI) :: (C, oC) :: (D, LCg.lst ys) :: (nx ++ (extra ++ news0)), q ∈ nx ++ ((I, oI) :: (C, oC) :: (D, LCg.lst ys) :: (extra ++ news0)) := fun q hq => by
        simp only [List.mem_cons, List.mem_append] at hq ⊢
        rcases hq with h | h | h | h | h | h <;> simp [h]
      have hoff2 : ∀ p ∈ nx ++ extra, ∀ q ∈ news0, q.1 ≠ p.1 := fun p hp q hq => by
        rcases List.mem_append.mp hp with h | h
        · exact ho p h q (.tail _ (.tail _ (.tail _ (List.mem_append_right _ hq))))
        · exact hoff p h q hq
      by_cases hb : isVar it.o.kd = true
      · rw [if_pos hb]
        refine one_elt X F' ?_
        intro tk2 t
        exact LCg.CompEnd.intro F' N' (nx ++ (extra ++ news0)) hsub hO (srcAt_mono hS fun q hq => List.mem_append_right _ (List.mem_append_right _ hq)) ⟨nx ++ extra, by rw [List.append_assoc], hoff2, by rw [htk, List.filter_append, List.length_append, List.length_append, hys]; simp [hb]⟩
      · rw [if_neg hb]
        exact LCg.CompEnd.intro F' N' (nx ++ (extra ++ news0)) hsub hO (srcAt_mono hS fun q hq => List.mem_append_right _ (List.mem_append_right _ hq)) ⟨nx ++ extra, by rw [List.append_assoc], hoff2, by rw [htk, List.filter_append, hys]; simp [hb]⟩
  · rintro ys news ⟨extra, rfl, hoff, hys⟩
    exact fin ys extra (by rw [List.take_length] at hys; exact hys) hoff
end
end
-- F1
section
section
variable {prog : Program} {w : World} {A : Around} {R : Result → Shared → Prop} {E : Value → Shared → Prop} {s : Shared}
theorem compTurn_in (elt t1 i1 t2 i2 : Expr) (ifs : List Expr) (scope : Scope) (pos : Pos) (it acc : Value) (env : Env) :
    compTurn (.ListComp elt [⟨t1, i1, [], 0⟩, ⟨t2, i2, ifs, 0⟩] scope pos) 1 it acc env = (do
      standAt i2.pos
      match ← pyNext it with
      | none => pure (.done .next)
      | some v =>
        letOwnedTupleGo t2 it v
        assign t2 env v
        let mut ok := true
        for c in ifs do
          if ok then ok ← isTrue c env (eval c env)
        if ok then
          (do let _ ← call (.builtin "list.append") [acc, ← eval elt env])
        again (.compLoop (.ListComp elt [⟨t1, i1, [], 0⟩, ⟨t2, i2, ifs, 0⟩] scope pos) 1 it acc env)) := by rfl
theorem compTurn_out (elt t1 i1 t2 i2 : Expr) (ifs : List Expr) (scope : Scope) (pos : Pos) (it acc : Value) (env : Env) :
    compTurn (.ListComp elt [⟨t1, i1, [], 0⟩, ⟨t2, i2, ifs, 0⟩] scope pos) 0 it acc env = (standAt i1.pos >>= fun _ => pyNext it >>= fun r => match r with
      | none => pure (.done .next)
      | some v => letOwnedTupleGo t1 it v >>= fun _ => assign t1 env v >>= fun _ =>
        eval i2 env >>= fun x => standAt i2.pos >>= fun _ => foldedSetIterable i2 env x >>= fun x => holding [x] (pyIter x) >>= fun it2 =>
          runOwn (.compStart (.ListComp elt [⟨t1, i1, [], 0⟩, ⟨t2, i2, ifs, 0⟩] scope pos) 1 it2 acc env) env >>= fun _ =>
          again (.compLoop (.ListComp elt [⟨t1, i1, [], 0⟩, ⟨t2, i2, ifs, 0⟩] scope pos) 0 it acc env)) := by rfl
theorem codeAny_in {elt t1 i1 t2 i2 : Expr} {ifs : List Expr} {scope : Scope} {pos : Pos} {it acc : Value} {env : Env} (I : Nat → Shared → Prop)
    (turn : ∀ n s, I n s → wpAny (model prog w) A (pyNext it) (fun r s₁ => match r with
      | none => R (.ok .next) s₁
      | some v => wpAny (model prog w) A (assign t2 env v) (fun _ s₂ =>
          wpAny (model prog w) A (forIn ifs true fun c r => if r = true then do let ok ← isTrue c env (eval c env); pure (ForInStep.yield ok) else pure (ForInStep.yield r)) (fun ok s₃ =>
            if ok = true then wpAny (model prog w) A (eval elt env) (fun x s₄ =>
              wpAny (model prog w) A (call (.builtin "list.append") [acc, x]) (fun _ s₅ => ∃ m, m < n ∧ I m s₅) (notedBy (model prog w) A env fun e s' => R (.error e) s') s₄) (notedBy (model prog w) A env fun e s' => R (.error e) s') s₃
            else ∃ m, m < n ∧ I m s₃) (notedBy (model prog w) A env fun e s' => R (.error e) s') s₂) (notedBy (model prog w) A env fun e s' => R (.error e) s') s₁) (notedBy (model prog w) A env fun e s' => R (.error e) s') s)
    (n : Nat) (h : I n s) (ht : ∀ v, letOwnedTupleGo t2 it v = pure () := by intro _; rfl) :
    codeAny (model prog w) A (.compLoop (.ListComp elt [⟨t1, i1, [], 0⟩, ⟨t2, i2, ifs, 0⟩] scope pos) 1 it acc env) R s := by
  refine codeAny_loop rfl I (fun n s hI => ?_) n h
  show wpAny _ A ((compTurn (.ListComp elt [⟨t1, i1, [], 0⟩, ⟨t2, i2, ifs, 0⟩] scope pos) 1 it acc env).onRaise (fun x => do noteFrame x env; theTreesLotGoes x)) _ _ s
  refine wpAny_noted ?_
  rw [compTurn_in]
  refine wpAny_bind (wpAny_standAt (wpAny_bind (wpAny_mono (turn n s hI) (fun r s₁ h₁ => ?_) fun _ _ h' => h')))
  cases r with
  | none => exact wpAny_pure h₁
  | some v =>
    refine wpAny_bind (wpAny_of_eq (ht v) ?_)
    refine wpAny_bind (wpAny_mono h₁ (fun _ s₂ h₂ => wpAny_bind (wpAny_mono h₂ (fun ok s₃ h₃ => ?_) fun _ _ h' => h')) fun _ _ h' => h')
    cases ok with
    | false => exact wpAny_pure ⟨rfl, h₃⟩
    | true =>
      exact wpAny_bind (wpAny_bind (wpAny_mono h₃ (fun x s₄ h₄ => wpAny_bind (wpAny_mono h₄ (fun _ s₅ h₅ => wpAny_pure (wpAny_pure ⟨rfl, h₅⟩)) fun _ _ h' => h')) fun _ _ h' => h'))
theorem codeAny_out {elt t1 i1 t2 i2 : Expr} {ifs : List Expr} {scope : Scope} {pos : Pos} {it acc : Value} {env : Env} (I : Nat → Shared → Prop)
    (turn : ∀ n s, I n s → ∀ (E1 E2 : Value → Shared → Prop), wpAny (model prog w) A (pyNext it) (fun r s₁ => match r with
      | none => R (.ok .next) s₁
      | some v => wpAny (model prog w) A (assign t1 env v) (fun _ s₂ => wpAny (model prog w) A (eval i2 env) (fun x s₃ => wpAny (model prog w) A (pyIter x) (fun it2 s₄ =>
            codeAny (model prog w) A (.compStart (.ListComp elt [⟨t1, i1, [], 0⟩, ⟨t2, i2, ifs, 0⟩] scope pos) 1 it2 acc env) (fun r s' => match r with | .ok _ => ∃ m, m < n ∧ I m s' | .error e => E2 e s') s₄) E1 s₃) E1 s₂) E1 s₁) E1 s)
    (n : Nat) (h : I n s) (ht : ∀ v, letOwnedTupleGo t1 it v = pure () := by intro _; rfl) (hs : ∀ x, foldedSetIterable i2 env x = pure x := by intro _; rfl) :
    codeAny (model prog w) A (.compLoop (.ListComp elt [⟨t1, i1, [], 0⟩, ⟨t2, i2, ifs, 0⟩] scope pos) 0 it acc env) R s := by
  refine codeAny_loop rfl I (fun n s hI => ?_) n h
  show wpAny _ A ((compTurn (.ListComp elt [⟨t1, i1, [], 0⟩, ⟨t2, i2, ifs, 0⟩] scope pos) 0 it acc env).onRaise (fun x => do noteFrame x env; theTreesLotGoes x)) _ _ s
  refine wpAny_noted ?_
  rw [compTurn_out]
  refine wpAny_bind (wpAny_standAt (wpAny_bind (wpAny_mono (turn n s hI _ (cameBackBy (model prog w) A env (notedBy (model prog w) A env fun e s' => R (.error e) s'))) (fun r s₁ h₁ => ?_) fun _ _ h' => h')))
  cases r with
  | none => exact wpAny_pure h₁
  | some v =>
    refine wpAny_bind (wpAny_of_eq (ht v) ?_)
    refine wpAny_bind (wpAny_mono h₁ (fun _ s₂ h₂ => ?_) fun _ _ h' => h')
    refine wpAny_bind (wpAny_mono h₂ (fun x s₃ h₃ => ?_) fun _ _ h' => h')
    refine wpAny_bind (wpAny_standAt (wpAny_bind (wpAny_of_eq (hs x) (wpAny_bind (wpAny_holding (wpAny_mono h₃ (fun it2 s₄ h₄ => ?_) fun _ _ h' => h'))))))
    refine wpAny_bind (wpAny_runOwn (codeAny_mono h₄ fun r s' hr => ?_))
    cases r with
    | ok f => exact wpAny_pure ⟨rfl, hr⟩
    | error e => exact hr
theorem codeAny_start_in {elt t1 i1 t2 i2 : Expr} {ifs : List Expr} {scope : Scope} {pos : Pos} {it acc : Value} {env : Env}
    (h0 : codeAny (model prog w) A (.compLoop (.ListComp elt [⟨t1, i1, [], 0⟩, ⟨t2, i2, ifs, 0⟩] scope pos) 1 it acc env) R s)
    (h : ∀ E', wpAny (model prog w) A (pyIter it) (fun it' s' => codeAny (model prog w) A (.compLoop (.ListComp elt [⟨t1, i1, [], 0⟩, ⟨t2, i2, ifs, 0⟩] scope pos) 1 it' acc env) R s') E' s) :
    codeAny (model prog w) A (.compStart (.ListComp elt [⟨t1, i1, [], 0⟩, ⟨t2, i2, ifs, 0⟩] scope pos) 1 it acc env) R s := by
  refine codeAny_of_tree ?_
  show wpAny _ _ ((compStart (.ListComp elt [⟨t1, i1, [], 0⟩, ⟨t2, i2, ifs, 0⟩] scope pos) 1 it acc env).onRaise (fun x => do noteFrame x env; standAt theWindowsPlace)) _ _ s
  refine wpAny_notedAt ?_
  unfold compStart
  show wpAny _ _ (ask >>= _) _ _ s
  refine wpAny_bind (wpAny_askSetting (wpAny_ite ?_))
  split
  · first
      | exact wpAny_bind (wpAny_pure (wpAny_pure (And.intro rfl h0)))
      | exact wpAny_pure (And.intro rfl h0)
  · first
      | exact wpAny_bind (wpAny_rule (wpAny_bind (wpAny_standAt (wpAny_bind (wpAny_mono (h _) (fun it' s' h' => wpAny_pure (And.intro rfl h')) fun _ _ x => x)))))
      | (refine wpAny_bind (wpAny_rule ?_); show wpAny _ _ (standAt i2.pos >>= _) _ _ s; exact wpAny_bind (wpAny_standAt (wpAny_bind (wpAny_mono (h _) (fun it' s' h' => wpAny_pure (And.intro rfl h')) fun _ _ x => x))))
end
end
-- F2
section
section
variable {prog : Program} {w : World} {A : Around} {R : Result → Shared → Prop} {E : Value → Shared → Prop} {s : Shared} {h₀ : Heap} {L : Addr} {m : Str → Option Value} {env : Env}
theorem news_ext {h h' : Heap} {d : Addr} {nx : List (Addr × Obj)} (N : News h₀ L h nx) (hs : Heap.ExtBut d h h') (hne : ∀ q ∈ nx, q.1 ≠ d) : News h₀ L h' nx := fun q hq => ⟨hs _ _ (hne q hq) (N q hq).1, (N q hq).2⟩
/-- what the test of the rows needs and gives -/
def RowTest (prog : Program) (w : World) (A : Around) (h₀ : Heap) (L : Addr) (m : Str → Option Value) (env : Env) (ct : Expr) (x2 : Str) (scope : Scope) (cl : List (Str × Addr)) (p : Value → Bool) (news : List (Addr × Obj)) (v : Value) : Prop :=
  ∀ C oC m₂ nx (s : Shared) (E : Value → Shared → Prop), (C, oC) ∈ nx → (∀ q ∈ news, q ∈ nx) → LCg.NsObj oC m₂ → m₂ x2 = some v → Fr h₀ L s.heap m → News h₀ L s.heap nx →
    wpAny (model prog w) A (isTrue ct (compEnvC scope cl C env) (eval ct (compEnvC scope cl C env))) (fun ok s' => ok = p v ∧ ∃ h' tk', s' = { s with heap := h', toks := tk' } ∧ Fr h₀ L h' m ∧ News h₀ L h' nx) E s
theorem filter_snoc {p : Value → Bool} {vs : List Value} {i : Nat} {v : Value} (h : vs[i]? = some v) : (vs.take (i + 1)).filter p = (vs.take i).filter p ++ if p v then [v] else [] := by
  rw [List.take_add_one, h, List.filter_append]
  cases hp : p v <;> simp [hp]
theorem inner_loop {ct i1 i2 : Expr} {x2 : Str} {t1 : Expr} {px2 pe : Pos} {scope : Scope} {cl : List (Str × Addr)} {pos : Pos} {p : Value → Bool} {I1 I2 bx C D : Addr} {o1 : Obj} {vs ys : List Value} {nb : Nat} {news : List (Addr × Obj)} {mC : Str → Option Value}
    (hh : A.handled = none) (hkind : scope.kind = .function) (hx2 : scope.names.lookup x2 = some .local) (hdb : (x2 == ("__debug__" : Str)) = false)
    (F : Fr h₀ L s.heap m) (N : News h₀ L s.heap ((I1, o1) :: (D, LCg.lst ys) :: news)) (hbx : (bx, listOf vs.toArray nb) ∈ news) (hC : s.heap.Ns C mC) (hI2 : s.heap.IsListIter I2 bx 0)
    (hC₀ : h₀.get? C = none) (hCL : C ≠ L) (hI₀ : h₀.get? I2 = none) (hIL : I2 ≠ L) (d1 : I2 ≠ C) (d2 : I2 ≠ D) (d3 : I2 ≠ I1) (d4 : C ≠ D) (d5 : C ≠ I1) (d6 : D ≠ I1) (off : ∀ q ∈ news, q.1 ≠ I2 ∧ q.1 ≠ C ∧ q.1 ≠ D)
    (hsz : (ys ++ vs).length ≤ sizeLine)
    (test : ∀ v ∈ vs, RowTest prog w A h₀ L m env ct x2 scope cl p news v)
    (fin : ∀ h' tk mC', Fr h₀ L h' m → News h₀ L h' ((I1, o1) :: (D, LCg.lst (ys ++ vs.filter p)) :: news) → h'.Ns C mC' → R (.ok .next) { s with heap := h', toks := tk }) :
    codeAny (model prog w) A (.compLoop (.ListComp (.Name x2 pe) [⟨t1, i1, [], 0⟩, ⟨.Name x2 px2, i2, [ct], 0⟩] scope pos) 1 (.ref I2) (.ref D) (compEnvC scope cl C env)) R s := by
  have hD₀ : h₀.get? D = none := (N _ (.tail _ (.head _))).2.2
  have hDL : D ≠ L := (N _ (.tail _ (.head _))).2.1
  have hl : ∀ h, News h₀ L h news → h.IsList bx vs.toArray := fun h N => ⟨_, (N _ hbx).1, rfl, _, rfl⟩
  have hkl : (compEnvC scope cl C env).kindOf x2 = some .local := lookup_relabel_local hx2
  have hkf : (compEnvC scope cl C env).scope.kind = .function := hkind
  refine codeAny_in (fun k s' => ∃ h' tk i mC', s' = { s with heap := h', toks := tk } ∧ i ≤ vs.length ∧ k = vs.length + 1 - i ∧ h'.IsListIter I2 bx i ∧ Fr h₀ L h' m ∧ News h₀ L h' ((I1, o1) :: (D, LCg.lst (ys ++ (vs.take i).filter p)) :: news) ∧ h'.Ns C mC') ?_ (vs.length + 1)
    ⟨s.heap, s.toks, 0, mC, rfl, Nat.zero_le _, rfl, hI2, F, by simpa using N, hC⟩
  rintro k s' ⟨h', tk, i, mC', rfl, hi, rfl, hit', F', N', hn'⟩
  have Nn : News h₀ L h' news := news_sub N' fun q hq => .tail _ (.tail _ hq)
  cases hv : vs.toArray[i]? with
  | none =>
    have hsz' : vs.length ≤ i := by simpa using hv
    refine wpAny_pyNext_list_end hh hit' (hl _ Nn) hv fun h₂ he₂ => ?_
    have e : vs.take i = vs := List.take_of_length_le hsz'
    rw [e] at N'
    refine fin h₂ tk mC' (LCg.fr_but F' (fun b o hb e => he₂ b o (fun q => hb (by simp [q])) e) (Ne.symm hIL) hI₀) (news_ext N' he₂ ?_) (hn'.extBut he₂ (Ne.symm d1))
    simp only [List.forall_mem_cons]
    exact ⟨Ne.symm d3, Ne.symm d2, fun q hq => (off q hq).1⟩
  | some v =>
    have hv' : vs[i]? = some v := by simpa using hv
    have hlt : i < vs.length := (List.getElem?_eq_some_iff.mp hv').1
    refine wpAny_pyNext_list_item hit' (hl _ Nn) hv fun h₂ hit₂ hs₂ => ?_
    refine wpAny_assign_Name (wpAny_storeName_local hkl (hn'.sameBut hs₂ (Ne.symm d1)) (fun h₃ hn₃ hs₃ => ?_) (by simp [compEnvC, relabel, hkind]))
    refine wpAny_tests_one ?_
    have N₂ := news_ext N' hs₂.extBut (by simp only [List.forall_mem_cons]; exact ⟨Ne.symm d3, Ne.symm d2, fun q hq => (off q hq).1⟩)
    have N₃ := news_ext N₂ hs₃.extBut (d := C) (by simp only [List.forall_mem_cons]; exact ⟨Ne.symm d5, Ne.symm d4, fun q hq => (off q hq).2.1⟩)
    have F₃ : Fr h₀ L h₃ m := (F'.change hs₂ hIL hI₀).change hs₃ hCL hC₀
    have hit₃ : h₃.IsListIter I2 bx (i + 1) := hit₂.extBut hs₃.extBut d1
    obtain ⟨oI, heI, hoI⟩ := id hit₃
    obtain ⟨oC, heC, hoC⟩ := LCg.ns_obj hn₃
    have N₄ : News h₀ L h₃ ((I2, oI) :: (C, oC) :: (I1, o1) :: (D, LCg.lst (ys ++ (vs.take i).filter p)) :: news) := fun q hq => by
      rcases List.mem_cons.mp hq with rfl | hq
      · exact ⟨heI, hIL, hI₀⟩
      rcases List.mem_cons.mp hq with rfl | hq
      · exact ⟨heC, hCL, hC₀⟩
      exact N₃ q hq
    refine wpAny_mono (test v (List.mem_of_getElem? hv') C oC _ _ { s with heap := h₃, toks := tk + 1 } _ (.tail _ (.head _)) (fun q hq => .tail _ (.tail _ (.tail _ (.tail _ hq)))) hoC (by simp) F₃ N₄) (fun ok s₄ h₄ => ?_) fun _ _ e => e
    obtain ⟨hok, h₅, tk₅, rfl, F₅, N₅⟩ := h₄
    have hoC' : h₅.Ns C _ := hoC.ns (N₅ _ (.tail _ (.head _))).1
    have hit₅ : h₅.IsListIter I2 bx (i + 1) := ⟨oI, (N₅ _ (.head _)).1, hoI⟩
    have N₆ : News h₀ L h₅ ((I1, o1) :: (D, LCg.lst (ys ++ (vs.take i).filter p)) :: news) := news_sub N₅ fun q hq => .tail _ (.tail _ hq)
    have hfs := filter_snoc (p := p) hv'
    cases ok with
    | true =>
      simp only [if_true]
      rw [← hok, if_pos rfl] at hfs
      refine PySem.W.LCgL.ld_own N₅ (.tail _ (.head _)) hoC (show (fun x => if x = x2 then some v else mC' x) x2 = some v by simp) ?_ hkf hkl hdb
      have hsz₆ : (ys ++ (vs.take i).filter p).toArray.size ≤ sizeLine := by
        have h1 := List.length_filter_le p (vs.take i)
        rw [List.size_toArray, List.length_append]
        rw [List.length_append] at hsz
        have h3 : (vs.take i).length ≤ vs.length := by rw [List.length_take]; omega
        omega
      refine append_at (hsz := hsz₆) (N₅ _ (.tail _ (.tail _ (.tail _ (.head _))))).1 fun h₆ hs₆ hD₆ => ?_
      refine ⟨vs.length + 1 - (i + 1), by omega, h₆, tk₅, i + 1, _, rfl, hlt, rfl, hit₅.extBut hs₆.extBut d2, F₅.change hs₆ hDL hD₀, ?_, hoC'.sameBut hs₆ d4⟩
      rw [hfs, ← List.append_assoc]
      intro q hq
      rcases List.mem_cons.mp hq with rfl | hq
      · exact ⟨hs₆.extBut _ _ (Ne.symm d6) (N₆ _ (.head _)).1, (N₆ _ (.head _)).2⟩
      rcases List.mem_cons.mp hq with rfl | hq
      · exact ⟨hD₆.trans (congrArg some (LCg.lst_snoc _ v)), hDL, hD₀⟩
      · exact ⟨hs₆.extBut _ _ (off q hq).2.2 (N₆ q (.tail _ (.tail _ hq))).1, (N₆ q (.tail _ (.tail _ hq))).2⟩
    | false =>
      simp only [Bool.false_eq_true, if_false]
      rw [← hok, if_neg Bool.false_ne_true, List.append_nil] at hfs
      refine ⟨vs.length + 1 - (i + 1), by omega, h₅, tk₅, i + 1, _, rfl, hlt, rfl, hit₅, F₅, ?_, hoC'⟩
      rw [hfs]; exact N₆
end
end
-- F3
section
section
variable {prog : Program} {w : World} {A : Around} {R : Result → Shared → Prop} {E : Value → Shared → Prop} {s : Shared} {h₀ : Heap} {L : Addr} {m : Str → Option Value} {env : Env}
def pick (p : Value → Bool) (hs : List (Addr × List Value)) : List Value := hs.flatMap fun b => b.2.filter p
theorem pick_snoc {p : Value → Bool} {hs : List (Addr × List Value)} {i : Nat} {b : Addr × List Value} (h : hs[i]? = some b) : pick p (hs.take (i + 1)) = pick p (hs.take i) ++ b.2.filter p := by
  unfold pick
  rw [List.take_add_one, h, List.flatMap_append]
  simp
theorem pick_le (p : Value → Bool) : ∀ hs : List (Addr × List Value), (pick p hs).length ≤ (hs.flatMap (·.2)).length
  | [] => Nat.le_refl _
  | b :: r => by
    have := pick_le p r
    have h1 := List.length_filter_le p b.2
    unfold pick at *
    simp only [List.flatMap_cons, List.length_append]
    omega
theorem outer_loop {ct i1 : Expr} {x1 x2 : Str} {px1 px2 py pe : Pos} {scope : Scope} {cl : List (Str × Addr)} {pos : Pos} {p : Value → Bool} {I1 ax C D : Addr} {hs : List (Addr × List Value)} {na : Nat} {news : List (Addr × Obj)} {mC : Str → Option Value}
    (hh : A.handled = none) (hkind : scope.kind = .function) (hx1 : scope.names.lookup x1 = some .local) (hx2 : scope.names.lookup x2 = some .local) (hdb1 : (x1 == ("__debug__" : Str)) = false) (hdb2 : (x2 == ("__debug__" : Str)) = false)
    (F : Fr h₀ L s.heap m) (N : News h₀ L s.heap ((D, LCg.lst []) :: news)) (hax : (ax, listOf (hs.map fun b => Value.ref b.1).toArray na) ∈ news) (hbx : ∀ b ∈ hs, ∃ nb, (b.1, listOf b.2.toArray nb) ∈ news) (hC : s.heap.Ns C mC) (hI : s.heap.IsListIter I1 ax 0)
    (hC₀ : h₀.get? C = none) (hCL : C ≠ L) (hI₀ : h₀.get? I1 = none) (hIL : I1 ≠ L) (d4 : C ≠ D) (d5 : C ≠ I1) (d6 : D ≠ I1) (off : ∀ q ∈ news, q.1 ≠ I1 ∧ q.1 ≠ C ∧ q.1 ≠ D)
    (hsz : (hs.flatMap (·.2)).length ≤ sizeLine)
    (test : ∀ b ∈ hs, ∀ v ∈ b.2, RowTest prog w A h₀ L m env ct x2 scope cl p news v)
    (fin : ∀ h' tk mC', Fr h₀ L h' m → News h₀ L h' ((D, LCg.lst (pick p hs)) :: news) → h'.Ns C mC' → R (.ok .next) { s with heap := h', toks := tk }) :
    codeAny (model prog w) A (.compLoop (.ListComp (.Name x2 pe) [⟨.Name x1 px1, i1, [], 0⟩, ⟨.Name x2 px2, .Name x1 py, [ct], 0⟩] scope pos) 0 (.ref I1) (.ref D) (compEnvC scope cl C env)) R s := by
  have hD₀ : h₀.get? D = none := (N _ (.head _)).2.2
  have hDL : D ≠ L := (N _ (.head _)).2.1
  have hl : ∀ h, News h₀ L h news → h.IsList ax (hs.map fun b => Value.ref b.1).toArray := fun h N => ⟨_, (N _ hax).1, rfl, _, rfl⟩
  have hkl : (compEnvC scope cl C env).kindOf x1 = some .local := lookup_relabel_local hx1
  have hkf : (compEnvC scope cl C env).scope.kind = .function := hkind
  refine codeAny_out (fun k s' => ∃ h' tk i mC', s' = { s with heap := h', toks := tk } ∧ i ≤ hs.length ∧ k = hs.length + 1 - i ∧ h'.IsListIter I1 ax i ∧ Fr h₀ L h' m ∧ News h₀ L h' ((D, LCg.lst (pick p (hs.take i))) :: news) ∧ h'.Ns C mC') ?_ (hs.length + 1)
    ⟨s.heap, s.toks, 0, mC, rfl, Nat.zero_le _, rfl, hI, F, N, hC⟩
  rintro k s' ⟨h', tk, i, mC', rfl, hi, rfl, hit', F', N', hn'⟩ E1 E2
  have Nn : News h₀ L h' news := news_sub N' fun q hq => .tail _ hq
  cases hv : (hs.map fun b => Value.ref b.1).toArray[i]? with
  | none =>
    have hsz' : hs.length ≤ i := by simpa using hv
    refine wpAny_pyNext_list_end hh hit' (hl _ Nn) hv fun h₂ he₂ => ?_
    have e : hs.take i = hs := List.take_of_length_le hsz'
    rw [e] at N'
    refine fin h₂ tk mC' (LCg.fr_but F' (fun b o hb e => he₂ b o (fun q => hb (by simp [q])) e) (Ne.symm hIL) hI₀) (news_ext N' he₂ ?_) (hn'.extBut he₂ d5)
    simp only [List.forall_mem_cons]
    exact ⟨d6, fun q hq => (off q hq).1⟩
  | some v =>
    obtain ⟨b, hb, rfl⟩ : ∃ b, hs[i]? = some b ∧ Value.ref b.1 = v := by
      rw [List.getElem?_toArray, List.getElem?_map] at hv
      exact Option.map_eq_some_iff.mp hv
    have hbm := List.mem_of_getElem? hb
    have hlt : i < hs.length := (List.getElem?_eq_some_iff.mp hb).1
    obtain ⟨nb, hbl⟩ := hbx b hbm
    refine wpAny_pyNext_list_item hit' (hl _ Nn) hv fun h₂ hit₂ hs₂ => ?_
    refine wpAny_assign_Name (wpAny_storeName_local hkl (hn'.sameBut hs₂ d5) (fun h₃ hn₃ hs₃ => ?_) (by simp [compEnvC, relabel, hkind]))
    have N₂ := news_ext N' hs₂.extBut (by simp only [List.forall_mem_cons]; exact ⟨d6, fun q hq => (off q hq).1⟩)
    have N₃ := news_ext N₂ hs₃.extBut (d := C) (by simp only [List.forall_mem_cons]; exact ⟨Ne.symm d4, fun q hq => (off q hq).2.1⟩)
    have F₃ : Fr h₀ L h₃ m := (F'.change hs₂ hIL hI₀).change hs₃ hCL hC₀
    have hit₃ : h₃.IsListIter I1 ax (i + 1) := hit₂.extBut hs₃.extBut (Ne.symm d5)
    obtain ⟨oI, heI, hoI⟩ := id hit₃
    obtain ⟨oC, heC, hoC⟩ := LCg.ns_obj hn₃
    have N₄ : News h₀ L h₃ ((C, oC) :: (I1, oI) :: (D, LCg.lst (pick p (hs.take i))) :: news) := fun q hq => by
      rcases List.mem_cons.mp hq with rfl | hq
      · exact ⟨heC, hCL, hC₀⟩
      rcases List.mem_cons.mp hq with rfl | hq
      · exact ⟨heI, hIL, hI₀⟩
      exact N₃ q hq
    refine PySem.W.LCgL.ld_own (s := { s with heap := h₃, toks := tk + 1 }) N₄ (.head _) hoC (show (fun x => if x = x1 then some (Value.ref b.1) else mC' x) x1 = some (Value.ref b.1) by simp) ?_ hkf hkl hdb1
    have hlb : h₃.IsList b.1 b.2.toArray := ⟨_, (N₄ _ (.tail _ (.tail _ (.tail _ hbl)))).1, rfl, _, rfl⟩
    refine wpAny_pyIter_list hlb ?_
    dsimp only
    have up : ∀ a o, h₃.get? a = some o → (h₃.push { cls := .type "list_iterator", data := .fields #[.ref b.1, .int 0 0] }).get? a = some o := fun a o e => Heap.get?_push_of_some _ e
    have hI2 : (h₃.push { cls := .type "list_iterator", data := .fields #[.ref b.1, .int 0 0] }).IsListIter h₃.objs.size b.1 0 := ⟨_, Heap.get?_push_size _ rfl, rfl, rfl⟩
    have N₅ := N₄.grown up
    have F₅ := F₃.keeps up
    generalize (h₃.push { cls := .type "list_iterator", data := .fields #[.ref b.1, .int 0 0] }) = h₅ at up hI2 N₅ F₅ ⊢
    have new : ∀ q ∈ (C, oC) :: (I1, oI) :: (D, LCg.lst (pick p (hs.take i))) :: news, h₃.objs.size ≠ q.1 := fun q hq => Ne.symm (Nat.ne_of_lt (Heap.lt_size (N₄ q hq).1))
    simp only [List.forall_mem_cons] at new
    obtain ⟨w1, w2, w3, w4⟩ := new
    have loop : codeAny (model prog w) A (.compLoop (.ListComp (.Name x2 pe) [⟨.Name x1 px1, i1, [], 0⟩, ⟨.Name x2 px2, .Name x1 py, [ct], 0⟩] scope pos) 1 (.ref h₃.objs.size) (.ref D) (compEnvC scope cl C env)) (fun r s' => match r with
        | .ok _ => ∃ m_1, m_1 < hs.length + 1 - i ∧ ∃ h' tk i mC', s' = { s with heap := h', toks := tk } ∧ i ≤ hs.length ∧ m_1 = hs.length + 1 - i ∧ h'.IsListIter I1 ax i ∧ Fr h₀ L h' m ∧ News h₀ L h' ((D, LCg.lst (pick p (hs.take i))) :: news) ∧ h'.Ns C mC'
        | .error e => E2 e s') { s with heap := h₅, toks := tk + 1 } := by
      refine inner_loop (o1 := oI) (I1 := I1) (bx := b.1) (vs := b.2) (nb := nb) (ys := pick p (hs.take i)) (news := news) hh hkind hx2 hdb2 F₅ (news_sub N₅ fun q hq => .tail _ hq) hbl (hoC.ns (N₅ _ (.head _)).1) hI2 hC₀ hCL (next_is_new F₃) (Ne.symm (Nat.ne_of_lt F₃.ns.lt)) w1 w3 w2 d4 d5 d6
        (fun q hq => ⟨Ne.symm (w4 q hq), (off q hq).2⟩) ?_ (test b hbm) ?_
      · have e1 : hs = hs.take i ++ b :: hs.drop (i + 1) := (List.take_append_drop i hs).symm.trans (by rw [List.drop_eq_getElem_cons hlt, (List.getElem?_eq_some_iff.mp hb).2])
        have h1 := pick_le p (hs.take i)
        rw [e1, List.flatMap_append, List.flatMap_cons, List.length_append, List.length_append] at hsz
        rw [List.length_append]
        omega
      · intro h₆ tk₆ mC₆ F₆ N₆ hC₆
        refine ⟨hs.length + 1 - (i + 1), by omega, h₆, tk₆, i + 1, mC₆, rfl, hlt, rfl, ⟨oI, (N₆ _ (.head _)).1, hoI⟩, F₆, ?_, hC₆⟩
        rw [pick_snoc hb]
        exact news_sub N₆ fun q hq => .tail _ hq
    refine codeAny_start_in loop fun E' => ?_
    exact wpAny_pyIter_listiter hI2 loop
def Src2 (prog : Program) (w : World) (A : Around) (h₀ : Heap) (L : Addr) (m : Str → Option Value) (env : Env) (ct : Expr) (x2 : Str) (scope : Scope) (cl : List (Str × Addr)) (Q : Value → Shared → Prop) (xv : Value) (s₁ : Shared) : Prop :=
  ∃ p ax hs na news, xv = .ref ax ∧ A.handled = none ∧ Fr h₀ L s₁.heap m ∧ News h₀ L s₁.heap news ∧ (ax, listOf (hs.map fun b => Value.ref b.1).toArray na) ∈ news ∧ (∀ b ∈ hs, ∃ nb, (b.1, listOf b.2.toArray nb) ∈ news) ∧ (hs.flatMap fun b : Addr × List Value => b.2).length ≤ sizeLine ∧
    (∀ b ∈ hs, ∀ v ∈ b.2, RowTest prog w A h₀ L m env ct x2 scope cl p news v) ∧
    ∀ D h tk, Fr h₀ L h m → News h₀ L h ((D, LCg.lst (pick p hs)) :: news) → (∀ q ∈ news, q.1 ≠ D) → Q (.ref D) { s₁ with heap := h, toks := tk }
theorem ListComp2 {ct i1 : Expr} {x1 x2 : Str} {px1 px2 py pe : Pos} {scope : Scope} {cl : List (Str × Addr)} {pos : Pos} {Q : Value → Shared → Prop} (F₀ : Fr h₀ L s.heap m)
    (hclos : closureFor scope env = pure cl) (hcell : ∀ y ∈ scope.names, y.2 ≠ .cell) (hkind : scope.kind = .function)
    (hnames : ∀ y ∈ scope.names, y.2 = .local → scope.names.lookup y.1 = some .local) (hx1 : scope.names.lookup x1 = some .local) (hx2 : scope.names.lookup x2 = some .local) (hdb1 : (x1 == ("__debug__" : Str)) = false) (hdb2 : (x2 == ("__debug__" : Str)) = false)
    (h : wpAny (model prog w) A (eval i1 env) (Src2 prog w A h₀ L m env ct x2 scope cl Q) E s)
    (hs : ∀ x, foldedSetIterable i1 env x = pure x := by intro _; rfl) :
    wpAny (model prog w) A (eval (.ListComp (.Name x2 pe) [⟨.Name x1 px1, i1, [], 0⟩, ⟨.Name x2 px2, .Name x1 py, [ct], 0⟩] scope pos) env) Q E s := by
  rw [eval_ListComp]
  refine wpAny_comprehension_free (use := none) rfl hs hclos hkind hnames (wpAny_mono h (fun xv s₁ h₁ => ?_) fun _ _ e => e)
  obtain ⟨p, ax, hs, na, news, rfl, hh, F, N, hax, hbx, hsz, test, fin⟩ := h₁
  have hl : s₁.heap.IsList ax (hs.map fun b => Value.ref b.1).toArray := ⟨_, (N _ hax).1, rfl, _, rfl⟩
  refine wpAny_pyIter_list hl ?_
  have up : ∀ b o, s₁.heap.get? b = some o → (s₁.heap.push { cls := .type "list_iterator", data := .fields #[.ref ax, .int 0 0] }).get? b = some o := fun b o e => Heap.get?_push_of_some _ e
  have hI : (s₁.heap.push { cls := .type "list_iterator", data := .fields #[.ref ax, .int 0 0] }).IsListIter s₁.heap.objs.size ax 0 := ⟨_, Heap.get?_push_size _ rfl, rfl, rfl⟩
  have N₂ := N.grown up
  have F₂ := F.keeps up
  have hI₀ := next_is_new F
  have hIL : s₁.heap.objs.size ≠ L := Ne.symm (Nat.ne_of_lt F.ns.lt)
  have offI : ∀ q ∈ news, q.1 ≠ s₁.heap.objs.size := fun q hq => Nat.ne_of_lt (Heap.lt_size (N q hq).1)
  generalize s₁.heap.objs.size = I1 at hI hI₀ hIL offI ⊢
  generalize (s₁.heap.push { cls := .type "list_iterator", data := .fields #[.ref ax, .int 0 0] }) = h₂ at up hI N₂ F₂ ⊢
  refine wpAny_newObj_type (wpAny_newFunctionEnv hcell (by intro y hy; simp at hy) (fun h₁ hns₁ hsb₁ => ?_) hkind)
  dsimp only at hns₁ hsb₁ ⊢
  generalize hH2 : h₂.push { cls := .type "list", dict := none, data := .seq ([] : List Value).toArray } = H2 at hns₁ hsb₁ ⊢
  have hC : H2.objs.size = h₂.objs.size + 1 := by rw [← hH2, Heap.size_push]
  have hDC : h₂.objs.size ≠ H2.objs.size := by rw [hC]; exact Nat.ne_of_lt (Nat.lt_succ_self _)
  have below : ∀ b, b < h₂.objs.size → b ≠ H2.objs.size ∧ b ≠ h₂.objs.size := fun b hb => ⟨by rw [hC]; exact Nat.ne_of_lt (Nat.lt_succ_of_lt hb), Nat.ne_of_lt hb⟩
  have old : ∀ b o, h₂.get? b = some o → h₁.get? b = some o := fun b o e => hsb₁.extBut b o (below b (Heap.lt_size e)).1 (Heap.get?_push_of_some _ (hH2 ▸ Heap.get?_push_of_some _ e))
  have hacc : h₁.get? h₂.objs.size = some (LCg.lst []) := hsb₁.extBut _ _ hDC (Heap.get?_push_of_some _ (hH2 ▸ Heap.get?_push_size _ rfl))
  have fresh₀ : ∀ a, h₂.objs.size ≤ a → h₀.get? a = none := fun a ha => by
    cases e : h₀.get? a with
    | none => rfl
    | some o' => exact absurd (Heap.lt_size (F₂.keep a o' e)) (Nat.not_lt.mpr ha)
  have hD₀ : h₀.get? h₂.objs.size = none := fresh₀ _ (Nat.le_refl _)
  have hC₀ : h₀.get? H2.objs.size = none := fresh₀ _ (by rw [hC]; exact Nat.le_succ _)
  have hLlt : L < h₂.objs.size := F₂.ns.lt
  have hIlt : I1 < h₂.objs.size := by obtain ⟨_, e, _⟩ := hI; exact Heap.lt_size e
  have hDL : h₂.objs.size ≠ L := Ne.symm (below L hLlt).2
  have hCL : H2.objs.size ≠ L := Ne.symm (below L hLlt).1
  have offn : ∀ q ∈ news, q.1 ≠ H2.objs.size ∧ q.1 ≠ h₂.objs.size := fun q hq => below _ (Heap.lt_size (N₂ q hq).1)
  have hI3 : h₁.IsListIter I1 ax 0 := hI.at fun o e => old _ o e
  have N₃ : News h₀ L h₁ ((h₂.objs.size, LCg.lst []) :: news) := fun q hq => by
    rcases List.mem_cons.mp hq with rfl | hq
    · exact ⟨hacc, hDL, hD₀⟩
    · exact ⟨old _ _ (N₂ q hq).1, (N₂ q hq).2⟩
  have F₃ := F₂.keeps old
  have bI := below I1 hIlt
  generalize h₂.objs.size = D at *
  generalize H2.objs.size = C at *
  have loop : ∀ s₃ : Shared, s₃ = { s₁ with heap := h₁, toks := s₁.toks + ([] : List (Str × Value)).length } →
      codeAny (model prog w) A (.compLoop (.ListComp (.Name x2 pe) [⟨.Name x1 px1, i1, [], 0⟩, ⟨.Name x2 px2, .Name x1 py, [ct], 0⟩] scope pos) 0 (.ref I1) (.ref D) (compEnvC scope cl C env)) (compPost (model prog w) A E none Q (.ref D) C) s₃ := by
    rintro s₃ rfl
    refine outer_loop (R := compPost (model prog w) A E none Q (.ref D) C) hh hkind hx1 hx2 hdb1 hdb2 F₃ N₃ hax hbx hns₁ hI3 hC₀ hCL hI₀ hIL (Ne.symm hDC) (Ne.symm bI.1) (Ne.symm bI.2) (fun q hq => ⟨offI q hq, (offn q hq).1, (offn q hq).2⟩) hsz test ?_
    intro h' tk mC' F' N' hn
    refine ⟨mC', hn, fun h'' hs'' => fin D h'' tk (F'.change hs'' hCL hC₀) (news_ext N' hs''.extBut ?_) fun q hq => (offn q hq).2⟩
    simp only [List.forall_mem_cons]
    exact ⟨hDC, fun q hq => (offn q hq).1⟩
  exact codeAny_compStart_list (loop _ rfl) (wpAny_pyIter_listiter hI3 (loop _ rfl))
end
end
-- F4
section
def rowsOf (fs : List Frm) (nm : Str) : List It := fs.flatMap fun f => f.its.filter fun i => i.o.nm == nm
def homesOf (fs : List Frm) : List (Addr × List Value) := fs.map fun f => (f.ha, f.its.map It.rr)
def fdOf (f : Frm) : FD := ⟨f.sx, f.sd, [⟨f.e1, .str (Str.ofString "level") f.b1, .int f.lev f.b6⟩, ⟨f.e2, .str (Str.ofString "label") f.b2, .str f.lab f.tl⟩, ⟨f.e3, .str (Str.ofString "names") f.b3, .ref f.nd⟩, ⟨f.e4, .str (Str.ofString "order") f.b4, .ref f.od⟩, ⟨f.e5, .str (Str.ofString "slots") f.b5, .int f.slots f.b7⟩], 5, f.nd, f.on, f.its.map It.kv⟩
theorem one_frame : ∀ (its : List It) (nm : Str), (its.map (·.o.nm)).Nodup → (its.filter (fun i => i.o.nm == nm) = [] ∧ valueAt (its.map It.kv) nm = none) ∨ ∃ i ∈ its, its.filter (fun i => i.o.nm == nm) = [i] ∧ i.o.nm = nm ∧ valueAt (its.map It.kv) nm = some (.ref i.o.x)
  | [], _, _ => .inl ⟨rfl, rfl⟩
  | i :: r, nm, h => by
    rw [List.map_cons, List.nodup_cons] at h
    by_cases e : i.o.nm = nm
    · have hb : (i.o.nm == nm) = true := by simp [e]
      have hr : r.filter (fun i => i.o.nm == nm) = [] := List.filter_eq_nil_iff.mpr fun j hj => by
        intro hj2
        refine h.1 ?_
        rw [e, ← (by simpa using hj2 : j.o.nm = nm)]
        exact List.mem_map_of_mem (f := fun i : It => i.o.nm) hj
      refine .inr ⟨i, .head _, ?_, e, ?_⟩
      · rw [List.filter_cons, if_pos hb, hr]
      · unfold valueAt
        simp only [List.map_cons, List.find?_cons]
        have : decide ((It.kv i).1 = nm) = true := decide_eq_true e
        rw [this]; rfl
    · have hb : ¬ (i.o.nm == nm) = true := by simp [e]
      have hv : valueAt ((i :: r).map It.kv) nm = valueAt (r.map It.kv) nm := by
        unfold valueAt
        simp only [List.map_cons, List.find?_cons]
        have : decide ((It.kv i).1 = nm) = false := decide_eq_false e
        rw [this]
      rw [List.filter_cons, if_neg hb, hv]
      rcases one_frame r nm h.2 with h1 | ⟨j, hj, h1⟩
      · exact .inl h1
      · exact .inr ⟨j, .tail _ hj, h1⟩
theorem found_aux (nm : Str) : ∀ fs : List Frm, (∀ f ∈ fs, (f.its.map (·.o.nm)).Nodup) → (rowsOf fs nm = [] ∧ (fs.map fdOf).reverse.findSome? (fun f => valueAt f.kvs nm) = none) ∨
    ∃ r i f, rowsOf fs nm = r ++ [i] ∧ f ∈ fs ∧ i ∈ f.its ∧ i.o.nm = nm ∧ (fs.map fdOf).reverse.findSome? (fun f => valueAt f.kvs nm) = some (.ref i.o.x)
  | [], _ => .inl ⟨rfl, rfl⟩
  | f :: fs, h => by
    have hr : rowsOf (f :: fs) nm = f.its.filter (fun i => i.o.nm == nm) ++ rowsOf fs nm := by unfold rowsOf; rw [List.flatMap_cons]
    rw [hr, List.map_cons, List.reverse_cons, List.findSome?_append]
    rcases found_aux nm fs fun g hg => h g (.tail _ hg) with ⟨e1, e2⟩ | ⟨r, i, g, e1, hg, hi, hn, e2⟩
    · rw [e1, e2]
      have hs : List.findSome? (fun f => valueAt f.kvs nm) [fdOf f] = valueAt (f.its.map It.kv) nm := by
        simp only [List.findSome?_cons, List.findSome?_nil]
        rw [show valueAt (fdOf f).kvs nm = valueAt (f.its.map It.kv) nm from rfl]
        cases valueAt (f.its.map It.kv) nm <;> rfl
      rw [hs]
      rcases one_frame f.its nm (h f (.head _)) with ⟨a, b⟩ | ⟨i, hi, a, hn, b⟩
      · exact .inl ⟨by rw [a]; rfl, by rw [b]; rfl⟩
      · exact .inr ⟨[], i, f, by rw [a]; rfl, .head _, hi, hn, by rw [b]; rfl⟩
    · rw [e1, e2]
      exact .inr ⟨f.its.filter (fun i => i.o.nm == nm) ++ r, i, g, by rw [List.append_assoc], .tail _ hg, hi, hn, rfl⟩
theorem found_rows {fs : List Frm} (nm : Str) (h : ∀ f ∈ fs, (f.its.map (·.o.nm)).Nodup) : (rowsOf fs nm = [] ∧ foundIn (fs.map fdOf) nm = .none) ∨
    ∃ r i f, rowsOf fs nm = r ++ [i] ∧ f ∈ fs ∧ i ∈ f.its ∧ i.o.nm = nm ∧ foundIn (fs.map fdOf) nm = .ref i.o.x := by
  unfold foundIn
  rcases found_aux nm fs h with ⟨a, b⟩ | ⟨r, i, f, a, b, c, d, e⟩
  · exact .inl ⟨a, by rw [b]; rfl⟩
  · exact .inr ⟨r, i, f, a, b, c, d, by rw [e]; rfl⟩
/-- which row values bear the name -/
def rowP (all : List It) (nm : Str) : Value → Bool
  | .ref a => all.any fun i => decide (i.r = a) && (i.o.nm == nm)
  | _ => false
theorem rowP_eq {all : List It} {nm : Str} {i : It} (hi : i ∈ all) (hf : ∀ i ∈ all, ∀ j ∈ all, i.r = j.r → i.o.nm = j.o.nm) : rowP all nm (It.rr i) = (i.o.nm == nm) := by
  show (all.any fun j => decide (j.r = i.r) && (j.o.nm == nm)) = _
  cases e : (i.o.nm == nm) with
  | true => exact List.any_eq_true.mpr ⟨i, hi, by simp [e]⟩
  | false =>
    refine List.any_eq_false.mpr fun j hj hc => ?_
    simp only [Bool.and_eq_true, decide_eq_true_eq] at hc
    rw [hf j hj i hi hc.1, e] at hc
    exact Bool.false_ne_true hc.2
theorem filter_rows {all : List It} {nm : Str} (hf : ∀ i ∈ all, ∀ j ∈ all, i.r = j.r → i.o.nm = j.o.nm) : ∀ its : List It, (∀ i ∈ its, i ∈ all) → (its.map It.rr).filter (rowP all nm) = (its.filter fun i => i.o.nm == nm).map It.rr
  | [], _ => rfl
  | i :: r, h => by
    have ih := filter_rows (nm := nm) hf r fun j hj => h j (.tail _ hj)
    have e := rowP_eq (nm := nm) (h i (.head _)) hf
    rw [List.map_cons, List.filter_cons, List.filter_cons, e, ih]
    cases (i.o.nm == nm) <;> rfl
theorem pick_rows {all : List It} {nm : Str} (hf : ∀ i ∈ all, ∀ j ∈ all, i.r = j.r → i.o.nm = j.o.nm) : ∀ fs : List Frm, (∀ f ∈ fs, ∀ i ∈ f.its, i ∈ all) → Mine.pick (rowP all nm) (homesOf fs) = (rowsOf fs nm).map It.rr
  | [], _ => rfl
  | f :: fs, h => by
    have ih := pick_rows (nm := nm) hf fs fun g hg => h g (.tail _ hg)
    unfold Mine.pick homesOf rowsOf at *
    rw [List.map_cons, List.flatMap_cons, List.flatMap_cons, List.map_append, ih, filter_rows hf f.its (h f (.head _))]
theorem homes_len {k : Nat} : ∀ fs : List Frm, (∀ f ∈ fs, f.its.length ≤ k) → ((homesOf fs).flatMap fun b : Addr × List Value => b.2).length ≤ k * fs.length
  | [], _ => Nat.zero_le _
  | f :: fs, h => by
    have ih := homes_len fs fun g hg => h g (.tail _ hg)
    have h1 := h f (.head _)
    unfold homesOf at *
    rw [List.map_cons, List.flatMap_cons, List.length_append, List.length_map, List.length_cons, Nat.mul_add]
    omega
end
-- F5
section
section
variable {prog : Program} {w : World} {A : Around} {E : Value → Shared → Prop} {s : Shared} {h₀ : Heap} {L : Addr} {m : Str → Option Value} {news : List (Addr × Obj)}
theorem eq_empty {l b : Addr} {ys : List Value} {n n2 : Nat} {Q : Value → Shared → Prop} (N : News h₀ L s.heap news) (hl : (l, listOf ys.toArray n) ∈ news) (hb : (b, listOf #[] n2) ∈ news) (hu : A.units < cLine) {c : Bool} (hc : ys.isEmpty = c) (h : Q (.bool c) s) :
    wpAny (model prog w) A (compareOp .Eq (.ref l) (.ref b)) Q E s := by
  subst hc
  have h1 : s.heap.IsList l ys.toArray := ⟨_, (N _ hl).1, rfl, _, rfl⟩
  have h2 : s.heap.IsList b #[] := ⟨_, (N _ hb).1, rfl, _, rfl⟩
  cases ys with
  | nil => exact SeqAt.eq_listAt (e := fun _ => true) h1 h2 rfl hu (fun j h1 => absurd h1 (Nat.not_lt_zero j)) h
  | cons y r => exact SeqAt.eq_list_lengthsAt h1 h2 (by simp) hu h
theorem ne_empty {l b : Addr} {ys : List Value} {n n2 : Nat} {Q : Value → Shared → Prop} (N : News h₀ L s.heap news) (hl : (l, listOf ys.toArray n) ∈ news) (hb : (b, listOf #[] n2) ∈ news) (hu : A.units < cLine) {c : Bool} (hc : (!ys.isEmpty) = c) (h : Q (.bool c) s) :
    wpAny (model prog w) A (compareOp .NotEq (.ref l) (.ref b)) Q E s := by
  subst hc
  have h1 : s.heap.IsList l ys.toArray := ⟨_, (N _ hl).1, rfl, _, rfl⟩
  have h2 : s.heap.IsList b #[] := ⟨_, (N _ hb).1, rfl, _, rfl⟩
  cases ys with
  | nil => exact SeqAt.RcNeAt.lists (e := fun _ => true) h1 h2 rfl hu (fun j h1 => absurd h1 (Nat.not_lt_zero j)) prog w E Q h
  | cons y r => exact SeqAt.RcNeAt.lists_lengths h1 h2 (by simp) hu prog w E Q h
theorem pick_last (ys : List Value) : slicePick ys.toArray (some (-1)) none none = (ys.drop (ys.length - 1)).toArray := by
  have e : sliceBounds (some (-1)) none none ys.toArray.size = (((ys.toArray.size - 1 : Nat) : Int), ((ys.toArray.size : Nat) : Int), 1) := by
    simp only [sliceBounds, Option.getD_none, show (1 : Int) > 0 by decide, if_true, show (-1 : Int) < 0 by decide]
    congr 1
    omega
  rw [kmk_pick_nat _ e]
  show ((ys.drop (ys.toArray.size - 1)).take (ys.toArray.size - (ys.toArray.size - 1))).toArray = _
  rw [List.size_toArray, List.take_of_length_le (by rw [List.length_drop]; omega)]
theorem slice_last {value slice : PySem.Expr} {l : Addr} {ys : List Value} {n : Nat} {u : Tok} {Q : Value → Shared → Prop} (F : Fr h₀ L s.heap m) (N : News h₀ L s.heap news) (hm : (l, listOf ys.toArray n) ∈ news) (hz : ys.length ≤ sizeLine)
    (h : ∀ D h', Fr h₀ L h' m → News h₀ L h' ((D, listOf (ys.drop (ys.length - 1)).toArray 0) :: news) → (∀ p ∈ news, p.1 ≠ D) → Q (.ref D) { s with heap := h' })
    (hs : subscripted slice false (.ref l) (.ref s.heap.objs.size) = operate [.ref s.heap.objs.size, .ref l] (getItem (.ref l) (.ref s.heap.objs.size))) :
    wpAny (model prog w) A (subscriptTail value slice (.ref l) (.ref s.heap.objs.size)) Q E { s with heap := s.heap.push { cls := .type "slice", data := .fields #[.int (-1) u, .none, .none] } } := by
  refine kba_turn (value' := PySem.Expr.Name (PySem.Str.ofString "_") ⟨0, 0, 0, 0⟩) (fun _ => rfl) ?_
  refine kmk_slice F N ⟨_, (N _ hm).1, rfl, _, rfl⟩ (lo := some (-1)) (hi := none) ?_ ?_ (fun D h' F' N' hlt => ?_) hs (fun _ => rfl) (by rw [List.size_toArray]; exact hz)
  · exact .int _ _
  · exact .none
  · rw [pick_last] at N'
    exact h D h' F' N' fun p hp => Nat.ne_of_lt (hlt p hp)
theorem ne_tup3 {a b : Addr} {y : Str} {i l : Int} {t1 t2 t3 u1 u2 u3 : Tok} {n1 n2 : Nat} {Q : Value → Shared → Prop} (N : News h₀ L s.heap news)
    (ha : (a, ({ cls := .type "tuple", data := .seq #[.int i t1, .str y t2, .int l t3] n1 } : Obj)) ∈ news) (hb : (b, ({ cls := .type "tuple", data := .seq #[.int i u1, .str y u2, .int l u3] n2 } : Obj)) ∈ news)
    (hu : A.units < cLine) (h : Q (.bool false) s) : wpAny (model prog w) A (compareOp .NotEq (.ref a) (.ref b)) Q E s := by
  have h1 : s.heap.IsTuple a #[.int i t1, .str y t2, .int l t3] := ⟨_, (N _ ha).1, rfl, n1, rfl⟩
  have h2 : s.heap.IsTuple b #[.int i u1, .str y u2, .int l u3] := ⟨_, (N _ hb).1, rfl, n2, rfl⟩
  refine SeqAt.RcNeAt.tuples (e := fun _ => true) h1 h2 hu (fun j k1 k2 => ?_) prog w E Q h
  match j, k1, k2 with
  | 0, _, _ => have := SeqAt.EqAt.int_int (A := A.in1) (s := s) i t1 i u1; rw [show (i == i) = true by simp] at this; exact this
  | 1, _, _ => have := SeqAt.EqAt.str_str (A := A.in1) (s := s) y t2 y u2; rw [show (y == y) = true by simp] at this; exact this
  | 2, _, _ => have := SeqAt.EqAt.int_int (A := A.in1) (s := s) l t3 l u3; rw [show (l == l) = true by simp] at this; exact this
  | j + 3, k1, _ => exact absurd k1 (by simp)
theorem at0 {value slice : PySem.Expr} {l : Addr} {x : Value} {n : Nat} {u : Tok} {Q : Value → Shared → Prop} (N : News h₀ L s.heap news) (hm : (l, listOf #[x] n) ∈ news) (h : Q x s)
    (hs : subscripted slice false (.ref l) (.int 0 u) = operate [.ref l, .int 0 u] (getItem (.ref l) (.int 0 u)) := by with_unfolding_all rfl) : wpAny (model prog w) A (subscriptTail value slice (.ref l) (.int 0 u)) Q E s := by
  have hl : s.heap.IsList l #[x] := ⟨_, (N _ hm).1, rfl, n, rfl⟩
  exact tail_any hl.typeIs slot_list_getitem.lookup (wpAny_getItem_list hl (Int.le_refl _) (by decide) rfl h) hs
theorem row1 {value slice : PySem.Expr} {r : Addr} {nm : Str} {t u : Tok} {v : Value} {Q : Value → Shared → Prop} (N : News h₀ L s.heap news) (hm : (r, rowObj nm t v) ∈ news) (h : Q v s)
    (hs : subscripted slice false (.ref r) (.int 1 u) = operate [.ref r, .int 1 u] (getItem (.ref r) (.int 1 u)) := by with_unfolding_all rfl) : wpAny (model prog w) A (subscriptTail value slice (.ref r) (.int 1 u)) Q E s := by
  have hl : IsTup s.heap r #[.str nm t, v] := ⟨_, (N _ hm).1, rfl, _, rfl⟩
  exact tail_any hl.typeIs slot_tuple_getitem.lookup (getItem_tuple hl (by decide) (by decide) (j := 1) (show seqIndex? 1 2 = some 1 by decide) rfl h) hs
end
end
-- M2
end
example {M : Model} {A : Around} {E : Value → Shared → Prop} {s : Shared} {Q : Flow → Shared → Prop} {env : Env} (h : Q .next s) : wpAny M A (execs [] env) Q E s := by
  first | (walk1; exact h) | exact fun _ _ _ => h
section
local macro_rules | `(tactic| k_all) => `(tactic| first | exact List.forall_mem_nil _ | (with_reducible assumption) | (refine' List.forall_mem_cons.mpr ⟨?a, ?b⟩; (case a => k_ne); (case b => k_all)) | exact allLt_ne (by iterate 27 (try (first | (with_reducible assumption) | apply And.right))))
section
local macro_rules | `(tactic| k_room) => `(tactic| ((try simp only [depth_under_make, depth_under_kw, depth_in1, depth_deeper, recursionLimit]); omega))
section
local macro_rules | `(tactic| k_mem) => `(tactic| first | exact List.Mem.head _ | (with_reducible assumption) | (refine' List.mem_cons_of_mem _ ?_; k_mem))
section
theorem seq_iadd : isSeqSlot (some (.builtin "list.__iadd__")) = true := by decide +kernel
theorem wpAny_iconcat {M : Model} {A : Around} {E : Value → Shared → Prop} {s : Shared} {a b : Value} {T id : String} {Q : Value → Shared → Prop} (ha : s.TypeIs a T) (hb : s.TypeIs b T)
    (hno : typeLookup (.type T) (dunderI "add") = pure (some (.builtin id))) (hfill : fillsNumberSlot (.type T) "add" = pure false) (hseq : isSeqSlot (some (.builtin id)) = true)
    (hc : wpAny M A (call (.builtin id) [a, b]) Q E s) : wpAny M A (inplaceOp .Add a b) Q E s := by
  unfold inplaceOp
  refine wpAny_holding ?_
  have hfi : fillsInplaceSlot (.type T) "add" (Operator.Add == .Add) = pure false := by
    unfold fillsInplaceSlot
    show (typeLookup (.type T) (dunderI "add") >>= fun fi => pure (fi.isSome && !isSeqSlot fi)) = pure false
    rw [hno, pure_bind, hseq]; rfl
  have hsi : seqSlot? (.type T) (dunderI "add") = pure (some (.builtin id)) := PySem.seqSlot_of hno hseq
  refine wpAny_bind (wpAny_typeOf ha (wpAny_bind (wpAny_of_eq hfi ?_)))
  show wpAny M A (if false = true then _ else _) Q E s
  rw [if_neg Bool.false_ne_true]
  refine wpAny_bind (wpAny_binaryOp1_none (nm := "add") ha hb hfill ?_)
  refine wpAny_bind (wpAny_of_eq hsi ?_)
  exact wpAny_bind (wpAny_rule hc)
theorem iadd_L {prog : Program} {w : World} {A : Around} {E : Value → Shared → Prop} {s : Shared} {h₀ : Heap} {L D b : Addr} {m : Str → Option Value} {news news' : List (Addr × Obj)} {xs ys : List Value} {n n2 : Nat} {Q : Value → Shared → Prop} (F : Fr h₀ L s.heap m) (N : News h₀ L s.heap news) (hb : (b, listOf ys.toArray n2) ∈ news)
    (U : Upd D (listOf xs.toArray n) (listOf (xs ++ ys).toArray (n + 1)) news news') (hne : ys.length ≠ 0) (hz : xs.length ≤ 1000) (hz2 : ys.length ≤ 1000)
    (h : ∀ h', Fr h₀ L h' m → News h₀ L h' news' → Q (.ref D) { s with heap := h' }) : wpAny (model prog w) A (inplaceOp .Add (.ref D) (.ref b)) Q E s := by
  obtain ⟨pre, post, rfl, rfl, a, c⟩ := U.split
  have z := N (D, listOf xs.toArray n) (List.mem_append.mpr (.inr (.head _)))
  refine wpAny_iconcat ⟨_, z.1, rfl⟩ ⟨_, (N _ hb).1, rfl⟩ PySem.F.slot_list_iadd.lookup noFill_list_add seq_iadd ?_
  refine call_meets PySem.F.slot_list_iadd ⟨_, z.1, rfl⟩ PySem.F.entry_list_iadd (PySem.F.args_list_iadd_2 _ _) (PySem.AutoSeq1.list___iadd___list_list_0 D xs.toArray n b ys.toArray n2 ?_ ?_ ?_) ⟨z.1, (N _ hb).1, h _ (F.change (Heap.SameBut.update ..) z.2.1 z.2.2) (kl_turn _ N a c ?_ ?_)⟩
  · have : Builtin.List.listTooLong (xs.toArray.size + ys.toArray.size) = false := by
      unfold Builtin.List.listTooLong
      simp only [List.size_toArray, decide_eq_false_iff_not]
      rw [sizeLine_eq]; omega
    rw [this]; simp
  · rw [List.size_toArray, sizeLine_eq]; omega
  · rw [List.size_toArray, List.size_toArray, sizeLine_eq]; omega
  · apply Array.toList_inj.mp
    simp
  · simp at hne ⊢
    exact hne
local macro_rules | `(tactic| walk_at "inplaceOp Add ref ref") => `(tactic| (k_here; k_dflt (refine' iadd_L ?k1 ?k2 ?k3 ?k4 ?k5 ?k6 ?k7 ?_; (case k1 => k_asm); (case k2 => k_asm); (case k3 => k_mem); (case k4 => k_upd); (case k5 => exact Nat.succ_ne_zero _); (case k6 => exact Nat.le_of_ble_eq_true rfl); (case k7 => exact Nat.le_of_ble_eq_true rfl); k_whole); intro h' F' N'; (try dsimp only [List.cons_append, List.nil_append] at N'); (try k_sweep)))
theorem law_mid {w : World} {A₀ : Around} {base h₀ : Heap} {outer : List Env} {L fa : Addr} {cd : Value} {m mg mb : Str → Option Value} {mean : ExcName → Option Value} {s : Shared} {d u : Nat}
    {E : Value → Shared → Prop} {Q : Flow → Shared → Prop} {co : Obj} {pl fl ax ad ak sx sd nd od td tx tb tc ty ti tm tn : Addr} {vs : List Value} {figs : List Int} {mx : Int} {np nf nk no tnn : Nat} {t1 t2 : Tok}
    {c1 c2 c3 c4 e1 e2 e3 e4 e5 : Int} {a1 a2 a3 a4 a5 a6 b1 b2 b3 b4 b5 b6 b7 tl : Tok} {its : List OI} {on : Obj} {R : List (Addr × Obj)} {tes : List DictEntry}
    (B : Below A₀ base outer h₀) (F : Fr h₀ L s.heap m) (X : (Mine.fr.heap_1 w.params).In h₀) (T : Top Mine.vw (looseW Mine.vw []) mean mg mb h₀) (hd : d < 700) (hu : u < 9000)
    (q1 : m (Str.ofString "pool") = some (.ref pl)) (q2 : m (Str.ofString "types") = some (.ref tx)) (q3 : m (Str.ofString "scopes") = some (.ref ax))
    (N : News h₀ L s.heap ((pl, listOf #[.ref fl, .int 0 t1, .int mx t2] np) :: (fl, listOf vs.toArray nf) :: (ax, instObj 172 ad) :: (ad, scopesD c1 c2 c3 c4 a1 a2 a3 a4 (.ref tx) (.str (Str.ofString "M") a5) ak (-1) a6) :: (ak, listOf ([] ++ [Value.ref sx]).toArray nk) :: (L + 1, co) :: (sx, instObj 109 sd) ::
      (sd, scopeD e1 e2 e3 e4 e5 b1 b2 b3 b4 b5 (-1) b6 (.str (Str.ofString "") tl) nd od 0 b7) :: (nd, on) :: (od, listOf (its.map OI.rf).toArray no) :: R))
    (hnd : [pl, fl, ax, ad, ak, L + 1, sx, sd, nd, od].Nodup) (hR : OffS [pl, fl, ax, ad, ak, L + 1, sx, sd, nd, od] R) (hco : co.data = .cell none) (hI : IntsAre vs figs) (hfl : figs.length ≤ 2400) (hm1 : 0 ≤ mx) (hm2 : mx < 1009)
    (hlo : (nd == sysModules) = false) (hkv : on.IsDictOf (PySem.strKind Challenge.rw_nu0320_01.row.prog w) (its.map OI.kv)) (hgood : ∀ i ∈ its, Good R tb tc ty ti tm i) (hnm : its.map OI.nm = first7 ++ names14) (hT : TypesIs R td tes tnn tx tb tc ty ti tm tn)
    (hloop : ∀ h' tk m' K v, Fr h₀ L h' m' → Pins K m' → K.cc = L + 1 → News h₀ L h' (led K v) → Ok K w [] 0 v → wpAny (model Challenge.rw_nu0320_01.row.prog w) { handled := none, depth := d, frames := some (lawEnv L fa cd :: outer), guards := some [], units := u } (execs (drop5 (drop4 lawBody)) (lawEnv L fa cd)) Q E { s with heap := h', toks := tk }) :
    wpAny (model Challenge.rw_nu0320_01.row.prog w) { handled := none, depth := d, frames := some (lawEnv L fa cd :: outer), guards := some [], units := u } (execs (drop4 lawBody) (lawEnv L fa cd)) Q E s := by
  revert X; k_fill; intro X
  unfold lawBody lawEnv lawScope lawName lawRec recOf
  dsimp only [drop4]
  rw [map_eq1 q1, map_eq1 q2, map_eq1 q3] at F
  (repeat' ((((fail_if_success (with_reducible show Hold _)); (fail_if_success (with_reducible show wpAny _ _ (pyIter _) _ _ _)); (fail_if_success (with_reducible show wpAny _ _ (call (Value.ref _) _ _) _ _ _)); (fail_if_success (with_reducible show wpAny _ _ (call (Value.builtin "sorted") _ _) _ _ _)); (fail_if_success (with_reducible show wpAny _ _ (eval (Expr.ListComp _ _ _ _) _) _ _ _)); (fail_if_success (with_reducible show wpAny _ _ (execs (Stmt.For _ _ _ _ _ :: _) _) _ _ _)); (fail_if_success (with_reducible show LCg.CompSrc _ _ _ _ _ _ _ _ _ _ _ _ _ _)); (fail_if_success (with_reducible show wpAny _ _ (compareOp CmpOp.NotEq (Value.ref _) (Value.ref _)) _ _ _)); first | (k_unfold; (try dsimp only)) | (k_end; wrow_close) | walk1 | (dsimp only; walk1) | (leave1; walk_say "STEP leave1"; try dsimp only)))))
  refine stdf_spec B (by assumption) (by assumption) (by assumption) T rfl rfl (by omega) ?_
  intro h1 tk1 a1' ws1 F1 N1 hS1 o1
  try dsimp only
  (repeat' ((((fail_if_success (with_reducible show Hold _)); (fail_if_success (with_reducible show wpAny _ _ (pyIter _) _ _ _)); (fail_if_success (with_reducible show wpAny _ _ (call (Value.ref _) _ _) _ _ _)); (fail_if_success (with_reducible show wpAny _ _ (call (Value.builtin "sorted") _ _) _ _ _)); (fail_if_success (with_reducible show wpAny _ _ (eval (Expr.ListComp _ _ _ _) _) _ _ _)); (fail_if_success (with_reducible show wpAny _ _ (execs (Stmt.For _ _ _ _ _ :: _) _) _ _ _)); (fail_if_success (with_reducible show LCg.CompSrc _ _ _ _ _ _ _ _ _ _ _ _ _ _)); (fail_if_success (with_reducible show wpAny _ _ (compareOp CmpOp.NotEq (Value.ref _) (Value.ref _)) _ _ _)); first | (k_unfold; (try dsimp only)) | (k_end; wrow_close) | walk1 | (dsimp only; walk1) | (leave1; walk_say "STEP leave1"; try dsimp only)))))
  refine sortedT (by assumption) (by assumption) (.head _) hS1 (by have := hS1.length; simp only [List.length_take] at this; omega) ?_
  intro h2 D2 ws2 ss2 ne2 F2 N2 hS2 hp2 hs2 o2
  try dsimp only
  (repeat' ((((fail_if_success (with_reducible show Hold _)); (fail_if_success (with_reducible show wpAny _ _ (pyIter _) _ _ _)); (fail_if_success (with_reducible show wpAny _ _ (call (Value.ref _) _ _) _ _ _)); (fail_if_success (with_reducible show wpAny _ _ (call (Value.builtin "sorted") _ _) _ _ _)); (fail_if_success (with_reducible show wpAny _ _ (eval (Expr.ListComp _ _ _ _) _) _ _ _)); (fail_if_success (with_reducible show wpAny _ _ (execs (Stmt.For _ _ _ _ _ :: _) _) _ _ _)); (fail_if_success (with_reducible show LCg.CompSrc _ _ _ _ _ _ _ _ _ _ _ _ _ _)); (fail_if_success (with_reducible show wpAny _ _ (compareOp CmpOp.NotEq (Value.ref _) (Value.ref _)) _ _ _)); first | (k_unfold; (try dsimp only)) | (k_end; wrow_close) | walk1 | (dsimp only; walk1) | (leave1; walk_say "STEP leave1"; try dsimp only)))))
  refine sortedL (by assumption) (by assumption) (.head _) (ss := names14.take 8) (by unfold names14; repeat constructor) (Nat.le_of_ble_eq_true rfl) ?_
  intro h3 D3 ws3 ss3 ne3 F3 N3 hS3 hp3 hs3 o3
  try dsimp only
  (repeat' ((((fail_if_success (with_reducible show Hold _)); (fail_if_success (with_reducible show wpAny _ _ (pyIter _) _ _ _)); (fail_if_success (with_reducible show wpAny _ _ (call (Value.ref _) _ _) _ _ _)); (fail_if_success (with_reducible show wpAny _ _ (call (Value.builtin "sorted") _ _) _ _ _)); (fail_if_success (with_reducible show wpAny _ _ (eval (Expr.ListComp _ _ _ _) _) _ _ _)); (fail_if_success (with_reducible show wpAny _ _ (execs (Stmt.For _ _ _ _ _ :: _) _) _ _ _)); (fail_if_success (with_reducible show LCg.CompSrc _ _ _ _ _ _ _ _ _ _ _ _ _ _)); (fail_if_success (with_reducible show wpAny _ _ (compareOp CmpOp.NotEq (Value.ref _) (Value.ref _)) _ _ _)); first | (k_unfold; (try dsimp only)) | (k_end; wrow_close) | walk1 | (dsimp only; walk1) | (leave1; walk_say "STEP leave1"; try dsimp only)))))
  refine ne_same (by assumption) (by k_mem) (by k_mem) hS2 hS3 hp2 hp3 hs2 hs3 (by decide +kernel) (by rw [cLine_is]; dsimp only; omega) ?_
  clear o1 o2 o3
  (repeat' ((((fail_if_success (with_reducible show Hold _)); (fail_if_success (with_reducible show wpAny _ _ (pyIter _) _ _ _)); (fail_if_success (with_reducible show wpAny _ _ (call (Value.ref _) _ _) _ _ _)); (fail_if_success (with_reducible show wpAny _ _ (call (Value.builtin "sorted") _ _) _ _ _)); (fail_if_success (with_reducible show wpAny _ _ (eval (Expr.ListComp _ _ _ _) _) _ _ _)); (fail_if_success (with_reducible show wpAny _ _ (execs (Stmt.For _ _ _ _ _ :: _) _) _ _ _)); (fail_if_success (with_reducible show LCg.CompSrc _ _ _ _ _ _ _ _ _ _ _ _ _ _)); (fail_if_success (with_reducible show wpAny _ _ (compareOp CmpOp.NotEq (Value.ref _) (Value.ref _)) _ _ _)); first | (k_unfold; (try dsimp only)) | (k_end; wrow_close) | walk1 | (dsimp only; walk1) | (leave1; walk_say "STEP leave1"; try dsimp only)))))
  refine stdp_spec B (by assumption) (by assumption) (by assumption) T rfl rfl (by omega) ?_
  intro h4 tk4 a2' ws4 F4 N4 hS4 o4
  try dsimp only
  (repeat' ((((fail_if_success (with_reducible show Hold _)); (fail_if_success (with_reducible show wpAny _ _ (pyIter _) _ _ _)); (fail_if_success (with_reducible show wpAny _ _ (call (Value.ref _) _ _) _ _ _)); (fail_if_success (with_reducible show wpAny _ _ (call (Value.builtin "sorted") _ _) _ _ _)); (fail_if_success (with_reducible show wpAny _ _ (eval (Expr.ListComp _ _ _ _) _) _ _ _)); (fail_if_success (with_reducible show wpAny _ _ (execs (Stmt.For _ _ _ _ _ :: _) _) _ _ _)); (fail_if_success (with_reducible show LCg.CompSrc _ _ _ _ _ _ _ _ _ _ _ _ _ _)); (fail_if_success (with_reducible show wpAny _ _ (compareOp CmpOp.NotEq (Value.ref _) (Value.ref _)) _ _ _)); first | (k_unfold; (try dsimp only)) | (k_end; wrow_close) | walk1 | (dsimp only; walk1) | (leave1; walk_say "STEP leave1"; try dsimp only)))))
  refine sortedT (by assumption) (by assumption) (.head _) hS4 (by have := hS4.length; rw [this]; exact Nat.le_of_ble_eq_true rfl) ?_
  intro h5 D5 ws5 ss5 ne5 F5 N5 hS5 hp5 hs5 o5
  try dsimp only
  (repeat' ((((fail_if_success (with_reducible show Hold _)); (fail_if_success (with_reducible show wpAny _ _ (pyIter _) _ _ _)); (fail_if_success (with_reducible show wpAny _ _ (call (Value.ref _) _ _) _ _ _)); (fail_if_success (with_reducible show wpAny _ _ (call (Value.builtin "sorted") _ _) _ _ _)); (fail_if_success (with_reducible show wpAny _ _ (eval (Expr.ListComp _ _ _ _) _) _ _ _)); (fail_if_success (with_reducible show wpAny _ _ (execs (Stmt.For _ _ _ _ _ :: _) _) _ _ _)); (fail_if_success (with_reducible show LCg.CompSrc _ _ _ _ _ _ _ _ _ _ _ _ _ _)); (fail_if_success (with_reducible show wpAny _ _ (compareOp CmpOp.NotEq (Value.ref _) (Value.ref _)) _ _ _)); first | (k_unfold; (try dsimp only)) | (k_end; wrow_close) | walk1 | (dsimp only; walk1) | (leave1; walk_say "STEP leave1"; try dsimp only)))))
  refine sortedL (by assumption) (by assumption) (.head _) (ss := names14.drop 8) (by unfold names14; repeat constructor) (Nat.le_of_ble_eq_true rfl) ?_
  intro h6 D6 ws6 ss6 ne6 F6 N6 hS6 hp6 hs6 o6
  try dsimp only
  (repeat' ((((fail_if_success (with_reducible show Hold _)); (fail_if_success (with_reducible show wpAny _ _ (pyIter _) _ _ _)); (fail_if_success (with_reducible show wpAny _ _ (call (Value.ref _) _ _) _ _ _)); (fail_if_success (with_reducible show wpAny _ _ (call (Value.builtin "sorted") _ _) _ _ _)); (fail_if_success (with_reducible show wpAny _ _ (eval (Expr.ListComp _ _ _ _) _) _ _ _)); (fail_if_success (with_reducible show wpAny _ _ (execs (Stmt.For _ _ _ _ _ :: _) _) _ _ _)); (fail_if_success (with_reducible show LCg.CompSrc _ _ _ _ _ _ _ _ _ _ _ _ _ _)); (fail_if_success (with_reducible show wpAny _ _ (compareOp CmpOp.NotEq (Value.ref _) (Value.ref _)) _ _ _)); first | (k_unfold; (try dsimp only)) | (k_end; wrow_close) | walk1 | (dsimp only; walk1) | (leave1; walk_say "STEP leave1"; try dsimp only)))))
  refine ne_same (by assumption) (by k_mem) (by k_mem) hS5 hS6 hp5 hp6 hs5 hs6 (by decide +kernel) (by rw [cLine_is]; dsimp only; omega) ?_
  clear o4 o5 o6
  (repeat' ((((fail_if_success (with_reducible show Hold _)); (fail_if_success (with_reducible show wpAny _ _ (pyIter _) _ _ _)); (fail_if_success (with_reducible show wpAny _ _ (call (Value.ref _) _ _) _ _ _)); (fail_if_success (with_reducible show wpAny _ _ (call (Value.builtin "sorted") _ _) _ _ _)); (fail_if_success (with_reducible show wpAny _ _ (eval (Expr.ListComp _ _ _ _) _) _ _ _)); (fail_if_success (with_reducible show wpAny _ _ (execs (Stmt.For _ _ _ _ _ :: _) _) _ _ _)); (fail_if_success (with_reducible show LCg.CompSrc _ _ _ _ _ _ _ _ _ _ _ _ _ _)); (fail_if_success (with_reducible show wpAny _ _ (compareOp CmpOp.NotEq (Value.ref _) (Value.ref _)) _ _ _)); first | (k_unfold; (try dsimp only)) | (k_end; wrow_close) | walk1 | (dsimp only; walk1) | (leave1; walk_say "STEP leave1"; try dsimp only)))))
  k_dflt (refine' LCg.ListComp_U (F₀ := ?F) ?c1 ?c2 ?c3 ?c4 ?c5 ?c6 ?c7)
  (case F => assumption)
  (case c1 => exact rfl)
  (case c2 => decide)
  (case c3 => exact rfl)
  (case c4 => decide)
  (case c5 => exact rfl)
  (case c7 => (intro _; exact rfl))
  (repeat' ((((fail_if_success (with_reducible show Hold _)); (fail_if_success (with_reducible show wpAny _ _ (pyIter _) _ _ _)); (fail_if_success (with_reducible show wpAny _ _ (call (Value.ref _) _ _) _ _ _)); (fail_if_success (with_reducible show wpAny _ _ (call (Value.builtin "sorted") _ _) _ _ _)); (fail_if_success (with_reducible show wpAny _ _ (eval (Expr.ListComp _ _ _ _) _) _ _ _)); (fail_if_success (with_reducible show wpAny _ _ (execs (Stmt.For _ _ _ _ _ :: _) _) _ _ _)); (fail_if_success (with_reducible show LCg.CompSrc _ _ _ _ _ _ _ _ _ _ _ _ _ _)); (fail_if_success (with_reducible show wpAny _ _ (compareOp CmpOp.NotEq (Value.ref _) (Value.ref _)) _ _ _)); first | (k_unfold; (try dsimp only)) | (k_end; wrow_close) | walk1 | (dsimp only; walk1) | (leave1; walk_say "STEP leave1"; try dsimp only)))))
  k_dflt (refine' LCg.CompSrc.ledger ?e1 ?e2 ?e3 ?e4 ?e5 ?e6)
  (case e1 => exact rfl)
  (case e2 => assumption)
  (case e3 => assumption)
  (case e4 => k_mem)
  (case e5 => exact Nat.le_of_ble_eq_true rfl)
  intro g
  refine rows0_rest (names := first7 ++ names14) X ?f1 (.inr ⟨_, by k_mem, rfl, _, rfl⟩) (fun _ => rfl) (fun _ => rfl) ?f2
  · intro i v hv
    rw [List.getElem?_toArray] at hv
    exact strs_get (ys := first7 ++ names14) (by unfold first7 names14; repeat constructor) hv
  intro rs hrs hrn hro
  unfold LCg.FinE
  intro Dh h7 tk7 F7 N7 o7
  try dsimp only
  (repeat' ((((fail_if_success (with_reducible show Hold _)); (fail_if_success (with_reducible show wpAny _ _ (pyIter _) _ _ _)); (fail_if_success (with_reducible show wpAny _ _ (call (Value.ref _) _ _) _ _ _)); (fail_if_success (with_reducible show wpAny _ _ (call (Value.builtin "sorted") _ _) _ _ _)); (fail_if_success (with_reducible show wpAny _ _ (eval (Expr.ListComp _ _ _ _) _) _ _ _)); (fail_if_success (with_reducible show wpAny _ _ (execs (Stmt.For _ _ _ _ _ :: _) _) _ _ _)); (fail_if_success (with_reducible show LCg.CompSrc _ _ _ _ _ _ _ _ _ _ _ _ _ _)); (fail_if_success (with_reducible show wpAny _ _ (compareOp CmpOp.NotEq (Value.ref _) (Value.ref _)) _ _ _)); first | (k_unfold; (try dsimp only)) | (k_end; wrow_close) | walk1 | (dsimp only; walk1) | (leave1; walk_say "STEP leave1"; try dsimp only)))))
  refine Exists.elim (start_ok (w := w) (np := np) (nf := nf) (t1 := t1) (t2 := t2) (c1 := c1) (c2 := c2) (c3 := c3) (c4 := c4) (a1 := a1) (a2 := a2) (a3 := a3) (a4 := a4) (a5 := a5) (a6 := a6) (e1 := e1) (e2 := e2) (e3 := e3) (e4 := e4) (e5 := e5) (b1 := b1) (b2 := b2) (b3 := b3) (b4 := b4) (b5 := b5) (b6 := b6) (b7 := b7) (tl := tl) (nk := nk) (no := no) (on := on) (pl := pl) (fl := fl) (ax := ax) (ad := ad) (ak := ak) (sx := sx) (sd := sd) (nd := nd) (od := od) (cc := L + 1) (co := co) (h₀ := h₀) (its := its) (R := R) (rs := rs) (by assumption) ?y1 ?y2 ?y3 ?y4 hro hnd hR hco hI hfl hm1 hm2 hlo hkv hgood hnm hrs hT) ?y5
  case y5 =>
    intro v hv
    exact hloop _ _ _ _ v (by assumption) ⟨rfl, rfl, rfl, rfl, rfl⟩ rfl hv.1 hv.2
  case y1 =>
    exact List.forall_mem_cons.mpr ⟨by k_mem, List.forall_mem_cons.mpr ⟨by k_mem, List.forall_mem_cons.mpr ⟨by k_mem, List.forall_mem_cons.mpr ⟨by k_mem, List.forall_mem_cons.mpr ⟨by k_mem, List.forall_mem_cons.mpr ⟨by k_mem, List.forall_mem_cons.mpr ⟨by k_mem, List.forall_mem_cons.mpr ⟨by k_mem, List.forall_mem_cons.mpr ⟨by k_mem, List.forall_mem_cons.mpr ⟨by k_mem, fun q hq => by k_mem⟩⟩⟩⟩⟩⟩⟩⟩⟩⟩
  case y4 => exact off1_mem _ o7
  case y2 => k_all
  case y3 => k_all
end
example {M : Model} {A : Around} {E : Value → Shared → Prop} {s : Shared} {Q : Flow → Shared → Prop} {env : Env} (h : Q .next s) : wpAny M A (execs [] env) Q E s := by
  first | (walk1; exact h) | exact fun _ _ _ => h
-- M1
end
end
end
example {M : Model} {A : Around} {E : Value → Shared → Prop} {s : Shared} {Q : Flow → Shared → Prop} {env : Env} (h : Q .next s) : wpAny M A (execs [] env) Q E s := by
  first | (walk1; exact h) | exact fun _ _ _ => h
section
local macro_rules | `(tactic| k_all) => `(tactic| first | exact List.forall_mem_nil _ | (refine' List.forall_mem_cons.mpr ⟨?a, ?b⟩; (case a => k_ne); (case b => k_all)) | (with_reducible assumption))
section
local macro_rules | `(tactic| k_mem) => `(tactic| first | exact List.Mem.head _ | (with_reducible assumption) | (refine' List.mem_cons_of_mem _ ?_; k_mem))
section
namespace Zlawwalk
def zSt (w : World) (A₀ : Around) (base : Heap) (h₀ : Heap) (outer : List Env) (L : Addr) (fa : Addr) (l : Addr) (cd : Value) (m : Str → Option Value) (mg : Str → Option Value) (mb : Str → Option Value) (mean : ExcName → Option Value) (s : Shared) (d : Nat) (u : Nat) (vs : List Value) (ns : List Int) (E : Value → Shared → Prop) (Q : Flow → Shared → Prop) (co : Obj) : Prop := ∀ (B : Below A₀ base outer h₀) (F : Fr h₀ L s.heap m) (hm : m (Str.ofString "script") = some (.ref l)) (X : (Mine.fr.heap_1 w.params).In h₀) (N : News h₀ L s.heap [(L + 1, co)]) (hco : co.data = .cell none) (T : Top Mine.vw (looseW Mine.vw []) mean mg mb h₀) (hd : d < 700) (hu : u < 9000) (hl : h₀.IsList l vs.toArray) (hI : IntsAre vs ns) (hlay : (PyData.list (List.map PyData.int ns)).layable0 = true) (hloop : ∀ h' tk m' K v, Fr h₀ L h' m' → Pins K m' → K.cc = L + 1 → News h₀ L h' (led K v) → Ok K w [] 0 v → wpAny (model Challenge.rw_nu0320_01.row.prog w) { handled := none, depth := d, frames := some (lawEnv L fa cd :: outer), guards := some [], units := u } (execs (drop5 (drop4 lawBody)) (lawEnv L fa cd)) Q E { s with heap := h', toks := tk }), wpAny (model Challenge.rw_nu0320_01.row.prog w) { handled := none, depth := d, frames := some (lawEnv L fa cd :: outer), guards := some [], units := u } (execs lawBody (lawEnv L fa cd)) Q E s
def zSc (zz : (World) × (Around) × (Heap) × (Heap) × (List Env) × (Addr) × (Addr) × (Addr) × (Value) × (Str → Option Value) × (Str → Option Value) × (Str → Option Value) × (ExcName → Option Value) × (Shared) × (Nat) × (Nat) × (List Value) × (List Int) × (Value → Shared → Prop) × (Flow → Shared → Prop) × (Obj)) : Prop := zSt zz.1 zz.2.1 zz.2.2.1 zz.2.2.2.1 zz.2.2.2.2.1 zz.2.2.2.2.2.1 zz.2.2.2.2.2.2.1 zz.2.2.2.2.2.2.2.1 zz.2.2.2.2.2.2.2.2.1 zz.2.2.2.2.2.2.2.2.2.1 zz.2.2.2.2.2.2.2.2.2.2.1 zz.2.2.2.2.2.2.2.2.2.2.2.1 zz.2.2.2.2.2.2.2.2.2.2.2.2.1 zz.2.2.2.2.2.2.2.2.2.2.2.2.2.1 zz.2.2.2.2.2.2.2.2.2.2.2.2.2.2.1 zz.2.2.2.2.2.2.2.2.2.2.2.2.2.2.2.1 zz.2.2.2.2.2.2.2.2.2.2.2.2.2.2.2.2.1 zz.2.2.2.2.2.2.2.2.2.2.2.2.2.2.2.2.2.1 zz.2.2.2.2.2.2.2.2.2.2.2.2.2.2.2.2.2.2.1 zz.2.2.2.2.2.2.2.2.2.2.2.2.2.2.2.2.2.2.2.1 zz.2.2.2.2.2.2.2.2.2.2.2.2.2.2.2.2.2.2.2.2
theorem zNe : Nonempty ((World) × (Around) × (Heap) × (Heap) × (List Env) × (Addr) × (Addr) × (Addr) × (Value) × (Str → Option Value) × (Str → Option Value) × (Str → Option Value) × (ExcName → Option Value) × (Shared) × (Nat) × (Nat) × (List Value) × (List Int) × (Value → Shared → Prop) × (Flow → Shared → Prop) × (Obj)) := ⟨(dWorld, dAround, default, default, default, default, default, default, default, default, default, default, default, dShared, default, default, default, default, default, default, default)⟩
noncomputable def zC : (World) × (Around) × (Heap) × (Heap) × (List Env) × (Addr) × (Addr) × (Addr) × (Value) × (Str → Option Value) × (Str → Option Value) × (Str → Option Value) × (ExcName → Option Value) × (Shared) × (Nat) × (Nat) × (List Value) × (List Int) × (Value → Shared → Prop) × (Flow → Shared → Prop) × (Obj) := @Classical.epsilon _ zNe fun c => ¬ zSc c
noncomputable def w : World := zC.1
noncomputable def A₀ : Around := zC.2.1
noncomputable def base : Heap := zC.2.2.1
noncomputable def h₀ : Heap := zC.2.2.2.1
noncomputable def outer : List Env := zC.2.2.2.2.1
noncomputable def L : Addr := zC.2.2.2.2.2.1
noncomputable def fa : Addr := zC.2.2.2.2.2.2.1
noncomputable def l : Addr := zC.2.2.2.2.2.2.2.1
noncomputable def cd : Value := zC.2.2.2.2.2.2.2.2.1
noncomputable def m : Str → Option Value := zC.2.2.2.2.2.2.2.2.2.1
noncomputable def mg : Str → Option Value := zC.2.2.2.2.2.2.2.2.2.2.1
noncomputable def mb : Str → Option Value := zC.2.2.2.2.2.2.2.2.2.2.2.1
noncomputable def mean : ExcName → Option Value := zC.2.2.2.2.2.2.2.2.2.2.2.2.1
noncomputable def s : Shared := zC.2.2.2.2.2.2.2.2.2.2.2.2.2.1
noncomputable def d : Nat := zC.2.2.2.2.2.2.2.2.2.2.2.2.2.2.1
noncomputable def u : Nat := zC.2.2.2.2.2.2.2.2.2.2.2.2.2.2.2.1
noncomputable def vs : List Value := zC.2.2.2.2.2.2.2.2.2.2.2.2.2.2.2.2.1
noncomputable def ns : List Int := zC.2.2.2.2.2.2.2.2.2.2.2.2.2.2.2.2.2.1
noncomputable def E : Value → Shared → Prop := zC.2.2.2.2.2.2.2.2.2.2.2.2.2.2.2.2.2.2.1
noncomputable def Q : Flow → Shared → Prop := zC.2.2.2.2.2.2.2.2.2.2.2.2.2.2.2.2.2.2.2.1
noncomputable def co : Obj := zC.2.2.2.2.2.2.2.2.2.2.2.2.2.2.2.2.2.2.2.2
theorem zCore (B : Below A₀ base outer h₀) (F : Fr h₀ L s.heap m) (hm : m (Str.ofString "script") = some (.ref l)) (X : (Mine.fr.heap_1 w.params).In h₀) (N : News h₀ L s.heap [(L + 1, co)]) (hco : co.data = .cell none) (T : Top Mine.vw (looseW Mine.vw []) mean mg mb h₀) (hd : d < 700) (hu : u < 9000) (hl : h₀.IsList l vs.toArray) (hI : IntsAre vs ns) (hlay : (PyData.list (List.map PyData.int ns)).layable0 = true) (hloop : ∀ h' tk m' K v, Fr h₀ L h' m' → Pins K m' → K.cc = L + 1 → News h₀ L h' (led K v) → Ok K w [] 0 v → wpAny (model Challenge.rw_nu0320_01.row.prog w) { handled := none, depth := d, frames := some (lawEnv L fa cd :: outer), guards := some [], units := u } (execs (drop5 (drop4 lawBody)) (lawEnv L fa cd)) Q E { s with heap := h', toks := tk }) : wpAny (model Challenge.rw_nu0320_01.row.prog w) { handled := none, depth := d, frames := some (lawEnv L fa cd :: outer), guards := some [], units := u } (execs lawBody (lawEnv L fa cd)) Q E s := by
  revert X; k_fill; intro X
  unfold lawBody lawEnv lawScope lawName lawRec recOf
  try dsimp only
  rw [map_eq1 hm] at F
  (repeat' ((((fail_if_success (with_reducible show Hold _)); (fail_if_success (with_reducible show wpAny _ _ (pyIter _) _ _ _)); (fail_if_success (with_reducible show wpAny _ _ (call (Value.ref _) _ _) _ _ _)); first | (k_unfold; (try dsimp only)) | (k_end; wrow_close) | walk1 | (dsimp only; walk1) | (leave1; walk_say "STEP leave1"; try dsimp only)))))
  refine pool_spec B (by assumption) (by assumption) (by assumption) T rfl rfl (by omega) hl hI hlay ?_
  intro h1 tk1 p f vs1 figs mx np nf t1 t2 F1 N1 hI1 hl1 hm1 hm2 u1 u2 u3
  simp only [List.forall_mem_cons] at u1 u2
  try dsimp only
  (repeat' ((((fail_if_success (with_reducible show Hold _)); (fail_if_success (with_reducible show wpAny _ _ (pyIter _) _ _ _)); (fail_if_success (with_reducible show wpAny _ _ (call (Value.ref _) _ _) _ _ _)); first | (k_unfold; (try dsimp only)) | (k_end; wrow_close) | walk1 | (dsimp only; walk1) | (leave1; walk_say "STEP leave1"; try dsimp only)))))
  refine types_spec B (by assumption) (by assumption) (by assumption) T rfl rfl (by omega) ?_
  intro h2 tk2 imm td tes tnn tx tb tc ty ti tm tn F2 N2 hT u4
  replace N2 := news_comm N2
  have hTi := hT.inst
  have hTd := hT.dict
  simp only [List.forall_mem_cons] at u4
  try dsimp only at N2 ⊢
  simp only [List.cons_append, List.nil_append] at N2
  (repeat' ((((fail_if_success (with_reducible show Hold _)); (fail_if_success (with_reducible show wpAny _ _ (pyIter _) _ _ _)); (fail_if_success (with_reducible show wpAny _ _ (call (Value.ref _) _ _) _ _ _)); first | (k_unfold; (try dsimp only)) | (k_end; wrow_close) | walk1 | (dsimp only; walk1) | (leave1; walk_say "STEP leave1"; try dsimp only)))))
  rename Nat => tkM
  refine scopes_spec B (by assumption) (by assumption) (by assumption) T rfl rfl (by omega) ?_
  intro h3 tk3 ax ad ak sx sd nd od on c1 c2 c3 c4 e1 e2 e3 e4 e5 a1 a2 a3 a4 a6 b1 b2 b3 b4 b5 b6 b7 tl nk no F3 hon hlo hnd7 N3 u5
  simp only [List.cons_append, List.nil_append] at N3
  simp only [List.nil_append, List.forall_mem_cons] at u5
  try dsimp only
  (repeat' ((((fail_if_success (with_reducible show Hold _)); (fail_if_success (with_reducible show wpAny _ _ (pyIter _) _ _ _)); (fail_if_success (with_reducible show wpAny _ _ (call (Value.ref _) _ _) _ _ _)); first | (k_unfold; (try dsimp only)) | (k_end; wrow_close) | walk1 | (dsimp only; walk1) | (leave1; walk_say "STEP leave1"; try dsimp only)))))
  have hnd7' := hnd7
  simp only [List.nodup_cons, List.mem_cons, not_or, List.not_mem_nil, not_false_eq_true, and_true, List.nodup_nil] at hnd7'
  have htx : ∀ a, (∀ q ∈ imm, q.1 ≠ a) → tx ≠ a ∧ td ≠ a := fun a h => ⟨h _ hTi, h _ hTd⟩
  refine fill_spec (kpre := []) (td := td) (tes := tes) (tnn := tnn) (tx := tx) B (by assumption) (by assumption) (by assumption) T rfl rfl (by omega) (List.forall_mem_cons.mpr ⟨by k_mem, List.forall_mem_cons.mpr ⟨by k_mem, List.forall_mem_cons.mpr ⟨by k_mem, List.forall_mem_cons.mpr ⟨by k_mem, List.forall_mem_cons.mpr ⟨by k_mem, List.forall_mem_cons.mpr ⟨by k_mem, List.forall_mem_cons.mpr ⟨by k_mem, List.forall_mem_cons.mpr ⟨by k_mem, List.forall_mem_cons.mpr ⟨by k_mem, List.forall_mem_nil _⟩⟩⟩⟩⟩⟩⟩⟩⟩) hnd7 ?_ ?_ ?_ ?_ ?_ ?_ hon ?_ hT.boolean hT.char hT.byte hT.integer hT.mask hT.none ?_
  · exact (htx _ u5.2.2.2.2.1.2.2.2).1
  · exact (htx _ u5.2.2.2.2.2.1.2.2.2).1
  · exact (htx _ u5.2.2.2.2.2.2.1.2.2.2).1
  · exact (htx _ u5.2.2.2.2.1.2.2.2).2
  · exact (htx _ u5.2.2.2.2.2.1.2.2.2).2
  · exact (htx _ u5.2.2.2.2.2.2.1.2.2.2).2
  · exact hlo
  intro h4 tk4 its R on4 no4 t4 F4 hkv4 hgood hnm4 hoff4 hN4
  obtain ⟨⟨w1, w2, w3, w4⟩, ⟨w5, w6, w7, w8⟩, ⟨w9, w10, w11, w12⟩, ⟨w13, w14, w15, w16⟩, ⟨w17, w18, w19, w20⟩, ⟨w21, w22, w23, w24⟩, ⟨w25, w26, w27, w28⟩, w29⟩ := u5
  obtain ⟨⟨k1, k2, k3, k4, k5, k6⟩, ⟨k7, k8, k9, k10, k11⟩, ⟨k12, k13, k14, k15⟩, ⟨k16, k17, k18⟩, ⟨k19, k20⟩, k21⟩ := hnd7'
  have v1 := u1.1
  have v2 := u2.1
  have N4 := hN4 ((p, listOf #[.ref f, .int 0 t1, .int mx t2] np) :: (f, listOf vs1.toArray nf) :: (ax, instObj 172 ad) :: (ad, scopesD c1 c2 c3 c4 a1 a2 a3 a4 (.ref tx) (.str (Str.ofString "M") tkM) ak (-1) a6) :: (ak, listOf ([] ++ [Value.ref sx]).toArray nk) :: (L + 1, co) :: (sx, instObj 109 sd) ::
    (sd, scopeD e1 e2 e3 e4 e5 b1 b2 b3 b4 b5 (-1) b6 (.str (Str.ofString "") tl) nd od 0 t4) :: (nd, on4) :: (od, listOf (its.map OI.rf).toArray no4) :: (R ++ imm)) ?n4
  case n4 =>
    intro q hq
    rcases List.mem_cons.mp hq with rfl | hq
    · exact .inr ⟨by k_mem, w17, w21, w25⟩
    rcases List.mem_cons.mp hq with rfl | hq
    · exact .inr ⟨by k_mem, w18, w22, w26⟩
    rcases List.mem_cons.mp hq with rfl | hq
    · exact .inr ⟨by k_mem, k4, k5, k6⟩
    rcases List.mem_cons.mp hq with rfl | hq
    · exact .inr ⟨by k_mem, k9, k10, k11⟩
    rcases List.mem_cons.mp hq with rfl | hq
    · exact .inr ⟨by k_mem, k13, k14, k15⟩
    rcases List.mem_cons.mp hq with rfl | hq
    · exact .inr ⟨by k_mem, w19, w23, w27⟩
    rcases List.mem_cons.mp hq with rfl | hq
    · exact .inr ⟨by k_mem, k16, k17, k18⟩
    rcases List.mem_cons.mp hq with rfl | hq
    · exact .inl (.head _)
    rcases List.mem_cons.mp hq with rfl | hq
    · exact .inl (.tail _ (.head _))
    rcases List.mem_cons.mp hq with rfl | hq
    · exact .inl (.tail _ (.tail _ (.head _)))
    rcases List.mem_append.mp hq with hq | hq
    · exact .inl (.tail _ (.tail _ (.tail _ hq)))
    · exact .inr ⟨by k_mem, w20 q hq, w24 q hq, w28 q hq⟩
  try dsimp only
  refine law_mid B F4 (by assumption) T hd hu rfl rfl rfl N4 ?hnd ?hR hco hI1 hl1 hm1 hm2 hlo hkv4 (fun i hi => (hgood i hi).mono (fun q hq => List.mem_append_left _ hq)) hnm4 (hT.mono (fun q hq => List.mem_append_right _ hq)) hloop
  case hnd =>
    simp only [List.nodup_cons, List.mem_cons, not_or, List.not_mem_nil, not_false_eq_true, and_true, List.nodup_nil]
    exact ⟨⟨u3, w1, w5, w9, Ne.symm v1, w13, w17, w21, w25⟩, ⟨w2, w6, w10, Ne.symm v2, w14, w18, w22, w26⟩, ⟨k1, k2, Ne.symm w3, k3, k4, k5, k6⟩, ⟨k7, Ne.symm w7, k8, k9, k10, k11⟩, ⟨Ne.symm w11, k12, k13, k14, k15⟩, ⟨w15, w19, w23, w27⟩, ⟨k16, k17, k18⟩, ⟨k19, k20⟩, k21⟩
  case hR =>
    intro a ha q hq
    simp only [List.mem_cons, List.not_mem_nil, or_false] at ha
    rcases List.mem_append.mp hq with hq | hq
    · have ho := hoff4 q hq
      simp only [List.forall_mem_cons] at ho
      obtain ⟨o1, o2, o3, o4, o5, o6, o7, o8, o9, o10, _⟩ := ho
      rcases ha with rfl | rfl | rfl | rfl | rfl | rfl | rfl | rfl | rfl | rfl
      · exact Ne.symm o8
      · exact Ne.symm o9
      · exact Ne.symm o1
      · exact Ne.symm o2
      · exact Ne.symm o3
      · exact Ne.symm o10
      · exact Ne.symm o4
      · exact Ne.symm o5
      · exact Ne.symm o6
      · exact Ne.symm o7
    · have ho := u4 q hq
      rcases ha with rfl | rfl | rfl | rfl | rfl | rfl | rfl | rfl | rfl | rfl
      · exact Ne.symm ho.1
      · exact Ne.symm ho.2.1
      · exact w4 q hq
      · exact w8 q hq
      · exact w12 q hq
      · exact Ne.symm ho.2.2.1
      · exact w16 q hq
      · exact w20 q hq
      · exact w24 q hq
      · exact w28 q hq
end Zlawwalk
theorem law_walk {w : World} {A₀ : Around} {base : Heap} {h₀ : Heap} {outer : List Env} {L : Addr} {fa : Addr} {l : Addr} {cd : Value} {m : Str → Option Value} {mg : Str → Option Value} {mb : Str → Option Value} {mean : ExcName → Option Value} {s : Shared} {d : Nat} {u : Nat} {vs : List Value} {ns : List Int} {E : Value → Shared → Prop} {Q : Flow → Shared → Prop} {co : Obj} (B : Below A₀ base outer h₀) (F : Fr h₀ L s.heap m) (hm : m (Str.ofString "script") = some (.ref l)) (X : (Mine.fr.heap_1 w.params).In h₀) (N : News h₀ L s.heap [(L + 1, co)]) (hco : co.data = .cell none) (T : Top Mine.vw (looseW Mine.vw []) mean mg mb h₀) (hd : d < 700) (hu : u < 9000) (hl : h₀.IsList l vs.toArray) (hI : IntsAre vs ns) (hlay : (PyData.list (List.map PyData.int ns)).layable0 = true) (hloop : ∀ h' tk m' K v, Fr h₀ L h' m' → Pins K m' → K.cc = L + 1 → News h₀ L h' (led K v) → Ok K w [] 0 v → wpAny (model Challenge.rw_nu0320_01.row.prog w) { handled := none, depth := d, frames := some (lawEnv L fa cd :: outer), guards := some [], units := u } (execs (drop5 (drop4 lawBody)) (lawEnv L fa cd)) Q E { s with heap := h', toks := tk }) :
    wpAny (model Challenge.rw_nu0320_01.row.prog w) { handled := none, depth := d, frames := some (lawEnv L fa cd :: outer), guards := some [], units := u } (execs lawBody (lawEnv L fa cd)) Q E s :=
  (eps_all (ne := Zlawwalk.zNe) (P := Zlawwalk.zSc) Zlawwalk.zCore : ∀ c, Zlawwalk.zSc c) (w, A₀, base, h₀, outer, L, fa, l, cd, m, mg, mb, mean, s, d, u, vs, ns, E, Q, co) B F hm X N hco T hd hu hl hI hlay hloop
end
-- D7
end
example {M : Model} {A : Around} {E : Value → Shared → Prop} {s : Shared} {Q : Flow → Shared → Prop} {env : Env} (h : Q .next s) : wpAny M A (execs [] env) Q E s := by
  first | (walk1; exact h) | exact fun _ _ _ => h
section
local macro_rules | `(tactic| k_room) => `(tactic| (simp only [depth_under_make, depth_under_kw, depth_in1, depth_deeper, recursionLimit] at *; omega))
section
local macro_rules | `(tactic| walk_at "subscriptTail") => `(tactic| (k_here; (with_reducible show wpAny _ _ (subscriptTail _ _ (Value.ref _) (Value.int (-1) _)) _ _ _); k_dflt (refine' item_last ?N ?m ?_ ?hs; (case N => k_asm); (case m => k_mem); (case hs => with_unfolding_all rfl); k_whole)))
section
theorem cur_spec {w : World} {A₀ : Around} {base h₀ : Heap} {outer : List Env} {env : Env} {d u : Nat} {L : Addr} {m mg mb : Str → Option Value} {mean : ExcName → Option Value} {news : List (Addr × Obj)} {s : Shared}
    {E : Value → Shared → Prop} {Q : Value → Shared → Prop} {ax ad ak : Addr} {ks : List Value} {vtypes v : Value} {lv : Int} {c1 c2 c3 c4 : Int} {a1 a2 a3 a4 a5 a6 : Tok} {nk : Nat}
    (B : Below A₀ base outer h₀) (F : Fr h₀ L s.heap m) (X : (Mine.fr.heap_1 w.params).In h₀) (N : News h₀ L s.heap news) (T : Top Mine.vw (looseW Mine.vw []) mean mg mb h₀)
    (hf : env.frame = some L) (hke : env.scope.kind = .function) (hd : d < 800)
    (hsmall : ∀ q ∈ [(ax, instObj 172 ad), (ad, scopesD c1 c2 c3 c4 a1 a2 a3 a4 vtypes (.str (Str.ofString "M") a5) ak lv a6), (ak, listOf (ks ++ [v]).toArray nk)], q ∈ news)
    (h : ∀ (h' : Heap) (tk : Nat), Fr h₀ L h' m → News h₀ L h' news → Q v { s with heap := h', toks := tk }) :
    wpAny (model Challenge.rw_nu0320_01.row.prog w) { handled := none, depth := d, frames := some (env :: outer), guards := some [], units := u } (call (.ref 148) [.ref ax]) Q E s := by
  revert X; k_fill; intro X
  refine wpAny_call ?_
  have N2 := news_sub N hsmall
  refine' code_defG B F X N2 T ?kA hf hke ?k6 ?k7 ?k8 ?k9 ?kB ?_ ?c2 ?c3 ?c4 ?c5; (case kA => exact rfl); (case k6 => k_is); (case k7 => k_is); (case k8 => k_room); (case k9 => exact BindsTo.of_eq rfl); (case c5 => decide); (case kB => exact locs rfl); (case c2 => exact rfl); (case c3 => exact rfl); (case c4 => exact rfl)
  intro g' L' h' FG' F' N' B' X' T' GS
  try dsimp only
  refine hold_post ?_
  k_fold
  (repeat' ((((fail_if_success (with_reducible show Hold _)); first | (k_unfold; (try dsimp only)) | (k_end; wrow_close) | walk1 | (dsimp only; walk1) | (leave1; walk_say "STEP leave1"; try dsimp only)))))
  try k_unfold
  try dsimp only
  refine ⟨leaveK_ (by assumption) (by assumption) ?_⟩; intro kF kN
  exact h _ _ kF (news_frame N hsmall GS (Fr.keep (by assumption)) kN (by intro q hq; exact .inr ⟨hq, fun r hr _ => hr⟩))
end
-- L1
end
end
end
example {M : Model} {A : Around} {E : Value → Shared → Prop} {s : Shared} {Q : Flow → Shared → Prop} {env : Env} (h : Q .next s) : wpAny M A (execs [] env) Q E s := by
  first | (walk1; exact h) | exact fun _ _ _ => h
section
local macro_rules | `(tactic| k_all) => `(tactic| first | exact List.forall_mem_nil _ | (with_reducible assumption) | (refine' List.forall_mem_cons.mpr ⟨?a, ?b⟩; (case a => k_ne); (case b => k_all)) | exact allLt_ne (by iterate 27 (try (first | (with_reducible assumption) | apply And.right))))
section
local macro_rules | `(tactic| k_room) => `(tactic| ((try simp only [depth_under_make, depth_under_kw, depth_in1, depth_deeper, recursionLimit]); omega))
section
local macro_rules | `(tactic| k_mem) => `(tactic| first | exact List.Mem.head _ | (with_reducible assumption) | (refine' List.mem_cons_of_mem _ ?_; k_mem))
section
local macro_rules | `(tactic| walk_at "call builtin:len") => `(tactic| (k_here; (with_reducible show wpAny _ _ (call (Value.builtin _) [Value.ref _]) _ _ _); k_dflt (refine' len_L ?N ?m ?e ?z ?_; (case N => k_asm); (case m => k_mem); (case e => (simp only [List.length_append, List.length_map, List.length_cons, List.length_nil]; exact rfl)); (case z => (try dsimp only); omega); k_whole); (try dsimp only)))
section
local macro_rules | `(tactic| walk_at "compareOp NotEq int int") => `(tactic| (refine ne_int_same (by omega) ?_))
section
local macro_rules | `(tactic| walk_at "compareOp NotEq str str") => `(tactic| (with_reducible refine ne_str_same ?_))
section
local macro_rules | `(tactic| walk_at "call builtin:list.append") => `(tactic| (k_here; (with_reducible show wpAny _ _ (call (Value.builtin _) [Value.ref _, _]) _ _ _); k_dflt (refine' append_L ?k1 ?k2 ?k3 ?_ ?z; (case k1 => k_asm); (case k2 => k_asm); (case k3 => k_upd); (case z => (rw [sizeLine_eq]; (try simp only [List.length_append, List.length_map, List.length_cons, List.length_nil]); omega)); k_whole); intro h' F' N'; (try k_sweep)))
section
local macro_rules | `(tactic| walk_at "subscriptTail") => `(tactic| (k_here; (with_reducible show wpAny _ _ (subscriptTail _ _ (Value.ref _) (Value.int (-1) _)) _ _ _); k_dflt (refine' item_last ?N ?m ?_ ?hs; (case N => k_asm); (case m => k_mem); (case hs => with_unfolding_all rfl); k_whole)))
section
theorem sv_top (f : Frm) : f.sv = .ref f.sx := rfl
theorem hv_top (f : Frm) : f.hv = .ref f.ha := rfl
theorem lv_top (f : Frm) : f.lv = .str f.lab f.ll := rfl
theorem item_menu {prog : Program} {w : World} {A : Around} {E : Value → Shared → Prop} {s : Shared} {h₀ : Heap} {L D : Addr} {news : List (Addr × Obj)} {value slice : Expr} {vs : List Value} {ys : List Str} {n : Nat} {r : Int} {u : Tok} {Q : Value → Shared → Prop} (N : News h₀ L s.heap news) (hm : (D, listOf vs.toArray n) ∈ news) (hS : StrsAre vs ys) (h0 : 0 ≤ r) (h1 : r < ys.length) (hz : ys.length ≤ 1000)
    (h : ∀ x t, x ∈ ys → Q (.str x t) s) (hs : subscripted slice false (.ref D) (.int r u) = operate [.ref D, .int r u] (getItem (.ref D) (.int r u)) := by with_unfolding_all rfl) :
    wpAny (model prog w) A (subscriptTail value slice (.ref D) (.int r u)) Q E s := by
  have hl : s.heap.IsList D vs.toArray := ⟨_, (N _ hm).1, rfl, n, rfl⟩
  have e := hS.length
  have hi : r.toNat < vs.length := by omega
  have hv : vs[r.toNat]? = some (vs[r.toNat]) := List.getElem?_eq_getElem hi
  obtain ⟨x, t, e1, e2⟩ := strs_get hS hv
  refine tail_any hl.typeIs slot_list_getitem.lookup (wpAny_getItem_list hl h0 (by omega) (by rw [List.getElem?_toArray]; exact hv) ?_) hs
  rw [e1]
  exact h x t (List.mem_of_getElem? e2)
namespace ZbrAspec
def zSt (w : World) (A₀ : Around) (base : Heap) (h₀ : Heap) (outer : List Env) (L : Addr) (fa : Addr) (cd : Value) (m : Str → Option Value) (mg : Str → Option Value) (mb : Str → Option Value) (mean : ExcName → Option Value) (s : Shared) (d : Nat) (u : Nat) (E : Value → Shared → Prop) (Q : Flow → Shared → Prop) (K : Cst) (v : Var) (Ow : List (Addr × Obj)) (j : Nat) : Prop := ∀ (B : Below A₀ base outer h₀) (F : Fr h₀ L s.heap m) (X : (Mine.fr.heap_1 w.params).In h₀) (T : Top Mine.vw (looseW Mine.vw []) mean mg mb h₀) (hd : d < 700) (hu : u < 8000) (P : Pins K m) (N : News h₀ L s.heap (led K v ++ Ow)) (O : Ok K w Ow j v) (hlen : v.low.length + 1 < 7) (hQ : ∀ h' tk m' v', Fr h₀ L h' m' → Pins K m' → News h₀ L h' (led K v' ++ Ow) → Ok K w Ow (j + 1) v' → Q .next { s with heap := h', toks := tk }), wpAny (model Challenge.rw_nu0320_01.row.prog w) { handled := none, depth := d, frames := some (lawEnv L fa cd :: outer), guards := some [], units := u } (execs brA (lawEnv L fa cd)) Q E s
def zSc (zz : (World) × (Around) × (Heap) × (Heap) × (List Env) × (Addr) × (Addr) × (Value) × (Str → Option Value) × (Str → Option Value) × (Str → Option Value) × (ExcName → Option Value) × (Shared) × (Nat) × (Nat) × (Value → Shared → Prop) × (Flow → Shared → Prop) × (Cst) × (Var) × (List (Addr × Obj)) × (Nat)) : Prop := zSt zz.1 zz.2.1 zz.2.2.1 zz.2.2.2.1 zz.2.2.2.2.1 zz.2.2.2.2.2.1 zz.2.2.2.2.2.2.1 zz.2.2.2.2.2.2.2.1 zz.2.2.2.2.2.2.2.2.1 zz.2.2.2.2.2.2.2.2.2.1 zz.2.2.2.2.2.2.2.2.2.2.1 zz.2.2.2.2.2.2.2.2.2.2.2.1 zz.2.2.2.2.2.2.2.2.2.2.2.2.1 zz.2.2.2.2.2.2.2.2.2.2.2.2.2.1 zz.2.2.2.2.2.2.2.2.2.2.2.2.2.2.1 zz.2.2.2.2.2.2.2.2.2.2.2.2.2.2.2.1 zz.2.2.2.2.2.2.2.2.2.2.2.2.2.2.2.2.1 zz.2.2.2.2.2.2.2.2.2.2.2.2.2.2.2.2.2.1 zz.2.2.2.2.2.2.2.2.2.2.2.2.2.2.2.2.2.2.1 zz.2.2.2.2.2.2.2.2.2.2.2.2.2.2.2.2.2.2.2.1 zz.2.2.2.2.2.2.2.2.2.2.2.2.2.2.2.2.2.2.2.2
theorem zNe : Nonempty ((World) × (Around) × (Heap) × (Heap) × (List Env) × (Addr) × (Addr) × (Value) × (Str → Option Value) × (Str → Option Value) × (Str → Option Value) × (ExcName → Option Value) × (Shared) × (Nat) × (Nat) × (Value → Shared → Prop) × (Flow → Shared → Prop) × (Cst) × (Var) × (List (Addr × Obj)) × (Nat)) := ⟨(dWorld, dAround, default, default, default, default, default, default, default, default, default, default, dShared, default, default, default, default, dCst, dVar, default, default)⟩
noncomputable def zC : (World) × (Around) × (Heap) × (Heap) × (List Env) × (Addr) × (Addr) × (Value) × (Str → Option Value) × (Str → Option Value) × (Str → Option Value) × (ExcName → Option Value) × (Shared) × (Nat) × (Nat) × (Value → Shared → Prop) × (Flow → Shared → Prop) × (Cst) × (Var) × (List (Addr × Obj)) × (Nat) := @Classical.epsilon _ zNe fun c => ¬ zSc c
noncomputable def w : World := zC.1
noncomputable def A₀ : Around := zC.2.1
noncomputable def base : Heap := zC.2.2.1
noncomputable def h₀ : Heap := zC.2.2.2.1
noncomputable def outer : List Env := zC.2.2.2.2.1
noncomputable def L : Addr := zC.2.2.2.2.2.1
noncomputable def fa : Addr := zC.2.2.2.2.2.2.1
noncomputable def cd : Value := zC.2.2.2.2.2.2.2.1
noncomputable def m : Str → Option Value := zC.2.2.2.2.2.2.2.2.1
noncomputable def mg : Str → Option Value := zC.2.2.2.2.2.2.2.2.2.1
noncomputable def mb : Str → Option Value := zC.2.2.2.2.2.2.2.2.2.2.1
noncomputable def mean : ExcName → Option Value := zC.2.2.2.2.2.2.2.2.2.2.2.1
noncomputable def s : Shared := zC.2.2.2.2.2.2.2.2.2.2.2.2.1
noncomputable def d : Nat := zC.2.2.2.2.2.2.2.2.2.2.2.2.2.1
noncomputable def u : Nat := zC.2.2.2.2.2.2.2.2.2.2.2.2.2.2.1
noncomputable def E : Value → Shared → Prop := zC.2.2.2.2.2.2.2.2.2.2.2.2.2.2.2.1
noncomputable def Q : Flow → Shared → Prop := zC.2.2.2.2.2.2.2.2.2.2.2.2.2.2.2.2.1
noncomputable def K : Cst := zC.2.2.2.2.2.2.2.2.2.2.2.2.2.2.2.2.2.1
noncomputable def v : Var := zC.2.2.2.2.2.2.2.2.2.2.2.2.2.2.2.2.2.2.1
noncomputable def Ow : List (Addr × Obj) := zC.2.2.2.2.2.2.2.2.2.2.2.2.2.2.2.2.2.2.2.1
noncomputable def j : Nat := zC.2.2.2.2.2.2.2.2.2.2.2.2.2.2.2.2.2.2.2.2
theorem zCore (B : Below A₀ base outer h₀) (F : Fr h₀ L s.heap m) (X : (Mine.fr.heap_1 w.params).In h₀) (T : Top Mine.vw (looseW Mine.vw []) mean mg mb h₀) (hd : d < 700) (hu : u < 8000) (P : Pins K m) (N : News h₀ L s.heap (led K v ++ Ow)) (O : Ok K w Ow j v) (hlen : v.low.length + 1 < 7) (hQ : ∀ h' tk m' v', Fr h₀ L h' m' → Pins K m' → News h₀ L h' (led K v' ++ Ow) → Ok K w Ow (j + 1) v' → Q .next { s with heap := h', toks := tk }) : wpAny (model Challenge.rw_nu0320_01.row.prog w) { handled := none, depth := d, frames := some (lawEnv L fa cd :: outer), guards := some [], units := u } (execs brA (lawEnv L fa cd)) Q E s := by
  revert X; k_fill; intro X
  unfold brA turnBody lawBody lawEnv lawScope lawName lawRec recOf
  dsimp only [drop4, drop5, headBody, third, thenOf, elseOf]
  rw [P.map] at F
  have hnd := O.tops
  have hR := O.rest
  rw [led_open] at N
  dsimp only [Cst.pool, Cst.adE, Cst.akE, Cst.hmE, Cst.lbE, Cst.ccE, Frm.sdo, sv_top, hv_top, lv_top] at N
  have hfl : (K.fl, listOf K.vs.toArray K.nf) ∈ rest v Ow := List.mem_append_right _ (List.mem_append_left _ O.fl)
  have hax : (K.ax, instObj 172 K.ad) ∈ rest v Ow := List.mem_append_right _ (List.mem_append_left _ O.ax)
  generalize hRe : rest v Ow = R at N hR hfl hax
  unfold tops at hnd hR
  have hnd' := hnd
  simp only [List.nodup_cons, List.mem_cons, not_or, List.not_mem_nil, not_false_eq_true, and_true, List.nodup_nil] at hnd'
  obtain ⟨r1, r2, r3, r4, r5, r6, r7, r8, r9, r10, _⟩ := (by simpa only [OffS, List.forall_mem_cons] using hR : (∀ q ∈ R, q.1 ≠ K.pl) ∧ (∀ q ∈ R, q.1 ≠ K.ad) ∧ (∀ q ∈ R, q.1 ≠ K.ak) ∧ (∀ q ∈ R, q.1 ≠ K.hm) ∧ (∀ q ∈ R, q.1 ≠ K.lb) ∧ (∀ q ∈ R, q.1 ≠ K.cc) ∧ (∀ q ∈ R, q.1 ≠ v.top.sd) ∧ (∀ q ∈ R, q.1 ≠ v.top.nd) ∧ (∀ q ∈ R, q.1 ≠ v.top.od) ∧ (∀ q ∈ R, q.1 ≠ v.top.ha) ∧ _)
  obtain ⟨⟨n1, n2, n3, n4, n5, n6, n7, n8, n9⟩, ⟨n11, n12, n13, n14, n15, n16, n17, n18⟩, ⟨n21, n22, n23, n24, n25, n26, n27⟩, ⟨n31, n32, n33, n34, n35, n36⟩, ⟨n41, n42, n43, n44, n45⟩, ⟨n51, n52, n53, n54⟩, ⟨n61, n62, n63⟩, ⟨n71, n72⟩, n81⟩ := hnd'
  refine hold_post ?_
  k_fold
  (repeat' ((((fail_if_success (with_reducible show Hold _)); (fail_if_success (with_reducible show wpAny _ _ (pyIter _) _ _ _)); (fail_if_success (with_reducible show wpAny _ _ (call (Value.ref _) _ _) _ _ _)); (fail_if_success (with_reducible show wpAny _ _ (compareOp CmpOp.NotEq (Value.ref _) (Value.ref _)) _ _ _)); (fail_if_success (with_reducible show wpAny _ _ (eval (Expr.ListComp _ _ _ _) _) _ _ _)); (fail_if_success (with_reducible show wpAny _ _ (exec (Stmt.Assign _ (Expr.ListComp _ _ _ _) _) _) _ _ _)); (fail_if_success (with_reducible show LCg.CompSrc _ _ _ _ _ _ _ _ _ _ _ _ _ _)); (fail_if_success (with_reducible show LCt.CompSrcT _ _ _ _ _ _ _ _ _ _ _ _ _ _ _)); (fail_if_success (with_reducible show wpAny _ _ (subscriptTail (Expr.List _ _) _ _ _) _ _ _)); (fail_if_success (with_reducible show wpAny _ _ (execs (Stmt.For _ _ _ _ _ :: _) _) _ _ _)); first | (k_unfold; (try dsimp only)) | (k_end; wrow_close) | walk1 | (dsimp only; walk1) | (leave1; walk_say "STEP leave1"; try dsimp only)))))
  refine pick_spec B (by assumption) (by assumption) (by assumption) T rfl rfl (by omega) (by omega) (by k_mem) O.hints (by have := O.figs; omega) (r1 _ hfl) O.i0 O.i1 O.mx0 O.mx1 (by decide) (by decide) (by k_updF) ?_
  intro r tr i' mx' ti' tm' h1 tk1 hr0 hr1 hi0 hi1 hmx0 hmx1 F1 N1
  try dsimp only at N1
  try dsimp only
  refine item_menu (by assumption) (.head _) (ys := [Str.ofString "P", Str.ofString "Q/R", Str.ofString ""]) (by repeat constructor) hr0 hr1 (by decide) ?_
  intro label tlab hlab
  try dsimp only
  (repeat' ((((fail_if_success (with_reducible show Hold _)); (fail_if_success (with_reducible show wpAny _ _ (pyIter _) _ _ _)); (fail_if_success (with_reducible show wpAny _ _ (call (Value.ref _) _ _) _ _ _)); (fail_if_success (with_reducible show wpAny _ _ (compareOp CmpOp.NotEq (Value.ref _) (Value.ref _)) _ _ _)); (fail_if_success (with_reducible show wpAny _ _ (eval (Expr.ListComp _ _ _ _) _) _ _ _)); (fail_if_success (with_reducible show wpAny _ _ (exec (Stmt.Assign _ (Expr.ListComp _ _ _ _) _) _) _ _ _)); (fail_if_success (with_reducible show LCg.CompSrc _ _ _ _ _ _ _ _ _ _ _ _ _ _)); (fail_if_success (with_reducible show LCt.CompSrcT _ _ _ _ _ _ _ _ _ _ _ _ _ _ _)); (fail_if_success (with_reducible show wpAny _ _ (subscriptTail (Expr.List _ _) _ _ _) _ _ _)); (fail_if_success (with_reducible show wpAny _ _ (execs (Stmt.For _ _ _ _ _ :: _) _) _ _ _)); first | (k_unfold; (try dsimp only)) | (k_end; wrow_close) | walk1 | (dsimp only; walk1) | (leave1; walk_say "STEP leave1"; try dsimp only)))))
  have hlv : v.top.lev = (v.low.length : Int) - 1 := O.levs v.low.length v.top (by unfold Var.fs; simp)
  refine open_spec (ks := v.low.map Frm.sv ++ [Value.ref v.top.sx]) B (by assumption) (by assumption) (by assumption) T rfl rfl (by omega) (List.forall_mem_cons.mpr ⟨by k_mem, List.forall_mem_cons.mpr ⟨by k_mem, List.forall_mem_cons.mpr ⟨by k_mem, List.forall_mem_nil _⟩⟩⟩) ?nd (by simp; omega) (by omega) (by omega) ?_
  case nd =>
    simp only [List.nodup_cons, List.mem_cons, not_or, List.not_mem_nil, not_false_eq_true, and_true, List.nodup_nil]
    exact ⟨⟨r2 _ hax, r3 _ hax⟩, n11⟩
  intro h2 tk2 sx sd nd od on e1 e2 e3 e4 e5 b1 b2 b3 b4 b5 b6 b7 tl a6' nk' no F2 hon hlo u1 u2 hN2
  have N2 := hN2 ((sx, instObj 109 sd) :: (sd, scopeD e1 e2 e3 e4 e5 b1 b2 b3 b4 b5 (v.top.lev + 1) b6 (.str label tl) nd od 0 b7) :: (nd, on) :: (od, listOf ([] : List Value).toArray no) :: (K.pl, listOf #[.ref K.fl, .int i' ti', .int mx' tm'] v.np) ::
    (K.ad, scopesD K.c1 K.c2 K.c3 K.c4 K.a1 K.a2 K.a3 K.a4 (.ref K.tx) (.str (Str.ofString "M") K.a5) K.ak (v.top.lev + 1) a6') :: (K.ak, listOf (v.low.map Frm.sv ++ [Value.ref v.top.sx] ++ [Value.ref sx]).toArray nk') ::
    (K.hm, listOf (v.low.map Frm.hv ++ [Value.ref v.top.ha]).toArray v.nh) :: (K.lb, listOf (v.low.map Frm.lv ++ [Value.str v.top.lab v.top.ll]).toArray v.nl) :: (K.cc, v.co) :: (v.top.sd, v.top.sdo) :: (v.top.nd, v.top.on) :: (v.top.od, listOf (v.top.its.map It.rf).toArray v.top.no) ::
    (v.top.ha, listOf (v.top.its.map It.rr).toArray v.top.nh) :: R) ?n2
  case n2 =>
    intro q hq
    rcases List.mem_cons.mp hq with rfl | hq
    · exact .inl (.head _)
    rcases List.mem_cons.mp hq with rfl | hq
    · exact .inl (.tail _ (.head _))
    rcases List.mem_cons.mp hq with rfl | hq
    · exact .inl (.tail _ (.tail _ (.head _)))
    rcases List.mem_cons.mp hq with rfl | hq
    · exact .inl (.tail _ (.tail _ (.tail _ (.head _))))
    rcases List.mem_cons.mp hq with rfl | hq
    · exact .inr ⟨by k_mem, n1, n2⟩
    rcases List.mem_cons.mp hq with rfl | hq
    · exact .inl (.tail _ (.tail _ (.tail _ (.tail _ (.head _)))))
    rcases List.mem_cons.mp hq with rfl | hq
    · exact .inl (.tail _ (.tail _ (.tail _ (.tail _ (.tail _ (.head _))))))
    rcases List.mem_cons.mp hq with rfl | hq
    · exact .inr ⟨by k_mem, Ne.symm n12, Ne.symm n21⟩
    rcases List.mem_cons.mp hq with rfl | hq
    · exact .inr ⟨by k_mem, Ne.symm n13, Ne.symm n22⟩
    rcases List.mem_cons.mp hq with rfl | hq
    · exact .inr ⟨by k_mem, Ne.symm n14, Ne.symm n23⟩
    rcases List.mem_cons.mp hq with rfl | hq
    · exact .inr ⟨by k_mem, Ne.symm n15, Ne.symm n24⟩
    rcases List.mem_cons.mp hq with rfl | hq
    · exact .inr ⟨by k_mem, Ne.symm n16, Ne.symm n25⟩
    rcases List.mem_cons.mp hq with rfl | hq
    · exact .inr ⟨by k_mem, Ne.symm n17, Ne.symm n26⟩
    rcases List.mem_cons.mp hq with rfl | hq
    · exact .inr ⟨by k_mem, Ne.symm n18, Ne.symm n27⟩
    exact .inr ⟨by k_mem, r2 q hq, r3 q hq⟩
  try dsimp only
  clear hN2
  simp only [List.forall_mem_cons] at u1
  obtain ⟨_, ⟨y1, y2, y3, y4⟩, ⟨y5, y6, y7, y8⟩, ⟨y9, y10, y11, y12⟩, ⟨y13, y14, y15, y16⟩, ⟨y17, y18, y19, y20⟩, ⟨y21, y22, y23, y24⟩, ⟨y25, y26, y27, y28⟩, ⟨y29, y30, y31, y32⟩, ⟨y33, y34, y35, y36⟩, ⟨y37, y38, y39, y40⟩, yR⟩ := u1
  simp only [List.nodup_cons, List.mem_cons, not_or, List.not_mem_nil, not_false_eq_true, and_true, List.nodup_nil] at u2
  obtain ⟨⟨x1, x2, x3⟩, ⟨x4, x5⟩, x6⟩ := u2
  (repeat' ((((fail_if_success (with_reducible show Hold _)); (fail_if_success (with_reducible show wpAny _ _ (pyIter _) _ _ _)); (fail_if_success (with_reducible show wpAny _ _ (call (Value.ref _) _ _) _ _ _)); (fail_if_success (with_reducible show wpAny _ _ (compareOp CmpOp.NotEq (Value.ref _) (Value.ref _)) _ _ _)); (fail_if_success (with_reducible show wpAny _ _ (eval (Expr.ListComp _ _ _ _) _) _ _ _)); (fail_if_success (with_reducible show wpAny _ _ (exec (Stmt.Assign _ (Expr.ListComp _ _ _ _) _) _) _ _ _)); (fail_if_success (with_reducible show LCg.CompSrc _ _ _ _ _ _ _ _ _ _ _ _ _ _)); (fail_if_success (with_reducible show LCt.CompSrcT _ _ _ _ _ _ _ _ _ _ _ _ _ _ _)); (fail_if_success (with_reducible show wpAny _ _ (subscriptTail (Expr.List _ _) _ _ _) _ _ _)); (fail_if_success (with_reducible show wpAny _ _ (execs (Stmt.For _ _ _ _ _ :: _) _) _ _ _)); first | (k_unfold; (try dsimp only)) | (k_end; wrow_close) | walk1 | (dsimp only; walk1) | (leave1; walk_say "STEP leave1"; try dsimp only)))))
  refine cur_spec (ks := v.low.map Frm.sv ++ [Value.ref v.top.sx]) B (by assumption) (by assumption) (by assumption) T rfl rfl (by omega) (List.forall_mem_cons.mpr ⟨by k_mem, List.forall_mem_cons.mpr ⟨by k_mem, List.forall_mem_cons.mpr ⟨by k_mem, List.forall_mem_nil _⟩⟩⟩) ?_
  intro h3 tk3 F3 N3
  try dsimp only
  (repeat' ((((fail_if_success (with_reducible show Hold _)); (fail_if_success (with_reducible show wpAny _ _ (pyIter _) _ _ _)); (fail_if_success (with_reducible show wpAny _ _ (call (Value.ref _) _ _) _ _ _)); (fail_if_success (with_reducible show wpAny _ _ (compareOp CmpOp.NotEq (Value.ref _) (Value.ref _)) _ _ _)); (fail_if_success (with_reducible show wpAny _ _ (eval (Expr.ListComp _ _ _ _) _) _ _ _)); (fail_if_success (with_reducible show wpAny _ _ (exec (Stmt.Assign _ (Expr.ListComp _ _ _ _) _) _) _ _ _)); (fail_if_success (with_reducible show LCg.CompSrc _ _ _ _ _ _ _ _ _ _ _ _ _ _)); (fail_if_success (with_reducible show LCt.CompSrcT _ _ _ _ _ _ _ _ _ _ _ _ _ _ _)); (fail_if_success (with_reducible show wpAny _ _ (subscriptTail (Expr.List _ _) _ _ _) _ _ _)); (fail_if_success (with_reducible show wpAny _ _ (execs (Stmt.For _ _ _ _ _ :: _) _) _ _ _)); first | (k_unfold; (try dsimp only)) | (k_end; wrow_close) | walk1 | (dsimp only; walk1) | (leave1; walk_say "STEP leave1"; try dsimp only)))))
  k_unfold
  try dsimp only
  subst hRe
  refine Exists.elim (open_end O hlen (by with_reducible assumption) hi0 hi1 hmx0 hmx1 hon hlo ?hf ?hl ?nd4 ?l4) ?fin
  case fin =>
    intro v' hv'
    exact ⟨hQ _ _ _ v' (by with_reducible assumption) ⟨rfl, rfl, rfl, rfl, rfl⟩ hv'.1 hv'.2⟩
  case hf =>
    rw [led_open]
    simp only [List.forall_mem_cons]
    exact ⟨⟨y1, y2, y3, y4⟩, ⟨y5, y6, y7, y8⟩, ⟨y9, y10, y11, y12⟩, ⟨y13, y14, y15, y16⟩, ⟨y17, y18, y19, y20⟩, ⟨y21, y22, y23, y24⟩, ⟨y25, y26, y27, y28⟩, ⟨y29, y30, y31, y32⟩, ⟨y33, y34, y35, y36⟩, ⟨y37, y38, y39, y40⟩, yR⟩
  case hl =>
    rw [led_open]
    dsimp only [Cst.pool, Cst.adE, Cst.akE, Cst.hmE, Cst.lbE, Cst.ccE]
    k_all
  case nd4 => exact nodup4 x1 x2 x3 x4 x5 x6
  case l4 => exact ⟨by k_ne, by k_ne, by k_ne, by k_ne⟩
end ZbrAspec
theorem brA_spec {w : World} {A₀ : Around} {base : Heap} {h₀ : Heap} {outer : List Env} {L : Addr} {fa : Addr} {cd : Value} {m : Str → Option Value} {mg : Str → Option Value} {mb : Str → Option Value} {mean : ExcName → Option Value} {s : Shared} {d : Nat} {u : Nat} {E : Value → Shared → Prop} {Q : Flow → Shared → Prop} {K : Cst} {v : Var} {Ow : List (Addr × Obj)} {j : Nat} (B : Below A₀ base outer h₀) (F : Fr h₀ L s.heap m) (X : (Mine.fr.heap_1 w.params).In h₀) (T : Top Mine.vw (looseW Mine.vw []) mean mg mb h₀) (hd : d < 700) (hu : u < 8000) (P : Pins K m) (N : News h₀ L s.heap (led K v ++ Ow)) (O : Ok K w Ow j v) (hlen : v.low.length + 1 < 7) (hQ : ∀ h' tk m' v', Fr h₀ L h' m' → Pins K m' → News h₀ L h' (led K v' ++ Ow) → Ok K w Ow (j + 1) v' → Q .next { s with heap := h', toks := tk }) :
    wpAny (model Challenge.rw_nu0320_01.row.prog w) { handled := none, depth := d, frames := some (lawEnv L fa cd :: outer), guards := some [], units := u } (execs brA (lawEnv L fa cd)) Q E s :=
  (eps_all (ne := ZbrAspec.zNe) (P := ZbrAspec.zSc) ZbrAspec.zCore : ∀ c, ZbrAspec.zSc c) (w, A₀, base, h₀, outer, L, fa, cd, m, mg, mb, mean, s, d, u, E, Q, K, v, Ow, j) B F X T hd hu P N O hlen hQ
end
-- L2
end
end
example {M : Model} {A : Around} {E : Value → Shared → Prop} {s : Shared} {Q : Flow → Shared → Prop} {env : Env} (h : Q .next s) : wpAny M A (execs [] env) Q E s := by
  first | (walk1; exact h) | exact fun _ _ _ => h
section
local macro_rules | `(tactic| walk_at "call builtin:list.pop") => `(tactic| (k_here; (with_reducible show wpAny _ _ (call (Value.builtin _) [Value.ref _]) _ _ _); k_dflt (refine' pop_L ?k1 ?k2 ?k3 ?z ?_; (case k1 => k_asm); (case k2 => k_asm); (case k3 => k_upd); (case z => ((try simp only [List.length_append, List.length_map, List.length_cons, List.length_nil]); omega)); k_whole); intro h' F' N'; (try k_sweep)))
section
local macro_rules | `(tactic| walk_at "call builtin:list.append") => `(tactic| (k_here; (with_reducible show wpAny _ _ (call (Value.builtin _) [Value.ref _, _]) _ _ _); k_dflt (refine' append_L ?k1 ?k2 ?k3 ?_ ?z; (case k1 => k_asm); (case k2 => k_asm); (case k3 => k_upd); (case z => (rw [sizeLine_eq]; (try simp only [List.length_append, List.length_map, List.length_cons, List.length_nil]); omega)); k_whole); intro h' F' N'; (try k_sweep)))
section
local macro_rules | `(tactic| walk_at "subscriptTail") => `(tactic| (k_here; (with_reducible show wpAny _ _ (subscriptTail _ _ (Value.ref _) (Value.int (-1) _)) _ _ _); k_dflt (refine' item_last ?N ?m ?_ ?hs; (case N => k_asm); (case m => k_mem); (case hs => with_unfolding_all rfl); k_whole)))
section
namespace ZbrBspec
def zSt (w : World) (A₀ : Around) (base : Heap) (h₀ : Heap) (outer : List Env) (L : Addr) (fa : Addr) (cd : Value) (m : Str → Option Value) (mg : Str → Option Value) (mb : Str → Option Value) (mean : ExcName → Option Value) (s : Shared) (d : Nat) (u : Nat) (E : Value → Shared → Prop) (Q : Flow → Shared → Prop) (K : Cst) (v : Var) (Ow : List (Addr × Obj)) (j : Nat) (low' : List Frm) (g : Frm) : Prop := ∀ (B : Below A₀ base outer h₀) (F : Fr h₀ L s.heap m) (X : (Mine.fr.heap_1 w.params).In h₀) (T : Top Mine.vw (looseW Mine.vw []) mean mg mb h₀) (hd : d < 700) (hu : u < 8000) (P : Pins K m) (N : News h₀ L s.heap (led K v ++ Ow)) (O : Ok K w Ow j v) (hlow : v.low = low' ++ [g]) (hj : j ≤ 40) (hQ : ∀ h' tk m' v', Fr h₀ L h' m' → Pins K m' → News h₀ L h' (led K v' ++ Ow) → Ok K w Ow (j + 1) v' → Q .next { s with heap := h', toks := tk }), wpAny (model Challenge.rw_nu0320_01.row.prog w) { handled := none, depth := d, frames := some (lawEnv L fa cd :: outer), guards := some [], units := u } (execs brB (lawEnv L fa cd)) Q E s
def zSc (zz : (World) × (Around) × (Heap) × (Heap) × (List Env) × (Addr) × (Addr) × (Value) × (Str → Option Value) × (Str → Option Value) × (Str → Option Value) × (ExcName → Option Value) × (Shared) × (Nat) × (Nat) × (Value → Shared → Prop) × (Flow → Shared → Prop) × (Cst) × (Var) × (List (Addr × Obj)) × (Nat) × (List Frm) × (Frm)) : Prop := zSt zz.1 zz.2.1 zz.2.2.1 zz.2.2.2.1 zz.2.2.2.2.1 zz.2.2.2.2.2.1 zz.2.2.2.2.2.2.1 zz.2.2.2.2.2.2.2.1 zz.2.2.2.2.2.2.2.2.1 zz.2.2.2.2.2.2.2.2.2.1 zz.2.2.2.2.2.2.2.2.2.2.1 zz.2.2.2.2.2.2.2.2.2.2.2.1 zz.2.2.2.2.2.2.2.2.2.2.2.2.1 zz.2.2.2.2.2.2.2.2.2.2.2.2.2.1 zz.2.2.2.2.2.2.2.2.2.2.2.2.2.2.1 zz.2.2.2.2.2.2.2.2.2.2.2.2.2.2.2.1 zz.2.2.2.2.2.2.2.2.2.2.2.2.2.2.2.2.1 zz.2.2.2.2.2.2.2.2.2.2.2.2.2.2.2.2.2.1 zz.2.2.2.2.2.2.2.2.2.2.2.2.2.2.2.2.2.2.1 zz.2.2.2.2.2.2.2.2.2.2.2.2.2.2.2.2.2.2.2.1 zz.2.2.2.2.2.2.2.2.2.2.2.2.2.2.2.2.2.2.2.2.1 zz.2.2.2.2.2.2.2.2.2.2.2.2.2.2.2.2.2.2.2.2.2.1 zz.2.2.2.2.2.2.2.2.2.2.2.2.2.2.2.2.2.2.2.2.2.2
theorem zNe : Nonempty ((World) × (Around) × (Heap) × (Heap) × (List Env) × (Addr) × (Addr) × (Value) × (Str → Option Value) × (Str → Option Value) × (Str → Option Value) × (ExcName → Option Value) × (Shared) × (Nat) × (Nat) × (Value → Shared → Prop) × (Flow → Shared → Prop) × (Cst) × (Var) × (List (Addr × Obj)) × (Nat) × (List Frm) × (Frm)) := ⟨(dWorld, dAround, default, default, default, default, default, default, default, default, default, default, dShared, default, default, default, default, dCst, dVar, default, default, default, dFrm)⟩
noncomputable def zC : (World) × (Around) × (Heap) × (Heap) × (List Env) × (Addr) × (Addr) × (Value) × (Str → Option Value) × (Str → Option Value) × (Str → Option Value) × (ExcName → Option Value) × (Shared) × (Nat) × (Nat) × (Value → Shared → Prop) × (Flow → Shared → Prop) × (Cst) × (Var) × (List (Addr × Obj)) × (Nat) × (List Frm) × (Frm) := @Classical.epsilon _ zNe fun c => ¬ zSc c
noncomputable def w : World := zC.1
noncomputable def A₀ : Around := zC.2.1
noncomputable def base : Heap := zC.2.2.1
noncomputable def h₀ : Heap := zC.2.2.2.1
noncomputable def outer : List Env := zC.2.2.2.2.1
noncomputable def L : Addr := zC.2.2.2.2.2.1
noncomputable def fa : Addr := zC.2.2.2.2.2.2.1
noncomputable def cd : Value := zC.2.2.2.2.2.2.2.1
noncomputable def m : Str → Option Value := zC.2.2.2.2.2.2.2.2.1
noncomputable def mg : Str → Option Value := zC.2.2.2.2.2.2.2.2.2.1
noncomputable def mb : Str → Option Value := zC.2.2.2.2.2.2.2.2.2.2.1
noncomputable def mean : ExcName → Option Value := zC.2.2.2.2.2.2.2.2.2.2.2.1
noncomputable def s : Shared := zC.2.2.2.2.2.2.2.2.2.2.2.2.1
noncomputable def d : Nat := zC.2.2.2.2.2.2.2.2.2.2.2.2.2.1
noncomputable def u : Nat := zC.2.2.2.2.2.2.2.2.2.2.2.2.2.2.1
noncomputable def E : Value → Shared → Prop := zC.2.2.2.2.2.2.2.2.2.2.2.2.2.2.2.1
noncomputable def Q : Flow → Shared → Prop := zC.2.2.2.2.2.2.2.2.2.2.2.2.2.2.2.2.1
noncomputable def K : Cst := zC.2.2.2.2.2.2.2.2.2.2.2.2.2.2.2.2.2.1
noncomputable def v : Var := zC.2.2.2.2.2.2.2.2.2.2.2.2.2.2.2.2.2.2.1
noncomputable def Ow : List (Addr × Obj) := zC.2.2.2.2.2.2.2.2.2.2.2.2.2.2.2.2.2.2.2.1
noncomputable def j : Nat := zC.2.2.2.2.2.2.2.2.2.2.2.2.2.2.2.2.2.2.2.2.1
noncomputable def low' : List Frm := zC.2.2.2.2.2.2.2.2.2.2.2.2.2.2.2.2.2.2.2.2.2.1
noncomputable def g : Frm := zC.2.2.2.2.2.2.2.2.2.2.2.2.2.2.2.2.2.2.2.2.2.2
theorem zCore (B : Below A₀ base outer h₀) (F : Fr h₀ L s.heap m) (X : (Mine.fr.heap_1 w.params).In h₀) (T : Top Mine.vw (looseW Mine.vw []) mean mg mb h₀) (hd : d < 700) (hu : u < 8000) (P : Pins K m) (N : News h₀ L s.heap (led K v ++ Ow)) (O : Ok K w Ow j v) (hlow : v.low = low' ++ [g]) (hj : j ≤ 40) (hQ : ∀ h' tk m' v', Fr h₀ L h' m' → Pins K m' → News h₀ L h' (led K v' ++ Ow) → Ok K w Ow (j + 1) v' → Q .next { s with heap := h', toks := tk }) : wpAny (model Challenge.rw_nu0320_01.row.prog w) { handled := none, depth := d, frames := some (lawEnv L fa cd :: outer), guards := some [], units := u } (execs brB (lawEnv L fa cd)) Q E s := by
  revert X; k_fill; intro X
  unfold brB turnBody lawBody lawEnv lawScope lawName lawRec recOf
  dsimp only [drop4, drop5, headBody, third, thenOf, elseOf]
  rw [P.map] at F
  have hnd := O.tops
  have hR := O.rest
  rw [led_open] at N
  dsimp only [Cst.pool, Cst.adE, Cst.akE, Cst.hmE, Cst.lbE, Cst.ccE, Frm.sdo, sv_top, hv_top, lv_top] at N
  have hfl : (K.fl, listOf K.vs.toArray K.nf) ∈ rest v Ow := List.mem_append_right _ (List.mem_append_left _ O.fl)
  have hax : (K.ax, instObj 172 K.ad) ∈ rest v Ow := List.mem_append_right _ (List.mem_append_left _ O.ax)
  have hsx : (v.top.sx, instObj 109 v.top.sd) ∈ rest v Ow := List.mem_append_right _ (List.mem_append_left _ (O.frs v.top (List.mem_append_right _ (.head _))).inst)
  have hg : g ∈ v.fs := by unfold Var.fs; rw [hlow]; simp
  have hgs : (g.sx, instObj 109 g.sd) ∈ rest v Ow := List.mem_append_right _ (List.mem_append_left _ (O.frs g hg).inst)
  have hgd : (g.sd, g.sdo) ∈ rest v Ow := List.mem_append_left _ (by rw [hlow, lowcells_snoc]; exact List.mem_append_right _ (.head _))
  have hit : ∀ i ∈ v.top.its, ItOk K v.imm v.top.lev i := (O.frs v.top (List.mem_append_right _ (.head _))).items
  have immR : ∀ q ∈ v.imm, q ∈ rest v Ow := fun q hq => List.mem_append_right _ (List.mem_append_left _ hq)
  have hsz9 : v.top.its.length ≤ 21 + j := O.size v.top (List.mem_append_right _ (.head _))
  have hlen : low'.length ≤ 6 := by have := O.room; rw [hlow] at this; simp at this; omega
  generalize hRe : rest v Ow = R at *
  unfold tops at hnd hR
  have hnd' := hnd
  simp only [List.nodup_cons, List.mem_cons, not_or, List.not_mem_nil, not_false_eq_true, and_true, List.nodup_nil] at hnd'
  obtain ⟨r1, r2, r3, r4, r5, r6, r7, r8, r9, r10, _⟩ := (by simpa only [OffS, List.forall_mem_cons] using hR : (∀ q ∈ R, q.1 ≠ K.pl) ∧ (∀ q ∈ R, q.1 ≠ K.ad) ∧ (∀ q ∈ R, q.1 ≠ K.ak) ∧ (∀ q ∈ R, q.1 ≠ K.hm) ∧ (∀ q ∈ R, q.1 ≠ K.lb) ∧ (∀ q ∈ R, q.1 ≠ K.cc) ∧ (∀ q ∈ R, q.1 ≠ v.top.sd) ∧ (∀ q ∈ R, q.1 ≠ v.top.nd) ∧ (∀ q ∈ R, q.1 ≠ v.top.od) ∧ (∀ q ∈ R, q.1 ≠ v.top.ha) ∧ _)
  obtain ⟨⟨n1, n2, n3, n4, n5, n6, n7, n8, n9⟩, ⟨n11, n12, n13, n14, n15, n16, n17, n18⟩, ⟨n21, n22, n23, n24, n25, n26, n27⟩, ⟨n31, n32, n33, n34, n35, n36⟩, ⟨n41, n42, n43, n44, n45⟩, ⟨n51, n52, n53, n54⟩, ⟨n61, n62, n63⟩, ⟨n71, n72⟩, n81⟩ := hnd'
  simp only [hlow, List.map_append, List.map_cons, List.map_nil, sv_top, hv_top, lv_top] at N
  refine hold_post ?_
  k_fold
  (repeat' ((((fail_if_success (with_reducible show Hold _)); (fail_if_success (with_reducible show wpAny _ _ (pyIter _) _ _ _)); (fail_if_success (with_reducible show wpAny _ _ (call (Value.ref _) _ _) _ _ _)); (fail_if_success (with_reducible show wpAny _ _ (compareOp CmpOp.NotEq (Value.ref _) (Value.ref _)) _ _ _)); (fail_if_success (with_reducible show wpAny _ _ (eval (Expr.ListComp _ _ _ _) _) _ _ _)); (fail_if_success (with_reducible show wpAny _ _ (exec (Stmt.Assign _ (Expr.ListComp _ _ _ _) _) _) _ _ _)); (fail_if_success (with_reducible show LCg.CompSrc _ _ _ _ _ _ _ _ _ _ _ _ _ _)); (fail_if_success (with_reducible show LCt.CompSrcT _ _ _ _ _ _ _ _ _ _ _ _ _ _ _)); (fail_if_success (with_reducible show wpAny _ _ (subscriptTail (Expr.List _ _) _ _ _) _ _ _)); (fail_if_success (with_reducible show wpAny _ _ (execs (Stmt.For _ _ _ _ _ :: _) _) _ _ _)); first | (k_unfold; (try dsimp only)) | (k_end; wrow_close) | walk1 | (dsimp only; walk1) | (leave1; walk_say "STEP leave1"; try dsimp only)))))
  refine close_spec (ks := low'.map Frm.sv) (s1 := g.sx) (s2 := v.top.sx) (d1 := g.sd) (d2 := v.top.sd) B (by assumption) (by assumption) (by assumption) T rfl rfl (by omega) (List.forall_mem_cons.mpr ⟨by k_mem, List.forall_mem_cons.mpr ⟨by k_mem, List.forall_mem_cons.mpr ⟨by k_mem, List.forall_mem_cons.mpr ⟨by k_mem, List.forall_mem_cons.mpr ⟨List.mem_cons_of_mem _ (List.mem_cons_of_mem _ (List.mem_cons_of_mem _ (List.mem_cons_of_mem _ (List.mem_cons_of_mem _ (List.mem_cons_of_mem _ (List.mem_cons_of_mem _ (List.mem_cons_of_mem _ (List.mem_cons_of_mem _ (List.mem_cons_of_mem _ hgd))))))))), List.forall_mem_cons.mpr ⟨by k_mem, List.forall_mem_cons.mpr ⟨by k_mem, List.forall_mem_nil _⟩⟩⟩⟩⟩⟩⟩) ?nd (by simp; omega) ?_
  case nd =>
    have NR : News h₀ L s.heap R := news_sub N fun q hq => .tail _ (.tail _ (.tail _ (.tail _ (.tail _ (.tail _ (.tail _ (.tail _ (.tail _ (.tail _ hq)))))))))
    have z1 : K.ax ≠ g.sx := fun e => by have := (inst_cls NR hax (e ▸ hgs)).1; exact absurd this (by decide)
    have z2 : K.ax ≠ v.top.sx := fun e => by have := (inst_cls NR hax (e ▸ hsx)).1; exact absurd this (by decide)
    have z3 : g.sd ≠ v.top.sd := r7 _ hgd
    have z4 : g.sx ≠ v.top.sx := fun e => z3 (inst_cls NR hgs (e ▸ hsx)).2
    have zim : ∀ q ∈ v.imm ++ Ow, q.1 ≠ g.sd := fun q hq e => O.off q hq (by unfold muts; simp only [List.mem_cons]; exact .inr (.inr (.inr (.inr (.inr (.inr (List.mem_flatMap.mpr ⟨g, hg, by rw [e]; exact .head _⟩)))))))
    simp only [List.nodup_cons, List.mem_cons, not_or, List.not_mem_nil, not_false_eq_true, and_true, List.nodup_nil]
    refine ⟨⟨r2 _ hax, r3 _ hax, z1, ?_, z2, r7 _ hax⟩, ⟨n11, Ne.symm (r2 _ hgs), Ne.symm (r2 _ hgd), Ne.symm (r2 _ hsx), n15⟩, ⟨Ne.symm (r3 _ hgs), Ne.symm (r3 _ hgd), Ne.symm (r3 _ hsx), n24⟩, ⟨?_, z4, r7 _ hgs⟩, ⟨?_, z3⟩, r7 _ hsx⟩
    · exact zim _ (List.mem_append_left _ O.ax)
    · exact zim _ (List.mem_append_left _ (O.frs g hg).inst)
    · exact Ne.symm (zim _ (List.mem_append_left _ (O.frs v.top (List.mem_append_right _ (.head _))).inst))
  intro h2 tk2 a6' nk' F2 hN2
  have N2 := hN2 ((K.pl, listOf #[.ref K.fl, .int v.i0 v.t1, .int v.mx v.t2] v.np) ::
    (K.ad, scopesD K.c1 K.c2 K.c3 K.c4 K.a1 K.a2 K.a3 K.a4 (.ref K.tx) (.str (Str.ofString "M") K.a5) K.ak g.lev a6') :: (K.ak, listOf (low'.map Frm.sv ++ [Value.ref g.sx]).toArray nk') ::
    (K.hm, listOf ((low'.map Frm.hv ++ [Value.ref g.ha]) ++ [Value.ref v.top.ha]).toArray v.nh) :: (K.lb, listOf ((low'.map Frm.lv ++ [Value.str g.lab g.ll]) ++ [Value.str v.top.lab v.top.ll]).toArray v.nl) :: (K.cc, v.co) ::
    (v.top.sd, scopeD v.top.e1 v.top.e2 v.top.e3 v.top.e4 v.top.e5 v.top.b1 v.top.b2 v.top.b3 v.top.b4 v.top.b5 v.top.lev v.top.b6 (.str v.top.lab v.top.tl) v.top.nd v.top.od v.top.slots v.top.b7) :: (v.top.nd, v.top.on) :: (v.top.od, listOf (v.top.its.map It.rf).toArray v.top.no) ::
    (v.top.ha, listOf (v.top.its.map It.rr).toArray v.top.nh) :: R) ?n2
  case n2 =>
    intro q hq
    rcases List.mem_cons.mp hq with rfl | hq
    · exact .inr ⟨by k_mem, n1, n2⟩
    rcases List.mem_cons.mp hq with rfl | hq
    · exact .inl (.head _)
    rcases List.mem_cons.mp hq with rfl | hq
    · exact .inl (.tail _ (.head _))
    rcases List.mem_cons.mp hq with rfl | hq
    · exact .inr ⟨by k_mem, Ne.symm n12, Ne.symm n21⟩
    rcases List.mem_cons.mp hq with rfl | hq
    · exact .inr ⟨by k_mem, Ne.symm n13, Ne.symm n22⟩
    rcases List.mem_cons.mp hq with rfl | hq
    · exact .inr ⟨by k_mem, Ne.symm n14, Ne.symm n23⟩
    rcases List.mem_cons.mp hq with rfl | hq
    · exact .inr ⟨by k_mem, Ne.symm n15, Ne.symm n24⟩
    rcases List.mem_cons.mp hq with rfl | hq
    · exact .inr ⟨by k_mem, Ne.symm n16, Ne.symm n25⟩
    rcases List.mem_cons.mp hq with rfl | hq
    · exact .inr ⟨by k_mem, Ne.symm n17, Ne.symm n26⟩
    rcases List.mem_cons.mp hq with rfl | hq
    · exact .inr ⟨by k_mem, Ne.symm n18, Ne.symm n27⟩
    exact .inr ⟨by k_mem, r2 q hq, r3 q hq⟩
  clear hN2
  try dsimp only
  (repeat' ((((fail_if_success (with_reducible show Hold _)); (fail_if_success (with_reducible show wpAny _ _ (pyIter _) _ _ _)); (fail_if_success (with_reducible show wpAny _ _ (call (Value.ref _) _ _) _ _ _)); (fail_if_success (with_reducible show wpAny _ _ (compareOp CmpOp.NotEq (Value.ref _) (Value.ref _)) _ _ _)); (fail_if_success (with_reducible show wpAny _ _ (eval (Expr.ListComp _ _ _ _) _) _ _ _)); (fail_if_success (with_reducible show wpAny _ _ (exec (Stmt.Assign _ (Expr.ListComp _ _ _ _) _) _) _ _ _)); (fail_if_success (with_reducible show LCg.CompSrc _ _ _ _ _ _ _ _ _ _ _ _ _ _)); (fail_if_success (with_reducible show LCt.CompSrcT _ _ _ _ _ _ _ _ _ _ _ _ _ _ _)); (fail_if_success (with_reducible show wpAny _ _ (subscriptTail (Expr.List _ _) _ _ _) _ _ _)); (fail_if_success (with_reducible show wpAny _ _ (execs (Stmt.For _ _ _ _ _ :: _) _) _ _ _)); first | (k_unfold; (try dsimp only)) | (k_end; wrow_close) | walk1 | (dsimp only; walk1) | (leave1; walk_say "STEP leave1"; try dsimp only)))))
  k_dflt (refine' LCg.ListComp_U (F₀ := ?F) ?c1 ?c2 ?c3 ?c4 ?c5 ?c6 ?c7)
  (case F => assumption)
  (case c1 => exact rfl)
  (case c2 => decide)
  (case c3 => exact rfl)
  (case c4 => decide)
  (case c5 => exact rfl)
  (case c7 => (intro _; exact rfl))
  (repeat' ((((fail_if_success (with_reducible show Hold _)); (fail_if_success (with_reducible show wpAny _ _ (pyIter _) _ _ _)); (fail_if_success (with_reducible show wpAny _ _ (call (Value.ref _) _ _) _ _ _)); (fail_if_success (with_reducible show wpAny _ _ (compareOp CmpOp.NotEq (Value.ref _) (Value.ref _)) _ _ _)); (fail_if_success (with_reducible show wpAny _ _ (eval (Expr.ListComp _ _ _ _) _) _ _ _)); (fail_if_success (with_reducible show wpAny _ _ (exec (Stmt.Assign _ (Expr.ListComp _ _ _ _) _) _) _ _ _)); (fail_if_success (with_reducible show LCg.CompSrc _ _ _ _ _ _ _ _ _ _ _ _ _ _)); (fail_if_success (with_reducible show LCt.CompSrcT _ _ _ _ _ _ _ _ _ _ _ _ _ _ _)); (fail_if_success (with_reducible show wpAny _ _ (subscriptTail (Expr.List _ _) _ _ _) _ _ _)); (fail_if_success (with_reducible show wpAny _ _ (execs (Stmt.For _ _ _ _ _ :: _) _) _ _ _)); first | (k_unfold; (try dsimp only)) | (k_end; wrow_close) | walk1 | (dsimp only; walk1) | (leave1; walk_say "STEP leave1"; try dsimp only)))))
  k_dflt (refine' LCg.CompSrc.ledger (its := (v.top.its.map It.rf).toArray) ?e1 ?e2 ?e3 ?e4 ?e5 ?e6)
  (case e1 => exact rfl)
  (case e2 => assumption)
  (case e3 => assumption)
  (case e4 => k_mem)
  (case e5 => (rw [List.size_toArray, List.length_map, sizeLine_eq]; omega))
  intro g1
  have hz1 : (v.top.its.map It.rf).toArray.size = v.top.its.length := by simp
  rw [hz1]
  refine order_rest X (.inr ⟨_, by k_mem, rfl, _, rfl⟩) (fun i hi => ((hit i hi).item.mono immR).mono fun q hq => by k_mem) (fun _ => rfl) (fun _ => rfl) ?f1
  intro ys1 hys1
  unfold LCg.FinE
  intro D1 h3 tk3 F3 N3 o3
  try dsimp only
  (repeat' ((((fail_if_success (with_reducible show Hold _)); (fail_if_success (with_reducible show wpAny _ _ (pyIter _) _ _ _)); (fail_if_success (with_reducible show wpAny _ _ (call (Value.ref _) _ _) _ _ _)); (fail_if_success (with_reducible show wpAny _ _ (compareOp CmpOp.NotEq (Value.ref _) (Value.ref _)) _ _ _)); (fail_if_success (with_reducible show wpAny _ _ (eval (Expr.ListComp _ _ _ _) _) _ _ _)); (fail_if_success (with_reducible show wpAny _ _ (exec (Stmt.Assign _ (Expr.ListComp _ _ _ _) _) _) _ _ _)); (fail_if_success (with_reducible show LCg.CompSrc _ _ _ _ _ _ _ _ _ _ _ _ _ _)); (fail_if_success (with_reducible show LCt.CompSrcT _ _ _ _ _ _ _ _ _ _ _ _ _ _ _)); (fail_if_success (with_reducible show wpAny _ _ (subscriptTail (Expr.List _ _) _ _ _) _ _ _)); (fail_if_success (with_reducible show wpAny _ _ (execs (Stmt.For _ _ _ _ _ :: _) _) _ _ _)); first | (k_unfold; (try dsimp only)) | (k_end; wrow_close) | walk1 | (dsimp only; walk1) | (leave1; walk_say "STEP leave1"; try dsimp only)))))
  k_dflt (refine' LCg.ListComp_U (F₀ := ?Fb) ?c1b ?c2b ?c3b ?c4b ?c5b ?c6b ?c7b)
  (case Fb => assumption)
  (case c1b => exact rfl)
  (case c2b => decide)
  (case c3b => exact rfl)
  (case c4b => decide)
  (case c5b => exact rfl)
  (case c7b => (intro _; exact rfl))
  (repeat' ((((fail_if_success (with_reducible show Hold _)); (fail_if_success (with_reducible show wpAny _ _ (pyIter _) _ _ _)); (fail_if_success (with_reducible show wpAny _ _ (call (Value.ref _) _ _) _ _ _)); (fail_if_success (with_reducible show wpAny _ _ (compareOp CmpOp.NotEq (Value.ref _) (Value.ref _)) _ _ _)); (fail_if_success (with_reducible show wpAny _ _ (eval (Expr.ListComp _ _ _ _) _) _ _ _)); (fail_if_success (with_reducible show wpAny _ _ (exec (Stmt.Assign _ (Expr.ListComp _ _ _ _) _) _) _ _ _)); (fail_if_success (with_reducible show LCg.CompSrc _ _ _ _ _ _ _ _ _ _ _ _ _ _)); (fail_if_success (with_reducible show LCt.CompSrcT _ _ _ _ _ _ _ _ _ _ _ _ _ _ _)); (fail_if_success (with_reducible show wpAny _ _ (subscriptTail (Expr.List _ _) _ _ _) _ _ _)); (fail_if_success (with_reducible show wpAny _ _ (execs (Stmt.For _ _ _ _ _ :: _) _) _ _ _)); first | (k_unfold; (try dsimp only)) | (k_end; wrow_close) | walk1 | (dsimp only; walk1) | (leave1; walk_say "STEP leave1"; try dsimp only)))))
  k_dflt (refine' LCg.CompSrc.ledger (its := (v.top.its.map It.rr).toArray) ?e1b ?e2b ?e3b ?e4b ?e5b ?e6b)
  (case e1b => exact rfl)
  (case e2b => assumption)
  (case e3b => assumption)
  (case e4b => k_mem)
  (case e5b => (rw [List.size_toArray, List.length_map, sizeLine_eq]; omega))
  intro g2
  have hz2 : (v.top.its.map It.rr).toArray.size = v.top.its.length := by simp
  rw [hz2]
  refine rows_rest X (.inr ⟨_, by k_mem, rfl, _, rfl⟩) (fun i hi => by have := immR _ (hit i hi).row; k_mem) (fun _ => rfl) (fun _ => rfl) ?f2
  intro ys2 hys2
  unfold LCg.FinE
  intro D2 h4 tk4 F4 N4 o4
  try dsimp only
  (repeat' ((((fail_if_success (with_reducible show Hold _)); (fail_if_success (with_reducible show wpAny _ _ (pyIter _) _ _ _)); (fail_if_success (with_reducible show wpAny _ _ (call (Value.ref _) _ _) _ _ _)); (fail_if_success (with_reducible show wpAny _ _ (compareOp CmpOp.NotEq (Value.ref _) (Value.ref _)) _ _ _)); (fail_if_success (with_reducible show wpAny _ _ (eval (Expr.ListComp _ _ _ _) _) _ _ _)); (fail_if_success (with_reducible show wpAny _ _ (exec (Stmt.Assign _ (Expr.ListComp _ _ _ _) _) _) _ _ _)); (fail_if_success (with_reducible show LCg.CompSrc _ _ _ _ _ _ _ _ _ _ _ _ _ _)); (fail_if_success (with_reducible show LCt.CompSrcT _ _ _ _ _ _ _ _ _ _ _ _ _ _ _)); (fail_if_success (with_reducible show wpAny _ _ (subscriptTail (Expr.List _ _) _ _ _) _ _ _)); (fail_if_success (with_reducible show wpAny _ _ (execs (Stmt.For _ _ _ _ _ :: _) _) _ _ _)); first | (k_unfold; (try dsimp only)) | (k_end; wrow_close) | walk1 | (dsimp only; walk1) | (leave1; walk_say "STEP leave1"; try dsimp only)))))
  refine ne_strs ⟨_, (N4 _ (.tail _ (.head _))).1, rfl, _, rfl⟩ ⟨_, (N4 _ (.head _)).1, rfl, _, rfl⟩ hys1 hys2 (names_ok fun i hi => (hit i hi).nm) (names_ok fun i hi => (hit i hi).nm) (by rw [cLine_is]; dsimp only; omega) ?_
  simp only [decide_true, Bool.not_true]
  (repeat' ((((fail_if_success (with_reducible show Hold _)); (fail_if_success (with_reducible show wpAny _ _ (pyIter _) _ _ _)); (fail_if_success (with_reducible show wpAny _ _ (call (Value.ref _) _ _) _ _ _)); (fail_if_success (with_reducible show wpAny _ _ (compareOp CmpOp.NotEq (Value.ref _) (Value.ref _)) _ _ _)); (fail_if_success (with_reducible show wpAny _ _ (eval (Expr.ListComp _ _ _ _) _) _ _ _)); (fail_if_success (with_reducible show wpAny _ _ (exec (Stmt.Assign _ (Expr.ListComp _ _ _ _) _) _) _ _ _)); (fail_if_success (with_reducible show LCg.CompSrc _ _ _ _ _ _ _ _ _ _ _ _ _ _)); (fail_if_success (with_reducible show LCt.CompSrcT _ _ _ _ _ _ _ _ _ _ _ _ _ _ _)); (fail_if_success (with_reducible show wpAny _ _ (subscriptTail (Expr.List _ _) _ _ _) _ _ _)); (fail_if_success (with_reducible show wpAny _ _ (execs (Stmt.For _ _ _ _ _ :: _) _) _ _ _)); first | (k_unfold; (try dsimp only)) | (k_end; wrow_close) | walk1 | (dsimp only; walk1) | (leave1; walk_say "STEP leave1"; try dsimp only)))))
  k_unfold
  try dsimp only
  subst hRe
  refine Exists.elim (close_end O hlow (news_sub (by with_reducible assumption) fun q hq => .tail _ (.tail _ hq)) fun q hq => .tail _ (.tail _ (.tail _ (.tail _ hq)))) ?fin
  case fin =>
    intro v' hv'
    exact ⟨hQ _ _ _ v' (by with_reducible assumption) ⟨rfl, rfl, rfl, rfl, rfl⟩ hv'.1 hv'.2⟩
end ZbrBspec
theorem brB_spec {w : World} {A₀ : Around} {base : Heap} {h₀ : Heap} {outer : List Env} {L : Addr} {fa : Addr} {cd : Value} {m : Str → Option Value} {mg : Str → Option Value} {mb : Str → Option Value} {mean : ExcName → Option Value} {s : Shared} {d : Nat} {u : Nat} {E : Value → Shared → Prop} {Q : Flow → Shared → Prop} {K : Cst} {v : Var} {Ow : List (Addr × Obj)} {j : Nat} {low' : List Frm} {g : Frm} (B : Below A₀ base outer h₀) (F : Fr h₀ L s.heap m) (X : (Mine.fr.heap_1 w.params).In h₀) (T : Top Mine.vw (looseW Mine.vw []) mean mg mb h₀) (hd : d < 700) (hu : u < 8000) (P : Pins K m) (N : News h₀ L s.heap (led K v ++ Ow)) (O : Ok K w Ow j v) (hlow : v.low = low' ++ [g]) (hj : j ≤ 40) (hQ : ∀ h' tk m' v', Fr h₀ L h' m' → Pins K m' → News h₀ L h' (led K v' ++ Ow) → Ok K w Ow (j + 1) v' → Q .next { s with heap := h', toks := tk }) :
    wpAny (model Challenge.rw_nu0320_01.row.prog w) { handled := none, depth := d, frames := some (lawEnv L fa cd :: outer), guards := some [], units := u } (execs brB (lawEnv L fa cd)) Q E s :=
  (eps_all (ne := ZbrBspec.zNe) (P := ZbrBspec.zSc) ZbrBspec.zCore : ∀ c, ZbrBspec.zSc c) (w, A₀, base, h₀, outer, L, fa, cd, m, mg, mb, mean, s, d, u, E, Q, K, v, Ow, j, low', g) B F X T hd hu P N O hlow hj hQ
end
-- L3
end
end
end
end
end
end
example {M : Model} {A : Around} {E : Value → Shared → Prop} {s : Shared} {Q : Flow → Shared → Prop} {env : Env} (h : Q .next s) : wpAny M A (execs [] env) Q E s := by
  first | (walk1; exact h) | exact fun _ _ _ => h
section
local macro_rules | `(tactic| walk_at "call builtin:len") => `(tactic| (k_here; (with_reducible show wpAny _ _ (call (Value.builtin _) [Value.ref _]) _ _ _); k_dflt (refine' len_L ?N ?m ?e ?z ?_; (case N => k_asm); (case m => k_mem); (case e => ((try simp only [List.length_append, List.length_map, List.length_cons, List.length_nil]); exact rfl)); (case z => (try dsimp only); omega); k_whole); (try dsimp only)))
section
local macro_rules | `(tactic| walk_at "compareOp NotEq int int") => `(tactic| (refine ne_int_same (by omega) ?_))
section
local macro_rules | `(tactic| walk_at "compareOp NotEq str str") => `(tactic| (with_reducible refine ne_str_same ?_))
section
local macro_rules | `(tactic| walk_at "call builtin:list.pop") => `(tactic| (k_here; (with_reducible show wpAny _ _ (call (Value.builtin _) [Value.ref _]) _ _ _); k_dflt (refine' pop_L ?k1 ?k2 ?k3 ?z ?_; (case k1 => k_asm); (case k2 => k_asm); (case k3 => k_upd); (case z => ((try simp only [List.length_append, List.length_map, List.length_cons, List.length_nil]); omega)); k_whole); intro h' F' N'; (try k_sweep)))
section
local macro_rules | `(tactic| walk_at "getMethod ref") => `(tactic| (k_here; (with_reducible show wpAny _ _ (getMethod (Value.ref _) (PySem.Str.ofString "insert") _) _ _ _); k_dflt (refine' method_inst ?k1 ?k2 ?k3 ?k4 ?k5 ?k6 ?k7 ?_; (case k1 => k_asm); (case k2 => k_asm); (case k3 => k_inst); (case k4 => k_is); (case k5 => k_is); (case k6 => k_is); (case k7 => k_get); k_whole)))
section
local macro_rules | `(tactic| walk_at "call builtin:list.append") => `(tactic| (k_here; (with_reducible show wpAny _ _ (call (Value.builtin _) [Value.ref _, _]) _ _ _); k_dflt (refine' append_L ?k1 ?k2 ?k3 ?_ ?z; (case k1 => k_asm); (case k2 => k_asm); (case k3 => k_upd); (case z => (rw [sizeLine_eq]; (try simp only [List.length_append, List.length_map, List.length_cons, List.length_nil]); omega)); k_whole); intro h' F' N'; (try k_sweep)))
section
local macro_rules | `(tactic| walk_at "getAttr ref") => `(tactic| (k_here; (with_reducible show wpAny _ _ (getAttr _ (PySem.Str.ofString "integer") _) _ _ _); k_dflt (refine' get_own ?k1 ?k2 ?k3 ?k4 ?k5 ?k6 ?k7 ?k8 ?k9 ?_; (case k1 => k_asm); (case k2 => k_asm); (case k3 => k_inst); (case k8 => with_reducible assumption); (case k4 => k_is); (case k5 => k_is); (case k6 => k_is); (case k7 => k_is); (case k9 => k_handed); k_whole)))
section
local macro_rules | `(tactic| walk_at "getAttr ref") => `(tactic| (k_here; k_dflt (refine' get_own ?k1 ?k2 ?k3 ?k4 ?k5 ?k6 ?k7 ?k8 ?k9 ?_; (case k1 => k_asm); (case k2 => k_asm); (case k3 => k_inst); (case k8 => with_reducible assumption); (case k4 => k_is); (case k5 => k_is); (case k6 => k_is); (case k7 => k_is); (case k9 => k_handed); k_whole)))
section
local macro_rules | `(tactic| walk_at "isTrue BoolOp") => `(tactic| (k_here; k_dflt (first | (refine isTrue_and_nil ?_) | (refine isTrue_or_nil ?_))))
section
local macro_rules | `(tactic| walk_at "compareOp In str ref") => `(tactic| (k_here; k_dflt (refine' in_names ?N ?m ?s ?b ?_; (case N => k_asm); (case s => with_reducible assumption); (case b => with_reducible assumption); (case m => k_mem); k_whole)))
section
local macro_rules | `(tactic| walk_at "compareOp In str ref") => `(tactic| (k_here; k_dflt (refine' in_vp ?N ?m ?b ?_; (case N => k_asm); (case m => exact List.Mem.head _); (case b => with_reducible assumption); k_whole)))
section
local macro_rules | `(tactic| walk_at "subscriptTail") => `(tactic| (k_here; (with_reducible show wpAny _ _ (subscriptTail _ _ (Value.ref _) (Value.int (-1) _)) _ _ _); k_dflt (refine' item_last ?N ?m ?_ ?hs; (case N => k_asm); (case m => k_mem); (case hs => with_unfolding_all rfl); k_whole)))
section
local macro_rules | `(tactic| walk_at "subscriptTail Name UnaryOp ref int") => `(tactic| (k_here; (with_reducible show wpAny _ _ (subscriptTail _ _ (Value.ref _) (Value.int (-1) _)) _ _ _); k_dflt (refine' item_last ?N ?m ?_ ?hs; (case N => k_asm); (case m => k_mem); (case hs => with_unfolding_all rfl); k_whole)))
section
theorem map_pins {K : Cst} {m : Str → Option Value} {v : Value} (P : Pins K m) (hs : m (Str.ofString "step") = some v) : m = fun y => if y = Str.ofString "step" then some v else if y = Str.ofString "pool" then some (.ref K.pl) else if y = Str.ofString "types" then some (.ref K.tx) else if y = Str.ofString "scopes" then some (.ref K.ax) else
    if y = Str.ofString "homes" then some (.ref K.hm) else if y = Str.ofString "labels" then some (.ref K.lb) else m y := by
  funext y
  by_cases h : y = Str.ofString "step"
  · rw [if_pos h, h, hs]
  · rw [if_neg h]; exact congrFun P.map y
namespace ZbrCspec
def zSt (w : World) (A₀ : Around) (base : Heap) (h₀ : Heap) (outer : List Env) (L : Addr) (fa : Addr) (cd : Value) (m : Str → Option Value) (mg : Str → Option Value) (mb : Str → Option Value) (mean : ExcName → Option Value) (s : Shared) (d : Nat) (u : Nat) (E : Value → Shared → Prop) (Q : Flow → Shared → Prop) (K : Cst) (v : Var) (Ow : List (Addr × Obj)) (j : Nat) (st : Int) (tst : Tok) (tn : Tok) (nm : Str) : Prop := ∀ (B : Below A₀ base outer h₀) (F : Fr h₀ L s.heap m) (X : (Mine.fr.heap_1 w.params).In h₀) (T : Top Mine.vw (looseW Mine.vw []) mean mg mb h₀) (hd : d < 700) (hu : u < 8000) (P : Pins K m) (hcc : K.cc = L + 1) (hst : m (Str.ofString "step") = some (.int st tst)) (hco : v.co.data = .cell (some (.str nm tn))) (hnm : nm ∈ allNames) (N : News h₀ L s.heap (led K v ++ Ow)) (O : Ok K w Ow j v) (hj : j ≤ 40) (hQ : ∀ h' tk m' v', Fr h₀ L h' m' → Pins K m' → News h₀ L h' (led K v' ++ Ow) → Ok K w Ow (j + 1) v' → Q .next { s with heap := h', toks := tk }), wpAny (model Challenge.rw_nu0320_01.row.prog w) { handled := none, depth := d, frames := some (lawEnv L fa cd :: outer), guards := some [], units := u } (execs brC (lawEnv L fa cd)) Q E s
def zSc (zz : (World) × (Around) × (Heap) × (Heap) × (List Env) × (Addr) × (Addr) × (Value) × (Str → Option Value) × (Str → Option Value) × (Str → Option Value) × (ExcName → Option Value) × (Shared) × (Nat) × (Nat) × (Value → Shared → Prop) × (Flow → Shared → Prop) × (Cst) × (Var) × (List (Addr × Obj)) × (Nat) × (Int) × (Tok) × (Tok) × (Str)) : Prop := zSt zz.1 zz.2.1 zz.2.2.1 zz.2.2.2.1 zz.2.2.2.2.1 zz.2.2.2.2.2.1 zz.2.2.2.2.2.2.1 zz.2.2.2.2.2.2.2.1 zz.2.2.2.2.2.2.2.2.1 zz.2.2.2.2.2.2.2.2.2.1 zz.2.2.2.2.2.2.2.2.2.2.1 zz.2.2.2.2.2.2.2.2.2.2.2.1 zz.2.2.2.2.2.2.2.2.2.2.2.2.1 zz.2.2.2.2.2.2.2.2.2.2.2.2.2.1 zz.2.2.2.2.2.2.2.2.2.2.2.2.2.2.1 zz.2.2.2.2.2.2.2.2.2.2.2.2.2.2.2.1 zz.2.2.2.2.2.2.2.2.2.2.2.2.2.2.2.2.1 zz.2.2.2.2.2.2.2.2.2.2.2.2.2.2.2.2.2.1 zz.2.2.2.2.2.2.2.2.2.2.2.2.2.2.2.2.2.2.1 zz.2.2.2.2.2.2.2.2.2.2.2.2.2.2.2.2.2.2.2.1 zz.2.2.2.2.2.2.2.2.2.2.2.2.2.2.2.2.2.2.2.2.1 zz.2.2.2.2.2.2.2.2.2.2.2.2.2.2.2.2.2.2.2.2.2.1 zz.2.2.2.2.2.2.2.2.2.2.2.2.2.2.2.2.2.2.2.2.2.2.1 zz.2.2.2.2.2.2.2.2.2.2.2.2.2.2.2.2.2.2.2.2.2.2.2.1 zz.2.2.2.2.2.2.2.2.2.2.2.2.2.2.2.2.2.2.2.2.2.2.2.2
theorem zNe : Nonempty ((World) × (Around) × (Heap) × (Heap) × (List Env) × (Addr) × (Addr) × (Value) × (Str → Option Value) × (Str → Option Value) × (Str → Option Value) × (ExcName → Option Value) × (Shared) × (Nat) × (Nat) × (Value → Shared → Prop) × (Flow → Shared → Prop) × (Cst) × (Var) × (List (Addr × Obj)) × (Nat) × (Int) × (Tok) × (Tok) × (Str)) := ⟨(dWorld, dAround, default, default, default, default, default, default, default, default, default, default, dShared, default, default, default, default, dCst, dVar, default, default, default, default, default, default)⟩
noncomputable def zC : (World) × (Around) × (Heap) × (Heap) × (List Env) × (Addr) × (Addr) × (Value) × (Str → Option Value) × (Str → Option Value) × (Str → Option Value) × (ExcName → Option Value) × (Shared) × (Nat) × (Nat) × (Value → Shared → Prop) × (Flow → Shared → Prop) × (Cst) × (Var) × (List (Addr × Obj)) × (Nat) × (Int) × (Tok) × (Tok) × (Str) := @Classical.epsilon _ zNe fun c => ¬ zSc c
noncomputable def w : World := zC.1
noncomputable def A₀ : Around := zC.2.1
noncomputable def base : Heap := zC.2.2.1
noncomputable def h₀ : Heap := zC.2.2.2.1
noncomputable def outer : List Env := zC.2.2.2.2.1
noncomputable def L : Addr := zC.2.2.2.2.2.1
noncomputable def fa : Addr := zC.2.2.2.2.2.2.1
noncomputable def cd : Value := zC.2.2.2.2.2.2.2.1
noncomputable def m : Str → Option Value := zC.2.2.2.2.2.2.2.2.1
noncomputable def mg : Str → Option Value := zC.2.2.2.2.2.2.2.2.2.1
noncomputable def mb : Str → Option Value := zC.2.2.2.2.2.2.2.2.2.2.1
noncomputable def mean : ExcName → Option Value := zC.2.2.2.2.2.2.2.2.2.2.2.1
noncomputable def s : Shared := zC.2.2.2.2.2.2.2.2.2.2.2.2.1
noncomputable def d : Nat := zC.2.2.2.2.2.2.2.2.2.2.2.2.2.1
noncomputable def u : Nat := zC.2.2.2.2.2.2.2.2.2.2.2.2.2.2.1
noncomputable def E : Value → Shared → Prop := zC.2.2.2.2.2.2.2.2.2.2.2.2.2.2.2.1
noncomputable def Q : Flow → Shared → Prop := zC.2.2.2.2.2.2.2.2.2.2.2.2.2.2.2.2.1
noncomputable def K : Cst := zC.2.2.2.2.2.2.2.2.2.2.2.2.2.2.2.2.2.1
noncomputable def v : Var := zC.2.2.2.2.2.2.2.2.2.2.2.2.2.2.2.2.2.2.1
noncomputable def Ow : List (Addr × Obj) := zC.2.2.2.2.2.2.2.2.2.2.2.2.2.2.2.2.2.2.2.1
noncomputable def j : Nat := zC.2.2.2.2.2.2.2.2.2.2.2.2.2.2.2.2.2.2.2.2.1
noncomputable def st : Int := zC.2.2.2.2.2.2.2.2.2.2.2.2.2.2.2.2.2.2.2.2.2.1
noncomputable def tst : Tok := zC.2.2.2.2.2.2.2.2.2.2.2.2.2.2.2.2.2.2.2.2.2.2.1
noncomputable def tn : Tok := zC.2.2.2.2.2.2.2.2.2.2.2.2.2.2.2.2.2.2.2.2.2.2.2.1
noncomputable def nm : Str := zC.2.2.2.2.2.2.2.2.2.2.2.2.2.2.2.2.2.2.2.2.2.2.2.2
theorem zCore (B : Below A₀ base outer h₀) (F : Fr h₀ L s.heap m) (X : (Mine.fr.heap_1 w.params).In h₀) (T : Top Mine.vw (looseW Mine.vw []) mean mg mb h₀) (hd : d < 700) (hu : u < 8000) (P : Pins K m) (hcc : K.cc = L + 1) (hst : m (Str.ofString "step") = some (.int st tst)) (hco : v.co.data = .cell (some (.str nm tn))) (hnm : nm ∈ allNames) (N : News h₀ L s.heap (led K v ++ Ow)) (O : Ok K w Ow j v) (hj : j ≤ 40) (hQ : ∀ h' tk m' v', Fr h₀ L h' m' → Pins K m' → News h₀ L h' (led K v' ++ Ow) → Ok K w Ow (j + 1) v' → Q .next { s with heap := h', toks := tk }) : wpAny (model Challenge.rw_nu0320_01.row.prog w) { handled := none, depth := d, frames := some (lawEnv L fa cd :: outer), guards := some [], units := u } (execs brC (lawEnv L fa cd)) Q E s := by
  revert X; k_fill; intro X
  unfold brC turnBody lawBody lawEnv lawScope lawName lawRec recOf
  dsimp only [drop4, drop5, headBody, third, thenOf, elseOf]
  rw [map_pins P hst] at F
  have hnd := O.tops
  have hR := O.rest
  rw [led_open] at N
  dsimp only [Cst.pool, Cst.adE, Cst.akE, Cst.hmE, Cst.lbE, Cst.ccE, Frm.sdo, sv_top, hv_top, lv_top] at N
  have hfl : (K.fl, listOf K.vs.toArray K.nf) ∈ rest v Ow := List.mem_append_right _ (List.mem_append_left _ O.fl)
  have hax : (K.ax, instObj 172 K.ad) ∈ rest v Ow := List.mem_append_right _ (List.mem_append_left _ O.ax)
  have hsx : (v.top.sx, instObj 109 v.top.sd) ∈ rest v Ow := List.mem_append_right _ (List.mem_append_left _ (O.frs v.top (List.mem_append_right _ (.head _))).inst)
  have hit : ∀ i ∈ v.top.its, ItOk K v.imm v.top.lev i := (O.frs v.top (List.mem_append_right _ (.head _))).items
  have immR : ∀ q ∈ v.imm, q ∈ rest v Ow := fun q hq => List.mem_append_right _ (List.mem_append_left _ hq)
  have hsz9 : v.top.its.length ≤ 21 + j := O.size v.top (List.mem_append_right _ (.head _))
  have htx : (K.tx, instObj 88 K.td) ∈ rest v Ow := immR _ O.ty.inst
  have htd : (K.td, dictOf K.tes K.tnn) ∈ rest v Ow := immR _ O.ty.dict
  have hti : getL (Str.ofString "integer") K.tes = some (some (.ref K.ti)) := O.ty.integer
  have hlv : v.top.lev = (v.low.length : Int) - 1 := O.levs v.low.length v.top (by unfold Var.fs; simp)
  rw [hcc] at N
  generalize hRe : rest v Ow = R at *
  unfold tops at hnd hR
  rw [hcc] at hnd hR
  have hnd' := hnd
  simp only [List.nodup_cons, List.mem_cons, not_or, List.not_mem_nil, not_false_eq_true, and_true, List.nodup_nil] at hnd'
  obtain ⟨r1, r2, r3, r4, r5, r6, r7, r8, r9, r10, _⟩ := (by simpa only [OffS, List.forall_mem_cons] using hR : (∀ q ∈ R, q.1 ≠ K.pl) ∧ (∀ q ∈ R, q.1 ≠ K.ad) ∧ (∀ q ∈ R, q.1 ≠ K.ak) ∧ (∀ q ∈ R, q.1 ≠ K.hm) ∧ (∀ q ∈ R, q.1 ≠ K.lb) ∧ (∀ q ∈ R, q.1 ≠ L + 1) ∧ (∀ q ∈ R, q.1 ≠ v.top.sd) ∧ (∀ q ∈ R, q.1 ≠ v.top.nd) ∧ (∀ q ∈ R, q.1 ≠ v.top.od) ∧ (∀ q ∈ R, q.1 ≠ v.top.ha) ∧ _)
  obtain ⟨⟨n1, n2, n3, n4, n5, n6, n7, n8, n9⟩, ⟨n11, n12, n13, n14, n15, n16, n17, n18⟩, ⟨n21, n22, n23, n24, n25, n26, n27⟩, ⟨n31, n32, n33, n34, n35, n36⟩, ⟨n41, n42, n43, n44, n45⟩, ⟨n51, n52, n53, n54⟩, ⟨n61, n62, n63⟩, ⟨n71, n72⟩, n81⟩ := hnd'
  refine hold_post ?_
  k_fold
  (repeat' ((((fail_if_success (with_reducible show Hold _)); (fail_if_success (with_reducible show wpAny _ _ (pyIter _) _ _ _)); (fail_if_success (with_reducible show wpAny _ _ (call (Value.ref _) _ _) _ _ _)); (fail_if_success (with_reducible show wpAny _ _ (compareOp CmpOp.NotEq (Value.ref _) (Value.ref _)) _ _ _)); (fail_if_success (with_reducible show wpAny _ _ (eval (Expr.ListComp _ _ _ _) _) _ _ _)); (fail_if_success (with_reducible show wpAny _ _ (exec (Stmt.Assign _ (Expr.ListComp _ _ _ _) _) _) _ _ _)); (fail_if_success (with_reducible show LCg.CompSrc _ _ _ _ _ _ _ _ _ _ _ _ _ _)); (fail_if_success (with_reducible show LCt.CompSrcT _ _ _ _ _ _ _ _ _ _ _ _ _ _ _)); (fail_if_success (with_reducible show wpAny _ _ (subscriptTail (Expr.List _ _) _ _ _) _ _ _)); (fail_if_success (with_reducible show wpAny _ _ (execs (Stmt.For _ _ _ _ _ :: _) _) _ _ _)); first | (k_unfold; (try dsimp only)) | (k_end; wrow_close) | walk1 | (dsimp only; walk1) | (leave1; walk_say "STEP leave1"; try dsimp only)))))
  refine pick_spec B (by assumption) (by assumption) (by assumption) T rfl rfl (by omega) (by omega) (by k_mem) O.hints (by have := O.figs; omega) (r1 _ hfl) O.i0 O.i1 O.mx0 O.mx1 (by decide) (by decide) (by k_updF) ?_
  intro r tr i' mx' ti' tm' h1 tk1 hr0 hr1 hi0 hi1 hmx0 hmx1 F1 N1
  try dsimp only at N1
  try dsimp only
  refine item_menu (by assumption) (.head _) (ys := [Str.ofString "var", Str.ofString "par", Str.ofString "const", Str.ofString "type", Str.ofString "proc"]) (by repeat constructor) hr0 hr1 (by decide) ?_
  intro kind tkd hkind
  try dsimp only
  replace N1 := news_sub N1 (fun q hq => List.mem_cons_of_mem _ hq)
  (repeat' ((((fail_if_success (with_reducible show Hold _)); (fail_if_success (with_reducible show wpAny _ _ (pyIter _) _ _ _)); (fail_if_success (with_reducible show wpAny _ _ (call (Value.ref _) _ _) _ _ _)); (fail_if_success (with_reducible show wpAny _ _ (compareOp CmpOp.NotEq (Value.ref _) (Value.ref _)) _ _ _)); (fail_if_success (with_reducible show wpAny _ _ (eval (Expr.ListComp _ _ _ _) _) _ _ _)); (fail_if_success (with_reducible show wpAny _ _ (exec (Stmt.Assign _ (Expr.ListComp _ _ _ _) _) _) _ _ _)); (fail_if_success (with_reducible show LCg.CompSrc _ _ _ _ _ _ _ _ _ _ _ _ _ _)); (fail_if_success (with_reducible show LCt.CompSrcT _ _ _ _ _ _ _ _ _ _ _ _ _ _ _)); (fail_if_success (with_reducible show wpAny _ _ (subscriptTail (Expr.List _ _) _ _ _) _ _ _)); (fail_if_success (with_reducible show wpAny _ _ (execs (Stmt.For _ _ _ _ _ :: _) _) _ _ _)); first | (k_unfold; (try dsimp only)) | (k_end; wrow_close) | walk1 | (dsimp only; walk1) | (leave1; walk_say "STEP leave1"; try dsimp only)))))
  k_dflt (refine' LCg.Assign_ListComp_U (F₀ := ?F) ?c1 ?c2 ?c3 ?c4 ?c5 ?c6 ?c7 ?c8 ?c9 ?c10 ?c11)
  (case F => assumption)
  (case c1 => exact rfl)
  (case c2 => with_unfolding_all rfl)
  (case c3 => exact rfl)
  (case c4 => decide)
  (case c5 => exact rfl)
  (case c6 => decide)
  (case c7 => exact rfl)
  (case c8 => exact rfl)
  (case c9 => exact rfl)
  (case c11 => (intro _; exact rfl))
  (repeat' ((((fail_if_success (with_reducible show Hold _)); (fail_if_success (with_reducible show wpAny _ _ (pyIter _) _ _ _)); (fail_if_success (with_reducible show wpAny _ _ (call (Value.ref _) _ _) _ _ _)); (fail_if_success (with_reducible show wpAny _ _ (compareOp CmpOp.NotEq (Value.ref _) (Value.ref _)) _ _ _)); (fail_if_success (with_reducible show wpAny _ _ (eval (Expr.ListComp _ _ _ _) _) _ _ _)); (fail_if_success (with_reducible show wpAny _ _ (exec (Stmt.Assign _ (Expr.ListComp _ _ _ _) _) _) _ _ _)); (fail_if_success (with_reducible show LCg.CompSrc _ _ _ _ _ _ _ _ _ _ _ _ _ _)); (fail_if_success (with_reducible show LCt.CompSrcT _ _ _ _ _ _ _ _ _ _ _ _ _ _ _)); (fail_if_success (with_reducible show wpAny _ _ (subscriptTail (Expr.List _ _) _ _ _) _ _ _)); (fail_if_success (with_reducible show wpAny _ _ (execs (Stmt.For _ _ _ _ _ :: _) _) _ _ _)); first | (k_unfold; (try dsimp only)) | (k_end; wrow_close) | walk1 | (dsimp only; walk1) | (leave1; walk_say "STEP leave1"; try dsimp only)))))
  k_dflt (refine' LCg.CompSrc.ledger (its := (v.top.its.map It.rr).toArray) ?e1 ?e2 ?e3 ?e4 ?e5 ?e6)
  (case e1 => exact rfl)
  (case e2 => assumption)
  (case e3 => assumption)
  (case e4 => k_mem)
  (case e5 => (rw [List.size_toArray, List.length_map, sizeLine_eq]; omega))
  intro g2
  have hz2 : (v.top.its.map It.rr).toArray.size = v.top.its.length := by simp
  rw [hz2]
  refine rows_rest X (.inr ⟨_, by k_mem, rfl, _, rfl⟩) (fun i hi => by have := immR _ (hit i hi).row; k_mem) (fun _ => rfl) (fun _ => rfl) ?f2
  intro ys2 hys2
  unfold LCg.FinA
  intro D2 h4 tk4 F4 N4 o4
  try dsimp only
  (repeat' ((((fail_if_success (with_reducible show Hold _)); (fail_if_success (with_reducible show wpAny _ _ (pyIter _) _ _ _)); (fail_if_success (with_reducible show wpAny _ _ (call (Value.ref _) _ _) _ _ _)); (fail_if_success (with_reducible show wpAny _ _ (compareOp CmpOp.NotEq (Value.ref _) (Value.ref _)) _ _ _)); (fail_if_success (with_reducible show wpAny _ _ (eval (Expr.ListComp _ _ _ _) _) _ _ _)); (fail_if_success (with_reducible show wpAny _ _ (exec (Stmt.Assign _ (Expr.ListComp _ _ _ _) _) _) _ _ _)); (fail_if_success (with_reducible show LCg.CompSrc _ _ _ _ _ _ _ _ _ _ _ _ _ _)); (fail_if_success (with_reducible show LCt.CompSrcT _ _ _ _ _ _ _ _ _ _ _ _ _ _ _)); (fail_if_success (with_reducible show wpAny _ _ (subscriptTail (Expr.List _ _) _ _ _) _ _ _)); (fail_if_success (with_reducible show wpAny _ _ (execs (Stmt.For _ _ _ _ _ :: _) _) _ _ _)); first | (k_unfold; (try dsimp only)) | (k_end; wrow_close) | walk1 | (dsimp only; walk1) | (leave1; walk_say "STEP leave1"; try dsimp only)))))
  have hkvs := (O.frs v.top (List.mem_append_right _ (.head _))).dict
  have hlo := (O.frs v.top (List.mem_append_right _ (.head _))).lo
  refine insert_spec (kpre := v.low.map Frm.sv) (os := v.top.its.map It.rf) (onames := v.top.on) (kvs := v.top.its.map It.kv) (sx := v.top.sx) (sd := v.top.sd) (nd := v.top.nd) (od := v.top.od) (ad := K.ad) (ak := K.ak) (lv := v.top.lev) (clevel := v.top.lev) (slots := v.top.slots) (vlabel := .str v.top.lab v.top.tl) (vtypes := .ref K.tx)
    (c1 := K.c1) (c2 := K.c2) (c3 := K.c3) (c4 := K.c4) (a1 := K.a1) (a2 := K.a2) (a3 := K.a3) (a4 := K.a4) (a5 := K.a5) (a6 := v.a6) (e1 := v.top.e1) (e2 := v.top.e2) (e3 := v.top.e3) (e4 := v.top.e4) (e5 := v.top.e5) (b1 := v.top.b1) (b2 := v.top.b2) (b3 := v.top.b3) (b4 := v.top.b4) (b5 := v.top.b5) (b6 := v.top.b6) (b7 := v.top.b7) (nk := v.nk) (no := v.top.no)
    B (by assumption) (by assumption) N4 T rfl rfl (by omega) (List.forall_mem_cons.mpr ⟨by k_mem, List.forall_mem_cons.mpr ⟨by k_mem, List.forall_mem_cons.mpr ⟨by k_mem, List.forall_mem_cons.mpr ⟨by k_mem, List.forall_mem_cons.mpr ⟨by k_mem, List.forall_mem_cons.mpr ⟨by k_mem, List.forall_mem_cons.mpr ⟨by k_mem, List.forall_mem_nil _⟩⟩⟩⟩⟩⟩⟩) ?nd hkvs hlo (by rw [List.length_map]; omega) (by rw [List.length_map]; omega) ?dup ?new
  case nd =>
    have NR : News h₀ L h4 R := news_sub N4 fun q hq => .tail _ (.tail _ (.tail _ (.tail _ (.tail _ (.tail _ (.tail _ (.tail _ (.tail _ (.tail _ (.tail _ hq))))))))))
    have z1 : K.ax ≠ v.top.sx := fun e => by have := (inst_cls NR hax (e ▸ hsx)).1; exact absurd this (by decide)
    simp only [List.nodup_cons, List.mem_cons, not_or, List.not_mem_nil, not_false_eq_true, and_true, List.nodup_nil]
    exact ⟨⟨r2 _ hax, r3 _ hax, z1, r7 _ hax, r8 _ hax, r9 _ hax⟩, ⟨n11, Ne.symm (r2 _ hsx), n15, n16, n17⟩, ⟨Ne.symm (r3 _ hsx), n24, n25, n26⟩, ⟨r7 _ hsx, r8 _ hsx, r9 _ hsx⟩, ⟨n61, n62⟩, n71⟩
  case dup =>
    intro hdup h5 tk5 F5 N5
    have hb := (any_names v.top.its nm).trans hdup
    dsimp only
    (repeat' ((((fail_if_success (with_reducible show Hold _)); (fail_if_success (with_reducible show wpAny _ _ (pyIter _) _ _ _)); (fail_if_success (with_reducible show wpAny _ _ (call (Value.ref _) _ _) _ _ _)); (fail_if_success (with_reducible show wpAny _ _ (compareOp CmpOp.NotEq (Value.ref _) (Value.ref _)) _ _ _)); (fail_if_success (with_reducible show wpAny _ _ (eval (Expr.ListComp _ _ _ _) _) _ _ _)); (fail_if_success (with_reducible show wpAny _ _ (exec (Stmt.Assign _ (Expr.ListComp _ _ _ _) _) _) _ _ _)); (fail_if_success (with_reducible show LCg.CompSrc _ _ _ _ _ _ _ _ _ _ _ _ _ _)); (fail_if_success (with_reducible show LCt.CompSrcT _ _ _ _ _ _ _ _ _ _ _ _ _ _ _)); (fail_if_success (with_reducible show wpAny _ _ (subscriptTail (Expr.List _ _) _ _ _) _ _ _)); (fail_if_success (with_reducible show wpAny _ _ (execs (Stmt.For _ _ _ _ _ :: _) _) _ _ _)); first | (k_unfold; (try dsimp only)) | (k_end; wrow_close) | walk1 | (dsimp only; walk1) | (leave1; walk_say "STEP leave1"; try dsimp only)))))
    k_unfold
    try dsimp only
    subst hRe
    refine Exists.elim (pool_end O (news_sub (by with_reducible assumption) fun q hq => .tail _ (by rw [← hcc]; exact hq)) hi0 hi1 hmx0 hmx1) ?fin
    case fin =>
      intro v' hv'
      exact ⟨hQ _ _ _ v' (by with_reducible assumption) ⟨rfl, rfl, rfl, rfl, rfl⟩ hv'.1 hv'.2⟩
  case new =>
    intro hnew h5 tk5 x dd es ne onames' no' t4 F5 hob hkv5 ux ud uxd hN5
    have hb := (any_names v.top.its nm).trans (by rw [hnew]; rfl : _ = false)
    have N5 := hN5 ((x, instObj 52 dd) :: (dd, dictOf es ne) :: (D2, LCg.lst ys2) :: (K.pl, listOf #[.ref K.fl, .int i' ti', .int mx' tm'] v.np) ::
      (K.ad, scopesD K.c1 K.c2 K.c3 K.c4 K.a1 K.a2 K.a3 K.a4 (.ref K.tx) (.str (Str.ofString "M") K.a5) K.ak v.top.lev v.a6) :: (K.ak, listOf (v.low.map Frm.sv ++ [Value.ref v.top.sx]).toArray v.nk) ::
      (K.hm, listOf (v.low.map Frm.hv ++ [Value.ref v.top.ha]).toArray v.nh) :: (K.lb, listOf (v.low.map Frm.lv ++ [Value.str v.top.lab v.top.ll]).toArray v.nl) :: (L + 1, v.co) ::
      (v.top.sd, scopeD v.top.e1 v.top.e2 v.top.e3 v.top.e4 v.top.e5 v.top.b1 v.top.b2 v.top.b3 v.top.b4 v.top.b5 v.top.lev v.top.b6 (.str v.top.lab v.top.tl) v.top.nd v.top.od (if isVar kind then v.top.slots + 1 else v.top.slots) t4) ::
      (v.top.nd, onames') :: (v.top.od, listOf (v.top.its.map It.rf ++ [Value.ref x]).toArray no') :: (v.top.ha, listOf (v.top.its.map It.rr).toArray v.top.nh) :: R) ?n5
    case n5 =>
      have hD2 := off1_mem _ o4
      simp only [List.forall_mem_cons] at hD2
      obtain ⟨g1, g2, g3, g4, g5, g6, g7, g8, g9, g10, gR⟩ := hD2
      intro q hq
      rcases List.mem_cons.mp hq with rfl | hq
      · exact .inl (.head _)
      rcases List.mem_cons.mp hq with rfl | hq
      · exact .inl (.tail _ (.head _))
      rcases List.mem_cons.mp hq with rfl | hq
      · exact .inr ⟨.head _, Ne.symm g7, Ne.symm g8, Ne.symm g9⟩
      rcases List.mem_cons.mp hq with rfl | hq
      · exact .inr ⟨by k_mem, n6, n7, n8⟩
      rcases List.mem_cons.mp hq with rfl | hq
      · exact .inr ⟨by k_mem, n15, n16, n17⟩
      rcases List.mem_cons.mp hq with rfl | hq
      · exact .inr ⟨by k_mem, n24, n25, n26⟩
      rcases List.mem_cons.mp hq with rfl | hq
      · exact .inr ⟨by k_mem, n33, n34, n35⟩
      rcases List.mem_cons.mp hq with rfl | hq
      · exact .inr ⟨by k_mem, n42, n43, n44⟩
      rcases List.mem_cons.mp hq with rfl | hq
      · exact .inr ⟨by k_mem, n51, n52, n53⟩
      rcases List.mem_cons.mp hq with rfl | hq
      · exact .inl (.tail _ (.tail _ (.head _)))
      rcases List.mem_cons.mp hq with rfl | hq
      · exact .inl (.tail _ (.tail _ (.tail _ (.head _))))
      rcases List.mem_cons.mp hq with rfl | hq
      · exact .inl (.tail _ (.tail _ (.tail _ (.tail _ (.head _)))))
      rcases List.mem_cons.mp hq with rfl | hq
      · exact .inr ⟨by k_mem, Ne.symm n63, Ne.symm n72, Ne.symm n81⟩
      exact .inr ⟨by k_mem, r7 q hq, r8 q hq, r9 q hq⟩
    clear hN5
    dsimp only
    (repeat' ((((fail_if_success (with_reducible show Hold _)); (fail_if_success (with_reducible show wpAny _ _ (pyIter _) _ _ _)); (fail_if_success (with_reducible show wpAny _ _ (call (Value.ref _) _ _) _ _ _)); (fail_if_success (with_reducible show wpAny _ _ (compareOp CmpOp.NotEq (Value.ref _) (Value.ref _)) _ _ _)); (fail_if_success (with_reducible show wpAny _ _ (eval (Expr.ListComp _ _ _ _) _) _ _ _)); (fail_if_success (with_reducible show wpAny _ _ (exec (Stmt.Assign _ (Expr.ListComp _ _ _ _) _) _) _ _ _)); (fail_if_success (with_reducible show LCg.CompSrc _ _ _ _ _ _ _ _ _ _ _ _ _ _)); (fail_if_success (with_reducible show LCt.CompSrcT _ _ _ _ _ _ _ _ _ _ _ _ _ _ _)); (fail_if_success (with_reducible show wpAny _ _ (subscriptTail (Expr.List _ _) _ _ _) _ _ _)); (fail_if_success (with_reducible show wpAny _ _ (execs (Stmt.For _ _ _ _ _ :: _) _) _ _ _)); first | (k_unfold; (try dsimp only)) | (k_end; wrow_close) | walk1 | (dsimp only; walk1) | (leave1; walk_say "STEP leave1"; try dsimp only)))))
    k_dflt (refine' LCt.ListComp_T (F₀ := ?Fb) ?b1 ?b2 ?b3 ?b4 ?b5 ?b6 ?b7)
    (case Fb => assumption)
    (case b1 => exact rfl)
    (case b2 => decide)
    (case b3 => exact rfl)
    (case b4 => decide)
    (case b5 => exact rfl)
    (case b7 => (intro _; exact rfl))
    (repeat' ((((fail_if_success (with_reducible show Hold _)); (fail_if_success (with_reducible show wpAny _ _ (pyIter _) _ _ _)); (fail_if_success (with_reducible show wpAny _ _ (call (Value.ref _) _ _) _ _ _)); (fail_if_success (with_reducible show wpAny _ _ (compareOp CmpOp.NotEq (Value.ref _) (Value.ref _)) _ _ _)); (fail_if_success (with_reducible show wpAny _ _ (eval (Expr.ListComp _ _ _ _) _) _ _ _)); (fail_if_success (with_reducible show wpAny _ _ (exec (Stmt.Assign _ (Expr.ListComp _ _ _ _) _) _) _ _ _)); (fail_if_success (with_reducible show LCg.CompSrc _ _ _ _ _ _ _ _ _ _ _ _ _ _)); (fail_if_success (with_reducible show LCt.CompSrcT _ _ _ _ _ _ _ _ _ _ _ _ _ _ _)); (fail_if_success (with_reducible show wpAny _ _ (subscriptTail (Expr.List _ _) _ _ _) _ _ _)); (fail_if_success (with_reducible show wpAny _ _ (execs (Stmt.For _ _ _ _ _ :: _) _) _ _ _)); first | (k_unfold; (try dsimp only)) | (k_end; wrow_close) | walk1 | (dsimp only; walk1) | (leave1; walk_say "STEP leave1"; try dsimp only)))))
    k_dflt (refine' LCt.CompSrcT.ledger (its := (v.top.its.map It.rr).toArray) ?g1 ?g2 ?g3 ?g4 ?g5 ?g6)
    (case g1 => exact rfl)
    (case g2 => assumption)
    (case g3 => assumption)
    (case g4 => k_mem)
    (case g5 => (rw [List.size_toArray, List.length_map, sizeLine_eq]; omega))
    intro g3
    rw [hz2]
    have hpre9 : ∀ i ∈ v.top.its, i.pre = true → isVar i.o.kd = false := fun i hi hp => by
      obtain ⟨_, _, _, _, _, _, _, _, _, _, _, _, _, h5, _⟩ := (hit i hi).pre hp
      exact h5
    refine count_rest X (.inr ⟨_, by k_mem, rfl, _, rfl⟩) (fun i hi => by have := immR _ (hit i hi).row; k_mem) (fun i hi => ((hit i hi).item.mono immR).mono fun q hq => by k_mem) hpre9 (fun _ => rfl) (fun _ => rfl) ?f3
    intro ys3 extra hys3 hex
    unfold LCg.FinE
    intro D3 h6 tk6 F6 N6 o6
    replace N6 := news_sub N6 (fun q hq => (List.mem_cons.mp hq).elim (fun e => by rw [e]; exact List.Mem.head _) fun h => List.mem_cons_of_mem _ (List.mem_append_right _ h) : ∀ q ∈ (D3, LCg.lst ys3) :: _, _)
    have hc3 := List.length_filter_le (fun i : It => isVar i.o.kd) v.top.its
    have memha : ∀ {Z : List (Addr × Obj)} (a1 a2 a3 a4 a5 a6 a7 a8 a9 a10 : Addr × Obj), a10 ∈ a1 :: a2 :: a3 :: a4 :: a5 :: a6 :: a7 :: a8 :: a9 :: a10 :: Z := fun _ _ _ _ _ _ _ _ _ _ => by simp
    have hx1 : v.top.ha ≠ x := ux _ (.tail _ (memha ..))
    have hx2 : v.top.ha ≠ dd := ud _ (.tail _ (memha ..))
    have hx3 : v.top.ha ≠ D2 := off1_mem _ o4 _ (memha ..)
    have hx4 : v.top.ha ≠ D3 := off1_mem _ o6 (v.top.ha, listOf (v.top.its.map It.rr).toArray v.top.nh) (List.mem_append_right _ (.tail _ (.tail _ (.tail _ (memha ..)))))
    clear o6
    have hroom := O.room
    have hsl9 := (O.frs v.top (List.mem_append_right _ (.head _))).slots
    have hgn := hob.name
    have hgk := hob.kind
    have hgp := hob.place
    obtain ⟨tlv, hgl⟩ := hob.level
    obtain ⟨tmd, hgm⟩ := hob.module
    obtain ⟨tsl, hgs⟩ := hob.slot
    try dsimp only
    (repeat' ((((fail_if_success (with_reducible show Hold _)); (fail_if_success (with_reducible show wpAny _ _ (pyIter _) _ _ _)); (fail_if_success (with_reducible show wpAny _ _ (call (Value.ref _) _ _) _ _ _)); (fail_if_success (with_reducible show wpAny _ _ (compareOp CmpOp.NotEq (Value.ref _) (Value.ref _)) _ _ _)); (fail_if_success (with_reducible show wpAny _ _ (eval (Expr.ListComp _ _ _ _) _) _ _ _)); (fail_if_success (with_reducible show wpAny _ _ (exec (Stmt.Assign _ (Expr.ListComp _ _ _ _) _) _) _ _ _)); (fail_if_success (with_reducible show LCg.CompSrc _ _ _ _ _ _ _ _ _ _ _ _ _ _)); (fail_if_success (with_reducible show LCt.CompSrcT _ _ _ _ _ _ _ _ _ _ _ _ _ _ _)); (fail_if_success (with_reducible show wpAny _ _ (subscriptTail (Expr.List _ _) _ _ _) _ _ _)); (fail_if_success (with_reducible show wpAny _ _ (execs (Stmt.For _ _ _ _ _ :: _) _) _ _ _)); first | (k_unfold; (try dsimp only)) | (k_end; wrow_close) | walk1 | (dsimp only; walk1) | (leave1; walk_say "STEP leave1"; try dsimp only)))))
    have hstr : PyData.strOk nm = true := List.all_eq_true.mp (by decide +kernel : allNames.all PyData.strOk = true) nm hnm
    have hstk : PyData.strOk kind = true := List.all_eq_true.mp (by decide +kernel : [Str.ofString "var", Str.ofString "par", Str.ofString "const", Str.ofString "type", Str.ofString "proc"].all PyData.strOk = true) kind hkind
    refine ne_tup4 (by with_reducible assumption) (.tail _ (.head _)) (.head _) (by rw [hlv]; split <;> split <;> omega) hstr hstk (by rw [cLine_is]; dsimp only; omega) ?_
    cases hv : isVar kind
    all_goals by_cases hl : 0 ≤ v.top.lev
    all_goals simp only [hv, hl, Bool.false_eq_true, if_false, if_true] at hgs hgm
    all_goals (repeat' ((((fail_if_success (with_reducible show Hold _)); (fail_if_success (with_reducible show wpAny _ _ (pyIter _) _ _ _)); (fail_if_success (with_reducible show wpAny _ _ (call (Value.ref _) _ _) _ _ _)); (fail_if_success (with_reducible show wpAny _ _ (compareOp CmpOp.NotEq (Value.ref _) (Value.ref _)) _ _ _)); (fail_if_success (with_reducible show wpAny _ _ (eval (Expr.ListComp _ _ _ _) _) _ _ _)); (fail_if_success (with_reducible show wpAny _ _ (exec (Stmt.Assign _ (Expr.ListComp _ _ _ _) _) _) _ _ _)); (fail_if_success (with_reducible show LCg.CompSrc _ _ _ _ _ _ _ _ _ _ _ _ _ _)); (fail_if_success (with_reducible show LCt.CompSrcT _ _ _ _ _ _ _ _ _ _ _ _ _ _ _)); (fail_if_success (with_reducible show wpAny _ _ (subscriptTail (Expr.List _ _) _ _ _) _ _ _)); (fail_if_success (with_reducible show wpAny _ _ (execs (Stmt.For _ _ _ _ _ :: _) _) _ _ _)); first | (k_unfold; (try dsimp only)) | (k_end; wrow_close) | walk1 | (dsimp only; walk1) | (leave1; walk_say "STEP leave1"; try dsimp only)))))
    all_goals (try (exfalso; omega))
    all_goals (k_unfold; (try dsimp only))
    all_goals subst hRe
    all_goals simp only [List.forall_mem_cons] at ux ud
    all_goals obtain ⟨_, z1, z2, z3, z4, z5, z6, z7, z8, z9, z10, zR⟩ := ux
    all_goals obtain ⟨_, y1, y2, y3, y4, y5, y6, y7, y8, y9, y10, yR⟩ := ud
    all_goals refine Exists.elim (ins_end (x := x) (dd := dd) (nm := nm) (tn := tn) (kind := kind) (tkd := tkd) (st := st) (tst := tst) O (by rw [hcc]; exact ins_news (row := (_, rowObj nm tn (.ref x))) (by assumption)) hi0 hi1 hmx0 hmx1 ?_ hob hkv5 hnm hnew (by rw [hv])) (fun v' hv' => ⟨hQ _ _ _ v' (by with_reducible assumption) ⟨rfl, rfl, rfl, rfl, rfl⟩ hv'.1 hv'.2⟩)
    all_goals rw [led_open]
    all_goals simp only [List.forall_mem_cons]
    all_goals dsimp only [Cst.pool, Cst.adE, Cst.akE, Cst.hmE, Cst.lbE, Cst.ccE]
    all_goals rw [hcc]
    all_goals refine ⟨⟨by k_ne, z1, y1⟩, ⟨by k_ne, z2, y2⟩, ⟨by k_ne, z3, y3⟩, ⟨by k_ne, z4, y4⟩, ⟨by k_ne, z5, y5⟩, ⟨by k_ne, z6, y6⟩, ⟨by k_ne, z7, y7⟩, ⟨by k_ne, z8, y8⟩, ⟨by k_ne, z9, y9⟩, ⟨by k_ne, z10, y10⟩, fun q hq => ⟨?_, zR q hq, yR q hq⟩⟩
    all_goals revert q
    all_goals k_all
end ZbrCspec
theorem brC_spec {w : World} {A₀ : Around} {base : Heap} {h₀ : Heap} {outer : List Env} {L : Addr} {fa : Addr} {cd : Value} {m : Str → Option Value} {mg : Str → Option Value} {mb : Str → Option Value} {mean : ExcName → Option Value} {s : Shared} {d : Nat} {u : Nat} {E : Value → Shared → Prop} {Q : Flow → Shared → Prop} {K : Cst} {v : Var} {Ow : List (Addr × Obj)} {j : Nat} {st : Int} {tst : Tok} {tn : Tok} {nm : Str} (B : Below A₀ base outer h₀) (F : Fr h₀ L s.heap m) (X : (Mine.fr.heap_1 w.params).In h₀) (T : Top Mine.vw (looseW Mine.vw []) mean mg mb h₀) (hd : d < 700) (hu : u < 8000) (P : Pins K m) (hcc : K.cc = L + 1) (hst : m (Str.ofString "step") = some (.int st tst)) (hco : v.co.data = .cell (some (.str nm tn))) (hnm : nm ∈ allNames) (N : News h₀ L s.heap (led K v ++ Ow)) (O : Ok K w Ow j v) (hj : j ≤ 40) (hQ : ∀ h' tk m' v', Fr h₀ L h' m' → Pins K m' → News h₀ L h' (led K v' ++ Ow) → Ok K w Ow (j + 1) v' → Q .next { s with heap := h', toks := tk }) :
    wpAny (model Challenge.rw_nu0320_01.row.prog w) { handled := none, depth := d, frames := some (lawEnv L fa cd :: outer), guards := some [], units := u } (execs brC (lawEnv L fa cd)) Q E s :=
  (eps_all (ne := ZbrCspec.zNe) (P := ZbrCspec.zSc) ZbrCspec.zCore : ∀ c, ZbrCspec.zSc c) (w, A₀, base, h₀, outer, L, fa, cd, m, mg, mb, mean, s, d, u, E, Q, K, v, Ow, j, st, tst, tn, nm) B F X T hd hu P hcc hst hco hnm N O hj hQ
end
-- L4
end
end
end
end
end
example {M : Model} {A : Around} {E : Value → Shared → Prop} {s : Shared} {Q : Flow → Shared → Prop} {env : Env} (h : Q .next s) : wpAny M A (execs [] env) Q E s := by
  first | (walk1; exact h) | exact fun _ _ _ => h
section
local macro_rules | `(tactic| walk_at "isTrue BoolOp") => `(tactic| (k_here; (with_reducible show wpAny _ _ (isTrue (Expr.BoolOp _ [] _) _ _) _ _ _); k_dflt (first | (refine isTrue_and_nil ?_) | (refine isTrue_or_nil ?_))))
section
local macro_rules | `(tactic| walk_at "compareOp In str ref") => `(tactic| (k_here; k_dflt (refine' in_names ?N ?m ?s ?b ?_; (case N => k_asm); (case s => with_reducible assumption); (case b => with_reducible assumption); (case m => k_mem); k_whole)))
section
local macro_rules | `(tactic| walk_at "compareOp In str ref") => `(tactic| (k_here; k_dflt (refine' in_vp ?N ?m ?b ?_; (case N => k_asm); (case m => exact List.Mem.head _); (case b => with_reducible assumption); k_whole)))
section
local macro_rules | `(tactic| walk_at "subscriptTail Name Constant ref int") => `(tactic| (k_dflt (refine' at0 ?N ?m ?_ ?hs; (case N => k_asm); (case m => k_mem); (case hs => with_unfolding_all rfl); k_whole)))
section
local macro_rules | `(tactic| walk_at "subscriptTail Subscript Name Constant Constant ref int") => `(tactic| (k_dflt (refine' row1 ?N ?m ?_ ?hs; (case N => k_asm); (case m => k_mem); (case hs => with_unfolding_all rfl); k_whole)))
section
theorem frame_cells {K : Cst} {v : Var} {O : List (Addr × Obj)} : ∀ f ∈ v.fs, ∀ q ∈ f.cells, q ∈ led K v ++ O := by
  intro f hf q hq
  refine List.mem_append_left _ ?_
  unfold led
  rcases List.mem_append.mp hf with h | h
  · have : q ∈ lowcells v.low := List.mem_flatMap.mpr ⟨f, h, hq⟩
    simp [this]
  · rw [List.mem_singleton.mp h] at hq
    simp [hq]
theorem imm_led {K : Cst} {v : Var} {O : List (Addr × Obj)} : ∀ q ∈ v.imm, q ∈ led K v ++ O := fun q hq => List.mem_append_left _ (by unfold led; simp [hq])
theorem fd_cells {K : Cst} {w : World} {O : List (Addr × Obj)} {j : Nat} {v : Var} (k : Ok K w O j v) : ∀ q ∈ (v.fs.map fdOf).flatMap FD.cells, q ∈ led K v ++ O := by
  intro q hq
  obtain ⟨g, hg, hq⟩ := List.mem_flatMap.mp hq
  obtain ⟨f, hf, rfl⟩ := List.mem_map.mp hg
  rcases List.mem_cons.mp hq with rfl | hq
  · exact imm_led _ (k.frs f hf).inst
  rcases List.mem_cons.mp hq with rfl | hq
  · exact frame_cells f hf _ (.head _)
  rcases List.mem_cons.mp hq with rfl | hq
  · exact frame_cells f hf _ (.tail _ (.head _))
  · cases hq
theorem drop_rows (r : List It) (i : It) : ((r ++ [i]).map It.rr).drop (((r ++ [i]).map It.rr).length - 1) = [Value.ref i.r] := by
  rw [List.map_append, List.length_append]
  exact List.drop_left
namespace ZbrDspec
def zSt (w : World) (A₀ : Around) (base : Heap) (h₀ : Heap) (outer : List Env) (L : Addr) (fa : Addr) (cd : Value) (m : Str → Option Value) (mg : Str → Option Value) (mb : Str → Option Value) (mean : ExcName → Option Value) (s : Shared) (d : Nat) (u : Nat) (E : Value → Shared → Prop) (Q : Flow → Shared → Prop) (K : Cst) (v : Var) (Ow : List (Addr × Obj)) (j : Nat) (tn : Tok) (nm : Str) : Prop := ∀ (B : Below A₀ base outer h₀) (F : Fr h₀ L s.heap m) (X : (Mine.fr.heap_1 w.params).In h₀) (T : Top Mine.vw (looseW Mine.vw []) mean mg mb h₀) (hd : d < 700) (hu : u < 8000) (P : Pins K m) (hcc : K.cc = L + 1) (hco : v.co.data = .cell (some (.str nm tn))) (hnm : nm ∈ allNames) (N : News h₀ L s.heap (led K v ++ Ow)) (O : Ok K w Ow j v) (hj : j ≤ 40) (hQ : ∀ h' tk m' v', Fr h₀ L h' m' → Pins K m' → News h₀ L h' (led K v' ++ Ow) → Ok K w Ow (j + 1) v' → Q .next { s with heap := h', toks := tk }), wpAny (model Challenge.rw_nu0320_01.row.prog w) { handled := none, depth := d, frames := some (lawEnv L fa cd :: outer), guards := some [], units := u } (execs brD (lawEnv L fa cd)) Q E s
def zSc (zz : (World) × (Around) × (Heap) × (Heap) × (List Env) × (Addr) × (Addr) × (Value) × (Str → Option Value) × (Str → Option Value) × (Str → Option Value) × (ExcName → Option Value) × (Shared) × (Nat) × (Nat) × (Value → Shared → Prop) × (Flow → Shared → Prop) × (Cst) × (Var) × (List (Addr × Obj)) × (Nat) × (Tok) × (Str)) : Prop := zSt zz.1 zz.2.1 zz.2.2.1 zz.2.2.2.1 zz.2.2.2.2.1 zz.2.2.2.2.2.1 zz.2.2.2.2.2.2.1 zz.2.2.2.2.2.2.2.1 zz.2.2.2.2.2.2.2.2.1 zz.2.2.2.2.2.2.2.2.2.1 zz.2.2.2.2.2.2.2.2.2.2.1 zz.2.2.2.2.2.2.2.2.2.2.2.1 zz.2.2.2.2.2.2.2.2.2.2.2.2.1 zz.2.2.2.2.2.2.2.2.2.2.2.2.2.1 zz.2.2.2.2.2.2.2.2.2.2.2.2.2.2.1 zz.2.2.2.2.2.2.2.2.2.2.2.2.2.2.2.1 zz.2.2.2.2.2.2.2.2.2.2.2.2.2.2.2.2.1 zz.2.2.2.2.2.2.2.2.2.2.2.2.2.2.2.2.2.1 zz.2.2.2.2.2.2.2.2.2.2.2.2.2.2.2.2.2.2.1 zz.2.2.2.2.2.2.2.2.2.2.2.2.2.2.2.2.2.2.2.1 zz.2.2.2.2.2.2.2.2.2.2.2.2.2.2.2.2.2.2.2.2.1 zz.2.2.2.2.2.2.2.2.2.2.2.2.2.2.2.2.2.2.2.2.2.1 zz.2.2.2.2.2.2.2.2.2.2.2.2.2.2.2.2.2.2.2.2.2.2
theorem zNe : Nonempty ((World) × (Around) × (Heap) × (Heap) × (List Env) × (Addr) × (Addr) × (Value) × (Str → Option Value) × (Str → Option Value) × (Str → Option Value) × (ExcName → Option Value) × (Shared) × (Nat) × (Nat) × (Value → Shared → Prop) × (Flow → Shared → Prop) × (Cst) × (Var) × (List (Addr × Obj)) × (Nat) × (Tok) × (Str)) := ⟨(dWorld, dAround, default, default, default, default, default, default, default, default, default, default, dShared, default, default, default, default, dCst, dVar, default, default, default, default)⟩
noncomputable def zC : (World) × (Around) × (Heap) × (Heap) × (List Env) × (Addr) × (Addr) × (Value) × (Str → Option Value) × (Str → Option Value) × (Str → Option Value) × (ExcName → Option Value) × (Shared) × (Nat) × (Nat) × (Value → Shared → Prop) × (Flow → Shared → Prop) × (Cst) × (Var) × (List (Addr × Obj)) × (Nat) × (Tok) × (Str) := @Classical.epsilon _ zNe fun c => ¬ zSc c
noncomputable def w : World := zC.1
noncomputable def A₀ : Around := zC.2.1
noncomputable def base : Heap := zC.2.2.1
noncomputable def h₀ : Heap := zC.2.2.2.1
noncomputable def outer : List Env := zC.2.2.2.2.1
noncomputable def L : Addr := zC.2.2.2.2.2.1
noncomputable def fa : Addr := zC.2.2.2.2.2.2.1
noncomputable def cd : Value := zC.2.2.2.2.2.2.2.1
noncomputable def m : Str → Option Value := zC.2.2.2.2.2.2.2.2.1
noncomputable def mg : Str → Option Value := zC.2.2.2.2.2.2.2.2.2.1
noncomputable def mb : Str → Option Value := zC.2.2.2.2.2.2.2.2.2.2.1
noncomputable def mean : ExcName → Option Value := zC.2.2.2.2.2.2.2.2.2.2.2.1
noncomputable def s : Shared := zC.2.2.2.2.2.2.2.2.2.2.2.2.1
noncomputable def d : Nat := zC.2.2.2.2.2.2.2.2.2.2.2.2.2.1
noncomputable def u : Nat := zC.2.2.2.2.2.2.2.2.2.2.2.2.2.2.1
noncomputable def E : Value → Shared → Prop := zC.2.2.2.2.2.2.2.2.2.2.2.2.2.2.2.1
noncomputable def Q : Flow → Shared → Prop := zC.2.2.2.2.2.2.2.2.2.2.2.2.2.2.2.2.1
noncomputable def K : Cst := zC.2.2.2.2.2.2.2.2.2.2.2.2.2.2.2.2.2.1
noncomputable def v : Var := zC.2.2.2.2.2.2.2.2.2.2.2.2.2.2.2.2.2.2.1
noncomputable def Ow : List (Addr × Obj) := zC.2.2.2.2.2.2.2.2.2.2.2.2.2.2.2.2.2.2.2.1
noncomputable def j : Nat := zC.2.2.2.2.2.2.2.2.2.2.2.2.2.2.2.2.2.2.2.2.1
noncomputable def tn : Tok := zC.2.2.2.2.2.2.2.2.2.2.2.2.2.2.2.2.2.2.2.2.2.1
noncomputable def nm : Str := zC.2.2.2.2.2.2.2.2.2.2.2.2.2.2.2.2.2.2.2.2.2.2
theorem zCore (B : Below A₀ base outer h₀) (F : Fr h₀ L s.heap m) (X : (Mine.fr.heap_1 w.params).In h₀) (T : Top Mine.vw (looseW Mine.vw []) mean mg mb h₀) (hd : d < 700) (hu : u < 8000) (P : Pins K m) (hcc : K.cc = L + 1) (hco : v.co.data = .cell (some (.str nm tn))) (hnm : nm ∈ allNames) (N : News h₀ L s.heap (led K v ++ Ow)) (O : Ok K w Ow j v) (hj : j ≤ 40) (hQ : ∀ h' tk m' v', Fr h₀ L h' m' → Pins K m' → News h₀ L h' (led K v' ++ Ow) → Ok K w Ow (j + 1) v' → Q .next { s with heap := h', toks := tk }) : wpAny (model Challenge.rw_nu0320_01.row.prog w) { handled := none, depth := d, frames := some (lawEnv L fa cd :: outer), guards := some [], units := u } (execs brD (lawEnv L fa cd)) Q E s := by
  revert X; k_fill; intro X
  unfold brD turnBody lawBody lawEnv lawScope lawName lawRec recOf
  dsimp only [drop4, drop5, headBody, third, thenOf, elseOf]
  rw [P.map] at F
  have hroom := O.room
  have hfd := fd_cells O
  have hin : ∀ f ∈ v.fs, ∀ q ∈ f.cells, q ∈ led K v ++ Ow := frame_cells
  have himm : ∀ q ∈ v.imm, q ∈ led K v ++ Ow := imm_led
  have hok : ∀ g ∈ v.fs.map fdOf, g.Ok Challenge.rw_nu0320_01.row.prog w := fun g hg => by
    obtain ⟨f, hf, rfl⟩ := List.mem_map.mp hg
    exact ⟨rfl, (O.frs f hf).dict, (O.frs f hf).lo⟩
  have hlen : v.fs.length ≤ 7 := by unfold Var.fs; rw [List.length_append]; simp only [List.length_cons, List.length_nil]; omega
  have hrf : (v.fs.map fdOf).map FD.rf = v.low.map Frm.sv ++ [Value.ref v.top.sx] := by unfold Var.fs; rw [List.map_append, List.map_append, List.map_map]; rfl
  have hhf : (homesOf v.fs).map (fun b => Value.ref b.1) = v.low.map Frm.hv ++ [Value.ref v.top.ha] := by unfold Var.fs homesOf; rw [List.map_append, List.map_append, List.map_map]; rfl
  have hhl : ((homesOf v.fs).flatMap fun b : Addr × List Value => b.2).length ≤ sizeLine := by
    have h1 := homes_len (k := 61) v.fs fun f hf => Nat.le_trans (O.size f hf) (by omega)
    have h2 : 61 * v.fs.length ≤ 61 * 7 := Nat.mul_le_mul_left _ hlen
    rw [sizeLine_eq]; omega
  have hax : (K.ax, instObj 172 K.ad) ∈ rest v Ow := List.mem_append_right _ (List.mem_append_left _ O.ax)
  rw [led_open] at N hfd hin himm
  dsimp only [Cst.pool, Cst.adE, Cst.akE, Cst.hmE, Cst.lbE, Cst.ccE, sv_top, hv_top, lv_top] at N hfd hin himm
  rw [hcc] at N hfd hin himm
  generalize hRe : rest v Ow = R at N hfd hin himm hax
  refine hold_post ?_
  k_fold
  (repeat' ((((fail_if_success (with_reducible show Hold _)); (fail_if_success (with_reducible show wpAny _ _ (pyIter _) _ _ _)); (fail_if_success (with_reducible show wpAny _ _ (call (Value.ref _) _ _) _ _ _)); (fail_if_success (with_reducible show wpAny _ _ (compareOp CmpOp.NotEq (Value.ref _) (Value.ref _)) _ _ _)); (fail_if_success (with_reducible show wpAny _ _ (eval (Expr.ListComp _ _ _ _) _) _ _ _)); (fail_if_success (with_reducible show wpAny _ _ (exec (Stmt.Assign _ (Expr.ListComp _ _ _ _) _) _) _ _ _)); (fail_if_success (with_reducible show Src2 _ _ _ _ _ _ _ _ _ _ _ _ _ _)); (fail_if_success (with_reducible show wpAny _ _ (subscriptTail (Expr.ListComp _ _ _ _) _ _ _) _ _ _)); (fail_if_success (with_reducible show wpAny _ _ (compareOp CmpOp.Eq (Value.ref _) (Value.ref _)) _ _ _)); (fail_if_success (with_reducible show LCg.CompSrc _ _ _ _ _ _ _ _ _ _ _ _ _ _)); (fail_if_success (with_reducible show LCt.CompSrcT _ _ _ _ _ _ _ _ _ _ _ _ _ _ _)); (fail_if_success (with_reducible show wpAny _ _ (subscriptTail (Expr.List _ _) _ _ _) _ _ _)); (fail_if_success (with_reducible show wpAny _ _ (execs (Stmt.For _ _ _ _ _ :: _) _) _ _ _)); first | (k_unfold; (try dsimp only)) | (k_end; wrow_close) | walk1 | (dsimp only; walk1) | (leave1; walk_say "STEP leave1"; try dsimp only)))))
  refine find_spec (fr := v.fs.map fdOf) (name := nm) (lv := v.top.lev) (ad := K.ad) (ak := K.ak) (nk := v.nk) (c1 := K.c1) (c2 := K.c2) (c3 := K.c3) (c4 := K.c4) (a1 := K.a1) (a2 := K.a2) (a3 := K.a3) (a4 := K.a4) (a5 := K.a5) (a6 := v.a6) (vtypes := .ref K.tx) B (by assumption) (by assumption) (by assumption) T rfl rfl (by omega)
    (List.forall_mem_cons.mpr ⟨by k_mem, List.forall_mem_cons.mpr ⟨by k_mem, List.forall_mem_cons.mpr ⟨by rw [hrf]; k_mem, hfd⟩⟩⟩) hok (by rw [List.length_map]; omega) ?_
  intro h1 tk1 F1 N1
  try dsimp only
  (repeat' ((((fail_if_success (with_reducible show Hold _)); (fail_if_success (with_reducible show wpAny _ _ (pyIter _) _ _ _)); (fail_if_success (with_reducible show wpAny _ _ (call (Value.ref _) _ _) _ _ _)); (fail_if_success (with_reducible show wpAny _ _ (compareOp CmpOp.NotEq (Value.ref _) (Value.ref _)) _ _ _)); (fail_if_success (with_reducible show wpAny _ _ (eval (Expr.ListComp _ _ _ _) _) _ _ _)); (fail_if_success (with_reducible show wpAny _ _ (exec (Stmt.Assign _ (Expr.ListComp _ _ _ _) _) _) _ _ _)); (fail_if_success (with_reducible show Src2 _ _ _ _ _ _ _ _ _ _ _ _ _ _)); (fail_if_success (with_reducible show wpAny _ _ (subscriptTail (Expr.ListComp _ _ _ _) _ _ _) _ _ _)); (fail_if_success (with_reducible show wpAny _ _ (compareOp CmpOp.Eq (Value.ref _) (Value.ref _)) _ _ _)); (fail_if_success (with_reducible show LCg.CompSrc _ _ _ _ _ _ _ _ _ _ _ _ _ _)); (fail_if_success (with_reducible show LCt.CompSrcT _ _ _ _ _ _ _ _ _ _ _ _ _ _ _)); (fail_if_success (with_reducible show wpAny _ _ (subscriptTail (Expr.List _ _) _ _ _) _ _ _)); (fail_if_success (with_reducible show wpAny _ _ (execs (Stmt.For _ _ _ _ _ :: _) _) _ _ _)); first | (k_unfold; (try dsimp only)) | (k_end; wrow_close) | walk1 | (dsimp only; walk1) | (leave1; walk_say "STEP leave1"; try dsimp only)))))
  k_dflt (refine' ListComp2 (F₀ := ?Fb) ?b1 ?b2 ?b3 ?b4 ?b5 ?b6 ?b7 ?b8 ?b9 ?b10)
  (case Fb => assumption)
  (case b1 => exact rfl)
  (case b2 => decide)
  (case b3 => exact rfl)
  (case b4 => decide)
  (case b5 => exact rfl)
  (case b6 => exact rfl)
  (case b7 => decide)
  (case b8 => decide)
  (case b10 => (intro _; exact rfl))
  (repeat' ((((fail_if_success (with_reducible show Hold _)); (fail_if_success (with_reducible show wpAny _ _ (pyIter _) _ _ _)); (fail_if_success (with_reducible show wpAny _ _ (call (Value.ref _) _ _) _ _ _)); (fail_if_success (with_reducible show wpAny _ _ (compareOp CmpOp.NotEq (Value.ref _) (Value.ref _)) _ _ _)); (fail_if_success (with_reducible show wpAny _ _ (eval (Expr.ListComp _ _ _ _) _) _ _ _)); (fail_if_success (with_reducible show wpAny _ _ (exec (Stmt.Assign _ (Expr.ListComp _ _ _ _) _) _) _ _ _)); (fail_if_success (with_reducible show Src2 _ _ _ _ _ _ _ _ _ _ _ _ _ _)); (fail_if_success (with_reducible show wpAny _ _ (subscriptTail (Expr.ListComp _ _ _ _) _ _ _) _ _ _)); (fail_if_success (with_reducible show wpAny _ _ (compareOp CmpOp.Eq (Value.ref _) (Value.ref _)) _ _ _)); (fail_if_success (with_reducible show LCg.CompSrc _ _ _ _ _ _ _ _ _ _ _ _ _ _)); (fail_if_success (with_reducible show LCt.CompSrcT _ _ _ _ _ _ _ _ _ _ _ _ _ _ _)); (fail_if_success (with_reducible show wpAny _ _ (subscriptTail (Expr.List _ _) _ _ _) _ _ _)); (fail_if_success (with_reducible show wpAny _ _ (execs (Stmt.For _ _ _ _ _ :: _) _) _ _ _)); first | (k_unfold; (try dsimp only)) | (k_end; wrow_close) | walk1 | (dsimp only; walk1) | (leave1; walk_say "STEP leave1"; try dsimp only)))))
  have hrr : ∀ f ∈ v.fs, ∀ i ∈ f.its, (i.r, rowObj i.o.nm i.t i.val) ∈ v.imm := fun f hf i hi => ((O.frs f hf).items i hi).row
  have hall : ∀ i ∈ v.fs.flatMap Frm.its, (i.r, rowObj i.o.nm i.t i.val) ∈ v.imm := fun i hi => by
    obtain ⟨f, hf, hi⟩ := List.mem_flatMap.mp hi
    exact hrr f hf i hi
  have hinj : ∀ i ∈ v.fs.flatMap Frm.its, ∀ j ∈ v.fs.flatMap Frm.its, i.r = j.r → i.o.nm = j.o.nm := fun i hi j hj e => by
    have h1 := himm _ (hall i hi)
    have h2 := himm _ (hall j hj)
    have e := congrArg Prod.snd (news_fun (by assumption : News h₀ L _ (_ :: _)) h1 h2 e)
    simp only [rowObj, Obj.mk.injEq, Data.seq.injEq] at e
    have e := congrArg Array.toList e.2.2.1.1
    simp at e
    exact e.1.1
  rename News h₀ L _ (_ :: _) => NS
  refine ⟨rowP (v.fs.flatMap Frm.its) nm, K.hm, homesOf v.fs, v.nh, _, rfl, rfl, by assumption, NS, by rw [hhf]; k_mem, ?g1, hhl, ?g2, ?g3⟩
  case g1 =>
    intro b hb
    obtain ⟨f, hf, rfl⟩ := List.mem_map.mp hb
    exact ⟨_, hin f hf _ (.tail _ (.tail _ (.tail _ (.head _))))⟩
  case g2 =>
    intro b hb x hx
    obtain ⟨f, hf, rfl⟩ := List.mem_map.mp hb
    obtain ⟨i, hi, rfl⟩ := List.mem_map.mp hx
    intro C oC m₂ nx s' E' hC hnx hNs hm2 F' N'
    have hia : i ∈ v.fs.flatMap Frm.its := List.mem_flatMap.mpr ⟨f, hf, hi⟩
    refine test_name X F' N' hC hNs hm2 (hnx _ (himm _ (hrr f hf i hi))) rfl rfl rfl (hnx _ (by k_mem : (L + 1, v.co) ∈ _)) hco rfl ?_
    intro h' tk' F2 N2
    exact ⟨(rowP_eq hia hinj).symm, h', tk', rfl, F2, N2⟩
  case g3 =>
    rw [pick_rows hinj v.fs fun f hf i hi => List.mem_flatMap.mpr ⟨f, hf, hi⟩]
    intro D h2 tk2 F2 N2 oD
    (repeat' ((((fail_if_success (with_reducible show Hold _)); (fail_if_success (with_reducible show wpAny _ _ (pyIter _) _ _ _)); (fail_if_success (with_reducible show wpAny _ _ (call (Value.ref _) _ _) _ _ _)); (fail_if_success (with_reducible show wpAny _ _ (compareOp CmpOp.NotEq (Value.ref _) (Value.ref _)) _ _ _)); (fail_if_success (with_reducible show wpAny _ _ (eval (Expr.ListComp _ _ _ _) _) _ _ _)); (fail_if_success (with_reducible show wpAny _ _ (exec (Stmt.Assign _ (Expr.ListComp _ _ _ _) _) _) _ _ _)); (fail_if_success (with_reducible show Src2 _ _ _ _ _ _ _ _ _ _ _ _ _ _)); (fail_if_success (with_reducible show wpAny _ _ (subscriptTail (Expr.ListComp _ _ _ _) _ _ _) _ _ _)); (fail_if_success (with_reducible show wpAny _ _ (compareOp CmpOp.Eq (Value.ref _) (Value.ref _)) _ _ _)); (fail_if_success (with_reducible show LCg.CompSrc _ _ _ _ _ _ _ _ _ _ _ _ _ _)); (fail_if_success (with_reducible show LCt.CompSrcT _ _ _ _ _ _ _ _ _ _ _ _ _ _ _)); (fail_if_success (with_reducible show wpAny _ _ (subscriptTail (Expr.List _ _) _ _ _) _ _ _)); (fail_if_success (with_reducible show wpAny _ _ (execs (Stmt.For _ _ _ _ _ :: _) _) _ _ _)); first | (k_unfold; (try dsimp only)) | (k_end; wrow_close) | walk1 | (dsimp only; walk1) | (leave1; walk_say "STEP leave1"; try dsimp only)))))
    have hlr : ((rowsOf v.fs nm).map It.rr).length ≤ sizeLine := by
      rw [← pick_rows hinj v.fs fun f hf i hi => List.mem_flatMap.mpr ⟨f, hf, hi⟩]
      exact Nat.le_trans (pick_le _ _) hhl
    refine slice_last F2 N2 (.head _) hlr ?_ (by with_unfolding_all rfl)
    intro D3 h3 F3 N3 oD3
    rcases found_rows nm (fun f hf => (O.frs f hf).names) with ⟨ea, eb⟩ | ⟨r, i, f, ea, hf, hi, hn, eb⟩
    · rw [eb] at F3
      rw [ea] at N3
      replace N3 := news_sub N3 (fun q hq => by
        rcases List.mem_cons.mp hq with rfl | hq
        · exact .head _
        · exact .tail _ (.tail _ hq) : ∀ q ∈ (D3, listOf ([] : List Value).toArray 0) :: _, _)
      clear N2 F2 NS
      (repeat' ((((fail_if_success (with_reducible show Hold _)); (fail_if_success (with_reducible show wpAny _ _ (pyIter _) _ _ _)); (fail_if_success (with_reducible show wpAny _ _ (call (Value.ref _) _ _) _ _ _)); (fail_if_success (with_reducible show wpAny _ _ (compareOp CmpOp.NotEq (Value.ref _) (Value.ref _)) _ _ _)); (fail_if_success (with_reducible show wpAny _ _ (eval (Expr.ListComp _ _ _ _) _) _ _ _)); (fail_if_success (with_reducible show wpAny _ _ (exec (Stmt.Assign _ (Expr.ListComp _ _ _ _) _) _) _ _ _)); (fail_if_success (with_reducible show Src2 _ _ _ _ _ _ _ _ _ _ _ _ _ _)); (fail_if_success (with_reducible show wpAny _ _ (subscriptTail (Expr.ListComp _ _ _ _) _ _ _) _ _ _)); (fail_if_success (with_reducible show wpAny _ _ (compareOp CmpOp.Eq (Value.ref _) (Value.ref _)) _ _ _)); (fail_if_success (with_reducible show LCg.CompSrc _ _ _ _ _ _ _ _ _ _ _ _ _ _)); (fail_if_success (with_reducible show LCt.CompSrcT _ _ _ _ _ _ _ _ _ _ _ _ _ _ _)); (fail_if_success (with_reducible show wpAny _ _ (subscriptTail (Expr.List _ _) _ _ _) _ _ _)); (fail_if_success (with_reducible show wpAny _ _ (execs (Stmt.For _ _ _ _ _ :: _) _) _ _ _)); first | (k_unfold; (try dsimp only)) | (k_end; wrow_close) | walk1 | (dsimp only; walk1) | (leave1; walk_say "STEP leave1"; try dsimp only)))))
      refine eq_empty (c := true) (ys := []) (by assumption) (by k_mem) (.head _) (by rw [cLine_is]; dsimp only; omega) rfl ?_
      (repeat' ((((fail_if_success (with_reducible show Hold _)); (fail_if_success (with_reducible show wpAny _ _ (pyIter _) _ _ _)); (fail_if_success (with_reducible show wpAny _ _ (call (Value.ref _) _ _) _ _ _)); (fail_if_success (with_reducible show wpAny _ _ (compareOp CmpOp.NotEq (Value.ref _) (Value.ref _)) _ _ _)); (fail_if_success (with_reducible show wpAny _ _ (eval (Expr.ListComp _ _ _ _) _) _ _ _)); (fail_if_success (with_reducible show wpAny _ _ (exec (Stmt.Assign _ (Expr.ListComp _ _ _ _) _) _) _ _ _)); (fail_if_success (with_reducible show Src2 _ _ _ _ _ _ _ _ _ _ _ _ _ _)); (fail_if_success (with_reducible show wpAny _ _ (subscriptTail (Expr.ListComp _ _ _ _) _ _ _) _ _ _)); (fail_if_success (with_reducible show wpAny _ _ (compareOp CmpOp.Eq (Value.ref _) (Value.ref _)) _ _ _)); (fail_if_success (with_reducible show LCg.CompSrc _ _ _ _ _ _ _ _ _ _ _ _ _ _)); (fail_if_success (with_reducible show LCt.CompSrcT _ _ _ _ _ _ _ _ _ _ _ _ _ _ _)); (fail_if_success (with_reducible show wpAny _ _ (subscriptTail (Expr.List _ _) _ _ _) _ _ _)); (fail_if_success (with_reducible show wpAny _ _ (execs (Stmt.For _ _ _ _ _ :: _) _) _ _ _)); first | (k_unfold; (try dsimp only)) | (k_end; wrow_close) | walk1 | (dsimp only; walk1) | (leave1; walk_say "STEP leave1"; try dsimp only)))))
      refine ne_empty (c := false) (ys := []) (by assumption) (by k_mem) (.head _) (by rw [cLine_is]; dsimp only; omega) rfl ?_
      (repeat' ((((fail_if_success (with_reducible show Hold _)); (fail_if_success (with_reducible show wpAny _ _ (pyIter _) _ _ _)); (fail_if_success (with_reducible show wpAny _ _ (call (Value.ref _) _ _) _ _ _)); (fail_if_success (with_reducible show wpAny _ _ (compareOp CmpOp.NotEq (Value.ref _) (Value.ref _)) _ _ _)); (fail_if_success (with_reducible show wpAny _ _ (eval (Expr.ListComp _ _ _ _) _) _ _ _)); (fail_if_success (with_reducible show wpAny _ _ (exec (Stmt.Assign _ (Expr.ListComp _ _ _ _) _) _) _ _ _)); (fail_if_success (with_reducible show Src2 _ _ _ _ _ _ _ _ _ _ _ _ _ _)); (fail_if_success (with_reducible show wpAny _ _ (subscriptTail (Expr.ListComp _ _ _ _) _ _ _) _ _ _)); (fail_if_success (with_reducible show wpAny _ _ (compareOp CmpOp.Eq (Value.ref _) (Value.ref _)) _ _ _)); (fail_if_success (with_reducible show LCg.CompSrc _ _ _ _ _ _ _ _ _ _ _ _ _ _)); (fail_if_success (with_reducible show LCt.CompSrcT _ _ _ _ _ _ _ _ _ _ _ _ _ _ _)); (fail_if_success (with_reducible show wpAny _ _ (subscriptTail (Expr.List _ _) _ _ _) _ _ _)); (fail_if_success (with_reducible show wpAny _ _ (execs (Stmt.For _ _ _ _ _ :: _) _) _ _ _)); first | (k_unfold; (try dsimp only)) | (k_end; wrow_close) | walk1 | (dsimp only; walk1) | (leave1; walk_say "STEP leave1"; try dsimp only)))))
      refine ne_empty (c := false) (ys := []) (by assumption) (by k_mem) (.head _) (by rw [cLine_is]; dsimp only; omega) rfl ?_
      (repeat' ((((fail_if_success (with_reducible show Hold _)); (fail_if_success (with_reducible show wpAny _ _ (pyIter _) _ _ _)); (fail_if_success (with_reducible show wpAny _ _ (call (Value.ref _) _ _) _ _ _)); (fail_if_success (with_reducible show wpAny _ _ (compareOp CmpOp.NotEq (Value.ref _) (Value.ref _)) _ _ _)); (fail_if_success (with_reducible show wpAny _ _ (eval (Expr.ListComp _ _ _ _) _) _ _ _)); (fail_if_success (with_reducible show wpAny _ _ (exec (Stmt.Assign _ (Expr.ListComp _ _ _ _) _) _) _ _ _)); (fail_if_success (with_reducible show Src2 _ _ _ _ _ _ _ _ _ _ _ _ _ _)); (fail_if_success (with_reducible show wpAny _ _ (subscriptTail (Expr.ListComp _ _ _ _) _ _ _) _ _ _)); (fail_if_success (with_reducible show wpAny _ _ (compareOp CmpOp.Eq (Value.ref _) (Value.ref _)) _ _ _)); (fail_if_success (with_reducible show LCg.CompSrc _ _ _ _ _ _ _ _ _ _ _ _ _ _)); (fail_if_success (with_reducible show LCt.CompSrcT _ _ _ _ _ _ _ _ _ _ _ _ _ _ _)); (fail_if_success (with_reducible show wpAny _ _ (subscriptTail (Expr.List _ _) _ _ _) _ _ _)); (fail_if_success (with_reducible show wpAny _ _ (execs (Stmt.For _ _ _ _ _ :: _) _) _ _ _)); first | (k_unfold; (try dsimp only)) | (k_end; wrow_close) | walk1 | (dsimp only; walk1) | (leave1; walk_say "STEP leave1"; try dsimp only)))))
      k_unfold
      try dsimp only
      subst hRe
      refine Exists.elim (pool_end O (news_sub (by with_reducible assumption) fun q hq => .tail _ (.tail _ (.tail _ (.tail _ (by rw [← hcc]; exact hq))))) O.i0 O.i1 O.mx0 O.mx1) ?fin
      case fin =>
        intro v' hv'
        exact ⟨hQ _ _ _ v' (by with_reducible assumption) ⟨rfl, rfl, rfl, rfl, rfl⟩ hv'.1 hv'.2⟩
    · rw [eb] at F3
      rw [ea, drop_rows] at N3
      replace N3 := news_sub N3 (fun q hq => by
        rcases List.mem_cons.mp hq with rfl | hq
        · exact .head _
        · exact .tail _ (.tail _ hq) : ∀ q ∈ (D3, listOf ([Value.ref i.r] : List Value).toArray 0) :: _, _)
      clear N2 F2 NS
      have immR : ∀ q ∈ v.imm, q ∈ rest v Ow := fun q hq => List.mem_append_right _ (List.mem_append_left _ hq)
      have hiok := (O.frs f hf).items i hi
      have hrow := hiok.row
      rw [hRe] at immR
      cases hp : i.pre with
      | true =>
        have hval : i.val = .none := by unfold It.val; rw [if_pos hp]
        obtain ⟨es, ne, u1, u2, u3, tp, md, sl, val, g1, g2, g3, g4, -, -⟩ := hiok.pre hp
        rw [hval, hn] at hrow
        have ga := g3.name
        obtain ⟨tlv, gl⟩ := g3.level
        rw [g4] at gl
        rw [hn] at ga
        have N4 : News h₀ L _ ((i.r, rowObj nm i.t .none) :: (i.o.x, instObj 52 i.o.d) :: (i.o.d, dictOf es ne) :: _) := news_sub N3 (fun q hq => by
          rcases List.mem_cons.mp hq with rfl | hq
          · exact .tail _ (by have := immR _ hrow; k_mem)
          rcases List.mem_cons.mp hq with rfl | hq
          · exact .tail _ (by have := immR _ g1; k_mem)
          rcases List.mem_cons.mp hq with rfl | hq
          · exact .tail _ (by have := immR _ g2; k_mem)
          · exact hq)
        clear N3
        (repeat' ((((fail_if_success (with_reducible show Hold _)); (fail_if_success (with_reducible show wpAny _ _ (pyIter _) _ _ _)); (fail_if_success (with_reducible show wpAny _ _ (call (Value.ref _) _ _) _ _ _)); (fail_if_success (with_reducible show wpAny _ _ (compareOp CmpOp.NotEq (Value.ref _) (Value.ref _)) _ _ _)); (fail_if_success (with_reducible show wpAny _ _ (eval (Expr.ListComp _ _ _ _) _) _ _ _)); (fail_if_success (with_reducible show wpAny _ _ (exec (Stmt.Assign _ (Expr.ListComp _ _ _ _) _) _) _ _ _)); (fail_if_success (with_reducible show Src2 _ _ _ _ _ _ _ _ _ _ _ _ _ _)); (fail_if_success (with_reducible show wpAny _ _ (subscriptTail (Expr.ListComp _ _ _ _) _ _ _) _ _ _)); (fail_if_success (with_reducible show wpAny _ _ (compareOp CmpOp.Eq (Value.ref _) (Value.ref _)) _ _ _)); (fail_if_success (with_reducible show LCg.CompSrc _ _ _ _ _ _ _ _ _ _ _ _ _ _)); (fail_if_success (with_reducible show LCt.CompSrcT _ _ _ _ _ _ _ _ _ _ _ _ _ _ _)); (fail_if_success (with_reducible show wpAny _ _ (subscriptTail (Expr.List _ _) _ _ _) _ _ _)); (fail_if_success (with_reducible show wpAny _ _ (execs (Stmt.For _ _ _ _ _ :: _) _) _ _ _)); first | (k_unfold; (try dsimp only)) | (k_end; wrow_close) | walk1 | (dsimp only; walk1) | (leave1; walk_say "STEP leave1"; try dsimp only)))))
        refine eq_empty (c := false) (ys := [Value.ref i.r]) (by assumption) (by k_mem) (.head _) (by rw [cLine_is]; dsimp only; omega) rfl ?_
        (repeat' ((((fail_if_success (with_reducible show Hold _)); (fail_if_success (with_reducible show wpAny _ _ (pyIter _) _ _ _)); (fail_if_success (with_reducible show wpAny _ _ (call (Value.ref _) _ _) _ _ _)); (fail_if_success (with_reducible show wpAny _ _ (compareOp CmpOp.NotEq (Value.ref _) (Value.ref _)) _ _ _)); (fail_if_success (with_reducible show wpAny _ _ (eval (Expr.ListComp _ _ _ _) _) _ _ _)); (fail_if_success (with_reducible show wpAny _ _ (exec (Stmt.Assign _ (Expr.ListComp _ _ _ _) _) _) _ _ _)); (fail_if_success (with_reducible show Src2 _ _ _ _ _ _ _ _ _ _ _ _ _ _)); (fail_if_success (with_reducible show wpAny _ _ (subscriptTail (Expr.ListComp _ _ _ _) _ _ _) _ _ _)); (fail_if_success (with_reducible show wpAny _ _ (compareOp CmpOp.Eq (Value.ref _) (Value.ref _)) _ _ _)); (fail_if_success (with_reducible show LCg.CompSrc _ _ _ _ _ _ _ _ _ _ _ _ _ _)); (fail_if_success (with_reducible show LCt.CompSrcT _ _ _ _ _ _ _ _ _ _ _ _ _ _ _)); (fail_if_success (with_reducible show wpAny _ _ (subscriptTail (Expr.List _ _) _ _ _) _ _ _)); (fail_if_success (with_reducible show wpAny _ _ (execs (Stmt.For _ _ _ _ _ :: _) _) _ _ _)); first | (k_unfold; (try dsimp only)) | (k_end; wrow_close) | walk1 | (dsimp only; walk1) | (leave1; walk_say "STEP leave1"; try dsimp only)))))
        refine ne_empty (c := true) (ys := [Value.ref i.r]) (by assumption) (by k_mem) (.head _) (by rw [cLine_is]; dsimp only; omega) rfl ?_
        (repeat' ((((fail_if_success (with_reducible show Hold _)); (fail_if_success (with_reducible show wpAny _ _ (pyIter _) _ _ _)); (fail_if_success (with_reducible show wpAny _ _ (call (Value.ref _) _ _) _ _ _)); (fail_if_success (with_reducible show wpAny _ _ (compareOp CmpOp.NotEq (Value.ref _) (Value.ref _)) _ _ _)); (fail_if_success (with_reducible show wpAny _ _ (eval (Expr.ListComp _ _ _ _) _) _ _ _)); (fail_if_success (with_reducible show wpAny _ _ (exec (Stmt.Assign _ (Expr.ListComp _ _ _ _) _) _) _ _ _)); (fail_if_success (with_reducible show Src2 _ _ _ _ _ _ _ _ _ _ _ _ _ _)); (fail_if_success (with_reducible show wpAny _ _ (subscriptTail (Expr.ListComp _ _ _ _) _ _ _) _ _ _)); (fail_if_success (with_reducible show wpAny _ _ (compareOp CmpOp.Eq (Value.ref _) (Value.ref _)) _ _ _)); (fail_if_success (with_reducible show LCg.CompSrc _ _ _ _ _ _ _ _ _ _ _ _ _ _)); (fail_if_success (with_reducible show LCt.CompSrcT _ _ _ _ _ _ _ _ _ _ _ _ _ _ _)); (fail_if_success (with_reducible show wpAny _ _ (subscriptTail (Expr.List _ _) _ _ _) _ _ _)); (fail_if_success (with_reducible show wpAny _ _ (execs (Stmt.For _ _ _ _ _ :: _) _) _ _ _)); first | (k_unfold; (try dsimp only)) | (k_end; wrow_close) | walk1 | (dsimp only; walk1) | (leave1; walk_say "STEP leave1"; try dsimp only)))))
        refine ne_empty (c := true) (ys := [Value.ref i.r]) (by assumption) (by k_mem) (.head _) (by rw [cLine_is]; dsimp only; omega) rfl ?_
        (repeat' ((((fail_if_success (with_reducible show Hold _)); (fail_if_success (with_reducible show wpAny _ _ (pyIter _) _ _ _)); (fail_if_success (with_reducible show wpAny _ _ (call (Value.ref _) _ _) _ _ _)); (fail_if_success (with_reducible show wpAny _ _ (compareOp CmpOp.NotEq (Value.ref _) (Value.ref _)) _ _ _)); (fail_if_success (with_reducible show wpAny _ _ (eval (Expr.ListComp _ _ _ _) _) _ _ _)); (fail_if_success (with_reducible show wpAny _ _ (exec (Stmt.Assign _ (Expr.ListComp _ _ _ _) _) _) _ _ _)); (fail_if_success (with_reducible show Src2 _ _ _ _ _ _ _ _ _ _ _ _ _ _)); (fail_if_success (with_reducible show wpAny _ _ (subscriptTail (Expr.ListComp _ _ _ _) _ _ _) _ _ _)); (fail_if_success (with_reducible show wpAny _ _ (compareOp CmpOp.Eq (Value.ref _) (Value.ref _)) _ _ _)); (fail_if_success (with_reducible show LCg.CompSrc _ _ _ _ _ _ _ _ _ _ _ _ _ _)); (fail_if_success (with_reducible show LCt.CompSrcT _ _ _ _ _ _ _ _ _ _ _ _ _ _ _)); (fail_if_success (with_reducible show wpAny _ _ (subscriptTail (Expr.List _ _) _ _ _) _ _ _)); (fail_if_success (with_reducible show wpAny _ _ (execs (Stmt.For _ _ _ _ _ :: _) _) _ _ _)); first | (k_unfold; (try dsimp only)) | (k_end; wrow_close) | walk1 | (dsimp only; walk1) | (leave1; walk_say "STEP leave1"; try dsimp only)))))
        k_unfold
        try dsimp only
        subst hRe
        refine Exists.elim (pool_end O (news_sub (by with_reducible assumption) fun q hq => .tail _ (.tail _ (.tail _ (.tail _ (.tail _ (.tail _ (.tail _ (by rw [← hcc]; exact hq)))))))) O.i0 O.i1 O.mx0 O.mx1) ?fin
        case fin =>
          intro v' hv'
          exact ⟨hQ _ _ _ v' (by with_reducible assumption) ⟨rfl, rfl, rfl, rfl, rfl⟩ hv'.1 hv'.2⟩
      | false =>
        have hval : i.val = .ref i.o.x := by unfold It.val; rw [hp]; rfl
        obtain ⟨es, ne, u1, u2, u3, tp, md, sl, val, g1, g2, g3⟩ := hiok.item
        rw [hval, hn] at hrow
        have ga := g3.name
        obtain ⟨tlv, gl⟩ := g3.level
        have gk := g3.kind
        have gp := g3.place
        rw [hn] at ga
        have N4 : News h₀ L _ ((i.r, rowObj nm i.t (.ref i.o.x)) :: (i.o.x, instObj 52 i.o.d) :: (i.o.d, dictOf es ne) :: _) := news_sub N3 (fun q hq => by
          rcases List.mem_cons.mp hq with rfl | hq
          · exact .tail _ (by have := immR _ hrow; k_mem)
          rcases List.mem_cons.mp hq with rfl | hq
          · exact .tail _ (by have := immR _ g1; k_mem)
          rcases List.mem_cons.mp hq with rfl | hq
          · exact .tail _ (by have := immR _ g2; k_mem)
          · exact hq)
        clear N3
        (repeat' ((((fail_if_success (with_reducible show Hold _)); (fail_if_success (with_reducible show wpAny _ _ (pyIter _) _ _ _)); (fail_if_success (with_reducible show wpAny _ _ (call (Value.ref _) _ _) _ _ _)); (fail_if_success (with_reducible show wpAny _ _ (compareOp CmpOp.NotEq (Value.ref _) (Value.ref _)) _ _ _)); (fail_if_success (with_reducible show wpAny _ _ (eval (Expr.ListComp _ _ _ _) _) _ _ _)); (fail_if_success (with_reducible show wpAny _ _ (exec (Stmt.Assign _ (Expr.ListComp _ _ _ _) _) _) _ _ _)); (fail_if_success (with_reducible show Src2 _ _ _ _ _ _ _ _ _ _ _ _ _ _)); (fail_if_success (with_reducible show wpAny _ _ (subscriptTail (Expr.ListComp _ _ _ _) _ _ _) _ _ _)); (fail_if_success (with_reducible show wpAny _ _ (compareOp CmpOp.Eq (Value.ref _) (Value.ref _)) _ _ _)); (fail_if_success (with_reducible show LCg.CompSrc _ _ _ _ _ _ _ _ _ _ _ _ _ _)); (fail_if_success (with_reducible show LCt.CompSrcT _ _ _ _ _ _ _ _ _ _ _ _ _ _ _)); (fail_if_success (with_reducible show wpAny _ _ (subscriptTail (Expr.List _ _) _ _ _) _ _ _)); (fail_if_success (with_reducible show wpAny _ _ (execs (Stmt.For _ _ _ _ _ :: _) _) _ _ _)); first | (k_unfold; (try dsimp only)) | (k_end; wrow_close) | walk1 | (dsimp only; walk1) | (leave1; walk_say "STEP leave1"; try dsimp only)))))
        refine eq_empty (c := false) (ys := [Value.ref i.r]) (by assumption) (by k_mem) (.head _) (by rw [cLine_is]; dsimp only; omega) rfl ?_
        (repeat' ((((fail_if_success (with_reducible show Hold _)); (fail_if_success (with_reducible show wpAny _ _ (pyIter _) _ _ _)); (fail_if_success (with_reducible show wpAny _ _ (call (Value.ref _) _ _) _ _ _)); (fail_if_success (with_reducible show wpAny _ _ (compareOp CmpOp.NotEq (Value.ref _) (Value.ref _)) _ _ _)); (fail_if_success (with_reducible show wpAny _ _ (eval (Expr.ListComp _ _ _ _) _) _ _ _)); (fail_if_success (with_reducible show wpAny _ _ (exec (Stmt.Assign _ (Expr.ListComp _ _ _ _) _) _) _ _ _)); (fail_if_success (with_reducible show Src2 _ _ _ _ _ _ _ _ _ _ _ _ _ _)); (fail_if_success (with_reducible show wpAny _ _ (subscriptTail (Expr.ListComp _ _ _ _) _ _ _) _ _ _)); (fail_if_success (with_reducible show wpAny _ _ (compareOp CmpOp.Eq (Value.ref _) (Value.ref _)) _ _ _)); (fail_if_success (with_reducible show LCg.CompSrc _ _ _ _ _ _ _ _ _ _ _ _ _ _)); (fail_if_success (with_reducible show LCt.CompSrcT _ _ _ _ _ _ _ _ _ _ _ _ _ _ _)); (fail_if_success (with_reducible show wpAny _ _ (subscriptTail (Expr.List _ _) _ _ _) _ _ _)); (fail_if_success (with_reducible show wpAny _ _ (execs (Stmt.For _ _ _ _ _ :: _) _) _ _ _)); first | (k_unfold; (try dsimp only)) | (k_end; wrow_close) | walk1 | (dsimp only; walk1) | (leave1; walk_say "STEP leave1"; try dsimp only)))))
        refine ne_empty (c := true) (ys := [Value.ref i.r]) (by assumption) (by k_mem) (.head _) (by rw [cLine_is]; dsimp only; omega) rfl ?_
        (repeat' ((((fail_if_success (with_reducible show Hold _)); (fail_if_success (with_reducible show wpAny _ _ (pyIter _) _ _ _)); (fail_if_success (with_reducible show wpAny _ _ (call (Value.ref _) _ _) _ _ _)); (fail_if_success (with_reducible show wpAny _ _ (compareOp CmpOp.NotEq (Value.ref _) (Value.ref _)) _ _ _)); (fail_if_success (with_reducible show wpAny _ _ (eval (Expr.ListComp _ _ _ _) _) _ _ _)); (fail_if_success (with_reducible show wpAny _ _ (exec (Stmt.Assign _ (Expr.ListComp _ _ _ _) _) _) _ _ _)); (fail_if_success (with_reducible show Src2 _ _ _ _ _ _ _ _ _ _ _ _ _ _)); (fail_if_success (with_reducible show wpAny _ _ (subscriptTail (Expr.ListComp _ _ _ _) _ _ _) _ _ _)); (fail_if_success (with_reducible show wpAny _ _ (compareOp CmpOp.Eq (Value.ref _) (Value.ref _)) _ _ _)); (fail_if_success (with_reducible show LCg.CompSrc _ _ _ _ _ _ _ _ _ _ _ _ _ _)); (fail_if_success (with_reducible show LCt.CompSrcT _ _ _ _ _ _ _ _ _ _ _ _ _ _ _)); (fail_if_success (with_reducible show wpAny _ _ (subscriptTail (Expr.List _ _) _ _ _) _ _ _)); (fail_if_success (with_reducible show wpAny _ _ (execs (Stmt.For _ _ _ _ _ :: _) _) _ _ _)); first | (k_unfold; (try dsimp only)) | (k_end; wrow_close) | walk1 | (dsimp only; walk1) | (leave1; walk_say "STEP leave1"; try dsimp only)))))
        refine ne_empty (c := true) (ys := [Value.ref i.r]) (by assumption) (by k_mem) (.head _) (by rw [cLine_is]; dsimp only; omega) rfl ?_
        (repeat' ((((fail_if_success (with_reducible show Hold _)); (fail_if_success (with_reducible show wpAny _ _ (pyIter _) _ _ _)); (fail_if_success (with_reducible show wpAny _ _ (call (Value.ref _) _ _) _ _ _)); (fail_if_success (with_reducible show wpAny _ _ (compareOp CmpOp.NotEq (Value.ref _) (Value.ref _)) _ _ _)); (fail_if_success (with_reducible show wpAny _ _ (eval (Expr.ListComp _ _ _ _) _) _ _ _)); (fail_if_success (with_reducible show wpAny _ _ (exec (Stmt.Assign _ (Expr.ListComp _ _ _ _) _) _) _ _ _)); (fail_if_success (with_reducible show Src2 _ _ _ _ _ _ _ _ _ _ _ _ _ _)); (fail_if_success (with_reducible show wpAny _ _ (subscriptTail (Expr.ListComp _ _ _ _) _ _ _) _ _ _)); (fail_if_success (with_reducible show wpAny _ _ (compareOp CmpOp.Eq (Value.ref _) (Value.ref _)) _ _ _)); (fail_if_success (with_reducible show LCg.CompSrc _ _ _ _ _ _ _ _ _ _ _ _ _ _)); (fail_if_success (with_reducible show LCt.CompSrcT _ _ _ _ _ _ _ _ _ _ _ _ _ _ _)); (fail_if_success (with_reducible show wpAny _ _ (subscriptTail (Expr.List _ _) _ _ _) _ _ _)); (fail_if_success (with_reducible show wpAny _ _ (execs (Stmt.For _ _ _ _ _ :: _) _) _ _ _)); first | (k_unfold; (try dsimp only)) | (k_end; wrow_close) | walk1 | (dsimp only; walk1) | (leave1; walk_say "STEP leave1"; try dsimp only)))))
        refine ne_tup3 (by assumption) (.tail _ (.head _)) (.head _) (by rw [cLine_is]; dsimp only; omega) ?_
        (repeat' ((((fail_if_success (with_reducible show Hold _)); (fail_if_success (with_reducible show wpAny _ _ (pyIter _) _ _ _)); (fail_if_success (with_reducible show wpAny _ _ (call (Value.ref _) _ _) _ _ _)); (fail_if_success (with_reducible show wpAny _ _ (compareOp CmpOp.NotEq (Value.ref _) (Value.ref _)) _ _ _)); (fail_if_success (with_reducible show wpAny _ _ (eval (Expr.ListComp _ _ _ _) _) _ _ _)); (fail_if_success (with_reducible show wpAny _ _ (exec (Stmt.Assign _ (Expr.ListComp _ _ _ _) _) _) _ _ _)); (fail_if_success (with_reducible show Src2 _ _ _ _ _ _ _ _ _ _ _ _ _ _)); (fail_if_success (with_reducible show wpAny _ _ (subscriptTail (Expr.ListComp _ _ _ _) _ _ _) _ _ _)); (fail_if_success (with_reducible show wpAny _ _ (compareOp CmpOp.Eq (Value.ref _) (Value.ref _)) _ _ _)); (fail_if_success (with_reducible show LCg.CompSrc _ _ _ _ _ _ _ _ _ _ _ _ _ _)); (fail_if_success (with_reducible show LCt.CompSrcT _ _ _ _ _ _ _ _ _ _ _ _ _ _ _)); (fail_if_success (with_reducible show wpAny _ _ (subscriptTail (Expr.List _ _) _ _ _) _ _ _)); (fail_if_success (with_reducible show wpAny _ _ (execs (Stmt.For _ _ _ _ _ :: _) _) _ _ _)); first | (k_unfold; (try dsimp only)) | (k_end; wrow_close) | walk1 | (dsimp only; walk1) | (leave1; walk_say "STEP leave1"; try dsimp only)))))
        k_unfold
        try dsimp only
        subst hRe
        refine Exists.elim (pool_end O (news_sub (by with_reducible assumption) fun q hq => .tail _ (.tail _ (.tail _ (.tail _ (.tail _ (.tail _ (.tail _ (.tail _ (.tail _ (by rw [← hcc]; exact hq)))))))))) O.i0 O.i1 O.mx0 O.mx1) ?fin
        case fin =>
          intro v' hv'
          exact ⟨hQ _ _ _ v' (by with_reducible assumption) ⟨rfl, rfl, rfl, rfl, rfl⟩ hv'.1 hv'.2⟩
end ZbrDspec
theorem brD_spec {w : World} {A₀ : Around} {base : Heap} {h₀ : Heap} {outer : List Env} {L : Addr} {fa : Addr} {cd : Value} {m : Str → Option Value} {mg : Str → Option Value} {mb : Str → Option Value} {mean : ExcName → Option Value} {s : Shared} {d : Nat} {u : Nat} {E : Value → Shared → Prop} {Q : Flow → Shared → Prop} {K : Cst} {v : Var} {Ow : List (Addr × Obj)} {j : Nat} {tn : Tok} {nm : Str} (B : Below A₀ base outer h₀) (F : Fr h₀ L s.heap m) (X : (Mine.fr.heap_1 w.params).In h₀) (T : Top Mine.vw (looseW Mine.vw []) mean mg mb h₀) (hd : d < 700) (hu : u < 8000) (P : Pins K m) (hcc : K.cc = L + 1) (hco : v.co.data = .cell (some (.str nm tn))) (hnm : nm ∈ allNames) (N : News h₀ L s.heap (led K v ++ Ow)) (O : Ok K w Ow j v) (hj : j ≤ 40) (hQ : ∀ h' tk m' v', Fr h₀ L h' m' → Pins K m' → News h₀ L h' (led K v' ++ Ow) → Ok K w Ow (j + 1) v' → Q .next { s with heap := h', toks := tk }) :
    wpAny (model Challenge.rw_nu0320_01.row.prog w) { handled := none, depth := d, frames := some (lawEnv L fa cd :: outer), guards := some [], units := u } (execs brD (lawEnv L fa cd)) Q E s :=
  (eps_all (ne := ZbrDspec.zNe) (P := ZbrDspec.zSc) ZbrDspec.zCore : ∀ c, ZbrDspec.zSc c) (w, A₀, base, h₀, outer, L, fa, cd, m, mg, mb, mean, s, d, u, E, Q, K, v, Ow, j, tn, nm) B F X T hd hu P hcc hco hnm N O hj hQ
end
-- L5
section
def first2 : List Stmt → List Stmt
  | a :: b :: _ => [a, b]
  | _ => []
def fourth : List Stmt → List Stmt
  | _ :: _ :: _ :: x :: _ => [x]
  | _ => []
def testOf : List Stmt → PySem.Expr
  | .If t _ _ _ :: _ => t
  | _ => .Name (Str.ofString "") ⟨0, 0, 0, 0⟩
def posOf : List Stmt → Pos
  | .If _ _ _ p :: _ => p
  | _ => ⟨0, 0, 0, 0⟩
theorem turnBody_eq : turnBody = first2 turnBody ++ (.If (testOf (third turnBody)) brA [.If (testOf (elseOf (third turnBody))) brB [.If (testOf (elseOf (elseOf (third turnBody)))) brC brD (posOf (elseOf (elseOf (third turnBody))))] (posOf (elseOf (third turnBody)))] (posOf (third turnBody)) :: fourth turnBody) := by rfl
theorem after_spec {w : World} {A₀ : Around} {base h₀ : Heap} {outer : List Env} {L fa : Addr} {cd : Value} {m mg mb : Str → Option Value} {mean : ExcName → Option Value} {s : Shared} {d u : Nat}
    {E : Value → Shared → Prop} {Q : Flow → Shared → Prop} {K : Cst} {v : Var} {Ow : List (Addr × Obj)} {j : Nat}
    (B : Below A₀ base outer h₀) (F : Fr h₀ L s.heap m) (X : (Mine.fr.heap_1 w.params).In h₀) (T : Top Mine.vw (looseW Mine.vw []) mean mg mb h₀) (hd : d < 700) (hu : u < 8000) (P : Pins K m)
    (N : News h₀ L s.heap (led K v ++ Ow)) (O : Ok K w Ow j v)
    (hQ : ∀ h' tk m', Fr h₀ L h' m' → Pins K m' → News h₀ L h' (led K v ++ Ow) → Q .next { s with heap := h', toks := tk }) :
    wpAny (model Challenge.rw_nu0320_01.row.prog w) { handled := none, depth := d, frames := some (lawEnv L fa cd :: outer), guards := some [], units := u } (execs (fourth turnBody) (lawEnv L fa cd)) Q E s := by
  revert X; k_fill; intro X
  unfold turnBody lawBody lawEnv lawScope lawName lawRec recOf
  dsimp only [drop4, drop5, headBody, fourth]
  rw [P.map] at F
  have hroom := O.room
  have hlv : v.top.lev = (v.low.length : Int) - 1 := O.levs v.low.length v.top (by unfold Var.fs; simp)
  have hax : (K.ax, instObj 172 K.ad) ∈ rest v Ow := List.mem_append_right _ (List.mem_append_left _ O.ax)
  rw [led_open] at N hQ
  dsimp only [Cst.pool, Cst.adE, Cst.akE, Cst.hmE, Cst.lbE, Cst.ccE, sv_top, hv_top, lv_top] at N hQ
  generalize rest v Ow = R at N hQ hax
  have N4 : News h₀ L _ ((K.ax, instObj 172 K.ad) :: _) := news_sub N (fun q hq => by
    rcases List.mem_cons.mp hq with rfl | hq
    · k_mem
    · exact hq)
  clear N
  refine hold_post ?_
  k_fold
  (repeat' ((((fail_if_success (with_reducible show Hold _)); (fail_if_success (with_reducible show wpAny _ _ (pyIter _) _ _ _)); (fail_if_success (with_reducible show wpAny _ _ (call (Value.ref _) _ _) _ _ _)); (fail_if_success (with_reducible show wpAny _ _ (compareOp CmpOp.NotEq (Value.ref _) (Value.ref _)) _ _ _)); (fail_if_success (with_reducible show wpAny _ _ (eval (Expr.ListComp _ _ _ _) _) _ _ _)); (fail_if_success (with_reducible show wpAny _ _ (exec (Stmt.Assign _ (Expr.ListComp _ _ _ _) _) _) _ _ _)); (fail_if_success (with_reducible show Src2 _ _ _ _ _ _ _ _ _ _ _ _ _ _)); (fail_if_success (with_reducible show wpAny _ _ (subscriptTail (Expr.ListComp _ _ _ _) _ _ _) _ _ _)); (fail_if_success (with_reducible show wpAny _ _ (compareOp CmpOp.Eq (Value.ref _) (Value.ref _)) _ _ _)); (fail_if_success (with_reducible show LCg.CompSrc _ _ _ _ _ _ _ _ _ _ _ _ _ _)); (fail_if_success (with_reducible show LCt.CompSrcT _ _ _ _ _ _ _ _ _ _ _ _ _ _ _)); (fail_if_success (with_reducible show wpAny _ _ (subscriptTail (Expr.List _ _) _ _ _) _ _ _)); (fail_if_success (with_reducible show wpAny _ _ (execs (Stmt.For _ _ _ _ _ :: _) _) _ _ _)); first | (k_unfold; (try dsimp only)) | (k_end; wrow_close) | walk1 | (dsimp only; walk1) | (leave1; walk_say "STEP leave1"; try dsimp only)))))
  k_unfold
  try dsimp only
  exact ⟨hQ _ _ _ (by with_reducible assumption) ⟨rfl, rfl, rfl, rfl, rfl⟩ (news_sub (by with_reducible assumption) fun q hq => .tail _ hq)⟩
theorem brB_spec' {w : World} {A₀ : Around} {base h₀ : Heap} {outer : List Env} {L fa : Addr} {cd : Value} {m mg mb : Str → Option Value} {mean : ExcName → Option Value} {s : Shared} {d u : Nat}
    {E : Value → Shared → Prop} {Q : Flow → Shared → Prop} {K : Cst} {v : Var} {Ow : List (Addr × Obj)} {j : Nat}
    (B : Below A₀ base outer h₀) (F : Fr h₀ L s.heap m) (X : (Mine.fr.heap_1 w.params).In h₀) (T : Top Mine.vw (looseW Mine.vw []) mean mg mb h₀) (hd : d < 700) (hu : u < 8000) (P : Pins K m)
    (N : News h₀ L s.heap (led K v ++ Ow)) (O : Ok K w Ow j v) (hl : 1 ≤ v.low.length) (hj : j ≤ 40)
    (hQ : ∀ h' tk m' v', Fr h₀ L h' m' → Pins K m' → News h₀ L h' (led K v' ++ Ow) → Ok K w Ow (j + 1) v' → Q .next { s with heap := h', toks := tk }) :
    wpAny (model Challenge.rw_nu0320_01.row.prog w) { handled := none, depth := d, frames := some (lawEnv L fa cd :: outer), guards := some [], units := u } (execs brB (lawEnv L fa cd)) Q E s := by
  rcases List.eq_nil_or_concat v.low with h | ⟨low', g, h⟩
  · rw [h] at hl; exact absurd hl (by simp)
  · exact brB_spec B F X T hd hu P N O (by simpa using h) hj hQ
theorem news_swap {h₀ h h' : Heap} {L c : Addr} {a1 a2 a3 a4 a5 : Addr × Obj} {o o' : Obj} {Z : List (Addr × Obj)} (N : News h₀ L h (a1 :: a2 :: a3 :: a4 :: a5 :: (c, o) :: Z)) (hs : Heap.SameBut c h h') (ho : h'.get? c = some o')
    (e1 : a1.1 ≠ c) (e2 : a2.1 ≠ c) (e3 : a3.1 ≠ c) (e4 : a4.1 ≠ c) (e5 : a5.1 ≠ c) (eZ : ∀ q ∈ Z, q.1 ≠ c) : News h₀ L h' (a1 :: a2 :: a3 :: a4 :: a5 :: (c, o') :: Z) := by
  have key : ∀ q, q ∈ a1 :: a2 :: a3 :: a4 :: a5 :: (c, o) :: Z → q.1 ≠ c → h'.get? q.1 = some q.2 ∧ q.1 ≠ L ∧ h₀.get? q.1 = none := fun q hq hn => ⟨hs.extBut _ _ hn (N q hq).1, (N q hq).2⟩
  intro q hq
  rcases List.mem_cons.mp hq with rfl | hq
  · exact key _ (by simp) e1
  rcases List.mem_cons.mp hq with rfl | hq
  · exact key _ (by simp) e2
  rcases List.mem_cons.mp hq with rfl | hq
  · exact key _ (by simp) e3
  rcases List.mem_cons.mp hq with rfl | hq
  · exact key _ (by simp) e4
  rcases List.mem_cons.mp hq with rfl | hq
  · exact key _ (by simp) e5
  rcases List.mem_cons.mp hq with rfl | hq
  · exact ⟨ho, (N (c, o) (by simp)).2⟩
  · exact key _ (by simp [hq]) (eZ q hq)
namespace Zturnspec
def zSt (w : World) (A₀ : Around) (base : Heap) (h₀ : Heap) (outer : List Env) (L : Addr) (fa : Addr) (cd : Value) (m : Str → Option Value) (mg : Str → Option Value) (mb : Str → Option Value) (mean : ExcName → Option Value) (s : Shared) (d : Nat) (u : Nat) (E : Value → Shared → Prop) (Q : Flow → Shared → Prop) (K : Cst) (v : Var) (Ow : List (Addr × Obj)) (j : Nat) (st : Int) (tst : Tok) : Prop := ∀ (B : Below A₀ base outer h₀) (F : Fr h₀ L s.heap m) (X : (Mine.fr.heap_1 w.params).In h₀) (T : Top Mine.vw (looseW Mine.vw []) mean mg mb h₀) (hd : d < 700) (hu : u < 8000) (P : Pins K m) (hcc : K.cc = L + 1) (hst : m (Str.ofString "step") = some (.int st tst)) (N : News h₀ L s.heap (led K v ++ Ow)) (O : Ok K w Ow j v) (hj : j ≤ 40) (hQ : ∀ h' tk m' v', Fr h₀ L h' m' → Pins K m' → News h₀ L h' (led K v' ++ Ow) → Ok K w Ow (j + 1) v' → Q .next { s with heap := h', toks := tk }), wpAny (model Challenge.rw_nu0320_01.row.prog w) { handled := none, depth := d, frames := some (lawEnv L fa cd :: outer), guards := some [], units := u } (execs turnBody (lawEnv L fa cd)) Q E s
def zSc (zz : (World) × (Around) × (Heap) × (Heap) × (List Env) × (Addr) × (Addr) × (Value) × (Str → Option Value) × (Str → Option Value) × (Str → Option Value) × (ExcName → Option Value) × (Shared) × (Nat) × (Nat) × (Value → Shared → Prop) × (Flow → Shared → Prop) × (Cst) × (Var) × (List (Addr × Obj)) × (Nat) × (Int) × (Tok)) : Prop := zSt zz.1 zz.2.1 zz.2.2.1 zz.2.2.2.1 zz.2.2.2.2.1 zz.2.2.2.2.2.1 zz.2.2.2.2.2.2.1 zz.2.2.2.2.2.2.2.1 zz.2.2.2.2.2.2.2.2.1 zz.2.2.2.2.2.2.2.2.2.1 zz.2.2.2.2.2.2.2.2.2.2.1 zz.2.2.2.2.2.2.2.2.2.2.2.1 zz.2.2.2.2.2.2.2.2.2.2.2.2.1 zz.2.2.2.2.2.2.2.2.2.2.2.2.2.1 zz.2.2.2.2.2.2.2.2.2.2.2.2.2.2.1 zz.2.2.2.2.2.2.2.2.2.2.2.2.2.2.2.1 zz.2.2.2.2.2.2.2.2.2.2.2.2.2.2.2.2.1 zz.2.2.2.2.2.2.2.2.2.2.2.2.2.2.2.2.2.1 zz.2.2.2.2.2.2.2.2.2.2.2.2.2.2.2.2.2.2.1 zz.2.2.2.2.2.2.2.2.2.2.2.2.2.2.2.2.2.2.2.1 zz.2.2.2.2.2.2.2.2.2.2.2.2.2.2.2.2.2.2.2.2.1 zz.2.2.2.2.2.2.2.2.2.2.2.2.2.2.2.2.2.2.2.2.2.1 zz.2.2.2.2.2.2.2.2.2.2.2.2.2.2.2.2.2.2.2.2.2.2
theorem zNe : Nonempty ((World) × (Around) × (Heap) × (Heap) × (List Env) × (Addr) × (Addr) × (Value) × (Str → Option Value) × (Str → Option Value) × (Str → Option Value) × (ExcName → Option Value) × (Shared) × (Nat) × (Nat) × (Value → Shared → Prop) × (Flow → Shared → Prop) × (Cst) × (Var) × (List (Addr × Obj)) × (Nat) × (Int) × (Tok)) := ⟨(dWorld, dAround, default, default, default, default, default, default, default, default, default, default, dShared, default, default, default, default, dCst, dVar, default, default, default, default)⟩
noncomputable def zC : (World) × (Around) × (Heap) × (Heap) × (List Env) × (Addr) × (Addr) × (Value) × (Str → Option Value) × (Str → Option Value) × (Str → Option Value) × (ExcName → Option Value) × (Shared) × (Nat) × (Nat) × (Value → Shared → Prop) × (Flow → Shared → Prop) × (Cst) × (Var) × (List (Addr × Obj)) × (Nat) × (Int) × (Tok) := @Classical.epsilon _ zNe fun c => ¬ zSc c
noncomputable def w : World := zC.1
noncomputable def A₀ : Around := zC.2.1
noncomputable def base : Heap := zC.2.2.1
noncomputable def h₀ : Heap := zC.2.2.2.1
noncomputable def outer : List Env := zC.2.2.2.2.1
noncomputable def L : Addr := zC.2.2.2.2.2.1
noncomputable def fa : Addr := zC.2.2.2.2.2.2.1
noncomputable def cd : Value := zC.2.2.2.2.2.2.2.1
noncomputable def m : Str → Option Value := zC.2.2.2.2.2.2.2.2.1
noncomputable def mg : Str → Option Value := zC.2.2.2.2.2.2.2.2.2.1
noncomputable def mb : Str → Option Value := zC.2.2.2.2.2.2.2.2.2.2.1
noncomputable def mean : ExcName → Option Value := zC.2.2.2.2.2.2.2.2.2.2.2.1
noncomputable def s : Shared := zC.2.2.2.2.2.2.2.2.2.2.2.2.1
noncomputable def d : Nat := zC.2.2.2.2.2.2.2.2.2.2.2.2.2.1
noncomputable def u : Nat := zC.2.2.2.2.2.2.2.2.2.2.2.2.2.2.1
noncomputable def E : Value → Shared → Prop := zC.2.2.2.2.2.2.2.2.2.2.2.2.2.2.2.1
noncomputable def Q : Flow → Shared → Prop := zC.2.2.2.2.2.2.2.2.2.2.2.2.2.2.2.2.1
noncomputable def K : Cst := zC.2.2.2.2.2.2.2.2.2.2.2.2.2.2.2.2.2.1
noncomputable def v : Var := zC.2.2.2.2.2.2.2.2.2.2.2.2.2.2.2.2.2.2.1
noncomputable def Ow : List (Addr × Obj) := zC.2.2.2.2.2.2.2.2.2.2.2.2.2.2.2.2.2.2.2.1
noncomputable def j : Nat := zC.2.2.2.2.2.2.2.2.2.2.2.2.2.2.2.2.2.2.2.2.1
noncomputable def st : Int := zC.2.2.2.2.2.2.2.2.2.2.2.2.2.2.2.2.2.2.2.2.2.1
noncomputable def tst : Tok := zC.2.2.2.2.2.2.2.2.2.2.2.2.2.2.2.2.2.2.2.2.2.2
theorem zCore (B : Below A₀ base outer h₀) (F : Fr h₀ L s.heap m) (X : (Mine.fr.heap_1 w.params).In h₀) (T : Top Mine.vw (looseW Mine.vw []) mean mg mb h₀) (hd : d < 700) (hu : u < 8000) (P : Pins K m) (hcc : K.cc = L + 1) (hst : m (Str.ofString "step") = some (.int st tst)) (N : News h₀ L s.heap (led K v ++ Ow)) (O : Ok K w Ow j v) (hj : j ≤ 40) (hQ : ∀ h' tk m' v', Fr h₀ L h' m' → Pins K m' → News h₀ L h' (led K v' ++ Ow) → Ok K w Ow (j + 1) v' → Q .next { s with heap := h', toks := tk }) : wpAny (model Challenge.rw_nu0320_01.row.prog w) { handled := none, depth := d, frames := some (lawEnv L fa cd :: outer), guards := some [], units := u } (execs turnBody (lawEnv L fa cd)) Q E s := by
  revert X; k_fill; intro X
  rw [turnBody_eq]
  generalize hA : brA = sA
  generalize hB : brB = sB
  generalize hC : brC = sC
  generalize hD : brD = sD
  generalize hZ : fourth turnBody = sZ
  unfold turnBody lawBody lawEnv lawScope lawName lawRec recOf
  dsimp only [drop4, drop5, headBody, first2, third, elseOf, testOf, posOf]
  simp only [List.cons_append, List.nil_append]
  rw [map_pins P hst] at F
  have hnd := O.tops
  have hR := O.rest
  rw [led_open] at N
  dsimp only [Cst.pool, Cst.adE, Cst.akE, Cst.hmE, Cst.lbE, Cst.ccE, Frm.sdo, sv_top, hv_top, lv_top] at N
  have hroom := O.room
  have hfl : (K.fl, listOf K.vs.toArray K.nf) ∈ rest v Ow := List.mem_append_right _ (List.mem_append_left _ O.fl)
  have hlv : v.top.lev = (v.low.length : Int) - 1 := O.levs v.low.length v.top (by unfold Var.fs; simp)
  rw [hcc] at N
  generalize hRe : rest v Ow = R at *
  unfold tops at hnd hR
  rw [hcc] at hnd hR
  have hnd' := hnd
  simp only [List.nodup_cons, List.mem_cons, not_or, List.not_mem_nil, not_false_eq_true, and_true, List.nodup_nil] at hnd'
  obtain ⟨r1, r2, r3, r4, r5, r6, r7, r8, r9, r10, _⟩ := (by simpa only [OffS, List.forall_mem_cons] using hR : (∀ q ∈ R, q.1 ≠ K.pl) ∧ (∀ q ∈ R, q.1 ≠ K.ad) ∧ (∀ q ∈ R, q.1 ≠ K.ak) ∧ (∀ q ∈ R, q.1 ≠ K.hm) ∧ (∀ q ∈ R, q.1 ≠ K.lb) ∧ (∀ q ∈ R, q.1 ≠ L + 1) ∧ (∀ q ∈ R, q.1 ≠ v.top.sd) ∧ (∀ q ∈ R, q.1 ≠ v.top.nd) ∧ (∀ q ∈ R, q.1 ≠ v.top.od) ∧ (∀ q ∈ R, q.1 ≠ v.top.ha) ∧ _)
  obtain ⟨⟨n1, n2, n3, n4, n5, n6, n7, n8, n9⟩, ⟨n11, n12, n13, n14, n15, n16, n17, n18⟩, ⟨n21, n22, n23, n24, n25, n26, n27⟩, ⟨n31, n32, n33, n34, n35, n36⟩, ⟨n41, n42, n43, n44, n45⟩, ⟨n51, n52, n53, n54⟩, ⟨n61, n62, n63⟩, ⟨n71, n72⟩, n81⟩ := hnd'
  refine hold_post ?_
  k_fold
  (repeat' ((((fail_if_success (with_reducible show Hold _)); (fail_if_success (with_reducible show wpAny _ _ (pyIter _) _ _ _)); (fail_if_success (with_reducible show wpAny _ _ (call (Value.ref _) _ _) _ _ _)); (fail_if_success (with_reducible show wpAny _ _ (compareOp CmpOp.NotEq (Value.ref _) (Value.ref _)) _ _ _)); (fail_if_success (with_reducible show wpAny _ _ (eval (Expr.ListComp _ _ _ _) _) _ _ _)); (fail_if_success (with_reducible show wpAny _ _ (exec (Stmt.Assign _ (Expr.ListComp _ _ _ _) _) _) _ _ _)); (fail_if_success (with_reducible show Src2 _ _ _ _ _ _ _ _ _ _ _ _ _ _)); (fail_if_success (with_reducible show wpAny _ _ (subscriptTail (Expr.ListComp _ _ _ _) _ _ _) _ _ _)); (fail_if_success (with_reducible show wpAny _ _ (compareOp CmpOp.Eq (Value.ref _) (Value.ref _)) _ _ _)); (fail_if_success (with_reducible show LCg.CompSrc _ _ _ _ _ _ _ _ _ _ _ _ _ _)); (fail_if_success (with_reducible show LCt.CompSrcT _ _ _ _ _ _ _ _ _ _ _ _ _ _ _)); (fail_if_success (with_reducible show wpAny _ _ (subscriptTail (Expr.List _ _) _ _ _) _ _ _)); (fail_if_success (with_reducible show wpAny _ _ (execs (Stmt.For _ _ _ _ _ :: _) _) _ _ _)); first | (k_unfold; (try dsimp only)) | (k_end; wrow_close) | walk1 | (dsimp only; walk1) | (leave1; walk_say "STEP leave1"; try dsimp only)))))
  refine pick_spec B (by assumption) (by assumption) (by assumption) T rfl rfl (by omega) (by omega) (by k_mem) O.hints (by have := O.figs; omega) (r1 _ hfl) O.i0 O.i1 O.mx0 O.mx1 (by decide) (by decide) (by k_updF) ?_
  intro r tr i' mx' ti' tm' h1 tk1 hr0 hr1 hi0 hi1 hmx0 hmx1 F1 N1
  try dsimp only at N1
  try dsimp only
  (repeat' ((((fail_if_success (with_reducible show Hold _)); (fail_if_success (with_reducible show wpAny _ _ (pyIter _) _ _ _)); (fail_if_success (with_reducible show wpAny _ _ (call (Value.ref _) _ _) _ _ _)); (fail_if_success (with_reducible show wpAny _ _ (compareOp CmpOp.NotEq (Value.ref _) (Value.ref _)) _ _ _)); (fail_if_success (with_reducible show wpAny _ _ (eval (Expr.ListComp _ _ _ _) _) _ _ _)); (fail_if_success (with_reducible show wpAny _ _ (exec (Stmt.Assign _ (Expr.ListComp _ _ _ _) _) _) _ _ _)); (fail_if_success (with_reducible show Src2 _ _ _ _ _ _ _ _ _ _ _ _ _ _)); (fail_if_success (with_reducible show wpAny _ _ (subscriptTail (Expr.ListComp _ _ _ _) _ _ _) _ _ _)); (fail_if_success (with_reducible show wpAny _ _ (compareOp CmpOp.Eq (Value.ref _) (Value.ref _)) _ _ _)); (fail_if_success (with_reducible show LCg.CompSrc _ _ _ _ _ _ _ _ _ _ _ _ _ _)); (fail_if_success (with_reducible show LCt.CompSrcT _ _ _ _ _ _ _ _ _ _ _ _ _ _ _)); (fail_if_success (with_reducible show wpAny _ _ (subscriptTail (Expr.List _ _) _ _ _) _ _ _)); (fail_if_success (with_reducible show wpAny _ _ (execs (Stmt.For _ _ _ _ _ :: _) _) _ _ _)); first | (k_unfold; (try dsimp only)) | (k_end; wrow_close) | walk1 | (dsimp only; walk1) | (leave1; walk_say "STEP leave1"; try dsimp only)))))
  refine pick_spec B (by assumption) (by assumption) (by assumption) T rfl rfl (by omega) (by omega) (by k_mem) O.hints (by have := O.figs; omega) (r1 _ hfl) hi0 hi1 hmx0 hmx1 (by decide) (by decide) (by k_updF) ?_
  intro r2' tr2 i2 mx2 ti2 tm2 h2 tk2 hs0 hs1 hi0' hi1' hmx0' hmx1' F2 N2
  try dsimp only at N2
  try dsimp only
  refine item_menu (by assumption) (.head _) (ys := [Str.ofString "a", Str.ofString "b", Str.ofString "x1", Str.ofString "TRUE", Str.ofString "INTEGER", Str.ofString "NEW"]) (by repeat constructor) hs0 hs1 (by decide) ?_
  intro nm tn hnm
  try dsimp only
  replace N2 := news_sub N2 (fun q hq => List.mem_cons_of_mem _ hq)
  obtain ⟨c0, hc0⟩ := O.co
  refine wpAny_storeName_cell (c := L + 1) (v₀ := c0) rfl rfl rfl ⟨_, (N2 (L + 1, v.co) (by k_mem)).1, hc0⟩ ?_
  intro h3 hcell hsame
  obtain ⟨co', hco1, hco2⟩ := hcell
  have hL1 : L + 1 ≠ L := (N2 (L + 1, v.co) (by k_mem)).2.1
  have hL0 : h₀.get? (L + 1) = none := (N2 (L + 1, v.co) (by k_mem)).2.2
  have F3 := Fr.change (by assumption : Fr h₀ L h2 _) hsame hL1 hL0
  have N3 := news_swap N2 hsame hco1 n5 n14 n23 n32 n41 (by simp only [List.forall_mem_cons]; exact ⟨Ne.symm n51, Ne.symm n52, Ne.symm n53, Ne.symm n54, r6⟩)
  clear N2 F2
  dsimp only at F3 ⊢
  have O1 : Ok K w Ow j { v with i0 := i2, mx := mx2, t1 := ti2, t2 := tm2, co := co' } := ⟨O.nodup, O.off, O.apart, O.fl, O.ax, O.ty, hi0', hi1', hmx0', hmx1', O.hints, O.figs, ⟨_, hco2⟩, O.frs, O.levs, O.room, O.size, O.bot⟩
  have hccE : K.ccE { v with i0 := i2, mx := mx2, t1 := ti2, t2 := tm2, co := co' } = (L + 1, co') := by unfold Cst.ccE; rw [hcc]
  have hRe1 : rest { v with i0 := i2, mx := mx2, t1 := ti2, t2 := tm2, co := co' } Ow = R := hRe
  have hconv : ∀ h, News h₀ L h (K.pool { v with i0 := i2, mx := mx2, t1 := ti2, t2 := tm2, co := co' } :: K.adE v :: K.akE v :: K.hmE v :: K.lbE v :: (L + 1, co') :: (v.top.sd, v.top.sdo) :: (v.top.nd, v.top.on) :: (v.top.od, listOf (v.top.its.map It.rf).toArray v.top.no) :: (v.top.ha, listOf (v.top.its.map It.rr).toArray v.top.nh) :: R) → News h₀ L h (led K { v with i0 := i2, mx := mx2, t1 := ti2, t2 := tm2, co := co' } ++ Ow) := fun h Nh => by
    rw [led_open, hccE, hRe1]; exact Nh
  have hnm' : nm ∈ allNames := by
    have key : ∀ x ∈ [Str.ofString "a", Str.ofString "b", Str.ofString "x1", Str.ofString "TRUE", Str.ofString "INTEGER", Str.ofString "NEW"], x ∈ allNames := by decide +kernel
    exact key nm hnm
  (repeat' ((((fail_if_success (with_reducible show Hold _)); (fail_if_success (with_reducible show wpAny _ _ (pyIter _) _ _ _)); (fail_if_success (with_reducible show wpAny _ _ (call (Value.ref _) _ _) _ _ _)); (fail_if_success (with_reducible show wpAny _ _ (compareOp CmpOp.NotEq (Value.ref _) (Value.ref _)) _ _ _)); (fail_if_success (with_reducible show wpAny _ _ (eval (Expr.ListComp _ _ _ _) _) _ _ _)); (fail_if_success (with_reducible show wpAny _ _ (exec (Stmt.Assign _ (Expr.ListComp _ _ _ _) _) _) _ _ _)); (fail_if_success (with_reducible show Src2 _ _ _ _ _ _ _ _ _ _ _ _ _ _)); (fail_if_success (with_reducible show wpAny _ _ (subscriptTail (Expr.ListComp _ _ _ _) _ _ _) _ _ _)); (fail_if_success (with_reducible show wpAny _ _ (compareOp CmpOp.Eq (Value.ref _) (Value.ref _)) _ _ _)); (fail_if_success (with_reducible show LCg.CompSrc _ _ _ _ _ _ _ _ _ _ _ _ _ _)); (fail_if_success (with_reducible show LCt.CompSrcT _ _ _ _ _ _ _ _ _ _ _ _ _ _ _)); (fail_if_success (with_reducible show wpAny _ _ (subscriptTail (Expr.List _ _) _ _ _) _ _ _)); (fail_if_success (with_reducible show wpAny _ _ (execs (Stmt.For _ _ _ _ _ :: _) _) _ _ _)); first | (k_unfold; (try dsimp only)) | (k_end; wrow_close) | walk1 | (dsimp only; walk1) | (leave1; walk_say "STEP leave1"; try dsimp only)))))
  all_goals (rename News _ _ _ _ => NZ; rename Fr _ _ _ _ => FZ)
  all_goals have NQ : News h₀ L _ (led K { v with i0 := i2, mx := mx2, t1 := ti2, t2 := tm2, co := co' } ++ Ow) := hconv _ NZ
  all_goals clear NZ
  all_goals subst hA
  all_goals subst hB
  all_goals subst hC
  all_goals subst hD
  all_goals first
    | ((with_reducible show wpAny _ _ (execs brA _) _ _ _); refine brA_spec B FZ X T hd hu ⟨rfl, rfl, rfl, rfl, rfl⟩ NQ O1 (by (try dsimp only); omega) ?_)
    | ((with_reducible show wpAny _ _ (execs brB _) _ _ _); refine brB_spec' B FZ X T hd hu ⟨rfl, rfl, rfl, rfl, rfl⟩ NQ O1 (by (try dsimp only); omega) hj ?_)
    | ((with_reducible show wpAny _ _ (execs brC _) _ _ _); refine brC_spec B FZ X T hd hu ⟨rfl, rfl, rfl, rfl, rfl⟩ hcc rfl hco2 hnm' NQ O1 hj ?_)
    | ((with_reducible show wpAny _ _ (execs brD _) _ _ _); refine brD_spec B FZ X T hd hu ⟨rfl, rfl, rfl, rfl, rfl⟩ hcc hco2 hnm' NQ O1 hj ?_)
  all_goals
    intro h7 tk7 m7 v7 F7 P7 N7 O7
    try dsimp only
    (repeat' ((((fail_if_success (with_reducible show Hold _)); (fail_if_success (with_reducible show wpAny _ _ (pyIter _) _ _ _)); (fail_if_success (with_reducible show wpAny _ _ (call (Value.ref _) _ _) _ _ _)); (fail_if_success (with_reducible show wpAny _ _ (compareOp CmpOp.NotEq (Value.ref _) (Value.ref _)) _ _ _)); (fail_if_success (with_reducible show wpAny _ _ (eval (Expr.ListComp _ _ _ _) _) _ _ _)); (fail_if_success (with_reducible show wpAny _ _ (exec (Stmt.Assign _ (Expr.ListComp _ _ _ _) _) _) _ _ _)); (fail_if_success (with_reducible show Src2 _ _ _ _ _ _ _ _ _ _ _ _ _ _)); (fail_if_success (with_reducible show wpAny _ _ (subscriptTail (Expr.ListComp _ _ _ _) _ _ _) _ _ _)); (fail_if_success (with_reducible show wpAny _ _ (compareOp CmpOp.Eq (Value.ref _) (Value.ref _)) _ _ _)); (fail_if_success (with_reducible show LCg.CompSrc _ _ _ _ _ _ _ _ _ _ _ _ _ _)); (fail_if_success (with_reducible show LCt.CompSrcT _ _ _ _ _ _ _ _ _ _ _ _ _ _ _)); (fail_if_success (with_reducible show wpAny _ _ (subscriptTail (Expr.List _ _) _ _ _) _ _ _)); (fail_if_success (with_reducible show wpAny _ _ (execs (Stmt.For _ _ _ _ _ :: _) _) _ _ _)); first | (k_unfold; (try dsimp only)) | (k_end; wrow_close) | walk1 | (dsimp only; walk1) | (leave1; walk_say "STEP leave1"; try dsimp only)))))
    subst hZ
    refine after_spec (h₀ := h₀) (L := L) (v := v7) (Ow := Ow) B F7 X T hd hu P7 N7 O7 ?_
    intro h8 tk8 m8 F8 P8 N8
    exact ⟨hQ _ _ _ v7 F8 P8 N8 O7⟩
end Zturnspec
theorem turn_spec {w : World} {A₀ : Around} {base : Heap} {h₀ : Heap} {outer : List Env} {L : Addr} {fa : Addr} {cd : Value} {m : Str → Option Value} {mg : Str → Option Value} {mb : Str → Option Value} {mean : ExcName → Option Value} {s : Shared} {d : Nat} {u : Nat} {E : Value → Shared → Prop} {Q : Flow → Shared → Prop} {K : Cst} {v : Var} {Ow : List (Addr × Obj)} {j : Nat} {st : Int} {tst : Tok} (B : Below A₀ base outer h₀) (F : Fr h₀ L s.heap m) (X : (Mine.fr.heap_1 w.params).In h₀) (T : Top Mine.vw (looseW Mine.vw []) mean mg mb h₀) (hd : d < 700) (hu : u < 8000) (P : Pins K m) (hcc : K.cc = L + 1) (hst : m (Str.ofString "step") = some (.int st tst)) (N : News h₀ L s.heap (led K v ++ Ow)) (O : Ok K w Ow j v) (hj : j ≤ 40) (hQ : ∀ h' tk m' v', Fr h₀ L h' m' → Pins K m' → News h₀ L h' (led K v' ++ Ow) → Ok K w Ow (j + 1) v' → Q .next { s with heap := h', toks := tk }) :
    wpAny (model Challenge.rw_nu0320_01.row.prog w) { handled := none, depth := d, frames := some (lawEnv L fa cd :: outer), guards := some [], units := u } (execs turnBody (lawEnv L fa cd)) Q E s :=
  (eps_all (ne := Zturnspec.zNe) (P := Zturnspec.zSc) Zturnspec.zCore : ∀ c, Zturnspec.zSc c) (w, A₀, base, h₀, outer, L, fa, cd, m, mg, mb, mean, s, d, u, E, Q, K, v, Ow, j, st, tst) B F X T hd hu P hcc hst N O hj hQ
end
-- L6
section
local macro_rules | `(tactic| walk_at "exec For") => `(tactic| (k_here; (rename Fr _ _ _ _ => lF'); (with_unfolding_all refine' For_invVF lF' ?k1 ?k2 ?_; (case k1 => exact rfl); (case k2 => exact rfl); k_whole)))
section
def tgtOf : List Stmt → PySem.Expr
  | .For t _ _ _ _ :: _ => t
  | _ => .Name (Str.ofString "") ⟨0, 0, 0, 0⟩
def iterOf : List Stmt → PySem.Expr
  | .For _ i _ _ _ :: _ => i
  | _ => .Name (Str.ofString "") ⟨0, 0, 0, 0⟩
def fposOf : List Stmt → Pos
  | .For _ _ _ _ p :: _ => p
  | _ => ⟨0, 0, 0, 0⟩
noncomputable def lawTail : List Stmt := (drop5 (drop4 lawBody)).tail
theorem loop_eq : drop5 (drop4 lawBody) = .For (tgtOf (drop5 (drop4 lawBody))) (iterOf (drop5 (drop4 lawBody))) turnBody [] (fposOf (drop5 (drop4 lawBody))) :: lawTail := by rfl
theorem led_cases {K : Cst} {v : Var} : ∀ q ∈ led K v, q.1 ∈ muts K v.fs ∨ q ∈ v.imm := by
  intro q hq
  unfold led at hq
  simp only [List.mem_cons, List.mem_append] at hq
  have hm : ∀ a, a ∈ tops K v → a ∈ muts K v.fs := fun a ha => (tops_perm K v).mem_iff.mpr (List.mem_append_left _ ha)
  have hl : ∀ q ∈ lowcells v.low, q.1 ∈ muts K v.fs := fun q hq => (tops_perm K v).mem_iff.mpr (List.mem_append_right _ (lowcells_mem hq))
  rcases hq with h | h | h | h | h | h | h | h | h
  · exact .inl (hm _ (by rw [h]; simp [tops, Cst.pool]))
  · exact .inl (hm _ (by rw [h]; simp [tops, Cst.adE]))
  · exact .inl (hm _ (by rw [h]; simp [tops, Cst.akE]))
  · exact .inl (hm _ (by rw [h]; simp [tops, Cst.hmE]))
  · exact .inl (hm _ (by rw [h]; simp [tops, Cst.lbE]))
  · exact .inl (hm _ (by rw [h]; simp [tops, Cst.ccE]))
  · refine .inl (hm _ ?_)
    simp only [Frm.cells, List.mem_cons, List.not_mem_nil, or_false] at h
    rcases h with h | h | h | h <;> rw [h] <;> simp [tops]
  · exact .inl (hl q h)
  · exact .inr h
theorem Ok.own {K : Cst} {w : World} {v : Var} {j : Nat} {own : List (Addr × Obj)} {I : Addr} (k : Ok K w [] j v) (h : ∀ p ∈ own, p.1 = I) (hn : ∀ q ∈ led K v, q.1 ≠ I) : Ok K w own j v := by
  refine ⟨k.nodup, ?_, ?_, k.fl, k.ax, k.ty, k.i0, k.i1, k.mx0, k.mx1, k.hints, k.figs, k.co, k.frs, k.levs, k.room, k.size, k.bot⟩
  · intro q hq
    rcases List.mem_append.mp hq with hq | hq
    · exact k.off q (List.mem_append_left _ hq)
    · intro hm
      obtain ⟨p, hp, e⟩ := muts_led _ hm
      exact hn p hp (e.trans (h q hq))
  · intro p hp q hq e
    exact hn p (by unfold led; simp [hp]) (e.trans (h q hq))
theorem Ok.free {K : Cst} {w : World} {v : Var} {j : Nat} {own : List (Addr × Obj)} (k : Ok K w own j v) : Ok K w [] j v :=
  ⟨k.nodup, fun q hq => k.off q (List.mem_append_left _ (by simpa using hq)), (fun _ _ _ h => nomatch h), k.fl, k.ax, k.ty, k.i0, k.i1, k.mx0, k.mx1, k.hints, k.figs, k.co, k.frs, k.levs, k.room, k.size, k.bot⟩
theorem Ok.offI {K : Cst} {w : World} {v : Var} {j : Nat} {own : List (Addr × Obj)} {I : Addr} {o : Obj} (k : Ok K w own j v) (h : (I, o) ∈ own) : ∀ q ∈ led K v, q.1 ≠ I := by
  intro q hq
  rcases led_cases q hq with h1 | h1
  · intro e
    exact k.off (I, o) (List.mem_append_right _ h) (by rw [← e]; exact h1)
  · exact k.apart q h1 _ h
theorem law_loop0 {w : World} {A₀ : Around} {base h₀ : Heap} {outer : List Env} {L fa : Addr} {cd : Value} {m mg mb : Str → Option Value} {mean : ExcName → Option Value} {s : Shared} {d u : Nat}
    {E : Value → Shared → Prop} {Q : Flow → Shared → Prop} {K : Cst} {v : Var}
    (B : Below A₀ base outer h₀) (F : Fr h₀ L s.heap m) (X : (Mine.fr.heap_1 w.params).In h₀) (T : Top Mine.vw (looseW Mine.vw []) mean mg mb h₀) (hd : d < 700) (hu : u < 8000) (P : Pins K m) (hcc : K.cc = L + 1)
    (hE : PassesOwn (model Challenge.rw_nu0320_01.row.prog w) { handled := none, depth := d, frames := some (lawEnv L fa cd :: outer), guards := some [], units := u } (lawEnv L fa cd) E)
    (N : News h₀ L s.heap (led K v)) (O : Ok K w [] 0 v)
    (h : ∀ h' tk m' v' j, Fr h₀ L h' m' → Pins K m' → News h₀ L h' (led K v') → Ok K w [] j v' → wpAny (model Challenge.rw_nu0320_01.row.prog w) { handled := none, depth := d, frames := some (lawEnv L fa cd :: outer), guards := some [], units := u } (execs lawTail (lawEnv L fa cd)) Q E { s with heap := h', toks := tk }) :
    wpAny (model Challenge.rw_nu0320_01.row.prog w) { handled := none, depth := d, frames := some (lawEnv L fa cd :: outer), guards := some [], units := u } (execs (drop5 (drop4 lawBody)) (lawEnv L fa cd)) Q E s := by
  revert X; k_fill; intro X
  rw [loop_eq]
  generalize hT : turnBody = sT
  generalize hZ : lawTail = sZ at h ⊢
  unfold lawBody lawEnv lawScope lawName lawRec recOf
  dsimp only [drop4, drop5, tgtOf, iterOf, fposOf]
  rw [P.map] at F
  have N0 : News h₀ L s.heap (led K v ++ []) := by simpa using N
  clear N
  have hnd := O.tops
  have hR := O.rest
  rw [led_open] at N0
  dsimp only [Cst.pool, Cst.adE, Cst.akE, Cst.hmE, Cst.lbE, Cst.ccE, Frm.sdo, sv_top, hv_top, lv_top] at N0
  have hfl : (K.fl, listOf K.vs.toArray K.nf) ∈ rest v [] := List.mem_append_right _ (List.mem_append_left _ O.fl)
  generalize hRe : rest v [] = R at *
  unfold tops at hnd hR
  have hnd' := hnd
  simp only [List.nodup_cons, List.mem_cons, not_or, List.not_mem_nil, not_false_eq_true, and_true, List.nodup_nil] at hnd'
  obtain ⟨r1, r2, r3, r4, r5, r6, r7, r8, r9, r10, _⟩ := (by simpa only [OffS, List.forall_mem_cons] using hR : (∀ q ∈ R, q.1 ≠ K.pl) ∧ (∀ q ∈ R, q.1 ≠ K.ad) ∧ (∀ q ∈ R, q.1 ≠ K.ak) ∧ (∀ q ∈ R, q.1 ≠ K.hm) ∧ (∀ q ∈ R, q.1 ≠ K.lb) ∧ (∀ q ∈ R, q.1 ≠ K.cc) ∧ (∀ q ∈ R, q.1 ≠ v.top.sd) ∧ (∀ q ∈ R, q.1 ≠ v.top.nd) ∧ (∀ q ∈ R, q.1 ≠ v.top.od) ∧ (∀ q ∈ R, q.1 ≠ v.top.ha) ∧ _)
  obtain ⟨⟨n1, n2, n3, n4, n5, n6, n7, n8, n9⟩, ⟨n11, n12, n13, n14, n15, n16, n17, n18⟩, ⟨n21, n22, n23, n24, n25, n26, n27⟩, ⟨n31, n32, n33, n34, n35, n36⟩, ⟨n41, n42, n43, n44, n45⟩, ⟨n51, n52, n53, n54⟩, ⟨n61, n62, n63⟩, ⟨n71, n72⟩, n81⟩ := hnd'
  refine hold_post ?_
  k_fold
  (((fail_if_success (with_reducible show Hold _)); (fail_if_success (with_reducible show wpAny _ _ (pyIter _) _ _ _)); (fail_if_success (with_reducible show wpAny _ _ (call (Value.ref _) _ _) _ _ _)); (fail_if_success (with_reducible show wpAny _ _ (compareOp CmpOp.NotEq (Value.ref _) (Value.ref _)) _ _ _)); (fail_if_success (with_reducible show wpAny _ _ (eval (Expr.ListComp _ _ _ _) _) _ _ _)); (fail_if_success (with_reducible show wpAny _ _ (exec (Stmt.Assign _ (Expr.ListComp _ _ _ _) _) _) _ _ _)); (fail_if_success (with_reducible show Src2 _ _ _ _ _ _ _ _ _ _ _ _ _ _)); (fail_if_success (with_reducible show wpAny _ _ (subscriptTail (Expr.ListComp _ _ _ _) _ _ _) _ _ _)); (fail_if_success (with_reducible show wpAny _ _ (compareOp CmpOp.Eq (Value.ref _) (Value.ref _)) _ _ _)); (fail_if_success (with_reducible show LCg.CompSrc _ _ _ _ _ _ _ _ _ _ _ _ _ _)); (fail_if_success (with_reducible show LCt.CompSrcT _ _ _ _ _ _ _ _ _ _ _ _ _ _ _)); (fail_if_success (with_reducible show wpAny _ _ (subscriptTail (Expr.List _ _) _ _ _) _ _ _)); first | (k_unfold; (try dsimp only)) | (k_end; wrow_close) | walk1 | (dsimp only; walk1) | (leave1; walk_say "STEP leave1"; try dsimp only)))
  with_unfolding_all refine' For_invVF (by assumption) ?k1 ?k2 ?_ (hE := hE)
  (case k1 => exact rfl)
  (case k2 => exact rfl)
  (repeat' ((((fail_if_success (with_reducible show Hold _)); (fail_if_success (with_reducible show wpAny _ _ (pyIter _) _ _ _)); (fail_if_success (with_reducible show wpAny _ _ (call (Value.ref _) _ _) _ _ _)); (fail_if_success (with_reducible show wpAny _ _ (compareOp CmpOp.NotEq (Value.ref _) (Value.ref _)) _ _ _)); (fail_if_success (with_reducible show wpAny _ _ (eval (Expr.ListComp _ _ _ _) _) _ _ _)); (fail_if_success (with_reducible show wpAny _ _ (exec (Stmt.Assign _ (Expr.ListComp _ _ _ _) _) _) _ _ _)); (fail_if_success (with_reducible show Src2 _ _ _ _ _ _ _ _ _ _ _ _ _ _)); (fail_if_success (with_reducible show wpAny _ _ (subscriptTail (Expr.ListComp _ _ _ _) _ _ _) _ _ _)); (fail_if_success (with_reducible show wpAny _ _ (compareOp CmpOp.Eq (Value.ref _) (Value.ref _)) _ _ _)); (fail_if_success (with_reducible show LCg.CompSrc _ _ _ _ _ _ _ _ _ _ _ _ _ _)); (fail_if_success (with_reducible show LCt.CompSrcT _ _ _ _ _ _ _ _ _ _ _ _ _ _ _)); (fail_if_success (with_reducible show wpAny _ _ (subscriptTail (Expr.List _ _) _ _ _) _ _ _)); first | (k_unfold; (try dsimp only)) | (k_end; wrow_close) | walk1 | (dsimp only; walk1) | (leave1; walk_say "STEP leave1"; try dsimp only)))))
  refine pick_spec B (by assumption) (by assumption) (by assumption) T rfl rfl (by omega) (by omega) (by k_mem) O.hints (by have := O.figs; omega) (r1 _ hfl) O.i0 O.i1 O.mx0 O.mx1 (by decide) (by decide) (by k_updF) ?_
  intro r tr i' mx' ti' tm' h1 tk1 hr0 hr1 hi0 hi1 hmx0 hmx1 F1 N1
  try dsimp only at N1
  try dsimp only
  (repeat' ((((fail_if_success (with_reducible show Hold _)); (fail_if_success (with_reducible show wpAny _ _ (pyIter _) _ _ _)); (fail_if_success (with_reducible show wpAny _ _ (call (Value.ref _) _ _) _ _ _)); (fail_if_success (with_reducible show wpAny _ _ (compareOp CmpOp.NotEq (Value.ref _) (Value.ref _)) _ _ _)); (fail_if_success (with_reducible show wpAny _ _ (eval (Expr.ListComp _ _ _ _) _) _ _ _)); (fail_if_success (with_reducible show wpAny _ _ (exec (Stmt.Assign _ (Expr.ListComp _ _ _ _) _) _) _ _ _)); (fail_if_success (with_reducible show Src2 _ _ _ _ _ _ _ _ _ _ _ _ _ _)); (fail_if_success (with_reducible show wpAny _ _ (subscriptTail (Expr.ListComp _ _ _ _) _ _ _) _ _ _)); (fail_if_success (with_reducible show wpAny _ _ (compareOp CmpOp.Eq (Value.ref _) (Value.ref _)) _ _ _)); (fail_if_success (with_reducible show LCg.CompSrc _ _ _ _ _ _ _ _ _ _ _ _ _ _)); (fail_if_success (with_reducible show LCt.CompSrcT _ _ _ _ _ _ _ _ _ _ _ _ _ _ _)); (fail_if_success (with_reducible show wpAny _ _ (subscriptTail (Expr.List _ _) _ _ _) _ _ _)); first | (k_unfold; (try dsimp only)) | (k_end; wrow_close) | walk1 | (dsimp only; walk1) | (leave1; walk_say "STEP leave1"; try dsimp only)))))
  obtain ⟨n, rfl⟩ := Int.eq_ofNat_of_zero_le hr0
  have hn31 : n < 31 := by omega
  have hsm : Builtin.Range.small 0 (n : Int) 1 = true := (by decide : ∀ n : Fin 31, Builtin.Range.small 0 (n.1 : Int) 1 = true) ⟨n, hn31⟩
  have hrs : Builtin.Range.rangeSize 0 (n : Int) 1 = (n : Int) := (by decide : ∀ n : Fin 31, Builtin.Range.rangeSize 0 (n.1 : Int) 1 = (n.1 : Int)) ⟨n, hn31⟩
  with_reducible rename IsRange _ _ _ _ _ _ _ _ => hRg
  with_reducible rename News _ _ _ _ => NZ
  with_reducible rename Fr _ _ _ _ => FZ
  with_reducible rename Heap => hp9
  have O1 : Ok K w [] 0 { v with i0 := i', mx := mx', t1 := ti', t2 := tm' } := ⟨O.nodup, O.off, O.apart, O.fl, O.ax, O.ty, hi0, hi1, hmx0, hmx1, O.hints, O.figs, O.co, O.frs, O.levs, O.room, O.size, O.bot⟩
  have hRe1 : rest { v with i0 := i', mx := mx', t1 := ti', t2 := tm' } [] = R := hRe
  have NQ : News h₀ L hp9 (led K { v with i0 := i', mx := mx', t1 := ti', t2 := tm' } ++ []) := by
    rw [led_open, hRe1]; exact NZ
  rw [List.append_nil] at NQ
  refine wpAny_pyIter_range hRg hsm ?_
  rw [hrs]
  have hI0 := next_is_new FZ
  have hIL := FZ.ns.lt
  have hIn : ∀ q ∈ led K { v with i0 := i', mx := mx', t1 := ti', t2 := tm' }, q.1 ≠ hp9.objs.size := fun q hq => Nat.ne_of_lt (Heap.lt_size (NQ q hq).1)
  refine loopJ (news := led K { v with i0 := i', mx := mx', t1 := ti', t2 := tm' }) (LCg.range_walks rfl 0 n) ?l1 hI0 hIn ?l2 (FZ.keeps fun _ _ e => Heap.get?_push_of_some _ e) (NQ.grown fun _ _ e => Heap.get?_push_of_some _ e) (fun i m nx => ∃ v', nx = led K v' ∧ Pins K m ∧ Ok K w [] i v') ⟨_, rfl, ⟨rfl, rfl, rfl, rfl, rfl⟩, O1⟩ ⟨_, Heap.get?_push_size _ rfl⟩ (fun i h x => ⟨_, x⟩) ?turn ?done
  case l1 =>
    intro hm
    exact Nat.ne_of_lt hIL (List.mem_singleton.mp hm)
  case l2 =>
    show IsRangeIter _ _ _ _ _
    simpa using Heap.get?_push_size _ rfl
  case turn =>
    rintro i x m₁ nx h3 tk3 own hi ⟨t, rfl⟩ ⟨v', rfl, P', O'⟩ hoff hown ⟨oI, hIo⟩ F₁ N₁
    subst hT
    refine turn_spec (K := K) (v := v') (Ow := own) (j := i) B F₁ X T hd hu ⟨(if_neg (by decide)).trans P'.pool, (if_neg (by decide)).trans P'.types, (if_neg (by decide)).trans P'.scopes, (if_neg (by decide)).trans P'.homes, (if_neg (by decide)).trans P'.labels⟩ hcc (if_pos rfl) N₁ (O'.own (fun p hp => List.mem_singleton.mp (hown p hp)) hoff) (by omega) ?_
    intro h7 tk7 m7 v7 F7 P7 N7 O7
    exact turn_next (led K v7) F7 (news_comm N7) (O7.offI hIo) ⟨v7, rfl, P7, O7.free⟩
  case done =>
    rintro h3 tk3 m3 nx F3 N3 ⟨v', rfl, P', O'⟩
    exact wpAny_mono (h _ _ _ v' n F3 P' N3 O') (fun _ _ q => ⟨q⟩) fun _ _ e => e
end
-- F7
section
section
variable {prog : Program} {w : World} {A : Around} {R : Result → Shared → Prop} {E : Value → Shared → Prop} {s : Shared} {h₀ : Heap} {L : Addr} {m : Str → Option Value} {env : Env}
theorem for_list {elts : List PySem.Expr} {x1 : Nat} {tp : Pos} {body : List Stmt} {I l : Addr} {vs : List Value} {nl : Nat} {news : List (Addr × Obj)} (hh : A.handled = none) (hI₀ : h₀.get? I = none) (hIL : I ≠ L)
    (J : Nat → (Str → Option Value) → List (Addr × Obj) → Prop) (hvs : ∀ v ∈ vs, ∃ T, v = .ref T) (hJl : ∀ i m nx, J i m nx → (l, listOf vs.toArray nl) ∈ nx)
    (hit : s.heap.IsListIter I l 0) (F : Fr h₀ L s.heap m) (N : News h₀ L s.heap news) (off : ∀ q ∈ news, q.1 ≠ I) (h0 : J 0 m news)
    (turn : ∀ i T m₁ nx h tk (E' : Value → Shared → Prop) oI, vs[i]? = some (.ref T) → J i m₁ nx → (∀ q ∈ nx, q.1 ≠ I) → Fr h₀ L h m₁ → News h₀ L h ((I, oI) :: nx) →
      wpAny (model prog w) A (assign (.Tuple elts x1 tp) env (.ref T)) (fun _ s₂ => wpAny (model prog w) A (execs body env) (fun f s₃ => f = .next ∧ ∃ h' tk' m' nx', s₃ = { s with heap := h', toks := tk' } ∧ Fr h₀ L h' m' ∧ News h₀ L h' ((I, oI) :: nx') ∧ (∀ q ∈ nx', q.1 ≠ I) ∧ J (i + 1) m' nx') E' s₂) E' { s with heap := h, toks := tk })
    (done : ∀ h tk m' nx, Fr h₀ L h m' → News h₀ L h nx → J vs.length m' nx → R (.ok .next) { s with heap := h, toks := tk }) :
    codeAny (model prog w) A (.forLoop (.Tuple elts x1 tp) (.ref I) body [] env) R s := by
  refine codeAny_forLoop_any (fun k s' => ∃ h' tk i m' nx, s' = { s with heap := h', toks := tk } ∧ i ≤ vs.length ∧ k = vs.length + 1 - i ∧ h'.IsListIter I l i ∧ Fr h₀ L h' m' ∧ News h₀ L h' nx ∧ (∀ q ∈ nx, q.1 ≠ I) ∧ J i m' nx) ?_ (vs.length + 1)
    ⟨s.heap, s.toks, 0, m, news, rfl, Nat.zero_le _, rfl, hit, F, N, off, h0⟩
  rintro k s' ⟨h', tk, i, m', nx, rfl, hi, rfl, hit', F', N', off', hJ⟩
  have hl : h'.IsList l vs.toArray := ⟨_, (N' _ (hJl i m' nx hJ)).1, rfl, _, rfl⟩
  cases hv : vs.toArray[i]? with
  | none =>
    have hsz' : vs.length ≤ i := by simpa using hv
    have e : i = vs.length := Nat.le_antisymm hi hsz'
    subst e
    refine wpAny_pyNext_list_end hh hit' hl hv fun h₂ he₂ => ?_
    show wpAny _ _ (pure Flow.next) _ _ _
    exact wpAny_pure (done h₂ tk m' nx (LCg.fr_but F' (fun b o hb e => he₂ b o (fun q => hb (by simp [q])) e) (Ne.symm hIL) hI₀) (news_ext N' he₂ off') hJ)
  | some v =>
    have hv' : vs[i]? = some v := by simpa using hv
    have hlt : i < vs.length := (List.getElem?_eq_some_iff.mp hv').1
    obtain ⟨T, rfl⟩ := hvs v (List.mem_of_getElem? hv')
    refine wpAny_pyNext_list_item hit' hl hv fun h₂ hit₂ hs₂ => ?_
    refine wpAny_letOwnedTupleGo_listiter hit₂ ?_
    obtain ⟨oI, heI, hoI⟩ := id hit₂
    have F₂ : Fr h₀ L h₂ m' := F'.change hs₂ hIL hI₀
    have N₂ : News h₀ L h₂ ((I, oI) :: nx) := fun q hq => by
      rcases List.mem_cons.mp hq with rfl | hq
      · exact ⟨heI, hIL, hI₀⟩
      · exact news_ext N' hs₂.extBut off' q hq
    refine wpAny_mono (turn i T m' nx h₂ tk _ oI hv' hJ off' F₂ N₂) (fun _ s₂ hx => wpAny_mono hx (fun f s₃ hf => ?_) fun _ _ e => e) fun _ _ e => e
    obtain ⟨rfl, h₃, tk₃, m₃, nx₃, rfl, F₃, N₃, off₃, J₃⟩ := hf
    exact ⟨vs.length + 1 - (i + 1), by omega, h₃, tk₃, i + 1, m₃, nx₃, rfl, hlt, rfl, ⟨oI, (N₃ _ (.head _)).1, hoI⟩, F₃, fun q hq => N₃ q (.tail _ hq), off₃, J₃⟩
theorem at0L {value slice : PySem.Expr} {l : Addr} {vs : List Value} {x : Value} {n : Nat} {u : Tok} {news : List (Addr × Obj)} {Q : Value → Shared → Prop} (N : News h₀ L s.heap news) (hm : (l, listOf vs.toArray n) ∈ news) (hv : vs[0]? = some x) (h : Q x s)
    (hs : subscripted slice false (.ref l) (.int 0 u) = operate [.ref l, .int 0 u] (getItem (.ref l) (.int 0 u)) := by with_unfolding_all rfl) : wpAny (model prog w) A (subscriptTail value slice (.ref l) (.int 0 u)) Q E s := by
  have hl : s.heap.IsList l vs.toArray := ⟨_, (N _ hm).1, rfl, n, rfl⟩
  exact tail_any hl.typeIs slot_list_getitem.lookup (wpAny_getItem_list hl (Int.le_refl _) (by decide) (by simpa using hv) h) hs
end
end
-- L7
end
end
end
end
end
example {M : Model} {A : Around} {E : Value → Shared → Prop} {s : Shared} {Q : Flow → Shared → Prop} {env : Env} (h : Q .next s) : wpAny M A (execs [] env) Q E s := by
  first | (walk1; exact h) | exact fun _ _ _ => h
section
def headTgt : List Stmt → PySem.Expr
  | .For t _ _ _ _ :: _ => t
  | _ => .Name (Str.ofString "") ⟨0, 0, 0, 0⟩
noncomputable def tailTgt : PySem.Expr := tgtOf lawTail
noncomputable def tailBody : List Stmt := headBody lawTail
def tup2 (nm fm : Str) (t1 t2 : Tok) : Obj := { cls := .type "tuple", data := .seq #[.str nm t1, .str fm t2] }
theorem tail_turn {w : World} {A₀ : Around} {base h₀ : Heap} {outer : List Env} {L fa : Addr} {cd : Value} {m mg mb : Str → Option Value} {mean : ExcName → Option Value} {s : Shared} {d u : Nat}
    {E : Value → Shared → Prop} {Q : Flow → Shared → Prop} {K : Cst} {co : Obj} {c0 : Option Value} {Z : List (Addr × Obj)} {T0 t dt x dx : Addr} {nm fm : Str} {u1 u2 u3 tf : Tok} {lev : Int} {a6 tl : Tok} {vs : List Value} {nk ne nt : Nat} {f : Frm} {es et : List DictEntry}
    (B : Below A₀ base outer h₀) (F : Fr h₀ L s.heap m) (X : (Mine.fr.heap_1 w.params).In h₀) (T : Top Mine.vw (looseW Mine.vw []) mean mg mb h₀) (hd : d < 700) (hu : u < 8000) (P : Pins K m)
    (N : News h₀ L s.heap ((L + 1, co) :: Z)) (hco : co.data = .cell c0) (hZ : ∀ q ∈ Z, q.1 ≠ L + 1)
    (hT : (T0, tup2 nm fm u1 u2) ∈ Z) (hax : (K.ax, instObj 172 K.ad) ∈ Z) (had : (K.ad, scopesD K.c1 K.c2 K.c3 K.c4 K.a1 K.a2 K.a3 K.a4 (.ref K.tx) (.str (Str.ofString "M") K.a5) K.ak lev a6) ∈ Z) (hak : (K.ak, listOf vs.toArray nk) ∈ Z) (hv : vs[0]? = some (.ref f.sx))
    (hsx : (f.sx, instObj 109 f.sd) ∈ Z) (hsd : (f.sd, f.sdo) ∈ Z) (hnd : (f.nd, f.on) ∈ Z) (hdict : f.on.IsDictOf (PySem.strKind Challenge.rw_nu0320_01.row.prog w) (f.its.map It.kv)) (hlo : (f.nd == sysModules) = false) (hat : valueAt (f.its.map It.kv) nm = some (.ref x))
    (hx : (x, instObj 52 dx) ∈ Z) (hdx : (dx, dictOf es ne) ∈ Z) (hty : getL (Str.ofString "type") es = some (some (.ref t))) (ht : (t, instObj 31 dt) ∈ Z) (hdt : (dt, dictOf et nt) ∈ Z) (hfm : getL (Str.ofString "form") et = some (some (.str fm tf)))
    (hQ : ∀ h' tk m' co', Fr h₀ L h' m' → Pins K m' → News h₀ L h' ((L + 1, co') :: Z) → (∃ c, co'.data = .cell c) → Q .next { s with heap := h', toks := tk }) :
    wpAny (model Challenge.rw_nu0320_01.row.prog w) { handled := none, depth := d, frames := some (lawEnv L fa cd :: outer), guards := some [], units := u } (assign tailTgt (lawEnv L fa cd) (.ref T0)) (fun _ s₂ =>
      wpAny (model Challenge.rw_nu0320_01.row.prog w) { handled := none, depth := d, frames := some (lawEnv L fa cd :: outer), guards := some [], units := u } (execs tailBody (lawEnv L fa cd)) Q E s₂) E s := by
  revert X; k_fill; intro X
  unfold tailTgt tailBody lawTail lawBody lawEnv lawScope lawName lawRec recOf
  dsimp only [drop4, drop5, headBody, tgtOf, List.tail]
  rw [P.map] at F
  refine unpackN_ F N ⟨_, (N _ (.tail _ hT)).1, rfl, _, rfl⟩ rfl rfl rfl ?_
  intro h1 F1 N1
  refine hold_post ?_
  k_fold
  (repeat' ((((fail_if_success (with_reducible show Hold _)); (fail_if_success (with_reducible show wpAny _ _ (pyIter _) _ _ _)); (fail_if_success (with_reducible show wpAny _ _ (call (Value.ref _) _ _) _ _ _)); (fail_if_success (with_reducible show wpAny _ _ (compareOp CmpOp.NotEq (Value.ref _) (Value.ref _)) _ _ _)); (fail_if_success (with_reducible show wpAny _ _ (eval (Expr.ListComp _ _ _ _) _) _ _ _)); (fail_if_success (with_reducible show wpAny _ _ (exec (Stmt.Assign _ (Expr.ListComp _ _ _ _) _) _) _ _ _)); (fail_if_success (with_reducible show wpAny _ _ (subscriptTail _ _ _ _) _ _ _)); (fail_if_success (with_reducible show Src2 _ _ _ _ _ _ _ _ _ _ _ _ _ _)); (fail_if_success (with_reducible show wpAny _ _ (subscriptTail (Expr.ListComp _ _ _ _) _ _ _) _ _ _)); (fail_if_success (with_reducible show wpAny _ _ (compareOp CmpOp.Eq (Value.ref _) (Value.ref _)) _ _ _)); (fail_if_success (with_reducible show LCg.CompSrc _ _ _ _ _ _ _ _ _ _ _ _ _ _)); (fail_if_success (with_reducible show LCt.CompSrcT _ _ _ _ _ _ _ _ _ _ _ _ _ _ _)); (fail_if_success (with_reducible show wpAny _ _ (subscriptTail (Expr.List _ _) _ _ _) _ _ _)); first | (k_unfold; (try dsimp only)) | (k_end; wrow_close) | walk1 | (dsimp only; walk1) | (leave1; walk_say "STEP leave1"; try dsimp only)))))
  k_unfold
  try dsimp only
  refine ⟨?_⟩
  clear qk
  with_reducible rename News _ _ _ _ => N2
  have N4 : News h₀ L _ ((K.ax, instObj 172 K.ad) :: (K.ad, scopesD K.c1 K.c2 K.c3 K.c4 K.a1 K.a2 K.a3 K.a4 (.ref K.tx) (.str (Str.ofString "M") K.a5) K.ak lev a6) :: (f.sx, instObj 109 f.sd) :: (f.sd, f.sdo) :: (x, instObj 52 dx) :: (dx, dictOf es ne) :: (t, instObj 31 dt) :: (dt, dictOf et nt) :: (L + 1, _) :: Z) := news_sub N2 (by
    simp only [List.forall_mem_cons]
    exact ⟨.tail _ hax, .tail _ had, .tail _ hsx, .tail _ hsd, .tail _ hx, .tail _ hdx, .tail _ ht, .tail _ hdt, .head _, fun q hq => .tail _ hq⟩)
  clear N2
  dsimp only [Frm.sdo] at N4
  refine hold_post ?_
  k_fold
  (repeat' ((((fail_if_success (with_reducible show Hold _)); (fail_if_success (with_reducible show wpAny _ _ (pyIter _) _ _ _)); (fail_if_success (with_reducible show wpAny _ _ (call (Value.ref _) _ _) _ _ _)); (fail_if_success (with_reducible show wpAny _ _ (compareOp CmpOp.NotEq (Value.ref _) (Value.ref _)) _ _ _)); (fail_if_success (with_reducible show wpAny _ _ (eval (Expr.ListComp _ _ _ _) _) _ _ _)); (fail_if_success (with_reducible show wpAny _ _ (exec (Stmt.Assign _ (Expr.ListComp _ _ _ _) _) _) _ _ _)); (fail_if_success (with_reducible show wpAny _ _ (subscriptTail _ _ _ _) _ _ _)); (fail_if_success (with_reducible show Src2 _ _ _ _ _ _ _ _ _ _ _ _ _ _)); (fail_if_success (with_reducible show wpAny _ _ (subscriptTail (Expr.ListComp _ _ _ _) _ _ _) _ _ _)); (fail_if_success (with_reducible show wpAny _ _ (compareOp CmpOp.Eq (Value.ref _) (Value.ref _)) _ _ _)); (fail_if_success (with_reducible show LCg.CompSrc _ _ _ _ _ _ _ _ _ _ _ _ _ _)); (fail_if_success (with_reducible show LCt.CompSrcT _ _ _ _ _ _ _ _ _ _ _ _ _ _ _)); (fail_if_success (with_reducible show wpAny _ _ (subscriptTail (Expr.List _ _) _ _ _) _ _ _)); first | (k_unfold; (try dsimp only)) | (k_end; wrow_close) | walk1 | (dsimp only; walk1) | (leave1; walk_say "STEP leave1"; try dsimp only)))))
  refine at0L (by assumption) (by k_mem) hv ?_
  (repeat' ((((fail_if_success (with_reducible show Hold _)); (fail_if_success (with_reducible show wpAny _ _ (pyIter _) _ _ _)); (fail_if_success (with_reducible show wpAny _ _ (call (Value.ref _) _ _) _ _ _)); (fail_if_success (with_reducible show wpAny _ _ (compareOp CmpOp.NotEq (Value.ref _) (Value.ref _)) _ _ _)); (fail_if_success (with_reducible show wpAny _ _ (eval (Expr.ListComp _ _ _ _) _) _ _ _)); (fail_if_success (with_reducible show wpAny _ _ (exec (Stmt.Assign _ (Expr.ListComp _ _ _ _) _) _) _ _ _)); (fail_if_success (with_reducible show wpAny _ _ (subscriptTail _ _ _ _) _ _ _)); (fail_if_success (with_reducible show Src2 _ _ _ _ _ _ _ _ _ _ _ _ _ _)); (fail_if_success (with_reducible show wpAny _ _ (subscriptTail (Expr.ListComp _ _ _ _) _ _ _) _ _ _)); (fail_if_success (with_reducible show wpAny _ _ (compareOp CmpOp.Eq (Value.ref _) (Value.ref _)) _ _ _)); (fail_if_success (with_reducible show LCg.CompSrc _ _ _ _ _ _ _ _ _ _ _ _ _ _)); (fail_if_success (with_reducible show LCt.CompSrcT _ _ _ _ _ _ _ _ _ _ _ _ _ _ _)); (fail_if_success (with_reducible show wpAny _ _ (subscriptTail (Expr.List _ _) _ _ _) _ _ _)); first | (k_unfold; (try dsimp only)) | (k_end; wrow_close) | walk1 | (dsimp only; walk1) | (leave1; walk_say "STEP leave1"; try dsimp only)))))
  refine kba_turn (value' := PySem.Expr.Name (PySem.Str.ofString "_") ⟨0, 0, 0, 0⟩) (fun _ => rfl) ?_
  refine item_dict (by assumption) (by k_mem) hdict hat ?_
  (repeat' ((((fail_if_success (with_reducible show Hold _)); (fail_if_success (with_reducible show wpAny _ _ (pyIter _) _ _ _)); (fail_if_success (with_reducible show wpAny _ _ (call (Value.ref _) _ _) _ _ _)); (fail_if_success (with_reducible show wpAny _ _ (compareOp CmpOp.NotEq (Value.ref _) (Value.ref _)) _ _ _)); (fail_if_success (with_reducible show wpAny _ _ (eval (Expr.ListComp _ _ _ _) _) _ _ _)); (fail_if_success (with_reducible show wpAny _ _ (exec (Stmt.Assign _ (Expr.ListComp _ _ _ _) _) _) _ _ _)); (fail_if_success (with_reducible show wpAny _ _ (subscriptTail _ _ _ _) _ _ _)); (fail_if_success (with_reducible show Src2 _ _ _ _ _ _ _ _ _ _ _ _ _ _)); (fail_if_success (with_reducible show wpAny _ _ (subscriptTail (Expr.ListComp _ _ _ _) _ _ _) _ _ _)); (fail_if_success (with_reducible show wpAny _ _ (compareOp CmpOp.Eq (Value.ref _) (Value.ref _)) _ _ _)); (fail_if_success (with_reducible show LCg.CompSrc _ _ _ _ _ _ _ _ _ _ _ _ _ _)); (fail_if_success (with_reducible show LCt.CompSrcT _ _ _ _ _ _ _ _ _ _ _ _ _ _ _)); (fail_if_success (with_reducible show wpAny _ _ (subscriptTail (Expr.List _ _) _ _ _) _ _ _)); first | (k_unfold; (try dsimp only)) | (k_end; wrow_close) | walk1 | (dsimp only; walk1) | (leave1; walk_say "STEP leave1"; try dsimp only)))))
  k_unfold
  try dsimp only
  exact ⟨hQ _ _ _ _ (by with_reducible assumption) ⟨rfl, rfl, rfl, rfl, rfl⟩ (news_sub (by with_reducible assumption) fun q hq => .tail _ (.tail _ (.tail _ (.tail _ (.tail _ (.tail _ (.tail _ (.tail _ hq)))))))) ⟨_, by with_reducible assumption⟩⟩
noncomputable def tailRet : List Stmt := lawTail.tail
theorem tail_ret {w : World} {A₀ : Around} {base h₀ : Heap} {outer : List Env} {L fa : Addr} {cd : Value} {m mg mb : Str → Option Value} {mean : ExcName → Option Value} {s : Shared} {d u : Nat}
    {E : Value → Shared → Prop} {Q : Flow → Shared → Prop} {K : Cst} {Z : List (Addr × Obj)} {x dx y dy : Addr} {lev : Int} {a6 ux uy : Tok} {vs : List Value} {nk ne nt : Nat} {f : Frm} {es et : List DictEntry}
    (B : Below A₀ base outer h₀) (F : Fr h₀ L s.heap m) (X : (Mine.fr.heap_1 w.params).In h₀) (T : Top Mine.vw (looseW Mine.vw []) mean mg mb h₀) (hd : d < 700) (hu : u < 8000) (P : Pins K m)
    (N : News h₀ L s.heap Z)
    (hax : (K.ax, instObj 172 K.ad) ∈ Z) (had : (K.ad, scopesD K.c1 K.c2 K.c3 K.c4 K.a1 K.a2 K.a3 K.a4 (.ref K.tx) (.str (Str.ofString "M") K.a5) K.ak lev a6) ∈ Z) (hak : (K.ak, listOf vs.toArray nk) ∈ Z) (hv : vs[0]? = some (.ref f.sx))
    (hsx : (f.sx, instObj 109 f.sd) ∈ Z) (hsd : (f.sd, f.sdo) ∈ Z) (hnd : (f.nd, f.on) ∈ Z) (hdict : f.on.IsDictOf (PySem.strKind Challenge.rw_nu0320_01.row.prog w) (f.its.map It.kv)) (hat : valueAt (f.its.map It.kv) (Str.ofString "TRUE") = some (.ref x)) (hat2 : valueAt (f.its.map It.kv) (Str.ofString "FALSE") = some (.ref y))
    (hx : (x, instObj 52 dx) ∈ Z) (hdx : (dx, dictOf es ne) ∈ Z) (hvx : getL (Str.ofString "value") es = some (some (.int 1 ux))) (hy : (y, instObj 52 dy) ∈ Z) (hdy : (dy, dictOf et nt) ∈ Z) (hvy : getL (Str.ofString "value") et = some (some (.int 0 uy)))
    (hQ : ∀ h' tk m', Fr h₀ L h' m' → News h₀ L h' Z → Q (.ret (.bool true)) { s with heap := h', toks := tk }) :
    wpAny (model Challenge.rw_nu0320_01.row.prog w) { handled := none, depth := d, frames := some (lawEnv L fa cd :: outer), guards := some [], units := u } (execs tailRet (lawEnv L fa cd)) Q E s := by
  revert X; k_fill; intro X
  unfold tailRet lawTail lawBody lawEnv lawScope lawName lawRec recOf
  dsimp only [drop4, drop5, List.tail]
  rw [P.map] at F
  have N4 : News h₀ L _ ((K.ax, instObj 172 K.ad) :: (K.ad, scopesD K.c1 K.c2 K.c3 K.c4 K.a1 K.a2 K.a3 K.a4 (.ref K.tx) (.str (Str.ofString "M") K.a5) K.ak lev a6) :: (f.sx, instObj 109 f.sd) :: (f.sd, f.sdo) :: (x, instObj 52 dx) :: (dx, dictOf es ne) :: (y, instObj 52 dy) :: (dy, dictOf et nt) :: Z) := news_sub N (by
    simp only [List.forall_mem_cons]
    exact ⟨hax, had, hsx, hsd, hx, hdx, hy, hdy, fun q hq => hq⟩)
  clear N
  dsimp only [Frm.sdo] at N4
  refine hold_post ?_
  k_fold
  (repeat' ((((fail_if_success (with_reducible show Hold _)); (fail_if_success (with_reducible show wpAny _ _ (pyIter _) _ _ _)); (fail_if_success (with_reducible show wpAny _ _ (call (Value.ref _) _ _) _ _ _)); (fail_if_success (with_reducible show wpAny _ _ (compareOp CmpOp.NotEq (Value.ref _) (Value.ref _)) _ _ _)); (fail_if_success (with_reducible show wpAny _ _ (eval (Expr.ListComp _ _ _ _) _) _ _ _)); (fail_if_success (with_reducible show wpAny _ _ (exec (Stmt.Assign _ (Expr.ListComp _ _ _ _) _) _) _ _ _)); (fail_if_success (with_reducible show wpAny _ _ (subscriptTail _ _ _ _) _ _ _)); (fail_if_success (with_reducible show Src2 _ _ _ _ _ _ _ _ _ _ _ _ _ _)); (fail_if_success (with_reducible show wpAny _ _ (subscriptTail (Expr.ListComp _ _ _ _) _ _ _) _ _ _)); (fail_if_success (with_reducible show wpAny _ _ (compareOp CmpOp.Eq (Value.ref _) (Value.ref _)) _ _ _)); (fail_if_success (with_reducible show LCg.CompSrc _ _ _ _ _ _ _ _ _ _ _ _ _ _)); (fail_if_success (with_reducible show LCt.CompSrcT _ _ _ _ _ _ _ _ _ _ _ _ _ _ _)); (fail_if_success (with_reducible show wpAny _ _ (subscriptTail (Expr.List _ _) _ _ _) _ _ _)); first | (k_unfold; (try dsimp only)) | (k_end; wrow_close) | walk1 | (dsimp only; walk1) | (leave1; walk_say "STEP leave1"; try dsimp only)))))
  refine at0L (by assumption) (by k_mem) hv ?_
  (repeat' ((((fail_if_success (with_reducible show Hold _)); (fail_if_success (with_reducible show wpAny _ _ (pyIter _) _ _ _)); (fail_if_success (with_reducible show wpAny _ _ (call (Value.ref _) _ _) _ _ _)); (fail_if_success (with_reducible show wpAny _ _ (compareOp CmpOp.NotEq (Value.ref _) (Value.ref _)) _ _ _)); (fail_if_success (with_reducible show wpAny _ _ (eval (Expr.ListComp _ _ _ _) _) _ _ _)); (fail_if_success (with_reducible show wpAny _ _ (exec (Stmt.Assign _ (Expr.ListComp _ _ _ _) _) _) _ _ _)); (fail_if_success (with_reducible show wpAny _ _ (subscriptTail _ _ _ _) _ _ _)); (fail_if_success (with_reducible show Src2 _ _ _ _ _ _ _ _ _ _ _ _ _ _)); (fail_if_success (with_reducible show wpAny _ _ (subscriptTail (Expr.ListComp _ _ _ _) _ _ _) _ _ _)); (fail_if_success (with_reducible show wpAny _ _ (compareOp CmpOp.Eq (Value.ref _) (Value.ref _)) _ _ _)); (fail_if_success (with_reducible show LCg.CompSrc _ _ _ _ _ _ _ _ _ _ _ _ _ _)); (fail_if_success (with_reducible show LCt.CompSrcT _ _ _ _ _ _ _ _ _ _ _ _ _ _ _)); (fail_if_success (with_reducible show wpAny _ _ (subscriptTail (Expr.List _ _) _ _ _) _ _ _)); first | (k_unfold; (try dsimp only)) | (k_end; wrow_close) | walk1 | (dsimp only; walk1) | (leave1; walk_say "STEP leave1"; try dsimp only)))))
  refine kba_turn (value' := PySem.Expr.Name (PySem.Str.ofString "_") ⟨0, 0, 0, 0⟩) (fun _ => rfl) ?_
  refine item_dict (by assumption) (by k_mem) hdict hat ?_
  (repeat' ((((fail_if_success (with_reducible show Hold _)); (fail_if_success (with_reducible show wpAny _ _ (pyIter _) _ _ _)); (fail_if_success (with_reducible show wpAny _ _ (call (Value.ref _) _ _) _ _ _)); (fail_if_success (with_reducible show wpAny _ _ (compareOp CmpOp.NotEq (Value.ref _) (Value.ref _)) _ _ _)); (fail_if_success (with_reducible show wpAny _ _ (eval (Expr.ListComp _ _ _ _) _) _ _ _)); (fail_if_success (with_reducible show wpAny _ _ (exec (Stmt.Assign _ (Expr.ListComp _ _ _ _) _) _) _ _ _)); (fail_if_success (with_reducible show wpAny _ _ (subscriptTail _ _ _ _) _ _ _)); (fail_if_success (with_reducible show Src2 _ _ _ _ _ _ _ _ _ _ _ _ _ _)); (fail_if_success (with_reducible show wpAny _ _ (subscriptTail (Expr.ListComp _ _ _ _) _ _ _) _ _ _)); (fail_if_success (with_reducible show wpAny _ _ (compareOp CmpOp.Eq (Value.ref _) (Value.ref _)) _ _ _)); (fail_if_success (with_reducible show LCg.CompSrc _ _ _ _ _ _ _ _ _ _ _ _ _ _)); (fail_if_success (with_reducible show LCt.CompSrcT _ _ _ _ _ _ _ _ _ _ _ _ _ _ _)); (fail_if_success (with_reducible show wpAny _ _ (subscriptTail (Expr.List _ _) _ _ _) _ _ _)); first | (k_unfold; (try dsimp only)) | (k_end; wrow_close) | walk1 | (dsimp only; walk1) | (leave1; walk_say "STEP leave1"; try dsimp only)))))
  refine at0L (by assumption) (by k_mem) hv ?_
  (repeat' ((((fail_if_success (with_reducible show Hold _)); (fail_if_success (with_reducible show wpAny _ _ (pyIter _) _ _ _)); (fail_if_success (with_reducible show wpAny _ _ (call (Value.ref _) _ _) _ _ _)); (fail_if_success (with_reducible show wpAny _ _ (compareOp CmpOp.NotEq (Value.ref _) (Value.ref _)) _ _ _)); (fail_if_success (with_reducible show wpAny _ _ (eval (Expr.ListComp _ _ _ _) _) _ _ _)); (fail_if_success (with_reducible show wpAny _ _ (exec (Stmt.Assign _ (Expr.ListComp _ _ _ _) _) _) _ _ _)); (fail_if_success (with_reducible show wpAny _ _ (subscriptTail _ _ _ _) _ _ _)); (fail_if_success (with_reducible show Src2 _ _ _ _ _ _ _ _ _ _ _ _ _ _)); (fail_if_success (with_reducible show wpAny _ _ (subscriptTail (Expr.ListComp _ _ _ _) _ _ _) _ _ _)); (fail_if_success (with_reducible show wpAny _ _ (compareOp CmpOp.Eq (Value.ref _) (Value.ref _)) _ _ _)); (fail_if_success (with_reducible show LCg.CompSrc _ _ _ _ _ _ _ _ _ _ _ _ _ _)); (fail_if_success (with_reducible show LCt.CompSrcT _ _ _ _ _ _ _ _ _ _ _ _ _ _ _)); (fail_if_success (with_reducible show wpAny _ _ (subscriptTail (Expr.List _ _) _ _ _) _ _ _)); first | (k_unfold; (try dsimp only)) | (k_end; wrow_close) | walk1 | (dsimp only; walk1) | (leave1; walk_say "STEP leave1"; try dsimp only)))))
  refine kba_turn (value' := PySem.Expr.Name (PySem.Str.ofString "_") ⟨0, 0, 0, 0⟩) (fun _ => rfl) ?_
  refine item_dict (by assumption) (by k_mem) hdict hat2 ?_
  (repeat' ((((fail_if_success (with_reducible show Hold _)); (fail_if_success (with_reducible show wpAny _ _ (pyIter _) _ _ _)); (fail_if_success (with_reducible show wpAny _ _ (call (Value.ref _) _ _) _ _ _)); (fail_if_success (with_reducible show wpAny _ _ (compareOp CmpOp.NotEq (Value.ref _) (Value.ref _)) _ _ _)); (fail_if_success (with_reducible show wpAny _ _ (eval (Expr.ListComp _ _ _ _) _) _ _ _)); (fail_if_success (with_reducible show wpAny _ _ (exec (Stmt.Assign _ (Expr.ListComp _ _ _ _) _) _) _ _ _)); (fail_if_success (with_reducible show wpAny _ _ (subscriptTail _ _ _ _) _ _ _)); (fail_if_success (with_reducible show Src2 _ _ _ _ _ _ _ _ _ _ _ _ _ _)); (fail_if_success (with_reducible show wpAny _ _ (subscriptTail (Expr.ListComp _ _ _ _) _ _ _) _ _ _)); (fail_if_success (with_reducible show wpAny _ _ (compareOp CmpOp.Eq (Value.ref _) (Value.ref _)) _ _ _)); (fail_if_success (with_reducible show LCg.CompSrc _ _ _ _ _ _ _ _ _ _ _ _ _ _)); (fail_if_success (with_reducible show LCt.CompSrcT _ _ _ _ _ _ _ _ _ _ _ _ _ _ _)); (fail_if_success (with_reducible show wpAny _ _ (subscriptTail (Expr.List _ _) _ _ _) _ _ _)); first | (k_unfold; (try dsimp only)) | (k_end; wrow_close) | walk1 | (dsimp only; walk1) | (leave1; walk_say "STEP leave1"; try dsimp only)))))
  exact ⟨hQ _ _ _ F (news_sub N4 fun q hq => .tail _ (.tail _ (.tail _ (.tail _ (.tail _ (.tail _ (.tail _ (.tail _ hq))))))))⟩
theorem tail_eq : lawTail = .For tailTgt (iterOf lawTail) tailBody [] (fposOf lawTail) :: tailRet := by rfl
theorem bot_at {its : List It} {nm : Str} (hn : (its.map (·.o.nm)).Nodup) {i : It} (hi : i ∈ its) (e : i.o.nm = nm) : valueAt (its.map It.kv) nm = some (.ref i.o.x) := by
  have hf : i ∈ its.filter (fun i => i.o.nm == nm) := List.mem_filter.mpr ⟨hi, by simp [e]⟩
  rcases one_frame its nm hn with ⟨h1, _⟩ | ⟨j, _, h1, _, h2⟩
  · rw [h1] at hf; cases hf
  · rw [h1] at hf
    rw [List.mem_singleton.mp hf]; exact h2
theorem good_at {K : Cst} {w : World} {O : List (Addr × Obj)} {j : Nat} {v : Var} {f : Frm} (k : Ok K w O j v) (hf : v.fs[0]? = some f) {nm : Str} (hnm : nm ∈ first7 ++ names14) :
    ∃ x dx es ne tp val, valueAt (f.its.map It.kv) nm = some (.ref x) ∧ (x, instObj 52 dx) ∈ v.imm ∧ (dx, dictOf es ne) ∈ v.imm ∧ getL (Str.ofString "type") es = some (some tp) ∧ getL (Str.ofString "value") es = some (some val) ∧ Spec21 K.tb K.tc K.ty K.ti K.tm nm tp val := by
  have hm := List.mem_of_getElem? hf
  obtain ⟨i, hi, hp, e⟩ := k.bot f hf nm hnm
  obtain ⟨es, n, t1, t2, t3, tp, md, sl, val, g1, g2, g3, _, _, g6⟩ := ((k.frs f hm).items i hi).pre hp
  rw [e] at g6
  exact ⟨i.o.x, i.o.d, es, n, tp, val, bot_at (k.frs f hm).names hi e, g1, g2, g3.ty, g3.value, g6⟩
/-- what a turn of the last loop reads -/
def PairOk (imm : List (Addr × Obj)) (f : Frm) (nm fm : Str) : Prop :=
  ∃ x dx es ne t dt et nt tf, valueAt (f.its.map It.kv) nm = some (.ref x) ∧ (x, instObj 52 dx) ∈ imm ∧ (dx, dictOf es ne) ∈ imm ∧ getL (Str.ofString "type") es = some (some (.ref t)) ∧ (t, instObj 31 dt) ∈ imm ∧ (dt, dictOf et nt) ∈ imm ∧ getL (Str.ofString "form") et = some (some (.str fm tf))
theorem pair_at {K : Cst} {w : World} {O : List (Addr × Obj)} {j : Nat} {v : Var} {f : Frm} (k : Ok K w O j v) (hf : v.fs[0]? = some f) {nm : Str} {fm : String} {t : Addr} (hnm : nm ∈ first7 ++ names14) (ht : ∀ tp val, Spec21 K.tb K.tc K.ty K.ti K.tm nm tp val → tp = .ref t) (hfm : FormIs v.imm t fm) : PairOk v.imm f nm (Str.ofString fm) := by
  obtain ⟨x, dx, es, ne, tp, val, a, b, c, d, _, e⟩ := good_at k hf hnm
  obtain ⟨dt, et, nt, tf, p, q, r⟩ := hfm
  rw [ht tp val e] at d
  exact ⟨x, dx, es, ne, t, dt, et, nt, tf, a, b, c, d, p, q, r⟩
def tailZ (K : Cst) (v : Var) (f : Frm) : List (Addr × Obj) := (K.ax, instObj 172 K.ad) :: K.adE v :: (K.ak, listOf (v.fs.map Frm.sv).toArray v.nk) :: (f.sx, instObj 109 f.sd) :: (f.sd, f.sdo) :: (f.nd, f.on) :: v.imm
theorem tail_led {K : Cst} {w : World} {j : Nat} {v : Var} {f : Frm} (k : Ok K w [] j v) (hf : f ∈ v.fs) : (∀ q ∈ tailZ K v f, q ∈ led K v) ∧ (∀ q ∈ tailZ K v f, q.1 ≠ K.cc) ∧ K.ccE v ∈ led K v := by
  have hcell : ∀ q ∈ f.cells, q ∈ led K v := fun q hq => by simpa using frame_cells (K := K) (O := []) f hf q hq
  have himm : ∀ q ∈ v.imm, q ∈ led K v := fun q hq => by simpa using imm_led (K := K) (O := []) q hq
  have hcc : K.cc ∈ muts K v.fs := by simp [muts]
  have hoff : ∀ q ∈ v.imm, q.1 ≠ K.cc := fun q hq e => k.off q (List.mem_append_left _ hq) (e ▸ hcc)
  have hnd := k.nodup
  have hfm : ∀ a ∈ f.muts, a ≠ K.cc := fun a ha e => by
    have hm : a ∈ v.fs.flatMap Frm.muts := List.mem_flatMap.mpr ⟨f, hf, ha⟩
    unfold muts at hnd
    simp only [List.nodup_cons, List.mem_cons, not_or] at hnd
    obtain ⟨_, _, _, _, _, h6, _⟩ := hnd
    exact h6 (e ▸ hm)
  have h2 : K.ad ≠ K.cc ∧ K.ak ≠ K.cc := by
    unfold muts at hnd
    simp only [List.nodup_cons, List.mem_cons, not_or] at hnd
    obtain ⟨_, h2, h3, _⟩ := hnd
    exact ⟨h2.2.2.2.1, h3.2.2.1⟩
  have hak : (K.ak, listOf (v.fs.map Frm.sv).toArray v.nk) = K.akE v := by unfold Cst.akE Var.fs; rw [List.map_append]; rfl
  refine ⟨?_, ?_, ?_⟩
  · unfold tailZ
    simp only [List.forall_mem_cons]
    refine ⟨himm _ k.ax, ?_, ?_, himm _ (k.frs f hf).inst, hcell _ (.head _), hcell _ (.tail _ (.head _)), himm⟩
    · unfold led; simp
    · rw [hak]; unfold led; simp
  · unfold tailZ
    simp only [List.forall_mem_cons]
    exact ⟨hoff _ k.ax, h2.1, h2.2, hoff _ (k.frs f hf).inst, hfm _ (.head _), hfm _ (.tail _ (.head _)), hoff⟩
  · unfold led; simp
end
-- L8
section
section
variable {w : World} {A₀ : Around} {base h₀ : Heap} {outer : List Env} {L fa : Addr} {cd : Value} {m mg mb : Str → Option Value} {mean : ExcName → Option Value} {s : Shared} {d u : Nat}
    {E : Value → Shared → Prop} {K : Cst} {f : Frm} {Z imm : List (Addr × Obj)} {lev : Int} {a6 : Tok} {vs : List Value} {nk : Nat}
theorem tail_step {Q : Flow → Shared → Prop} {I T0 : Addr} {oI co : Obj} {c0 : Option Value} {nm fm : Str} {u1 u2 : Tok}
    (B : Below A₀ base outer h₀) (F : Fr h₀ L s.heap m) (X : (Mine.fr.heap_1 w.params).In h₀) (T : Top Mine.vw (looseW Mine.vw []) mean mg mb h₀) (hd : d < 700) (hu : u < 8000) (P : Pins K m)
    (N : News h₀ L s.heap ((I, oI) :: (L + 1, co) :: Z)) (hco : co.data = .cell c0) (hZ : ∀ q ∈ Z, q.1 ≠ L + 1) (hI : I ≠ L + 1)
    (hT : (T0, tup2 nm fm u1 u2) ∈ Z) (hax : (K.ax, instObj 172 K.ad) ∈ Z) (had : (K.ad, scopesD K.c1 K.c2 K.c3 K.c4 K.a1 K.a2 K.a3 K.a4 (.ref K.tx) (.str (Str.ofString "M") K.a5) K.ak lev a6) ∈ Z) (hak : (K.ak, listOf vs.toArray nk) ∈ Z) (hv : vs[0]? = some (.ref f.sx))
    (hsx : (f.sx, instObj 109 f.sd) ∈ Z) (hsd : (f.sd, f.sdo) ∈ Z) (hnd : (f.nd, f.on) ∈ Z) (hdict : f.on.IsDictOf (PySem.strKind Challenge.rw_nu0320_01.row.prog w) (f.its.map It.kv)) (hlo : (f.nd == sysModules) = false)
    (p : PairOk imm f nm fm) (himm : ∀ q ∈ imm, q ∈ Z)
    (hQ : ∀ h' tk m' co', Fr h₀ L h' m' → Pins K m' → News h₀ L h' ((I, oI) :: (L + 1, co') :: Z) → (∃ c, co'.data = .cell c) → Q .next { s with heap := h', toks := tk }) :
    wpAny (model Challenge.rw_nu0320_01.row.prog w) { handled := none, depth := d, frames := some (lawEnv L fa cd :: outer), guards := some [], units := u } (assign tailTgt (lawEnv L fa cd) (.ref T0)) (fun _ s₂ =>
      wpAny (model Challenge.rw_nu0320_01.row.prog w) { handled := none, depth := d, frames := some (lawEnv L fa cd :: outer), guards := some [], units := u } (execs tailBody (lawEnv L fa cd)) Q E s₂) E s := by
  obtain ⟨x, dx, es, ne, t, dt, et, nt, tf, q1, q2, q3, q4, q5, q6, q7⟩ := p
  have swap : ∀ {h : Heap} {a b : Addr × Obj}, News h₀ L h (a :: b :: Z) → News h₀ L h (b :: a :: Z) := fun N => news_sub N fun q hq => by
    simp only [List.mem_cons] at hq ⊢
    rcases hq with h | h | h <;> simp [h]
  refine tail_turn (Z := (I, oI) :: Z) (u3 := 0) (tl := 0) B F X T hd hu P (swap N) hco ?_ (.tail _ hT) (.tail _ hax) (.tail _ had) (.tail _ hak) hv (.tail _ hsx) (.tail _ hsd) (.tail _ hnd) hdict hlo q1 (.tail _ (himm _ q2)) (.tail _ (himm _ q3)) q4 (.tail _ (himm _ q5)) (.tail _ (himm _ q6)) q7 ?_
  · exact List.forall_mem_cons.mpr ⟨hI, hZ⟩
  · intro h' tk m' co' F' P' N' hc
    exact hQ h' tk m' co' F' P' (swap N') hc
theorem tail_loop {RR : Result → Shared → Prop} {co : Obj} {c0 : Option Value} {l T1 T2 T3 T4 T5 : Addr} {nl : Nat} {u1 u2 u3 u4 u5 u6 u7 u8 u9 u10 : Tok}
    (B : Below A₀ base outer h₀) (F : Fr h₀ L s.heap m) (X : (Mine.fr.heap_1 w.params).In h₀) (T : Top Mine.vw (looseW Mine.vw []) mean mg mb h₀) (hd : d < 700) (hu : u < 8000) (P : Pins K m)
    (N : News h₀ L s.heap ((l, listOf #[.ref T1, .ref T2, .ref T3, .ref T4, .ref T5] nl) :: (T5, tup2 (Str.ofString "SET") (Str.ofString "set") u9 u10) :: (T4, tup2 (Str.ofString "INTEGER") (Str.ofString "integer") u7 u8) :: (T3, tup2 (Str.ofString "BYTE") (Str.ofString "byte") u5 u6) :: (T2, tup2 (Str.ofString "CHAR") (Str.ofString "char") u3 u4) :: (T1, tup2 (Str.ofString "BOOLEAN") (Str.ofString "boolean") u1 u2) :: (L + 1, co) :: Z))
    (hco : co.data = .cell c0) (hZ : ∀ q ∈ Z, q.1 ≠ L + 1) (hl : l ≠ L + 1) (e1 : T1 ≠ L + 1) (e2 : T2 ≠ L + 1) (e3 : T3 ≠ L + 1) (e4 : T4 ≠ L + 1) (e5 : T5 ≠ L + 1)
    (hax : (K.ax, instObj 172 K.ad) ∈ Z) (had : (K.ad, scopesD K.c1 K.c2 K.c3 K.c4 K.a1 K.a2 K.a3 K.a4 (.ref K.tx) (.str (Str.ofString "M") K.a5) K.ak lev a6) ∈ Z) (hak : (K.ak, listOf vs.toArray nk) ∈ Z) (hv : vs[0]? = some (.ref f.sx))
    (hsx : (f.sx, instObj 109 f.sd) ∈ Z) (hsd : (f.sd, f.sdo) ∈ Z) (hnd : (f.nd, f.on) ∈ Z) (hdict : f.on.IsDictOf (PySem.strKind Challenge.rw_nu0320_01.row.prog w) (f.its.map It.kv)) (hlo : (f.nd == sysModules) = false)
    (p1 : PairOk imm f (Str.ofString "BOOLEAN") (Str.ofString "boolean")) (p2 : PairOk imm f (Str.ofString "CHAR") (Str.ofString "char")) (p3 : PairOk imm f (Str.ofString "BYTE") (Str.ofString "byte")) (p4 : PairOk imm f (Str.ofString "INTEGER") (Str.ofString "integer")) (p5 : PairOk imm f (Str.ofString "SET") (Str.ofString "set")) (himm : ∀ q ∈ imm, q ∈ Z)
    (hR : ∀ h' tk m' co', Fr h₀ L h' m' → Pins K m' → News h₀ L h' ((L + 1, co') :: Z) → RR (.ok .next) { s with heap := h', toks := tk }) :
    wpAny (model Challenge.rw_nu0320_01.row.prog w) { handled := none, depth := d, frames := some (lawEnv L fa cd :: outer), guards := some [], units := u } (pyIter (.ref l)) (fun it s₂ =>
      codeAny (model Challenge.rw_nu0320_01.row.prog w) { handled := none, depth := d, frames := some (lawEnv L fa cd :: outer), guards := some [], units := u } (.forLoop tailTgt it tailBody [] (lawEnv L fa cd)) RR s₂) E s := by
  have hl' : s.heap.IsList l #[.ref T1, .ref T2, .ref T3, .ref T4, .ref T5] := ⟨_, (N _ (.head _)).1, rfl, _, rfl⟩
  refine wpAny_pyIter_list hl' ?_
  have up : ∀ a o, s.heap.get? a = some o → (s.heap.push { cls := .type "list_iterator", data := .fields #[.ref l, .int 0 0] }).get? a = some o := fun a o e => Heap.get?_push_of_some _ e
  have hI : (s.heap.push { cls := .type "list_iterator", data := .fields #[.ref l, .int 0 0] }).IsListIter s.heap.objs.size l 0 := ⟨_, Heap.get?_push_size _ rfl, rfl, rfl⟩
  have hI₀ := next_is_new F
  have hIL : s.heap.objs.size ≠ L := Ne.symm (Nat.ne_of_lt F.ns.lt)
  have N0 : News h₀ L s.heap ((L + 1, co) :: (l, listOf ([.ref T1, .ref T2, .ref T3, .ref T4, .ref T5] : List Value).toArray nl) :: (T5, tup2 (Str.ofString "SET") (Str.ofString "set") u9 u10) :: (T4, tup2 (Str.ofString "INTEGER") (Str.ofString "integer") u7 u8) :: (T3, tup2 (Str.ofString "BYTE") (Str.ofString "byte") u5 u6) :: (T2, tup2 (Str.ofString "CHAR") (Str.ofString "char") u3 u4) :: (T1, tup2 (Str.ofString "BOOLEAN") (Str.ofString "boolean") u1 u2) :: Z) := news_sub N fun q hq => by
    simp only [List.mem_cons] at hq ⊢
    rcases hq with h | h | h | h | h | h | h | h <;> simp [h]
  clear N
  have hZ' : ∀ q ∈ (l, listOf ([.ref T1, .ref T2, .ref T3, .ref T4, .ref T5] : List Value).toArray nl) :: (T5, tup2 (Str.ofString "SET") (Str.ofString "set") u9 u10) :: (T4, tup2 (Str.ofString "INTEGER") (Str.ofString "integer") u7 u8) :: (T3, tup2 (Str.ofString "BYTE") (Str.ofString "byte") u5 u6) :: (T2, tup2 (Str.ofString "CHAR") (Str.ofString "char") u3 u4) :: (T1, tup2 (Str.ofString "BOOLEAN") (Str.ofString "boolean") u1 u2) :: Z, q.1 ≠ L + 1 := by
    simp only [List.forall_mem_cons]
    exact ⟨hl, e5, e4, e3, e2, e1, hZ⟩
  have zz : ∀ q ∈ Z, q ∈ (l, listOf ([.ref T1, .ref T2, .ref T3, .ref T4, .ref T5] : List Value).toArray nl) :: (T5, tup2 (Str.ofString "SET") (Str.ofString "set") u9 u10) :: (T4, tup2 (Str.ofString "INTEGER") (Str.ofString "integer") u7 u8) :: (T3, tup2 (Str.ofString "BYTE") (Str.ofString "byte") u5 u6) :: (T2, tup2 (Str.ofString "CHAR") (Str.ofString "char") u3 u4) :: (T1, tup2 (Str.ofString "BOOLEAN") (Str.ofString "boolean") u1 u2) :: Z := fun q hq => .tail _ (.tail _ (.tail _ (.tail _ (.tail _ (.tail _ hq)))))
  have t0 : (l, listOf ([.ref T1, .ref T2, .ref T3, .ref T4, .ref T5] : List Value).toArray nl) ∈ (l, listOf ([.ref T1, .ref T2, .ref T3, .ref T4, .ref T5] : List Value).toArray nl) :: (T5, tup2 (Str.ofString "SET") (Str.ofString "set") u9 u10) :: (T4, tup2 (Str.ofString "INTEGER") (Str.ofString "integer") u7 u8) :: (T3, tup2 (Str.ofString "BYTE") (Str.ofString "byte") u5 u6) :: (T2, tup2 (Str.ofString "CHAR") (Str.ofString "char") u3 u4) :: (T1, tup2 (Str.ofString "BOOLEAN") (Str.ofString "boolean") u1 u2) :: Z := .head _
  have t5 : (T5, tup2 (Str.ofString "SET") (Str.ofString "set") u9 u10) ∈ (l, listOf ([.ref T1, .ref T2, .ref T3, .ref T4, .ref T5] : List Value).toArray nl) :: (T5, tup2 (Str.ofString "SET") (Str.ofString "set") u9 u10) :: (T4, tup2 (Str.ofString "INTEGER") (Str.ofString "integer") u7 u8) :: (T3, tup2 (Str.ofString "BYTE") (Str.ofString "byte") u5 u6) :: (T2, tup2 (Str.ofString "CHAR") (Str.ofString "char") u3 u4) :: (T1, tup2 (Str.ofString "BOOLEAN") (Str.ofString "boolean") u1 u2) :: Z := .tail _ (.head _)
  have t4 : (T4, tup2 (Str.ofString "INTEGER") (Str.ofString "integer") u7 u8) ∈ (l, listOf ([.ref T1, .ref T2, .ref T3, .ref T4, .ref T5] : List Value).toArray nl) :: (T5, tup2 (Str.ofString "SET") (Str.ofString "set") u9 u10) :: (T4, tup2 (Str.ofString "INTEGER") (Str.ofString "integer") u7 u8) :: (T3, tup2 (Str.ofString "BYTE") (Str.ofString "byte") u5 u6) :: (T2, tup2 (Str.ofString "CHAR") (Str.ofString "char") u3 u4) :: (T1, tup2 (Str.ofString "BOOLEAN") (Str.ofString "boolean") u1 u2) :: Z := .tail _ (.tail _ (.head _))
  have t3 : (T3, tup2 (Str.ofString "BYTE") (Str.ofString "byte") u5 u6) ∈ (l, listOf ([.ref T1, .ref T2, .ref T3, .ref T4, .ref T5] : List Value).toArray nl) :: (T5, tup2 (Str.ofString "SET") (Str.ofString "set") u9 u10) :: (T4, tup2 (Str.ofString "INTEGER") (Str.ofString "integer") u7 u8) :: (T3, tup2 (Str.ofString "BYTE") (Str.ofString "byte") u5 u6) :: (T2, tup2 (Str.ofString "CHAR") (Str.ofString "char") u3 u4) :: (T1, tup2 (Str.ofString "BOOLEAN") (Str.ofString "boolean") u1 u2) :: Z := .tail _ (.tail _ (.tail _ (.head _)))
  have t2 : (T2, tup2 (Str.ofString "CHAR") (Str.ofString "char") u3 u4) ∈ (l, listOf ([.ref T1, .ref T2, .ref T3, .ref T4, .ref T5] : List Value).toArray nl) :: (T5, tup2 (Str.ofString "SET") (Str.ofString "set") u9 u10) :: (T4, tup2 (Str.ofString "INTEGER") (Str.ofString "integer") u7 u8) :: (T3, tup2 (Str.ofString "BYTE") (Str.ofString "byte") u5 u6) :: (T2, tup2 (Str.ofString "CHAR") (Str.ofString "char") u3 u4) :: (T1, tup2 (Str.ofString "BOOLEAN") (Str.ofString "boolean") u1 u2) :: Z := .tail _ (.tail _ (.tail _ (.tail _ (.head _))))
  have t1 : (T1, tup2 (Str.ofString "BOOLEAN") (Str.ofString "boolean") u1 u2) ∈ (l, listOf ([.ref T1, .ref T2, .ref T3, .ref T4, .ref T5] : List Value).toArray nl) :: (T5, tup2 (Str.ofString "SET") (Str.ofString "set") u9 u10) :: (T4, tup2 (Str.ofString "INTEGER") (Str.ofString "integer") u7 u8) :: (T3, tup2 (Str.ofString "BYTE") (Str.ofString "byte") u5 u6) :: (T2, tup2 (Str.ofString "CHAR") (Str.ofString "char") u3 u4) :: (T1, tup2 (Str.ofString "BOOLEAN") (Str.ofString "boolean") u1 u2) :: Z := .tail _ (.tail _ (.tail _ (.tail _ (.tail _ (.head _)))))
  generalize (l, listOf ([.ref T1, .ref T2, .ref T3, .ref T4, .ref T5] : List Value).toArray nl) :: (T5, tup2 (Str.ofString "SET") (Str.ofString "set") u9 u10) :: (T4, tup2 (Str.ofString "INTEGER") (Str.ofString "integer") u7 u8) :: (T3, tup2 (Str.ofString "BYTE") (Str.ofString "byte") u5 u6) :: (T2, tup2 (Str.ofString "CHAR") (Str.ofString "char") u3 u4) :: (T1, tup2 (Str.ofString "BOOLEAN") (Str.ofString "boolean") u1 u2) :: Z = ZZ at N0 hZ' zz t0 t1 t2 t3 t4 t5
  have offI : ∀ q ∈ (L + 1, co) :: ZZ, q.1 ≠ s.heap.objs.size := fun q hq => Nat.ne_of_lt (Heap.lt_size (N0 q hq).1)
  have N1 := N0.grown up
  have F1 := F.keeps up
  generalize s.heap.objs.size = I at hI hI₀ hIL offI ⊢
  generalize (s.heap.push { cls := .type "list_iterator", data := .fields #[.ref l, .int 0 0] }) = h₂ at up hI N1 F1 ⊢
  refine for_list (l := l) (vs := [.ref T1, .ref T2, .ref T3, .ref T4, .ref T5]) (nl := nl) (news := (L + 1, co) :: ZZ) rfl hI₀ hIL (fun i m nx => Pins K m ∧ ∃ co', nx = (L + 1, co') :: ZZ ∧ ∃ c, co'.data = .cell c) ?_ ?_ hI F1 N1 offI ⟨P, co, rfl, c0, hco⟩ ?turn ?done
  · simp only [List.forall_mem_cons]
    exact ⟨⟨_, rfl⟩, ⟨_, rfl⟩, ⟨_, rfl⟩, ⟨_, rfl⟩, ⟨_, rfl⟩, List.forall_mem_nil _⟩
  · rintro i m nx ⟨_, co', rfl, _⟩
    exact .tail _ t0
  case done =>
    rintro h3 tk3 m3 nx F3 N3 ⟨P', co', rfl, _⟩
    exact hR _ _ m3 co' F3 P' (news_sub N3 fun q hq => by
      rcases List.mem_cons.mp hq with rfl | hq
      · exact .head _
      · exact .tail _ (zz q hq))
  case turn =>
    rintro i T0 m₁ nx h3 tk3 E' oI hTi ⟨P', co', rfl, c, hc⟩ hoff F' N'
    have hIc : I ≠ L + 1 := Ne.symm (hoff _ (.head _))
    have hoffZ : ∀ q ∈ ZZ, q.1 ≠ I := fun q hq => hoff q (.tail _ hq)
    have go : ∀ {nm fm : Str} {v1 v2 : Tok}, (T0, tup2 nm fm v1 v2) ∈ ZZ → PairOk imm f nm fm → wpAny (model Challenge.rw_nu0320_01.row.prog w) { handled := none, depth := d, frames := some (lawEnv L fa cd :: outer), guards := some [], units := u } (assign tailTgt (lawEnv L fa cd) (.ref T0)) (fun _ s₂ =>
        wpAny (model Challenge.rw_nu0320_01.row.prog w) { handled := none, depth := d, frames := some (lawEnv L fa cd :: outer), guards := some [], units := u } (execs tailBody (lawEnv L fa cd)) (fun f s₃ => f = .next ∧ ∃ h' tk' m' nx', s₃ = { { s with heap := h₂ } with heap := h', toks := tk' } ∧ Fr h₀ L h' m' ∧ News h₀ L h' ((I, oI) :: nx') ∧ (∀ q ∈ nx', q.1 ≠ I) ∧ (Pins K m' ∧ ∃ co', nx' = (L + 1, co') :: ZZ ∧ ∃ c, co'.data = .cell c)) E' s₂) E' { { s with heap := h₂ } with heap := h3, toks := tk3 } := by
      intro nm fm v1 v2 hm hp
      refine tail_step (s := { { s with heap := h₂ } with heap := h3, toks := tk3 }) (Z := ZZ) B F' X T hd hu P' N' hc hZ' hIc hm (zz _ hax) (zz _ had) (zz _ hak) hv (zz _ hsx) (zz _ hsd) (zz _ hnd) hdict hlo hp (fun q hq => zz q (himm q hq)) ?_
      intro h' tk m' co'' F4 P4 N4 hc4
      exact ⟨rfl, h', tk, m', _, rfl, F4, N4, List.forall_mem_cons.mpr ⟨Ne.symm hIc, hoffZ⟩, P4, co'', rfl, hc4⟩
    match i, hTi with
    | 0, hTi => simp only [List.getElem?_cons_zero, Option.some.injEq, Value.ref.injEq] at hTi; subst hTi; exact go t1 p1
    | 1, hTi => simp only [List.getElem?_cons_zero, List.getElem?_cons_succ, Option.some.injEq, Value.ref.injEq] at hTi; subst hTi; exact go t2 p2
    | 2, hTi => simp only [List.getElem?_cons_zero, List.getElem?_cons_succ, Option.some.injEq, Value.ref.injEq] at hTi; subst hTi; exact go t3 p3
    | 3, hTi => simp only [List.getElem?_cons_zero, List.getElem?_cons_succ, Option.some.injEq, Value.ref.injEq] at hTi; subst hTi; exact go t4 p4
    | 4, hTi => simp only [List.getElem?_cons_zero, List.getElem?_cons_succ, Option.some.injEq, Value.ref.injEq] at hTi; subst hTi; exact go t5 p5
    | i + 5, hTi => simp at hTi
end
namespace Zlawtail
def zSt (w : World) (A₀ : Around) (base : Heap) (h₀ : Heap) (outer : List Env) (L : Addr) (fa : Addr) (cd : Value) (m : Str → Option Value) (mg : Str → Option Value) (mb : Str → Option Value) (mean : ExcName → Option Value) (s : Shared) (d : Nat) (u : Nat) (E : Value → Shared → Prop) (Q : Flow → Shared → Prop) (K : Cst) (v : Var) (j : Nat) : Prop := ∀ (B : Below A₀ base outer h₀) (F : Fr h₀ L s.heap m) (X : (Mine.fr.heap_1 w.params).In h₀) (T : Top Mine.vw (looseW Mine.vw []) mean mg mb h₀) (hd : d < 700) (hu : u < 8000) (P : Pins K m) (hcc : K.cc = L + 1) (hE : PassesOwn (model Challenge.rw_nu0320_01.row.prog w) { handled := none, depth := d, frames := some (lawEnv L fa cd :: outer), guards := some [], units := u } (lawEnv L fa cd) E) (N : News h₀ L s.heap (led K v)) (O : Ok K w [] j v) (h : ∀ h' tk m' nx, Fr h₀ L h' m' → News h₀ L h' nx → Q (.ret (.bool true)) { s with heap := h', toks := tk }), Hold (wpAny (model Challenge.rw_nu0320_01.row.prog w) { handled := none, depth := d, frames := some (lawEnv L fa cd :: outer), guards := some [], units := u } (execs lawTail (lawEnv L fa cd)) Q E s)
def zSc (zz : (World) × (Around) × (Heap) × (Heap) × (List Env) × (Addr) × (Addr) × (Value) × (Str → Option Value) × (Str → Option Value) × (Str → Option Value) × (ExcName → Option Value) × (Shared) × (Nat) × (Nat) × (Value → Shared → Prop) × (Flow → Shared → Prop) × (Cst) × (Var) × (Nat)) : Prop := zSt zz.1 zz.2.1 zz.2.2.1 zz.2.2.2.1 zz.2.2.2.2.1 zz.2.2.2.2.2.1 zz.2.2.2.2.2.2.1 zz.2.2.2.2.2.2.2.1 zz.2.2.2.2.2.2.2.2.1 zz.2.2.2.2.2.2.2.2.2.1 zz.2.2.2.2.2.2.2.2.2.2.1 zz.2.2.2.2.2.2.2.2.2.2.2.1 zz.2.2.2.2.2.2.2.2.2.2.2.2.1 zz.2.2.2.2.2.2.2.2.2.2.2.2.2.1 zz.2.2.2.2.2.2.2.2.2.2.2.2.2.2.1 zz.2.2.2.2.2.2.2.2.2.2.2.2.2.2.2.1 zz.2.2.2.2.2.2.2.2.2.2.2.2.2.2.2.2.1 zz.2.2.2.2.2.2.2.2.2.2.2.2.2.2.2.2.2.1 zz.2.2.2.2.2.2.2.2.2.2.2.2.2.2.2.2.2.2.1 zz.2.2.2.2.2.2.2.2.2.2.2.2.2.2.2.2.2.2.2
theorem zNe : Nonempty ((World) × (Around) × (Heap) × (Heap) × (List Env) × (Addr) × (Addr) × (Value) × (Str → Option Value) × (Str → Option Value) × (Str → Option Value) × (ExcName → Option Value) × (Shared) × (Nat) × (Nat) × (Value → Shared → Prop) × (Flow → Shared → Prop) × (Cst) × (Var) × (Nat)) := ⟨(dWorld, dAround, default, default, default, default, default, default, default, default, default, default, dShared, default, default, default, default, dCst, dVar, default)⟩
noncomputable def zC : (World) × (Around) × (Heap) × (Heap) × (List Env) × (Addr) × (Addr) × (Value) × (Str → Option Value) × (Str → Option Value) × (Str → Option Value) × (ExcName → Option Value) × (Shared) × (Nat) × (Nat) × (Value → Shared → Prop) × (Flow → Shared → Prop) × (Cst) × (Var) × (Nat) := @Classical.epsilon _ zNe fun c => ¬ zSc c
noncomputable def w : World := zC.1
noncomputable def A₀ : Around := zC.2.1
noncomputable def base : Heap := zC.2.2.1
noncomputable def h₀ : Heap := zC.2.2.2.1
noncomputable def outer : List Env := zC.2.2.2.2.1
noncomputable def L : Addr := zC.2.2.2.2.2.1
noncomputable def fa : Addr := zC.2.2.2.2.2.2.1
noncomputable def cd : Value := zC.2.2.2.2.2.2.2.1
noncomputable def m : Str → Option Value := zC.2.2.2.2.2.2.2.2.1
noncomputable def mg : Str → Option Value := zC.2.2.2.2.2.2.2.2.2.1
noncomputable def mb : Str → Option Value := zC.2.2.2.2.2.2.2.2.2.2.1
noncomputable def mean : ExcName → Option Value := zC.2.2.2.2.2.2.2.2.2.2.2.1
noncomputable def s : Shared := zC.2.2.2.2.2.2.2.2.2.2.2.2.1
noncomputable def d : Nat := zC.2.2.2.2.2.2.2.2.2.2.2.2.2.1
noncomputable def u : Nat := zC.2.2.2.2.2.2.2.2.2.2.2.2.2.2.1
noncomputable def E : Value → Shared → Prop := zC.2.2.2.2.2.2.2.2.2.2.2.2.2.2.2.1
noncomputable def Q : Flow → Shared → Prop := zC.2.2.2.2.2.2.2.2.2.2.2.2.2.2.2.2.1
noncomputable def K : Cst := zC.2.2.2.2.2.2.2.2.2.2.2.2.2.2.2.2.2.1
noncomputable def v : Var := zC.2.2.2.2.2.2.2.2.2.2.2.2.2.2.2.2.2.2.1
noncomputable def j : Nat := zC.2.2.2.2.2.2.2.2.2.2.2.2.2.2.2.2.2.2.2
theorem zCore (B : Below A₀ base outer h₀) (F : Fr h₀ L s.heap m) (X : (Mine.fr.heap_1 w.params).In h₀) (T : Top Mine.vw (looseW Mine.vw []) mean mg mb h₀) (hd : d < 700) (hu : u < 8000) (P : Pins K m) (hcc : K.cc = L + 1) (hE : PassesOwn (model Challenge.rw_nu0320_01.row.prog w) { handled := none, depth := d, frames := some (lawEnv L fa cd :: outer), guards := some [], units := u } (lawEnv L fa cd) E) (N : News h₀ L s.heap (led K v)) (O : Ok K w [] j v) (h : ∀ h' tk m' nx, Fr h₀ L h' m' → News h₀ L h' nx → Q (.ret (.bool true)) { s with heap := h', toks := tk }) : Hold (wpAny (model Challenge.rw_nu0320_01.row.prog w) { handled := none, depth := d, frames := some (lawEnv L fa cd :: outer), guards := some [], units := u } (execs lawTail (lawEnv L fa cd)) Q E s) := by
  refine ⟨?_⟩
  revert X; k_fill; intro X
  obtain ⟨f, hf⟩ : ∃ f, v.fs[0]? = some f := ⟨v.fs[0]'(by unfold Var.fs; simp), List.getElem?_eq_getElem _⟩
  have hfm := List.mem_of_getElem? hf
  have hv0 : (v.fs.map Frm.sv)[0]? = some (.ref f.sx) := by rw [List.getElem?_map, hf]; rfl
  obtain ⟨z1, z2, z3⟩ := tail_led O hfm
  obtain ⟨c0, hc0⟩ := O.co
  have p1 : PairOk v.imm f (Str.ofString "BOOLEAN") (Str.ofString "boolean") := pair_at O hf (by decide +kernel) (fun tp val h => h.1 rfl) O.ty.f1
  have p2 : PairOk v.imm f (Str.ofString "CHAR") (Str.ofString "char") := pair_at O hf (by decide +kernel) (fun tp val h => h.2.1 rfl) O.ty.f2
  have p3 : PairOk v.imm f (Str.ofString "BYTE") (Str.ofString "byte") := pair_at O hf (by decide +kernel) (fun tp val h => h.2.2.1 rfl) O.ty.f3
  have p4 : PairOk v.imm f (Str.ofString "INTEGER") (Str.ofString "integer") := pair_at O hf (by decide +kernel) (fun tp val h => h.2.2.2.1 rfl) O.ty.f4
  have p5 : PairOk v.imm f (Str.ofString "SET") (Str.ofString "set") := pair_at O hf (by decide +kernel) (fun tp val h => h.2.2.2.2.1 rfl) O.ty.f5
  obtain ⟨x1, dx1, es1, ne1, tp1, val1, g1, g2, g3, _, g5, g6⟩ := good_at O hf (by decide +kernel : Str.ofString "TRUE" ∈ first7 ++ names14)
  obtain ⟨k1, rfl⟩ := g6.2.2.2.2.2.2 rfl
  obtain ⟨x0, dx0, es0, ne0, tp0, val0, b1, b2, b3, _, b5, b6⟩ := good_at O hf (by decide +kernel : Str.ofString "FALSE" ∈ first7 ++ names14)
  obtain ⟨k0, rfl⟩ := b6.2.2.2.2.2.1 rfl
  have hdict := (O.frs f hfm).dict
  have hlo := (O.frs f hfm).lo
  have N1 : News h₀ L s.heap ((L + 1, v.co) :: tailZ K v f) := news_sub N (by
    simp only [List.forall_mem_cons]
    exact ⟨hcc ▸ z3, z1⟩)
  rw [hcc] at z2
  have hinZ : ∀ q ∈ v.imm, q ∈ tailZ K v f := fun q hq => by unfold tailZ; simp [hq]
  have a1 : (K.ax, instObj 172 K.ad) ∈ tailZ K v f := .head _
  have a2 : (K.ad, scopesD K.c1 K.c2 K.c3 K.c4 K.a1 K.a2 K.a3 K.a4 (.ref K.tx) (.str (Str.ofString "M") K.a5) K.ak v.top.lev v.a6) ∈ tailZ K v f := .tail _ (.head _)
  have a3 : (K.ak, listOf (v.fs.map Frm.sv).toArray v.nk) ∈ tailZ K v f := .tail _ (.tail _ (.head _))
  have a4 : (f.sx, instObj 109 f.sd) ∈ tailZ K v f := .tail _ (.tail _ (.tail _ (.head _)))
  have a5 : (f.sd, f.sdo) ∈ tailZ K v f := .tail _ (.tail _ (.tail _ (.tail _ (.head _))))
  have a6 : (f.nd, f.on) ∈ tailZ K v f := .tail _ (.tail _ (.tail _ (.tail _ (.tail _ (.head _)))))
  generalize tailZ K v f = Z at *
  clear N
  rw [tail_eq]
  generalize hB : tailBody = sB
  generalize hR : tailRet = sR
  generalize hT : tailTgt = sT
  unfold lawTail lawBody lawEnv lawScope lawName lawRec recOf
  dsimp only [drop4, drop5, tgtOf, iterOf, fposOf, List.tail]
  rw [P.map] at F
  refine hold_post ?_
  k_fold
  (((fail_if_success (with_reducible show Hold _)); (fail_if_success (with_reducible show wpAny _ _ (pyIter _) _ _ _)); (fail_if_success (with_reducible show wpAny _ _ (call (Value.ref _) _ _) _ _ _)); (fail_if_success (with_reducible show wpAny _ _ (compareOp CmpOp.NotEq (Value.ref _) (Value.ref _)) _ _ _)); (fail_if_success (with_reducible show wpAny _ _ (eval (Expr.ListComp _ _ _ _) _) _ _ _)); (fail_if_success (with_reducible show wpAny _ _ (exec (Stmt.Assign _ (Expr.ListComp _ _ _ _) _) _) _ _ _)); (fail_if_success (with_reducible show wpAny _ _ (subscriptTail _ _ _ _) _ _ _)); (fail_if_success (with_reducible show Src2 _ _ _ _ _ _ _ _ _ _ _ _ _ _)); (fail_if_success (with_reducible show wpAny _ _ (subscriptTail (Expr.ListComp _ _ _ _) _ _ _) _ _ _)); (fail_if_success (with_reducible show wpAny _ _ (compareOp CmpOp.Eq (Value.ref _) (Value.ref _)) _ _ _)); (fail_if_success (with_reducible show LCg.CompSrc _ _ _ _ _ _ _ _ _ _ _ _ _ _)); (fail_if_success (with_reducible show LCt.CompSrcT _ _ _ _ _ _ _ _ _ _ _ _ _ _ _)); (fail_if_success (with_reducible show wpAny _ _ (subscriptTail (Expr.List _ _) _ _ _) _ _ _)); first | (k_unfold; (try dsimp only)) | (k_end; wrow_close) | walk1 | (dsimp only; walk1) | (leave1; walk_say "STEP leave1"; try dsimp only)))
  refine wpAny_For ?_
  (repeat' ((((fail_if_success (with_reducible show Hold _)); (fail_if_success (with_reducible show wpAny _ _ (pyIter _) _ _ _)); (fail_if_success (with_reducible show wpAny _ _ (call (Value.ref _) _ _) _ _ _)); (fail_if_success (with_reducible show wpAny _ _ (compareOp CmpOp.NotEq (Value.ref _) (Value.ref _)) _ _ _)); (fail_if_success (with_reducible show wpAny _ _ (eval (Expr.ListComp _ _ _ _) _) _ _ _)); (fail_if_success (with_reducible show wpAny _ _ (exec (Stmt.Assign _ (Expr.ListComp _ _ _ _) _) _) _ _ _)); (fail_if_success (with_reducible show wpAny _ _ (subscriptTail _ _ _ _) _ _ _)); (fail_if_success (with_reducible show Src2 _ _ _ _ _ _ _ _ _ _ _ _ _ _)); (fail_if_success (with_reducible show wpAny _ _ (subscriptTail (Expr.ListComp _ _ _ _) _ _ _) _ _ _)); (fail_if_success (with_reducible show wpAny _ _ (compareOp CmpOp.Eq (Value.ref _) (Value.ref _)) _ _ _)); (fail_if_success (with_reducible show LCg.CompSrc _ _ _ _ _ _ _ _ _ _ _ _ _ _)); (fail_if_success (with_reducible show LCt.CompSrcT _ _ _ _ _ _ _ _ _ _ _ _ _ _ _)); (fail_if_success (with_reducible show wpAny _ _ (subscriptTail (Expr.List _ _) _ _ _) _ _ _)); first | (k_unfold; (try dsimp only)) | (k_end; wrow_close) | walk1 | (dsimp only; walk1) | (leave1; walk_say "STEP leave1"; try dsimp only)))))
  with_reducible rename News _ _ _ _ => NN
  with_reducible rename Fr _ _ _ _ => FF
  subst hB
  subst hT
  refine tail_loop (K := K) (f := f) (imm := v.imm) B FF X T hd hu ⟨rfl, rfl, rfl, rfl, rfl⟩ NN hc0 z2 (by k_ne) (by k_ne) (by k_ne) (by k_ne) (by k_ne) (by k_ne) a1 a2 a3 hv0 a4 a5 a6 hdict hlo p1 p2 p3 p4 p5 hinZ ?_
  intro h3 tk3 m3 co3 F3 P3 N3
  subst hR
  refine wpAny_mono (tail_ret (Z := (L + 1, co3) :: Z) (f := f) B F3 X T hd hu P3 N3 (.tail _ a1) (.tail _ a2) (.tail _ a3) hv0 (.tail _ a4) (.tail _ a5) (.tail _ a6) hdict g1 b1 (.tail _ (hinZ _ g2)) (.tail _ (hinZ _ g3)) g5 (.tail _ (hinZ _ b2)) (.tail _ (hinZ _ b3)) b5 ?_) (fun _ _ q => ⟨q⟩) (fun _ _ e => e)
  intro h4 tk4 m4 F4 N4
  exact h _ _ _ _ F4 N4
end Zlawtail
theorem law_tail {w : World} {A₀ : Around} {base : Heap} {h₀ : Heap} {outer : List Env} {L : Addr} {fa : Addr} {cd : Value} {m : Str → Option Value} {mg : Str → Option Value} {mb : Str → Option Value} {mean : ExcName → Option Value} {s : Shared} {d : Nat} {u : Nat} {E : Value → Shared → Prop} {Q : Flow → Shared → Prop} {K : Cst} {v : Var} {j : Nat} (B : Below A₀ base outer h₀) (F : Fr h₀ L s.heap m) (X : (Mine.fr.heap_1 w.params).In h₀) (T : Top Mine.vw (looseW Mine.vw []) mean mg mb h₀) (hd : d < 700) (hu : u < 8000) (P : Pins K m) (hcc : K.cc = L + 1) (hE : PassesOwn (model Challenge.rw_nu0320_01.row.prog w) { handled := none, depth := d, frames := some (lawEnv L fa cd :: outer), guards := some [], units := u } (lawEnv L fa cd) E) (N : News h₀ L s.heap (led K v)) (O : Ok K w [] j v) (h : ∀ h' tk m' nx, Fr h₀ L h' m' → News h₀ L h' nx → Q (.ret (.bool true)) { s with heap := h', toks := tk }) :
    Hold (wpAny (model Challenge.rw_nu0320_01.row.prog w) { handled := none, depth := d, frames := some (lawEnv L fa cd :: outer), guards := some [], units := u } (execs lawTail (lawEnv L fa cd)) Q E s) :=
  (eps_all (ne := Zlawtail.zNe) (P := Zlawtail.zSc) Zlawtail.zCore : ∀ c, Zlawtail.zSc c) (w, A₀, base, h₀, outer, L, fa, cd, m, mg, mb, mean, s, d, u, E, Q, K, v, j) B F X T hd hu P hcc hE N O h
end
-- M10
end
end
end
end
end
end
end
end
end
end
end
end
end
end
end
end
example {M : Model} {A : Around} {E : Value → Shared → Prop} {s : Shared} {Q : Flow → Shared → Prop} {env : Env} (h : Q .next s) : wpAny M A (execs [] env) Q E s := by
  first | (walk1; exact h) | exact fun _ _ _ => h
theorem law_loop {w : World} {A₀ : Around} {base h₀ : Heap} {outer : List Env} {L fa : Addr} {cd : Value} {m mg mb : Str → Option Value} {mean : ExcName → Option Value} {s : Shared} {d u : Nat}
    {E : Value → Shared → Prop} {Q : Flow → Shared → Prop} {K : Cst} {v : Var}
    (B : Below A₀ base outer h₀) (F : Fr h₀ L s.heap m) (X : (Mine.fr.heap_1 w.params).In h₀) (T : Top Mine.vw (looseW Mine.vw []) mean mg mb h₀) (hd : d < 700) (hu : u < 8000) (P : Pins K m) (hcc : K.cc = L + 1)
    (hE : PassesOwn (model Challenge.rw_nu0320_01.row.prog w) { handled := none, depth := d, frames := some (lawEnv L fa cd :: outer), guards := some [], units := u } (lawEnv L fa cd) E)
    (N : News h₀ L s.heap (led K v)) (O : Ok K w [] 0 v)
    (h : ∀ h' tk m' nx, Fr h₀ L h' m' → News h₀ L h' nx → Q (.ret (.bool true)) { s with heap := h', toks := tk }) :
    wpAny (model Challenge.rw_nu0320_01.row.prog w) { handled := none, depth := d, frames := some (lawEnv L fa cd :: outer), guards := some [], units := u } (execs (drop5 (drop4 lawBody)) (lawEnv L fa cd)) Q E s := by
  refine law_loop0 B F X T hd hu P hcc hE N O ?_
  intro h' tk m' v' j F' P' N' O'
  have z := law_tail (s := { s with heap := h', toks := tk }) B F' X T hd hu P' hcc hE N' O' (fun h'' tk' m'' nx F'' N'' => h h'' tk' m'' nx F'' N'')
  cases z
  assumption
-- the names of the head's twins are taken: it then goes on without them (its compiled text is 17 MB smaller)
theorem hd.tw10111801491309104144 : True := trivial
theorem hd.tw1011335219593555734 : True := trivial
theorem hd.tw10258999931320997221 : True := trivial
theorem hd.tw10403243965636340961 : True := trivial
theorem hd.tw10601615944963115059 : True := trivial
theorem hd.tw10603584201595350602 : True := trivial
theorem hd.tw10614716105012338702 : True := trivial
theorem hd.tw10784824025267889561 : True := trivial
theorem hd.tw10792051664901133789 : True := trivial
theorem hd.tw10949625832625181284 : True := trivial
theorem hd.tw1097998534492414930 : True := trivial
theorem hd.tw11032806212648032379 : True := trivial
theorem hd.tw11117797201346649052 : True := trivial
theorem hd.tw11162318198679636149 : True := trivial
theorem hd.tw11210553801493137410 : True := trivial
theorem hd.tw11232374478483605306 : True := trivial
theorem hd.tw1129884963351977449 : True := trivial
theorem hd.tw11319892378374348655 : True := trivial
theorem hd.tw11449328733155803182 : True := trivial
theorem hd.tw11465210709893060100 : True := trivial
theorem hd.tw11619667482565300699 : True := trivial
theorem hd.tw11631947586910100387 : True := trivial
theorem hd.tw11652457597714270106 : True := trivial
theorem hd.tw11660266114150955751 : True := trivial
theorem hd.tw11893437276241958245 : True := trivial
theorem hd.tw11953376511379268794 : True := trivial
theorem hd.tw12023040214023829324 : True := trivial
theorem hd.tw12070051907170230399 : True := trivial
theorem hd.tw1222794163293265305 : True := trivial
theorem hd.tw12271959270614036898 : True := trivial
theorem hd.tw12583169130044498743 : True := trivial
theorem hd.tw12588582704262371052 : True := trivial
theorem hd.tw12901994302517312135 : True := trivial
theorem hd.tw12936449754285732098 : True := trivial
theorem hd.tw13225837485096350037 : True := trivial
theorem hd.tw13231353462979371574 : True := trivial
theorem hd.tw13267510147771200024 : True := trivial
theorem hd.tw13330244855972007585 : True := trivial
theorem hd.tw13368278939475635651 : True := trivial
theorem hd.tw13518370688599389936 : True := trivial
theorem hd.tw13770079208771991547 : True := trivial
theorem hd.tw13790719812936386609 : True := trivial
theorem hd.tw13828106393651249627 : True := trivial
theorem hd.tw1382963296337349011 : True := trivial
theorem hd.tw13855881374063213867 : True := trivial
theorem hd.tw14103535550066685397 : True := trivial
theorem hd.tw1413172679324656950 : True := trivial
theorem hd.tw14168552714766633299 : True := trivial
theorem hd.tw14246236162039180721 : True := trivial
theorem hd.tw14346525914970070588 : True := trivial
theorem hd.tw14353793391729792155 : True := trivial
theorem hd.tw1439246655266547700 : True := trivial
theorem hd.tw14560493823538711346 : True := trivial
theorem hd.tw14705683404202351889 : True := trivial
theorem hd.tw14727110085682223627 : True := trivial
theorem hd.tw14754404106442844205 : True := trivial
theorem hd.tw14955159897011116063 : True := trivial
theorem hd.tw15042006015671813226 : True := trivial
theorem hd.tw1506431575118746342 : True := trivial
theorem hd.tw15089522573102190283 : True := trivial
theorem hd.tw15103106377680225435 : True := trivial
theorem hd.tw15166520500009309586 : True := trivial
theorem hd.tw15368132723985388332 : True := trivial
theorem hd.tw15411387601460861337 : True := trivial
theorem hd.tw15527848837575444561 : True := trivial
theorem hd.tw15529170255622000948 : True := trivial
theorem hd.tw15595854959937240912 : True := trivial
theorem hd.tw15603535497565009323 : True := trivial
theorem hd.tw15615537253650120727 : True := trivial
theorem hd.tw15616948245753086127 : True := trivial
theorem hd.tw15642763164714097627 : True := trivial
theorem hd.tw15650184460060549375 : True := trivial
theorem hd.tw15790720579355451973 : True := trivial
theorem hd.tw15837987909243819085 : True := trivial
theorem hd.tw1600037746751723098 : True := trivial
theorem hd.tw16007149819294483003 : True := trivial
theorem hd.tw16037735763661986305 : True := trivial
theorem hd.tw16056359734778111409 : True := trivial
theorem hd.tw16064382804478563927 : True := trivial
theorem hd.tw16091413853298234908 : True := trivial
theorem hd.tw16194383521188589630 : True := trivial
theorem hd.tw16259696140248634718 : True := trivial
theorem hd.tw16345102440705955213 : True := trivial
theorem hd.tw16412773359747925120 : True := trivial
theorem hd.tw16432713993328977331 : True := trivial
theorem hd.tw16477043939570097188 : True := trivial
theorem hd.tw16634568088961857937 : True := trivial
theorem hd.tw16828841361933241965 : True := trivial
theorem hd.tw16853341256802265648 : True := trivial
theorem hd.tw16868993833207775613 : True := trivial
theorem hd.tw17062030032774818151 : True := trivial
theorem hd.tw17087091549796120035 : True := trivial
theorem hd.tw17177331786930743035 : True := trivial
theorem hd.tw17183224562656869120 : True := trivial
theorem hd.tw17252143746492648416 : True := trivial
theorem hd.tw17447410573909459338 : True := trivial
theorem hd.tw17542962492245011380 : True := trivial
theorem hd.tw17574625026820762457 : True := trivial
theorem hd.tw1760603350576429475 : True := trivial
theorem hd.tw17650839729002327288 : True := trivial
theorem hd.tw17672654358674132775 : True := trivial
theorem hd.tw17673860158736603733 : True := trivial
theorem hd.tw17681399029576232318 : True := trivial
theorem hd.tw17714235663813219645 : True := trivial
theorem hd.tw1800889605409440832 : True := trivial
theorem hd.tw18093812233618175256 : True := trivial
theorem hd.tw18103342009636024947 : True := trivial
theorem hd.tw18219297243305740317 : True := trivial
theorem hd.tw18264374347568628810 : True := trivial
theorem hd.tw18293732401869909652 : True := trivial
theorem hd.tw18300207936620678264 : True := trivial
theorem hd.tw18343703819029505601 : True := trivial
theorem hd.tw189712035060473897 : True := trivial
theorem hd.tw1997569388931296116 : True := trivial
theorem hd.tw2068664650715991707 : True := trivial
theorem hd.tw2167537188350426706 : True := trivial
theorem hd.tw2195365466389143174 : True := trivial
theorem hd.tw22551697357593593 : True := trivial
theorem hd.tw2701402951725559080 : True := trivial
theorem hd.tw2867327485932766208 : True := trivial
theorem hd.tw2887051446865420828 : True := trivial
theorem hd.tw2930668341846507884 : True := trivial
theorem hd.tw3039998526598829958 : True := trivial
theorem hd.tw3326155532278653932 : True := trivial
theorem hd.tw3451239065008710300 : True := trivial
theorem hd.tw3452082135128663414 : True := trivial
theorem hd.tw3493717111155160527 : True := trivial
theorem hd.tw3530705653197291679 : True := trivial
theorem hd.tw3571134770919094901 : True := trivial
theorem hd.tw3646829019195819677 : True := trivial
theorem hd.tw3673089383077640791 : True := trivial
theorem hd.tw3759623122121258479 : True := trivial
theorem hd.tw3789350110615891812 : True := trivial
theorem hd.tw4014540891139286612 : True := trivial
theorem hd.tw4015398097383911347 : True := trivial
theorem hd.tw402640490398009360 : True := trivial
theorem hd.tw4086058157674990017 : True := trivial
theorem hd.tw4115565904173853331 : True := trivial
theorem hd.tw4164392290792248488 : True := trivial
theorem hd.tw4172343393113369950 : True := trivial
theorem hd.tw4225703048834024713 : True := trivial
theorem hd.tw4272726840584523970 : True := trivial
theorem hd.tw4360684699965382250 : True := trivial
theorem hd.tw4402725079659364252 : True := trivial
theorem hd.tw4555462946037337122 : True := trivial
theorem hd.tw4458047507480968170 : True := trivial
theorem hd.tw4494801613693538912 : True := trivial
theorem hd.tw4702841417184801058 : True := trivial
theorem hd.tw4851647983119433812 : True := trivial
theorem hd.tw4899713377014348845 : True := trivial
theorem hd.tw4971549296188076032 : True := trivial
theorem hd.tw5036846961687405229 : True := trivial
theorem hd.tw5148922909946612681 : True := trivial
theorem hd.tw5190246844813560578 : True := trivial
theorem hd.tw5343241284826551009 : True := trivial
theorem hd.tw5373601922739893978 : True := trivial
theorem hd.tw5511420028821071320 : True := trivial
theorem hd.tw5567388512258382067 : True := trivial
theorem hd.tw5657824000916062451 : True := trivial
theorem hd.tw5781342201191254626 : True := trivial
theorem hd.tw5902613922787404954 : True := trivial
theorem hd.tw5961118342813265553 : True := trivial
theorem hd.tw5978321128707920903 : True := trivial
theorem hd.tw6019021122589006684 : True := trivial
theorem hd.tw6060742912462422084 : True := trivial
theorem hd.tw6082411064634330575 : True := trivial
theorem hd.tw6123773746684550334 : True := trivial
theorem hd.tw6196171512934965099 : True := trivial
theorem hd.tw6291416237084387574 : True := trivial
theorem hd.tw6305734824756694309 : True := trivial
theorem hd.tw6394381022753523788 : True := trivial
theorem hd.tw6407587892757256292 : True := trivial
theorem hd.tw6411954120941647267 : True := trivial
theorem hd.tw6442067068224118133 : True := trivial
theorem hd.tw6767318904944593275 : True := trivial
theorem hd.tw6819123309680001836 : True := trivial
theorem hd.tw6820862383352777685 : True := trivial
theorem hd.tw701787995468756871 : True := trivial
theorem hd.tw7023726343779634624 : True := trivial
theorem hd.tw7028611270464810887 : True := trivial
theorem hd.tw7289634563603522867 : True := trivial
theorem hd.tw7296583596125217682 : True := trivial
theorem hd.tw7366208706002141716 : True := trivial
theorem hd.tw7540655947842036084 : True := trivial
theorem hd.tw7752767780024739350 : True := trivial
theorem hd.tw7754304195085646258 : True := trivial
theorem hd.tw7914949630228597729 : True := trivial
theorem hd.tw8112040973832200146 : True := trivial
theorem hd.tw8117029840178788049 : True := trivial
theorem hd.tw8226494294326810461 : True := trivial
theorem hd.tw8268277133935991078 : True := trivial
theorem hd.tw8343274005884668182 : True := trivial
theorem hd.tw8457440626546761165 : True := trivial
theorem hd.tw8458067239894703972 : True := trivial
theorem hd.tw8674980644004459391 : True := trivial
theorem hd.tw8735263284916673568 : True := trivial
theorem hd.tw8960069828448710407 : True := trivial
theorem hd.tw9170477692918782315 : True := trivial
theorem hd.tw9277588360372424766 : True := trivial
theorem hd.tw9386895884608548742 : True := trivial
theorem hd.tw9421340871869096474 : True := trivial
theorem hd.tw9566141503761928105 : True := trivial
theorem hd.tw9673543361469618366 : True := trivial
theorem hd.tw9719896912496429819 : True := trivial
theorem hd.tw9741134391959003819 : True := trivial
theorem hd.tw9748044761591592747 : True := trivial
theorem hd.tw978945382295711627 : True := trivial
end Mine
set_option Elab.async true in
theorem Mine.hd : PySem.Challenge.rw_nu0320_01.Holds := by
  w_on; o_law; o_head (kHook Mine.fr.heap_1 [2, 3, 22, 24, 25, 27, 28, 29, 30, 31, 32, 33, 43, 45, 46, 48, 49, 50, 51, 52, 53, 54, 64, 66, 67, 69, 70, 71,
    72, 74, 75, 77, 78, 79, 81, 82, 84, 85, 86, 87, 88, 89, 90, 100, 102, 103, 105, 106, 107, 108, 109, 110, 111,
    121, 123, 124, 126, 127, 128, 130, 131, 133, 134, 135, 137, 138, 140, 141, 142, 144, 145, 147, 148, 149, 151,
    152, 154, 155, 156, 158, 159, 161, 162, 163, 165, 166, 168, 169, 170, 171, 172, 173, 174, 177, 179, 180, 182,
    183, 184, 186, 187, 189, 190, 191, 193, 194, 196, 197, 198, 200, 201, 203, 204, 205, 207, 208, 210, 211, 212,
    215, 216] (fun _ => by kernel_rfl))
  (case hw => w_witness2)
  k_go0
  rename News _ _ _ [_] => N0
  rename Fr _ _ _ _ => F0
  rename Below callerA _ _ _ => B0
  rename Top _ _ _ _ _ _ => T0
  refine Mine.law_walk B0 F0 ?h1 (by assumption) N0 ?h2 T0 ?h3 ?h4 (by assumption) (by assumption) (by assumption) ?h5
  case h1 => exact rfl
  case h2 => assumption
  case h3 => decide
  case h4 => decide
  case h5 =>
    intro h' tk' m' K v F P hc N O
    refine Mine.law_loop B0 F (by assumption) T0 (by decide) (by decide) P hc ?hE N O ?_
    case hE =>
      passes_own
    intro h' tk m' nx F N
    dsimp only
    wrow_close
theorem PySem.Challenge.cw_nu0320_01_holds : PySem.Challenge.rw_nu0320_01.Holds :=
  Mine.hd
