import PyProof.Rows.All
import Wide.All
import OpenK.AllK
import Wide.FinOn
import PySem.Challenge.RW_pq1069_01
open PySem PySem.W PyProof.Rows
set_option Elab.async false
set_option maxRecDepth 100000
namespace Mine
set_option maxHeartbeats 8000000 in
open_top hd for PySem.Challenge.rw_pq1069_01
local macro_rules | `(tactic| walk_at $s:str) => `(tactic| k_extra $s)
local macro_rules | `(tactic| k_room) => `(tactic| ktr_room)
local macro_rules | `(tactic| k_units) => `(tactic| ktr_units)
section

/-- a contract: over the ledger `news`, from a def's frame, the call of the def at `f` with the values `vs`
    gives a value and a ledger of which `Post` holds -/
def Con (w : World) (mean : ExcName → Option Value) (mg mb : Str → Option Value) (k : Nat) (f : Addr) (sc : List (Addr × List Value × List Int))
    (news : List (Addr × Obj)) (vs : List Value) (Post : Value → List (Addr × Obj) → Prop) : Prop :=
  ∀ (dp un : Nat) (gd : Option (List Code)) (cn : Str) (cs : Scope) (a : Addr) (ccd : Value) (cl : List (Str × Addr)) (outer : List Env) (A₀ : Around) (base h₀ : Heap) (L : Addr) (m : Str → Option Value) (s : Shared) (Q E : Value → Shared → Prop),
    Below A₀ base outer h₀ → Fr h₀ L s.heap m → (hd.heap_39 w.params).In h₀ → News h₀ L s.heap news →
    Top hd.view_39 (looseW hd.view_39 []) mean mg mb h₀ → cs.kind = .function →
    CbLists base sc (dp + k < recursionLimit → un + 8 * k < cLine →
    (∀ r nx h' tk', Fr h₀ L h' m → News h₀ L h' nx → Post r nx → Q r { s with heap := h', toks := tk' }) →
    wpAny (model (RowW.prog (OpenRow.toRowW (OpenLaw.row PySem.Challenge.rw_pq1069_01))) w) (ktrTop dp un gd cn cs L a ccd cl outer) (call (.ref f) vs) Q E s)

section
variable {prog : Program} {w : World} {A : Around} {E : Value → Shared → Prop} {s : Shared} {a b : Int} {t u : Tok} {Q : Value → Shared → Prop}
theorem my_floordiv (hb : 1 ≤ b) (hB : b ≤ 4611686018427387904) (h : Q (.int (a / b) s.toks) { s with toks := s.toks + 1 }) :
    wpAny (model prog w) A (binaryOp .FloorDiv (.int a t) (.int b u)) Q E s := by
  refine floordiv_int (by omega) ?_ (Or.inl (PyProof.noPylong_of_log2 ?_))
  · rw [Int.fdiv_eq_ediv_of_nonneg _ (by omega)]
    exact h
  · have h1 : b.natAbs < 2 ^ 63 := by omega
    have h2 : b.natAbs.log2 < 63 := (Nat.log2_lt (by omega)).mpr h1
    omega
theorem my_mod (hb : 1 ≤ b) (h : Q (.int (a % b) s.toks) { s with toks := s.toks + 1 }) :
    wpAny (model prog w) A (binaryOp .Mod (.int a t) (.int b u)) Q E s := by
  refine mod_int' (by omega) ?_
  rw [Int.fmod_eq_emod_of_nonneg _ (by omega)]
  exact h
theorem my_pow (a b c : Int) {t u : Tok} (h0 : 0 ≤ b) (h1 : b ≤ 1000000) (h2 : a.natAbs < 2 ^ 64) (e : a ^ b.toNat = c) (h : Q (.int c s.toks) { s with toks := s.toks + 1 }) :
    wpAny (model prog w) A (binaryOp .Pow (.int a t) (.int b u)) Q E s :=
  pow_int_small h0 h1 h2 (by rw [e]; exact h)
end

/-- the units' spans -/
def spanOf (u : Str) : Int :=
  if u = Str.ofString "second" then 1000000000 else if u = Str.ofString "minute" then 60000000000 else if u = Str.ofString "hour" then 3600000000000
  else if u = Str.ofString "day" then 86400000000000 else 604800000000000
def isUnit (u : Str) : Prop := u = Str.ofString "second" ∨ u = Str.ofString "minute" ∨ u = Str.ofString "hour" ∨ u = Str.ofString "day" ∨ u = Str.ofString "week"
theorem span_second : spanOf (Str.ofString "second") = 1000000000 := by decide +kernel
theorem span_minute : spanOf (Str.ofString "minute") = 60000000000 := by decide +kernel
theorem span_hour : spanOf (Str.ofString "hour") = 3600000000000 := by decide +kernel
theorem span_day : spanOf (Str.ofString "day") = 86400000000000 := by decide +kernel
theorem span_week : spanOf (Str.ofString "week") = 604800000000000 := by decide +kernel
theorem span_bounds {u : Str} (h : isUnit u) : 1000000000 ≤ spanOf u ∧ spanOf u ≤ 604800000000000 := by
  rcases h with rfl | rfl | rfl | rfl | rfl
  · rw [span_second]; omega
  · rw [span_minute]; omega
  · rw [span_hour]; omega
  · rw [span_day]; omega
  · rw [span_week]; omega

def secsOf (u : Str) : Int :=
  if u = Str.ofString "second" then 1 else if u = Str.ofString "minute" then 60 else if u = Str.ofString "hour" then 3600
  else if u = Str.ofString "day" then 86400 else 604800
theorem secs_all : secsOf (Str.ofString "second") = 1 ∧ secsOf (Str.ofString "minute") = 60 ∧ secsOf (Str.ofString "hour") = 3600 ∧ secsOf (Str.ofString "day") = 86400 ∧ secsOf (Str.ofString "week") = 604800 := by decide +kernel
theorem secs_span {u : Str} (h : isUnit u) : secsOf u * 1000000000 = spanOf u := by
  obtain ⟨h1, h2, h3, h4, h5⟩ := secs_all
  rcases h with rfl | rfl | rfl | rfl | rfl
  · rw [span_second, h1]; rfl
  · rw [span_minute, h2]; rfl
  · rw [span_hour, h3]; rfl
  · rw [span_day, h4]; rfl
  · rw [span_week, h5]; rfl
theorem secs_bounds {u : Str} (h : isUnit u) : 1 ≤ secsOf u ∧ secsOf u ≤ 604800 := by
  have h1 := secs_span h
  have h2 := span_bounds h
  omega
section
variable {prog : Program} {w : World} {A : Around} {E : Value → Shared → Prop} {s : Shared} {Q : Value → Shared → Prop} {d : Addr} {D : List (PyData × PyData)} {u : Str} {t : Tok} {c1 c2 c3 c4 c5 : Int}
open PyProof.V in
theorem my_getUnit (F : Str → Int) (hu : isUnit u) (T : TabAt (strKind prog w) PyData.str s.heap d D)
    (l1 : PySem.Spec.lookup (PyData.str (Str.ofString "second")) D = some (.int c1)) (l2 : PySem.Spec.lookup (PyData.str (Str.ofString "minute")) D = some (.int c2))
    (l3 : PySem.Spec.lookup (PyData.str (Str.ofString "hour")) D = some (.int c3)) (l4 : PySem.Spec.lookup (PyData.str (Str.ofString "day")) D = some (.int c4))
    (l5 : PySem.Spec.lookup (PyData.str (Str.ofString "week")) D = some (.int c5))
    (hF : F (Str.ofString "second") = c1 ∧ F (Str.ofString "minute") = c2 ∧ F (Str.ofString "hour") = c3 ∧ F (Str.ofString "day") = c4 ∧ F (Str.ofString "week") = c5)
    (h : ∀ t', Q (.int (F u) t') { s with toks := s.toks + 1 }) : wpAny (model prog w) A (getItem (.ref d) (.str u t)) Q E s := by
  obtain ⟨h1, h2, h3, h4, h5⟩ := hF
  refine getItem_tab (dv := .int (F u)) PyProof.V.same_str (strKind_is _ _ _ _) T ?_ ?_
  · rcases hu with rfl | rfl | rfl | rfl | rfl
    · rw [l1, h1]
    · rw [l2, h2]
    · rw [l3, h3]
    · rw [l4, h4]
    · rw [l5, h5]
  · intro v hv
    obtain ⟨t', rfl⟩ := Flat.int_inv hv
    exact h t'
open PyProof.V in
theorem my_itemUnit {value slice : PySem.Expr} (F : Str → Int) (hu : isUnit u) (T : TabAt (strKind prog w) PyData.str s.heap d D)
    (l1 : PySem.Spec.lookup (PyData.str (Str.ofString "second")) D = some (.int c1)) (l2 : PySem.Spec.lookup (PyData.str (Str.ofString "minute")) D = some (.int c2))
    (l3 : PySem.Spec.lookup (PyData.str (Str.ofString "hour")) D = some (.int c3)) (l4 : PySem.Spec.lookup (PyData.str (Str.ofString "day")) D = some (.int c4))
    (l5 : PySem.Spec.lookup (PyData.str (Str.ofString "week")) D = some (.int c5))
    (hF : F (Str.ofString "second") = c1 ∧ F (Str.ofString "minute") = c2 ∧ F (Str.ofString "hour") = c3 ∧ F (Str.ofString "day") = c4 ∧ F (Str.ofString "week") = c5)
    (hs : subscripted slice false (.ref d) (.str u t) = operate [.ref d, .str u t] (getItem (.ref d) (.str u t))) (hg : ∀ r, letTemporaryGo value (.ref d) r = pure ())
    (h : ∀ t', Q (.int (F u) t') { s with toks := s.toks + 1 }) : wpAny (model prog w) A (subscriptTail value slice (.ref d) (.str u t)) Q E s := by
  obtain ⟨h1, h2, h3, h4, h5⟩ := hF
  refine item_strTab (dv := .int (F u)) T ?_ ?_ hs hg
  · rcases hu with rfl | rfl | rfl | rfl | rfl
    · rw [l1, h1]
    · rw [l2, h2]
    · rw [l3, h3]
    · rw [l4, h4]
    · rw [l5, h5]
  · intro v hv
    obtain ⟨t', rfl⟩ := Flat.int_inv hv
    exact h t'
theorem my_notinUnit (hu : isUnit u) (T : TabAt (strKind prog w) PyData.str s.heap d D)
    (l1 : (PySem.Spec.lookup (PyData.str (Str.ofString "second")) D).isSome = true) (l2 : (PySem.Spec.lookup (PyData.str (Str.ofString "minute")) D).isSome = true)
    (l3 : (PySem.Spec.lookup (PyData.str (Str.ofString "hour")) D).isSome = true) (l4 : (PySem.Spec.lookup (PyData.str (Str.ofString "day")) D).isSome = true)
    (l5 : (PySem.Spec.lookup (PyData.str (Str.ofString "week")) D).isSome = true)
    (h : Q (.bool false) { s with toks := s.toks + 1 }) : wpAny (model prog w) A (compareOp .NotIn (.str u t) (.ref d)) Q E s := by
  refine notin_strTab T ?_
  have e : (PySem.Spec.lookup (PyData.str u) D).isSome = true := by rcases hu with rfl | rfl | rfl | rfl | rfl <;> assumption
  rw [e]
  exact h
end
/-- a statement's tuple -/
abbrev stm (ov : Bool) (rate : Int) (u : Str) (burst : Int) (oc : Bool) (t0 t1 t2 t3 : Tok) (c : Nat) : Obj :=
  { cls := .type "tuple", data := .seq #[.str (Str.ofString "limit") t0, .bool ov, .int rate t1, .str u t2, .int burst t3, .bool oc] c }

/-- what so many octets are worth -/
def worth (sp rate : Int) (oc : Bool) (n : Int) : Int := (if oc = true then sp * n else sp) / rate
theorem worth_true {sp rate n : Int} : worth sp rate true n = sp * n / rate := rfl
theorem worth_false {sp rate n : Int} : worth sp rate false n = sp / rate := rfl
theorem worth_less {x r : Int} (hr : 1 ≤ r) : (x - x % r) / r = x / r := by
  have h1 := Int.mul_ediv_add_emod x r
  have h2 : x - x % r = r * (x / r) := by omega
  rw [h2, Int.mul_ediv_cancel_left _ (by omega)]

def retI (news : List (Addr × Obj)) (x : Int) (r : Value) (nx : List (Addr × Obj)) : Prop := (∃ t, r = .int x t) ∧ nx = news
theorem retI_of {news : List (Addr × Obj)} {x y : Int} {t : Tok} (h : y = x) : retI news x (.int y t) news := ⟨⟨t, by rw [h]⟩, rfl⟩
theorem news_dup {h₀ h : Heap} {L : Addr} {news l : List (Addr × Obj)} (N : News h₀ L h news) (hl : ∀ p ∈ l, p ∈ news) : News h₀ L h (l ++ news) := fun p hp => (List.mem_append.mp hp).elim (fun h => N p (hl p h)) (N p)
/-- a contract that leaves the ledger, from one over the ledger with some of its entries once more ahead -/
theorem Con.dup {w : World} {mean : ExcName → Option Value} {mg mb : Str → Option Value} {k : Nat} {f : Addr} {sc : List (Addr × List Value × List Int)} {news : List (Addr × Obj)} {vs : List Value} {x : Int}
    (l : List (Addr × Obj)) (h : Con w mean mg mb k f sc (l ++ news) vs (retI (l ++ news) x)) (hl : ∀ p ∈ l, p ∈ news) : Con w mean mg mb k f sc news vs (retI news x) := by
  intro dp un gd cn cs a ccd cl outer A₀ base h₀ L m s Q E hB hF hX hN hT hk
  have key := h dp un gd cn cs a ccd cl outer A₀ base h₀ L m s Q E hB hF hX (news_dup hN hl) hT hk
  revert key
  have mono : ∀ (sc : List (Addr × List Value × List Int)) {P P' : Prop}, (P → P') → CbLists base sc P → CbLists base sc P' := by
    intro sc
    induction sc with
    | nil => intro P P' i x; exact i x
    | cons q r ih => intro P P' i x a b c; exact ih i (x a b c)
  refine mono sc ?_
  intro key hdp hun hret
  refine key hdp hun ?_
  rintro r nx h' tk' F' N' ⟨⟨t, rfl⟩, rfl⟩
  exact hret _ _ _ _ F' (fun p hp => N' p (List.mem_append.mpr (.inr hp))) ⟨⟨t, rfl⟩, rfl⟩

theorem gen_toks {M : Model} {A : Around} {body : List Stmt} {env : Env} {Q : Flow → Shared → Prop} {E : Value → Shared → Prop} {H : Heap} {G : _} {D : _} {X : Nat} {O : _} (h : ∀ X' : Nat, wpAny M A (execs body env) Q E (Shared.mk H G D X' O)) : wpAny M A (execs body env) Q E (Shared.mk H G D X O) := h X
def Thru (Q : Flow → Shared → Prop) (f : Flow) (s : Shared) : Prop := Q f s
section
variable {prog : Program} {w : World} {A : Around} {E : Value → Shared → Prop} {s : Shared} {env : Env} {h₀ : Heap} {Q : Flow → Shared → Prop} {st : Stmt} {rest : List Stmt}
/-- a statement whose ways meet; it changes nothing -/
theorem if_cut (first : ∀ Q' : Flow → Shared → Prop, (∀ tk', Q' .next { s with toks := tk' }) → wpAny (model prog w) A (exec st env) (Thru Q') E s)
    (tail : ∀ tk', wpAny (model prog w) A (execs rest env) Q E { s with toks := tk' }) : wpAny (model prog w) A (execs (st :: rest) env) Q E s :=
  wpAny_execs_cons (first _ fun tk' => tail tk')
/-- a statement whose ways meet; it stores one int -/
theorem store_cut (x : Str) (p : Int → Prop) {m3 : Str → Option Value} {news1 : List (Addr × Obj)} (F : Fr h₀ env.locals s.heap m3) (N : News h₀ env.locals s.heap news1)
    (first : ∀ Q' : Flow → Shared → Prop, (∀ (h' : Heap) (tk' : Nat) (y : Int) (t : Tok), p y → Fr h₀ env.locals h' (fun z => if z = x then some (.int y t) else m3 z) → News h₀ env.locals h' news1 → Q' .next { s with heap := h', toks := tk' }) → wpAny (model prog w) A (exec st env) (Thru Q') E s)
    (tail : ∀ (h' : Heap) (tk' : Nat) (y : Int) (t : Tok), p y → Fr h₀ env.locals h' (fun z => if z = x then some (.int y t) else m3 z) → News h₀ env.locals h' news1 → wpAny (model prog w) A (execs rest env) Q E { s with heap := h', toks := tk' }) :
    wpAny (model prog w) A (execs (st :: rest) env) Q E s :=
  wpAny_execs_cons (first _ fun h' tk' y t a b c => tail h' tk' y t a b c)
/-- the like, of a bool of the frame -/
theorem store_cutB (x z₀ : Str) (p : Bool → Int → Prop) {oc : Bool} {m3 : Str → Option Value} {news1 : List (Addr × Obj)} (F : Fr h₀ env.locals s.heap m3) (_ho : m3 z₀ = some (.bool oc)) (N : News h₀ env.locals s.heap news1)
    (first : ∀ Q' : Flow → Shared → Prop, (∀ (h' : Heap) (tk' : Nat) (y : Int) (t : Tok), p oc y → Fr h₀ env.locals h' (fun z => if z = x then some (.int y t) else m3 z) → News h₀ env.locals h' news1 → Q' .next { s with heap := h', toks := tk' }) → wpAny (model prog w) A (exec st env) (Thru Q') E s)
    (tail : ∀ (h' : Heap) (tk' : Nat) (y : Int) (t : Tok), p oc y → Fr h₀ env.locals h' (fun z => if z = x then some (.int y t) else m3 z) → News h₀ env.locals h' news1 → wpAny (model prog w) A (execs rest env) Q E { s with heap := h', toks := tk' }) :
    wpAny (model prog w) A (execs (st :: rest) env) Q E s := store_cut x (p oc) F N first tail
end
structure Hid (p : Prop) : Prop where
  out : p
section
variable {w : World} {mean : ExcName → Option Value} {mg mb : Str → Option Value} {k : Nat} {f : Addr} {news news' : List (Addr × Obj)} {vs : List Value} {x : Int} {Post : Value → List (Addr × Obj) → Prop}
  {dp un : Nat} {gd : Option (List Code)} {cn : Str} {cs : Scope} {a : Addr} {ccd : Value} {cl : List (Str × Addr)} {outer : List Env} {A₀ : Around} {base h₀ : Heap} {L : Addr} {m : Str → Option Value} {s : Shared} {Q E : Value → Shared → Prop}
/-- a contract used -/
theorem Con.use (hB : Below A₀ base outer h₀) (hF : Fr h₀ L s.heap m) (hX : (hd.heap_39 w.params).In h₀) (hN : News h₀ L s.heap news)
    (hT : Top hd.view_39 (looseW hd.view_39 []) mean mg mb h₀) (hk : cs.kind = .function) (C : Con w mean mg mb k f [] news vs Post) (hd : dp + k < recursionLimit) (hu : un + 8 * k < cLine)
    (ret : ∀ r nx h' tk', Fr h₀ L h' m → News h₀ L h' nx → Post r nx → Q r { s with heap := h', toks := tk' }) :
    wpAny (model (RowW.prog (OpenRow.toRowW (OpenLaw.row PySem.Challenge.rw_pq1069_01))) w) (ktrTop dp un gd cn cs L a ccd cl outer) (call (.ref f) vs) Q E s :=
  C dp un gd cn cs a ccd cl outer A₀ base h₀ L m s Q E hB hF hX hN hT hk hd hu ret
/-- a contract used over a part of the ledger; the rest of it is let go -/
theorem Con.useD (hB : Below A₀ base outer h₀) (hF : Fr h₀ L s.heap m) (hX : (hd.heap_39 w.params).In h₀) (hN : News h₀ L s.heap news')
    (hT : Top hd.view_39 (looseW hd.view_39 []) mean mg mb h₀) (hk : cs.kind = .function) (C : Con w mean mg mb k f [] news vs Post) (hsub : ∀ p ∈ news, p ∈ news') (hd : dp + k < recursionLimit) (hu : un + 8 * k < cLine)
    (ret : ∀ r nx h' tk', Fr h₀ L h' m → News h₀ L h' nx → Post r nx → Q r { s with heap := h', toks := tk' }) :
    wpAny (model (RowW.prog (OpenRow.toRowW (OpenLaw.row PySem.Challenge.rw_pq1069_01))) w) (ktrTop dp un gd cn cs L a ccd cl outer) (call (.ref f) vs) Q E s :=
  C dp un gd cn cs a ccd cl outer A₀ base h₀ L m s Q E hB hF hX (fun p hp => hN p (hsub p hp)) hT hk hd hu ret
/-- a contract over the script used -/
theorem Con.useS {A : Addr} {vs' : List Value} {ns : List Int} (hB : Below A₀ base outer h₀) (hF : Fr h₀ L s.heap m) (hX : (hd.heap_39 w.params).In h₀) (hN : News h₀ L s.heap news)
    (hT : Top hd.view_39 (looseW hd.view_39 []) mean mg mb h₀) (hk : cs.kind = .function) (hl : base.IsList A vs'.toArray) (hi : IntsAre vs' ns) (hn : ns.length < 2 ^ 62) (C : Con w mean mg mb k f [(A, vs', ns)] news vs Post) (hd : dp + k < recursionLimit) (hu : un + 8 * k < cLine)
    (ret : ∀ r nx h' tk', Fr h₀ L h' m → News h₀ L h' nx → Post r nx → Q r { s with heap := h', toks := tk' }) :
    wpAny (model (RowW.prog (OpenRow.toRowW (OpenLaw.row PySem.Challenge.rw_pq1069_01))) w) (ktrTop dp un gd cn cs L a ccd cl outer) (call (.ref f) vs) Q E s :=
  C dp un gd cn cs a ccd cl outer A₀ base h₀ L m s Q E hB hF hX hN hT hk hl hi hn hd hu ret
/-- its value is an int, the ledger stays -/
theorem Con.useI (hB : Below A₀ base outer h₀) (hF : Fr h₀ L s.heap m) (hX : (hd.heap_39 w.params).In h₀) (hN : News h₀ L s.heap news)
    (hT : Top hd.view_39 (looseW hd.view_39 []) mean mg mb h₀) (hk : cs.kind = .function) (C : Con w mean mg mb k f [] news vs (retI news x)) (hd : dp + k < recursionLimit) (hu : un + 8 * k < cLine)
    (ret : ∀ t h' tk', Fr h₀ L h' m → News h₀ L h' news → Q (.int x t) { s with heap := h', toks := tk' }) :
    wpAny (model (RowW.prog (OpenRow.toRowW (OpenLaw.row PySem.Challenge.rw_pq1069_01))) w) (ktrTop dp un gd cn cs L a ccd cl outer) (call (.ref f) vs) Q E s := by
  refine C dp un gd cn cs a ccd cl outer A₀ base h₀ L m s Q E hB hF hX hN hT hk hd hu ?_
  rintro r nx h' tk' F' N' ⟨⟨t, rfl⟩, rfl⟩
  exact ret t h' tk' F' N'
/-- its value is an int, hidden -/
theorem Con.useH (hB : Below A₀ base outer h₀) (hF : Fr h₀ L s.heap m) (hX : (hd.heap_39 w.params).In h₀) (hN : News h₀ L s.heap news)
    (hT : Top hd.view_39 (looseW hd.view_39 []) mean mg mb h₀) (hk : cs.kind = .function) (C : Con w mean mg mb k f [] news vs (retI news x)) (hd : dp + k < recursionLimit) (hu : un + 8 * k < cLine)
    (ret : ∀ y t h' tk', Hid (y = x) → Fr h₀ L h' m → News h₀ L h' news → Q (.int y t) { s with heap := h', toks := tk' }) :
    wpAny (model (RowW.prog (OpenRow.toRowW (OpenLaw.row PySem.Challenge.rw_pq1069_01))) w) (ktrTop dp un gd cn cs L a ccd cl outer) (call (.ref f) vs) Q E s :=
  Con.useI hB hF hX hN hT hk C hd hu fun t h' tk' F' N' => ret x t h' tk' ⟨rfl⟩ F' N'
/-- its value is an int, not below 0, hidden -/
theorem Con.useE (hB : Below A₀ base outer h₀) (hF : Fr h₀ L s.heap m) (hX : (hd.heap_39 w.params).In h₀) (hN : News h₀ L s.heap news)
    (hT : Top hd.view_39 (looseW hd.view_39 []) mean mg mb h₀) (hk : cs.kind = .function) (C : Con w mean mg mb k f [] news vs (retI news x)) (h0 : 0 ≤ x) (hd : dp + k < recursionLimit) (hu : un + 8 * k < cLine)
    (ret : ∀ y t h' tk', Hid (y = x) → 0 ≤ y → Fr h₀ L h' m → News h₀ L h' news → Q (.int y t) { s with heap := h', toks := tk' }) :
    wpAny (model (RowW.prog (OpenRow.toRowW (OpenLaw.row PySem.Challenge.rw_pq1069_01))) w) (ktrTop dp un gd cn cs L a ccd cl outer) (call (.ref f) vs) Q E s :=
  Con.useI hB hF hX hN hT hk C hd hu fun t h' tk' F' N' => ret x t h' tk' ⟨rfl⟩ h0 F' N'
end

/-- a limit's own dict -/
abbrev celD (w : World) (ov : Bool) (rate : Int) (u : Str) (burst : Int) (oc : Bool) (sp most tok last : Int) (k0 k1 k2 k3 k4 k5 k6 k7 k8 v1 v2 v3 v5 v6 v7 v8 : Tok) : Obj :=
  dictOf [⟨PySem.PyData.keyHash w.params (Str.ofString "is_over"), .str (Str.ofString "is_over") k0, .bool ov⟩,
    ⟨PySem.PyData.keyHash w.params (Str.ofString "rate"), .str (Str.ofString "rate") k1, .int rate v1⟩,
    ⟨PySem.PyData.keyHash w.params (Str.ofString "unit"), .str (Str.ofString "unit") k2, .str u v2⟩,
    ⟨PySem.PyData.keyHash w.params (Str.ofString "burst"), .str (Str.ofString "burst") k3, .int burst v3⟩,
    ⟨PySem.PyData.keyHash w.params (Str.ofString "is_octets"), .str (Str.ofString "is_octets") k4, .bool oc⟩,
    ⟨PySem.PyData.keyHash w.params (Str.ofString "span"), .str (Str.ofString "span") k5, .int sp v5⟩,
    ⟨PySem.PyData.keyHash w.params (Str.ofString "most"), .str (Str.ofString "most") k6, .int most v6⟩,
    ⟨PySem.PyData.keyHash w.params (Str.ofString "tokens"), .str (Str.ofString "tokens") k7, .int tok v7⟩,
    ⟨PySem.PyData.keyHash w.params (Str.ofString "last"), .str (Str.ofString "last") k8, .int last v8⟩] 9
def CelIs (w : World) (o : Obj) (ov : Bool) (rate : Int) (u : Str) (burst : Int) (oc : Bool) (most tok last : Int) : Prop :=
  ∃ (k0 k1 k2 k3 k4 k5 k6 k7 k8 v1 v2 v3 v5 v6 v7 v8 : Tok) (sp' most' tok' last' : Int), o = celD w ov rate u burst oc sp' most' tok' last' k0 k1 k2 k3 k4 k5 k6 k7 k8 v1 v2 v3 v5 v6 v7 v8 ∧
    sp' = spanOf u ∧ most' = most ∧ tok' = tok ∧ last' = last
/-- the bucket -/
def bucketOf (sp rate burst : Int) (oc : Bool) : Int := if oc = true then sp * (rate + burst) / rate else sp / rate * burst
end
set_option maxHeartbeats 4000000 in
theorem worth_con0 {w : World} {mean : ExcName → Option Value} {mg mb : Str → Option Value} {news : List (Addr × Obj)} {S : Addr} {ov : Bool} {rate : Int} {u : Str} {burst n : Int} {oc : Bool} {t0 t1 t2 t3 t4 : Tok} {c : Nat}
   (hr : 1 ≤ rate) (hR : rate ≤ 1000000000000) (hu : isUnit u) :
    Con w mean mg mb 1 179 [] ([(S, stm ov rate u burst oc t0 t1 t2 t3 c)] ++ news) [.ref S, .int n t4] (retI ([(S, stm ov rate u burst oc t0 t1 t2 t3 c)] ++ news) (worth (spanOf u) rate oc n)) := by
  rw [List.singleton_append]
  unfold Con
  k_fill
  k_with_none
  k_with "binaryOp FloorDiv int int" =>
    k_here
    (with_reducible show wpAny _ _ (binaryOp Operator.FloorDiv (Value.int _ _) (Value.int _ _)) _ _ _)
    (with_reducible refine my_floordiv ?_ ?_ ?_)
    · omega
    · omega
  k_with "binaryOp Mod int int" =>
    k_here
    (with_reducible show wpAny _ _ (binaryOp Operator.Mod (Value.int _ _) (Value.int _ _)) _ _ _)
    (with_reducible refine my_mod ?_ ?_)
    · omega
  k_with "binaryOp Pow int int" =>
    k_here
    first
    | (with_reducible refine my_pow 10 9 1000000000 (by decide) (by decide) (by decide) (by decide) ?_)
    | (with_reducible refine my_pow 10 6 1000000 (by decide) (by decide) (by decide) (by decide) ?_)
    | (with_reducible refine my_pow 10 12 1000000000000 (by decide) (by decide) (by decide) (by decide) ?_)
    | (with_reducible refine my_pow 10 15 1000000000000000 (by decide) (by decide) (by decide) (by decide) ?_)
  k_with "execs cons" =>
    k_here
    (with_reducible show wpAny _ _ (execs _ _) _ _ (Shared.mk _ _ _ (_ + _) _))
    (with_reducible refine gen_toks ?_)
    intro tk8
  k_with "subscriptTail List cons BinOp ref int" =>
    k_here
    (with_reducible show wpAny _ _ (subscriptTail _ _ (Value.ref _) (Value.int _ _)) _ _ _)
    k_dflt (refine item_anyK (by is_list) (by l_ints) (by l_idx) (by l_idx) (by l_idx) ?_; k_whole)
    intro _
  k_with "subscriptTail List cons Name ref int" =>
    k_here
    (with_reducible show wpAny _ _ (subscriptTail _ _ (Value.ref _) (Value.int _ _)) _ _ _)
    k_dflt (refine item_anyK (by is_list) (by l_ints) (by l_idx) (by l_idx) (by l_idx) ?_; k_whole)
    intro _
  k_with "getItem ref str" =>
    k_here
    (with_reducible show wpAny _ _ (getItem (Value.ref _) (Value.str _ _)) _ _ _)
    dsimp only
    (rename isUnit _ => hu9)
    with_unfolding_all first
    | (refine my_getUnit spanOf hu9 (by k_tabat) rfl rfl rfl rfl rfl (by decide +kernel) ?_; intro _)
    | (refine my_getUnit secsOf hu9 (by k_tabat) rfl rfl rfl rfl rfl (by decide +kernel) ?_; intro _)
  k_with "compareOp NotIn str ref" =>
    k_here
    (with_reducible show wpAny _ _ (compareOp CmpOp.NotIn (Value.str _ _) (Value.ref _)) _ _ _)
    dsimp only
    (rename isUnit _ => hu9)
    with_unfolding_all (refine my_notinUnit hu9 (by k_tabat) rfl rfl rfl rfl rfl ?_)
  k_with "subscriptTail Name Name ref str" =>
    k_here
    (with_reducible show wpAny _ _ (subscriptTail _ _ (Value.ref _) (Value.str _ _)) _ _ _)
    dsimp only
    (rename isUnit _ => hu9)
    with_unfolding_all (refine my_itemUnit secsOf hu9 (by k_tabat) rfl rfl rfl rfl rfl (by decide +kernel) rfl (fun _ => rfl) ?_; intro _)
  k_with "call ref" =>
    k_here
    (with_reducible show wpAny _ _ (call (Value.ref 56) _) _ _ _)
    exfalso
    first | omega | (simp_all; done) | (simp_all; omega)
  dsimp only [CbLists]
  intro dp un gd cn cs a ccd cl outer A₀ base h₀ L m s Q E hB hF hX hN hT hk hdp hun hret
  refine wpAny_call ?_
  k_dflt cell_enter
  clear hN
  have hsp := span_bounds hu
  k_steps
  all_goals
    refine hret _ _ _ _ (by assumption) (cb_drop (by assumption) (by kcj_all)) (retI_of ?_)
    rw [worth_less hr]
    unfold worth
    simp_all
theorem worth_con {w : World} {mean : ExcName → Option Value} {mg mb : Str → Option Value} {news : List (Addr × Obj)} {S : Addr} {ov : Bool} {rate : Int} {u : Str} {burst n : Int} {oc : Bool} {t0 t1 t2 t3 t4 : Tok} {c : Nat}
   (hS : (S, stm ov rate u burst oc t0 t1 t2 t3 c) ∈ news) (hr : 1 ≤ rate) (hR : rate ≤ 1000000000000) (hu : isUnit u) :
    Con w mean mg mb 1 179 [] news [.ref S, .int n t4] (retI news (worth (spanOf u) rate oc n)) :=
  Con.dup [(S, stm ov rate u burst oc t0 t1 t2 t3 c)] (worth_con0 hr hR hu) (by simpa using hS)
set_option maxHeartbeats 4000000 in
theorem left_con {w : World} {mean : ExcName → Option Value} {mg mb : Str → Option Value} {news : List (Addr × Obj)} {b o n : Int} {t1 t2 t3 : Tok}
    :
    Con w mean mg mb 1 200 [] news [.int b t1, .int o t2, .int n t3] (retI news (b - max 0 (o - n * 1000000))) := by
  unfold Con
  k_fill
  k_with_none
  k_with "binaryOp FloorDiv int int" =>
    k_here
    (with_reducible show wpAny _ _ (binaryOp Operator.FloorDiv (Value.int _ _) (Value.int _ _)) _ _ _)
    (with_reducible refine my_floordiv ?_ ?_ ?_)
    · omega
    · omega
  k_with "binaryOp Mod int int" =>
    k_here
    (with_reducible show wpAny _ _ (binaryOp Operator.Mod (Value.int _ _) (Value.int _ _)) _ _ _)
    (with_reducible refine my_mod ?_ ?_)
    · omega
  k_with "binaryOp Pow int int" =>
    k_here
    first
    | (with_reducible refine my_pow 10 9 1000000000 (by decide) (by decide) (by decide) (by decide) ?_)
    | (with_reducible refine my_pow 10 6 1000000 (by decide) (by decide) (by decide) (by decide) ?_)
    | (with_reducible refine my_pow 10 12 1000000000000 (by decide) (by decide) (by decide) (by decide) ?_)
    | (with_reducible refine my_pow 10 15 1000000000000000 (by decide) (by decide) (by decide) (by decide) ?_)
  k_with "execs cons" =>
    k_here
    (with_reducible show wpAny _ _ (execs _ _) _ _ (Shared.mk _ _ _ (_ + _) _))
    (with_reducible refine gen_toks ?_)
    intro tk8
  k_with "subscriptTail List cons BinOp ref int" =>
    k_here
    (with_reducible show wpAny _ _ (subscriptTail _ _ (Value.ref _) (Value.int _ _)) _ _ _)
    k_dflt (refine item_anyK (by is_list) (by l_ints) (by l_idx) (by l_idx) (by l_idx) ?_; k_whole)
    intro _
  k_with "subscriptTail List cons Name ref int" =>
    k_here
    (with_reducible show wpAny _ _ (subscriptTail _ _ (Value.ref _) (Value.int _ _)) _ _ _)
    k_dflt (refine item_anyK (by is_list) (by l_ints) (by l_idx) (by l_idx) (by l_idx) ?_; k_whole)
    intro _
  k_with "getItem ref str" =>
    k_here
    (with_reducible show wpAny _ _ (getItem (Value.ref _) (Value.str _ _)) _ _ _)
    dsimp only
    (rename isUnit _ => hu9)
    with_unfolding_all first
    | (refine my_getUnit spanOf hu9 (by k_tabat) rfl rfl rfl rfl rfl (by decide +kernel) ?_; intro _)
    | (refine my_getUnit secsOf hu9 (by k_tabat) rfl rfl rfl rfl rfl (by decide +kernel) ?_; intro _)
  k_with "compareOp NotIn str ref" =>
    k_here
    (with_reducible show wpAny _ _ (compareOp CmpOp.NotIn (Value.str _ _) (Value.ref _)) _ _ _)
    dsimp only
    (rename isUnit _ => hu9)
    with_unfolding_all (refine my_notinUnit hu9 (by k_tabat) rfl rfl rfl rfl rfl ?_)
  k_with "subscriptTail Name Name ref str" =>
    k_here
    (with_reducible show wpAny _ _ (subscriptTail _ _ (Value.ref _) (Value.str _ _)) _ _ _)
    dsimp only
    (rename isUnit _ => hu9)
    with_unfolding_all (refine my_itemUnit secsOf hu9 (by k_tabat) rfl rfl rfl rfl rfl (by decide +kernel) rfl (fun _ => rfl) ?_; intro _)
  k_with "call ref" =>
    k_here
    (with_reducible show wpAny _ _ (call (Value.ref 56) _) _ _ _)
    exfalso
    first | omega | (simp_all; done) | (simp_all; omega)
  dsimp only [CbLists]
  intro dp un gd cn cs a ccd cl outer A₀ base h₀ L m s Q E hB hF hX hN hT hk hdp hun hret
  refine wpAny_call ?_
  k_dflt cell_enter
  k_steps
  all_goals
    refine hret _ _ _ _ (by assumption) (cb_drop (by assumption) (by kcj_all)) (retI_of ?_)
    (try dsimp only)
    omega

set_option maxHeartbeats 4000000 in
theorem bucket_con0 {w : World} {mean : ExcName → Option Value} {mg mb : Str → Option Value} {news : List (Addr × Obj)} {S : Addr} {ov : Bool} {rate : Int} {u : Str} {burst : Int} {oc : Bool} {t0 t1 t2 t3 : Tok} {c : Nat}
   (hr : 1 ≤ rate) (hR : rate ≤ 1000000000000) (hu : isUnit u) (hb : 0 ≤ burst) (hb2 : burst ≤ 3000) :
    Con w mean mg mb 2 186 [] ([(S, stm ov rate u burst oc t0 t1 t2 t3 c)] ++ news) [.ref S] (retI ([(S, stm ov rate u burst oc t0 t1 t2 t3 c)] ++ news) (bucketOf (spanOf u) rate burst oc)) := by
  rw [List.singleton_append]
  unfold Con
  k_fill
  k_with_none
  k_with "binaryOp FloorDiv int int" =>
    k_here
    (with_reducible show wpAny _ _ (binaryOp Operator.FloorDiv (Value.int _ _) (Value.int _ _)) _ _ _)
    (with_reducible refine my_floordiv ?_ ?_ ?_)
    · omega
    · omega
  k_with "binaryOp Mod int int" =>
    k_here
    (with_reducible show wpAny _ _ (binaryOp Operator.Mod (Value.int _ _) (Value.int _ _)) _ _ _)
    (with_reducible refine my_mod ?_ ?_)
    · omega
  k_with "binaryOp Pow int int" =>
    k_here
    first
    | (with_reducible refine my_pow 10 9 1000000000 (by decide) (by decide) (by decide) (by decide) ?_)
    | (with_reducible refine my_pow 10 6 1000000 (by decide) (by decide) (by decide) (by decide) ?_)
    | (with_reducible refine my_pow 10 12 1000000000000 (by decide) (by decide) (by decide) (by decide) ?_)
    | (with_reducible refine my_pow 10 15 1000000000000000 (by decide) (by decide) (by decide) (by decide) ?_)
  k_with "execs cons" =>
    k_here
    (with_reducible show wpAny _ _ (execs _ _) _ _ (Shared.mk _ _ _ (_ + _) _))
    (with_reducible refine gen_toks ?_)
    intro tk8
  k_with "subscriptTail List cons BinOp ref int" =>
    k_here
    (with_reducible show wpAny _ _ (subscriptTail _ _ (Value.ref _) (Value.int _ _)) _ _ _)
    k_dflt (refine item_anyK (by is_list) (by l_ints) (by l_idx) (by l_idx) (by l_idx) ?_; k_whole)
    intro _
  k_with "subscriptTail List cons Name ref int" =>
    k_here
    (with_reducible show wpAny _ _ (subscriptTail _ _ (Value.ref _) (Value.int _ _)) _ _ _)
    k_dflt (refine item_anyK (by is_list) (by l_ints) (by l_idx) (by l_idx) (by l_idx) ?_; k_whole)
    intro _
  k_with "getItem ref str" =>
    k_here
    (with_reducible show wpAny _ _ (getItem (Value.ref _) (Value.str _ _)) _ _ _)
    dsimp only
    (rename isUnit _ => hu9)
    with_unfolding_all first
    | (refine my_getUnit spanOf hu9 (by k_tabat) rfl rfl rfl rfl rfl (by decide +kernel) ?_; intro _)
    | (refine my_getUnit secsOf hu9 (by k_tabat) rfl rfl rfl rfl rfl (by decide +kernel) ?_; intro _)
  k_with "compareOp NotIn str ref" =>
    k_here
    (with_reducible show wpAny _ _ (compareOp CmpOp.NotIn (Value.str _ _) (Value.ref _)) _ _ _)
    dsimp only
    (rename isUnit _ => hu9)
    with_unfolding_all (refine my_notinUnit hu9 (by k_tabat) rfl rfl rfl rfl rfl ?_)
  k_with "subscriptTail Name Name ref str" =>
    k_here
    (with_reducible show wpAny _ _ (subscriptTail _ _ (Value.ref _) (Value.str _ _)) _ _ _)
    dsimp only
    (rename isUnit _ => hu9)
    with_unfolding_all (refine my_itemUnit secsOf hu9 (by k_tabat) rfl rfl rfl rfl rfl (by decide +kernel) rfl (fun _ => rfl) ?_; intro _)
  k_with "call ref" =>
    k_here
    (with_reducible show wpAny _ _ (call (Value.ref 56) _) _ _ _)
    exfalso
    first | omega | (simp_all; done) | (simp_all; omega)
  k_with "call ref" =>
    k_here
    (with_reducible show wpAny _ _ (call (Value.ref 179) _) _ _ _)
    k_dflt (refine Con.useI (by k_asm) (by k_asm) (by k_asm) (by k_asm) (by k_asm) (by first | exact rfl | assumption) (worth_con (by k_mem) (by first | assumption | omega) (by first | assumption | omega) (by assumption)) (by ktr_room) (by ktr_units) ?_; k_whole)
    intro t9 h9 tk9 F9 N9
    (try dsimp only)
    (try k_fold)
  k_with "call ref" =>
    k_here
    (with_reducible show wpAny _ _ (call (Value.ref 200) _) _ _ _)
    k_dflt (refine Con.useI (by k_asm) (by k_asm) (by k_asm) (by k_asm) (by k_asm) (by first | exact rfl | assumption) left_con (by ktr_room) (by ktr_units) ?_; k_whole)
    intro t9 h9 tk9 F9 N9
    (try dsimp only)
    (try k_fold)
  dsimp only [CbLists]
  intro dp un gd cn cs a ccd cl outer A₀ base h₀ L m s Q E hB hF hX hN hT hk hdp hun hret
  refine wpAny_call ?_
  k_dflt cell_enter
  clear hN
  k_steps
  all_goals
    refine hret _ _ _ _ (by assumption) (cb_drop (by assumption) (by kcj_all)) (retI_of ?_)
    unfold bucketOf worth
    simp_all
theorem bucket_con {w : World} {mean : ExcName → Option Value} {mg mb : Str → Option Value} {news : List (Addr × Obj)} {S : Addr} {ov : Bool} {rate : Int} {u : Str} {burst : Int} {oc : Bool} {t0 t1 t2 t3 : Tok} {c : Nat}
   (hS : (S, stm ov rate u burst oc t0 t1 t2 t3 c) ∈ news) (hr : 1 ≤ rate) (hR : rate ≤ 1000000000000) (hu : isUnit u) (hb : 0 ≤ burst) (hb2 : burst ≤ 3000) :
    Con w mean mg mb 2 186 [] news [.ref S] (retI news (bucketOf (spanOf u) rate burst oc)) :=
  Con.dup [(S, stm ov rate u burst oc t0 t1 t2 t3 c)] (bucket_con0 hr hR hu hb hb2) (by simpa using hS)

set_option maxHeartbeats 4000000 in
theorem unit_con {w : World} {mean : ExcName → Option Value} {mg mb : Str → Option Value} {news : List (Addr × Obj)} {u : Str} {t1 : Tok}
   (hu : isUnit u) :
    Con w mean mg mb 1 130 [] news [.str u t1] (retI news (secsOf u)) := by
  unfold Con
  k_fill
  k_with_none
  k_with "binaryOp FloorDiv int int" =>
    k_here
    (with_reducible show wpAny _ _ (binaryOp Operator.FloorDiv (Value.int _ _) (Value.int _ _)) _ _ _)
    (with_reducible refine my_floordiv ?_ ?_ ?_)
    · omega
    · omega
  k_with "binaryOp Mod int int" =>
    k_here
    (with_reducible show wpAny _ _ (binaryOp Operator.Mod (Value.int _ _) (Value.int _ _)) _ _ _)
    (with_reducible refine my_mod ?_ ?_)
    · omega
  k_with "binaryOp Pow int int" =>
    k_here
    first
    | (with_reducible refine my_pow 10 9 1000000000 (by decide) (by decide) (by decide) (by decide) ?_)
    | (with_reducible refine my_pow 10 6 1000000 (by decide) (by decide) (by decide) (by decide) ?_)
    | (with_reducible refine my_pow 10 12 1000000000000 (by decide) (by decide) (by decide) (by decide) ?_)
    | (with_reducible refine my_pow 10 15 1000000000000000 (by decide) (by decide) (by decide) (by decide) ?_)
  k_with "execs cons" =>
    k_here
    (with_reducible show wpAny _ _ (execs _ _) _ _ (Shared.mk _ _ _ (_ + _) _))
    (with_reducible refine gen_toks ?_)
    intro tk8
  k_with "subscriptTail List cons BinOp ref int" =>
    k_here
    (with_reducible show wpAny _ _ (subscriptTail _ _ (Value.ref _) (Value.int _ _)) _ _ _)
    k_dflt (refine item_anyK (by is_list) (by l_ints) (by l_idx) (by l_idx) (by l_idx) ?_; k_whole)
    intro _
  k_with "subscriptTail List cons Name ref int" =>
    k_here
    (with_reducible show wpAny _ _ (subscriptTail _ _ (Value.ref _) (Value.int _ _)) _ _ _)
    k_dflt (refine item_anyK (by is_list) (by l_ints) (by l_idx) (by l_idx) (by l_idx) ?_; k_whole)
    intro _
  k_with "getItem ref str" =>
    k_here
    (with_reducible show wpAny _ _ (getItem (Value.ref _) (Value.str _ _)) _ _ _)
    dsimp only
    (rename isUnit _ => hu9)
    with_unfolding_all first
    | (refine my_getUnit spanOf hu9 (by k_tabat) rfl rfl rfl rfl rfl (by decide +kernel) ?_; intro _)
    | (refine my_getUnit secsOf hu9 (by k_tabat) rfl rfl rfl rfl rfl (by decide +kernel) ?_; intro _)
  k_with "compareOp NotIn str ref" =>
    k_here
    (with_reducible show wpAny _ _ (compareOp CmpOp.NotIn (Value.str _ _) (Value.ref _)) _ _ _)
    dsimp only
    (rename isUnit _ => hu9)
    with_unfolding_all (refine my_notinUnit hu9 (by k_tabat) rfl rfl rfl rfl rfl ?_)
  k_with "subscriptTail Name Name ref str" =>
    k_here
    (with_reducible show wpAny _ _ (subscriptTail _ _ (Value.ref _) (Value.str _ _)) _ _ _)
    dsimp only
    (rename isUnit _ => hu9)
    with_unfolding_all (refine my_itemUnit secsOf hu9 (by k_tabat) rfl rfl rfl rfl rfl (by decide +kernel) rfl (fun _ => rfl) ?_; intro _)
  k_with "call ref" =>
    k_here
    (with_reducible show wpAny _ _ (call (Value.ref 56) _) _ _ _)
    exfalso
    first | omega | (simp_all; done) | (simp_all; omega)
  dsimp only [CbLists]
  intro dp un gd cn cs a ccd cl outer A₀ base h₀ L m s Q E hB hF hX hN hT hk hdp hun hret
  refine wpAny_call ?_
  k_dflt cell_enter
  k_steps
  all_goals
    refine hret _ _ _ _ (by assumption) (cb_drop (by assumption) (by kcj_all)) (retI_of ?_)
    rfl

/-- what make_limit gives -/
def madeLimit (w : World) (news : List (Addr × Obj)) (ov : Bool) (rate : Int) (u : Str) (burst : Int) (oc : Bool) (r : Value) (nx : List (Addr × Obj)) : Prop :=
  ∃ (x dx : Addr) (o : Obj), r = .ref x ∧ nx = (x, instObj 119 dx) :: (dx, o) :: news ∧ CelIs w o ov rate u burst oc (bucketOf (spanOf u) rate burst oc) (bucketOf (spanOf u) rate burst oc) 0 ∧ (∀ p ∈ news, @LT.lt Nat _ p.1 dx) ∧ @LT.lt Nat _ dx x
set_option maxHeartbeats 4000000 in
theorem make_con {w : World} {mean : ExcName → Option Value} {mg mb : Str → Option Value} {news : List (Addr × Obj)} {ov : Bool} {rate : Int} {u : Str} {burst : Int} {oc : Bool} {t1 t2 t3 : Tok}
   (hr : 1 ≤ rate) (hR : rate ≤ 1000000000000) (hu : isUnit u) (hb : 0 ≤ burst) (hb2 : burst ≤ 3000) (hbo : oc = false → 1 ≤ burst) :
    Con w mean mg mb 4 151 [] news [.bool ov, .int rate t1, .str u t2, .int burst t3, .bool oc] (madeLimit w news ov rate u burst oc) := by
  unfold Con
  k_fill
  k_with_none
  k_with "binaryOp FloorDiv int int" =>
    k_here
    (with_reducible show wpAny _ _ (binaryOp Operator.FloorDiv (Value.int _ _) (Value.int _ _)) _ _ _)
    (with_reducible refine my_floordiv ?_ ?_ ?_)
    · omega
    · omega
  k_with "binaryOp Mod int int" =>
    k_here
    (with_reducible show wpAny _ _ (binaryOp Operator.Mod (Value.int _ _) (Value.int _ _)) _ _ _)
    (with_reducible refine my_mod ?_ ?_)
    · omega
  k_with "binaryOp Pow int int" =>
    k_here
    first
    | (with_reducible refine my_pow 10 9 1000000000 (by decide) (by decide) (by decide) (by decide) ?_)
    | (with_reducible refine my_pow 10 6 1000000 (by decide) (by decide) (by decide) (by decide) ?_)
    | (with_reducible refine my_pow 10 12 1000000000000 (by decide) (by decide) (by decide) (by decide) ?_)
    | (with_reducible refine my_pow 10 15 1000000000000000 (by decide) (by decide) (by decide) (by decide) ?_)
  k_with "execs cons" =>
    k_here
    (with_reducible show wpAny _ _ (execs _ _) _ _ (Shared.mk _ _ _ (_ + _) _))
    (with_reducible refine gen_toks ?_)
    intro tk8
  k_with "subscriptTail List cons BinOp ref int" =>
    k_here
    (with_reducible show wpAny _ _ (subscriptTail _ _ (Value.ref _) (Value.int _ _)) _ _ _)
    k_dflt (refine item_anyK (by is_list) (by l_ints) (by l_idx) (by l_idx) (by l_idx) ?_; k_whole)
    intro _
  k_with "subscriptTail List cons Name ref int" =>
    k_here
    (with_reducible show wpAny _ _ (subscriptTail _ _ (Value.ref _) (Value.int _ _)) _ _ _)
    k_dflt (refine item_anyK (by is_list) (by l_ints) (by l_idx) (by l_idx) (by l_idx) ?_; k_whole)
    intro _
  k_with "getItem ref str" =>
    k_here
    (with_reducible show wpAny _ _ (getItem (Value.ref _) (Value.str _ _)) _ _ _)
    dsimp only
    (rename isUnit _ => hu9)
    with_unfolding_all first
    | (refine my_getUnit spanOf hu9 (by k_tabat) rfl rfl rfl rfl rfl (by decide +kernel) ?_; intro _)
    | (refine my_getUnit secsOf hu9 (by k_tabat) rfl rfl rfl rfl rfl (by decide +kernel) ?_; intro _)
  k_with "compareOp NotIn str ref" =>
    k_here
    (with_reducible show wpAny _ _ (compareOp CmpOp.NotIn (Value.str _ _) (Value.ref _)) _ _ _)
    dsimp only
    (rename isUnit _ => hu9)
    with_unfolding_all (refine my_notinUnit hu9 (by k_tabat) rfl rfl rfl rfl rfl ?_)
  k_with "subscriptTail Name Name ref str" =>
    k_here
    (with_reducible show wpAny _ _ (subscriptTail _ _ (Value.ref _) (Value.str _ _)) _ _ _)
    dsimp only
    (rename isUnit _ => hu9)
    with_unfolding_all (refine my_itemUnit secsOf hu9 (by k_tabat) rfl rfl rfl rfl rfl (by decide +kernel) rfl (fun _ => rfl) ?_; intro _)
  k_with "call ref" =>
    k_here
    (with_reducible show wpAny _ _ (call (Value.ref 56) _) _ _ _)
    exfalso
    first | omega | (simp_all; done) | (simp_all; omega)
  k_with "call ref" =>
    k_here
    (with_reducible show wpAny _ _ (call (Value.ref 130) _) _ _ _)
    k_dflt (refine Con.useI (by k_asm) (by k_asm) (by k_asm) (by k_asm) (by k_asm) (by first | exact rfl | assumption) (unit_con (by assumption)) (by ktr_room) (by ktr_units) ?_; k_whole)
    intro t9 h9 tk9 F9 N9
    (try dsimp only)
    (try k_fold)
  dsimp only [CbLists]
  intro dp un gd cn cs a ccd cl outer A₀ base h₀ L m s Q E hB hF hX hN hT hk hdp hun hret
  refine wpAny_call ?_
  k_dflt cell_enter
  have hsp := span_bounds hu
  have hse := secs_span hu
  have hsb := secs_bounds hu
  have hd : (instObj 119 0).dict = some 0 := rfl
  repeat' ((fail_if_success (with_reducible show wpAny _ _ (execs (Stmt.If (PySem.Expr.BoolOp _ _ _) _ _ _ :: _) _) _ _ _)); first | (k_unfold; (try dsimp only)) | (k_end; wrow_close) | walk1 | (dsimp only; walk1) | (leave1; walk_say "STEP leave1"; try dsimp only) | fail "no step")
  with_unfolding_all refine' if_cut ?first ?tail
  case first =>
    intro Q' hQ
    k_steps
    all_goals exact hQ _
  intro tk8
  k_steps
  all_goals
    refine hret _ _ _ _ (by assumption) (cb_drop (by assumption) (by kcj_all)) ⟨_, _, _, rfl, rfl, ⟨_, _, _, _, _, _, _, _, _, _, _, _, _, _, _, _, _, _, _, _, rfl, ?_, ?_, ?_, ?_⟩, ?_, ?_⟩
  all_goals try exact hse
  all_goals try rfl
  all_goals try assumption
  all_goals try (rw [← hse]; unfold bucketOf; simp_all; done)

set_option maxHeartbeats 4000000 in
theorem cost_con0 {w : World} {mean : ExcName → Option Value} {mg mb : Str → Option Value} {news : List (Addr × Obj)} {x dx : Addr} {o : Obj} {ov : Bool} {rate : Int} {u : Str} {burst : Int} {oc : Bool} {most tok last n : Int} {t1 : Tok}
   (hr : 1 ≤ rate) (hR : rate ≤ 1000000000000) (hu : isUnit u) (ho : CelIs w o ov rate u burst oc most tok last) :
    Con w mean mg mb 1 137 [] ([(x, instObj 119 dx), (dx, o)] ++ news) [.ref x, .int n t1] (retI ([(x, instObj 119 dx), (dx, o)] ++ news) (worth (spanOf u) rate oc n)) := by
  obtain ⟨k0, k1, k2, k3, k4, k5, k6, k7, k8, v1, v2, v3, v5, v6, v7, v8, sp, most, tok, last, rfl, rfl, rfl, rfl, rfl⟩ := ho
  rw [List.cons_append, List.singleton_append]
  unfold Con
  k_fill
  k_with_none
  k_with "binaryOp FloorDiv int int" =>
    k_here
    (with_reducible show wpAny _ _ (binaryOp Operator.FloorDiv (Value.int _ _) (Value.int _ _)) _ _ _)
    (with_reducible refine my_floordiv ?_ ?_ ?_)
    · omega
    · omega
  k_with "binaryOp Mod int int" =>
    k_here
    (with_reducible show wpAny _ _ (binaryOp Operator.Mod (Value.int _ _) (Value.int _ _)) _ _ _)
    (with_reducible refine my_mod ?_ ?_)
    · omega
  k_with "binaryOp Pow int int" =>
    k_here
    first
    | (with_reducible refine my_pow 10 9 1000000000 (by decide) (by decide) (by decide) (by decide) ?_)
    | (with_reducible refine my_pow 10 6 1000000 (by decide) (by decide) (by decide) (by decide) ?_)
    | (with_reducible refine my_pow 10 12 1000000000000 (by decide) (by decide) (by decide) (by decide) ?_)
    | (with_reducible refine my_pow 10 15 1000000000000000 (by decide) (by decide) (by decide) (by decide) ?_)
  k_with "execs cons" =>
    k_here
    (with_reducible show wpAny _ _ (execs _ _) _ _ (Shared.mk _ _ _ (_ + _) _))
    (with_reducible refine gen_toks ?_)
    intro tk8
  k_with "subscriptTail List cons BinOp ref int" =>
    k_here
    (with_reducible show wpAny _ _ (subscriptTail _ _ (Value.ref _) (Value.int _ _)) _ _ _)
    k_dflt (refine item_anyK (by is_list) (by l_ints) (by l_idx) (by l_idx) (by l_idx) ?_; k_whole)
    intro _
  k_with "subscriptTail List cons Name ref int" =>
    k_here
    (with_reducible show wpAny _ _ (subscriptTail _ _ (Value.ref _) (Value.int _ _)) _ _ _)
    k_dflt (refine item_anyK (by is_list) (by l_ints) (by l_idx) (by l_idx) (by l_idx) ?_; k_whole)
    intro _
  k_with "getItem ref str" =>
    k_here
    (with_reducible show wpAny _ _ (getItem (Value.ref _) (Value.str _ _)) _ _ _)
    dsimp only
    (rename isUnit _ => hu9)
    with_unfolding_all first
    | (refine my_getUnit spanOf hu9 (by k_tabat) rfl rfl rfl rfl rfl (by decide +kernel) ?_; intro _)
    | (refine my_getUnit secsOf hu9 (by k_tabat) rfl rfl rfl rfl rfl (by decide +kernel) ?_; intro _)
  k_with "compareOp NotIn str ref" =>
    k_here
    (with_reducible show wpAny _ _ (compareOp CmpOp.NotIn (Value.str _ _) (Value.ref _)) _ _ _)
    dsimp only
    (rename isUnit _ => hu9)
    with_unfolding_all (refine my_notinUnit hu9 (by k_tabat) rfl rfl rfl rfl rfl ?_)
  k_with "subscriptTail Name Name ref str" =>
    k_here
    (with_reducible show wpAny _ _ (subscriptTail _ _ (Value.ref _) (Value.str _ _)) _ _ _)
    dsimp only
    (rename isUnit _ => hu9)
    with_unfolding_all (refine my_itemUnit secsOf hu9 (by k_tabat) rfl rfl rfl rfl rfl (by decide +kernel) rfl (fun _ => rfl) ?_; intro _)
  k_with "call ref" =>
    k_here
    (with_reducible show wpAny _ _ (call (Value.ref 56) _) _ _ _)
    exfalso
    first | omega | (simp_all; done) | (simp_all; omega)
  dsimp only [CbLists]
  intro dp un gd cn cs a ccd cl outer A₀ base h₀ L m s Q E hB hF hX hN hT hk hdp hun hret
  refine wpAny_call ?_
  k_dflt cell_enter
  have hsp := span_bounds hu
  clear hN
  k_steps
  all_goals
    refine hret _ _ _ _ (by assumption) (cb_drop (by assumption) (by kcj_all)) (retI_of ?_)
    unfold worth
    simp_all
theorem cost_con {w : World} {mean : ExcName → Option Value} {mg mb : Str → Option Value} {news : List (Addr × Obj)} {x dx : Addr} {o : Obj} {ov : Bool} {rate : Int} {u : Str} {burst : Int} {oc : Bool} {most tok last n : Int} {t1 : Tok}
   (h1 : (x, instObj 119 dx) ∈ news) (h2 : (dx, o) ∈ news) (ho : CelIs w o ov rate u burst oc most tok last) (hr : 1 ≤ rate) (hR : rate ≤ 1000000000000) (hu : isUnit u) :
    Con w mean mg mb 1 137 [] news [.ref x, .int n t1] (retI news (worth (spanOf u) rate oc n)) :=
  Con.dup [(x, instObj 119 dx), (dx, o)] (cost_con0 hr hR hu ho) (by
    intro p hp
    rcases List.mem_cons.mp hp with rfl | hp
    · exact h1
    · rw [List.mem_singleton.mp hp]; exact h2)

/-- the tokens ahead of a packet -/
def tokAt (most tok last now : Int) : Int := if tok + (now - last) * 1000000 < most then tok + (now - last) * 1000000 else most
def letTok (most tok last now cost : Int) : Int := if cost ≤ tokAt most tok last now then tokAt most tok last now - cost else tokAt most tok last now
def letTold (ov : Bool) (most tok last now cost : Int) : Bool := if cost ≤ tokAt most tok last now then !ov else ov
section
variable {ov : Bool} {most tok last now cost : Int}
theorem letTold_pos (h : cost ≤ tokAt most tok last now) : Value.bool (!ov) = Value.bool (letTold ov most tok last now cost) := by unfold letTold; rw [if_pos h]
theorem letTold_neg (h : ¬ cost ≤ tokAt most tok last now) : Value.bool ov = Value.bool (letTold ov most tok last now cost) := by unfold letTold; rw [if_neg h]
theorem letTok_pos (h : cost ≤ tokAt most tok last now) : tokAt most tok last now - cost = letTok most tok last now cost := by unfold letTok; rw [if_pos h]
theorem letTok_neg (h : ¬ cost ≤ tokAt most tok last now) : tokAt most tok last now = letTok most tok last now cost := by unfold letTok; rw [if_neg h]
end
def letPost (w : World) (rest : List (Addr × Obj)) (x dx : Addr) (ov : Bool) (rate : Int) (u : Str) (burst : Int) (oc : Bool) (most tok last now len : Int) (r : Value) (nx : List (Addr × Obj)) : Prop :=
  ∃ o', r = .bool (letTold ov most tok last now (worth (spanOf u) rate oc len)) ∧ nx = (dx, o') :: (x, instObj 119 dx) :: rest ∧ CelIs w o' ov rate u burst oc most (letTok most tok last now (worth (spanOf u) rate oc len)) now
set_option maxHeartbeats 4000000 in
theorem let_con {w : World} {mean : ExcName → Option Value} {mg mb : Str → Option Value} {rest : List (Addr × Obj)} {x dx : Addr} {o : Obj} {ov : Bool} {rate : Int} {u : Str} {burst : Int} {oc : Bool} {most tok last now len : Int} {t1 t2 : Tok}
   (ho : CelIs w o ov rate u burst oc most tok last) (hx : @LT.lt Nat _ dx x) (hoff : OwnOff rest [dx]) (hr : 1 ≤ rate) (hR : rate ≤ 1000000000000) (hu : isUnit u) :
    Con w mean mg mb 2 144 [] ((dx, o) :: (x, instObj 119 dx) :: rest) [.ref x, .int now t1, .int len t2] (letPost w rest x dx ov rate u burst oc most tok last now len) := by
  obtain ⟨k0, k1, k2, k3, k4, k5, k6, k7, k8, v1, v2, v3, v5, v6, v7, v8, sp, most, tok, last, rfl, rfl, rfl, rfl, rfl⟩ := ho
  unfold Con
  k_fill
  k_with_none
  k_with "binaryOp FloorDiv int int" =>
    k_here
    (with_reducible show wpAny _ _ (binaryOp Operator.FloorDiv (Value.int _ _) (Value.int _ _)) _ _ _)
    (with_reducible refine my_floordiv ?_ ?_ ?_)
    · omega
    · omega
  k_with "binaryOp Mod int int" =>
    k_here
    (with_reducible show wpAny _ _ (binaryOp Operator.Mod (Value.int _ _) (Value.int _ _)) _ _ _)
    (with_reducible refine my_mod ?_ ?_)
    · omega
  k_with "binaryOp Pow int int" =>
    k_here
    first
    | (with_reducible refine my_pow 10 9 1000000000 (by decide) (by decide) (by decide) (by decide) ?_)
    | (with_reducible refine my_pow 10 6 1000000 (by decide) (by decide) (by decide) (by decide) ?_)
    | (with_reducible refine my_pow 10 12 1000000000000 (by decide) (by decide) (by decide) (by decide) ?_)
    | (with_reducible refine my_pow 10 15 1000000000000000 (by decide) (by decide) (by decide) (by decide) ?_)
  k_with "execs cons" =>
    k_here
    (with_reducible show wpAny _ _ (execs _ _) _ _ (Shared.mk _ _ _ (_ + _) _))
    (with_reducible refine gen_toks ?_)
    intro tk8
  k_with "subscriptTail List cons BinOp ref int" =>
    k_here
    (with_reducible show wpAny _ _ (subscriptTail _ _ (Value.ref _) (Value.int _ _)) _ _ _)
    k_dflt (refine item_anyK (by is_list) (by l_ints) (by l_idx) (by l_idx) (by l_idx) ?_; k_whole)
    intro _
  k_with "subscriptTail List cons Name ref int" =>
    k_here
    (with_reducible show wpAny _ _ (subscriptTail _ _ (Value.ref _) (Value.int _ _)) _ _ _)
    k_dflt (refine item_anyK (by is_list) (by l_ints) (by l_idx) (by l_idx) (by l_idx) ?_; k_whole)
    intro _
  k_with "getItem ref str" =>
    k_here
    (with_reducible show wpAny _ _ (getItem (Value.ref _) (Value.str _ _)) _ _ _)
    dsimp only
    (rename isUnit _ => hu9)
    with_unfolding_all first
    | (refine my_getUnit spanOf hu9 (by k_tabat) rfl rfl rfl rfl rfl (by decide +kernel) ?_; intro _)
    | (refine my_getUnit secsOf hu9 (by k_tabat) rfl rfl rfl rfl rfl (by decide +kernel) ?_; intro _)
  k_with "compareOp NotIn str ref" =>
    k_here
    (with_reducible show wpAny _ _ (compareOp CmpOp.NotIn (Value.str _ _) (Value.ref _)) _ _ _)
    dsimp only
    (rename isUnit _ => hu9)
    with_unfolding_all (refine my_notinUnit hu9 (by k_tabat) rfl rfl rfl rfl rfl ?_)
  k_with "subscriptTail Name Name ref str" =>
    k_here
    (with_reducible show wpAny _ _ (subscriptTail _ _ (Value.ref _) (Value.str _ _)) _ _ _)
    dsimp only
    (rename isUnit _ => hu9)
    with_unfolding_all (refine my_itemUnit secsOf hu9 (by k_tabat) rfl rfl rfl rfl rfl (by decide +kernel) rfl (fun _ => rfl) ?_; intro _)
  k_with "call ref" =>
    k_here
    (with_reducible show wpAny _ _ (call (Value.ref 56) _) _ _ _)
    exfalso
    first | omega | (simp_all; done) | (simp_all; omega)
  k_with "call ref" =>
    k_here
    (with_reducible show wpAny _ _ (call (Value.ref 137) _) _ _ _)
    k_dflt (refine Con.useI (by k_asm) (by k_asm) (by k_asm) (by k_asm) (by k_asm) (by first | exact rfl | assumption) (cost_con (by k_mem) (by k_mem) (by first | with_reducible assumption | exact ⟨_, _, _, _, _, _, _, _, _, _, _, _, _, _, _, _, _, _, _, _, rfl, rfl, rfl, rfl, rfl⟩) (by first | assumption | omega) (by first | assumption | omega) (by assumption)) (by ktr_room) (by ktr_units) ?_; k_whole)
    intro t9 h9 tk9 F9 N9
    (try dsimp only)
    (try k_fold)
  dsimp only [CbLists]
  intro dp un gd cn cs a ccd cl outer A₀ base h₀ L m s Q E hB hF hX hN hT hk hdp hun hret
  refine wpAny_call ?_
  k_dflt cell_enter
  have hsp := span_bounds hu
  clear hN
  k_steps
  all_goals
    refine hret _ _ _ _ (by assumption) (cb_drop (by assumption) (by kcj_all)) ⟨_, ?_, rfl, ⟨_, _, _, _, _, _, _, _, _, _, _, _, _, _, _, _, _, _, _, _, rfl, rfl, rfl, ?_, rfl⟩⟩
  all_goals
    first | exact letTold_pos (by assumption) | exact letTold_neg (by assumption) | exact letTok_pos (by assumption) | exact letTok_neg (by assumption)

def shownPost (w : World) (rest : List (Addr × Obj)) (x dx : Addr) (ov : Bool) (rate : Int) (u : Str) (burst : Int) (oc : Bool) (most tok last : Int) (r : Value) (nx : List (Addr × Obj)) : Prop :=
  ∃ o', r = .bool true ∧ nx = (dx, o') :: (x, instObj 119 dx) :: rest ∧ CelIs w o' ov rate u burst oc most tok last
theorem shown_eq {a b : Bool} {c d e f : Int} (h1 : a = b) (h2 : c = d) (h3 : e = f) (hn : ¬ (a = b ∧ c = d ∧ e = f)) : False := hn ⟨h1, h2, h3⟩
set_option maxHeartbeats 4000000 in
theorem shown_con {w : World} {mean : ExcName → Option Value} {mg mb : Str → Option Value} {rest : List (Addr × Obj)} {x dx : Addr} {o : Obj} {ov : Bool} {rate : Int} {u : Str} {burst : Int} {oc : Bool} {most tok last now len left : Int} {due : Bool} {t1 t2 t3 : Tok}
   (ho : CelIs w o ov rate u burst oc most tok last) (hx : @LT.lt Nat _ dx x) (hoff : OwnOff rest [dx]) (hr : 1 ≤ rate) (hR : rate ≤ 1000000000000) (hu : isUnit u) (hdue : letTold ov most tok last now (worth (spanOf u) rate oc len) = due) (hleft : letTok most tok last now (worth (spanOf u) rate oc len) = left) :
    Con w mean mg mb 3 207 [] ((dx, o) :: (x, instObj 119 dx) :: rest) [.ref x, .int now t1, .int len t2, .bool due, .int left t3] (shownPost w rest x dx ov rate u burst oc most left now) := by
  unfold Con
  k_fill
  k_with_none
  k_with "binaryOp FloorDiv int int" =>
    k_here
    (with_reducible show wpAny _ _ (binaryOp Operator.FloorDiv (Value.int _ _) (Value.int _ _)) _ _ _)
    (with_reducible refine my_floordiv ?_ ?_ ?_)
    · omega
    · omega
  k_with "binaryOp Mod int int" =>
    k_here
    (with_reducible show wpAny _ _ (binaryOp Operator.Mod (Value.int _ _) (Value.int _ _)) _ _ _)
    (with_reducible refine my_mod ?_ ?_)
    · omega
  k_with "binaryOp Pow int int" =>
    k_here
    first
    | (with_reducible refine my_pow 10 9 1000000000 (by decide) (by decide) (by decide) (by decide) ?_)
    | (with_reducible refine my_pow 10 6 1000000 (by decide) (by decide) (by decide) (by decide) ?_)
    | (with_reducible refine my_pow 10 12 1000000000000 (by decide) (by decide) (by decide) (by decide) ?_)
    | (with_reducible refine my_pow 10 15 1000000000000000 (by decide) (by decide) (by decide) (by decide) ?_)
  k_with "execs cons" =>
    k_here
    (with_reducible show wpAny _ _ (execs _ _) _ _ (Shared.mk _ _ _ (_ + _) _))
    (with_reducible refine gen_toks ?_)
    intro tk8
  k_with "subscriptTail List cons BinOp ref int" =>
    k_here
    (with_reducible show wpAny _ _ (subscriptTail _ _ (Value.ref _) (Value.int _ _)) _ _ _)
    k_dflt (refine item_anyK (by is_list) (by l_ints) (by l_idx) (by l_idx) (by l_idx) ?_; k_whole)
    intro _
  k_with "subscriptTail List cons Name ref int" =>
    k_here
    (with_reducible show wpAny _ _ (subscriptTail _ _ (Value.ref _) (Value.int _ _)) _ _ _)
    k_dflt (refine item_anyK (by is_list) (by l_ints) (by l_idx) (by l_idx) (by l_idx) ?_; k_whole)
    intro _
  k_with "getItem ref str" =>
    k_here
    (with_reducible show wpAny _ _ (getItem (Value.ref _) (Value.str _ _)) _ _ _)
    dsimp only
    (rename isUnit _ => hu9)
    with_unfolding_all first
    | (refine my_getUnit spanOf hu9 (by k_tabat) rfl rfl rfl rfl rfl (by decide +kernel) ?_; intro _)
    | (refine my_getUnit secsOf hu9 (by k_tabat) rfl rfl rfl rfl rfl (by decide +kernel) ?_; intro _)
  k_with "compareOp NotIn str ref" =>
    k_here
    (with_reducible show wpAny _ _ (compareOp CmpOp.NotIn (Value.str _ _) (Value.ref _)) _ _ _)
    dsimp only
    (rename isUnit _ => hu9)
    with_unfolding_all (refine my_notinUnit hu9 (by k_tabat) rfl rfl rfl rfl rfl ?_)
  k_with "subscriptTail Name Name ref str" =>
    k_here
    (with_reducible show wpAny _ _ (subscriptTail _ _ (Value.ref _) (Value.str _ _)) _ _ _)
    dsimp only
    (rename isUnit _ => hu9)
    with_unfolding_all (refine my_itemUnit secsOf hu9 (by k_tabat) rfl rfl rfl rfl rfl (by decide +kernel) rfl (fun _ => rfl) ?_; intro _)
  k_with "call ref" =>
    k_here
    (with_reducible show wpAny _ _ (call (Value.ref 56) _) _ _ _)
    exfalso
    first | omega | (simp_all; done) | (simp_all; omega)
  k_with "call ref" =>
    k_here
    (with_reducible show wpAny _ _ (call (Value.ref 144) _) _ _ _)
    k_dflt (refine Con.use (by k_asm) (by k_asm) (by k_asm) (by k_asm) (by k_asm) (by first | exact rfl | assumption) (let_con (by with_reducible assumption) (by assumption) (by assumption) (by first | assumption | omega) (by first | assumption | omega) (by assumption)) (by ktr_room) (by ktr_units) ?_; k_whole)
    k_dflt (intro r9 nx9 h9 tk9 F9 N9 p9; (obtain ⟨o9, er9, en9, ⟨k0, k1, k2, k3, k4, k5, k6, k7, k8, v1, v2, v3, v5, v6, v7, v8, sp9, most9, tok9, last9, eo9, hsp9, hmost9, htok9, hlast9⟩⟩ := p9); subst er9 en9 eo9)
    (try dsimp only)
    (try k_fold)
  dsimp only [CbLists]
  intro dp un gd cn cs a ccd cl outer A₀ base h₀ L m s Q E hB hF hX hN hT hk hdp hun hret
  refine wpAny_call ?_
  k_dflt cell_enter
  clear hN
  k_steps
  all_goals
    refine hret _ _ _ _ (by assumption) (cb_drop (by assumption) (by kcj_all)) ⟨_, ?_, rfl, ⟨_, _, _, _, _, _, _, _, _, _, _, _, _, _, _, _, _, _, _, _, rfl, ?_, ?_, ?_, ?_⟩⟩
    all_goals (subst hdue hleft; simp_all; done)

section
/-- what the law says is left -/
def leftOf (M W n : Int) : Int := M - max 0 (W - n * 1000000)
/-- whatever the moment from n on, the cell's tokens ahead of a packet are what the law says -/
def Ready (M W p n tok last : Int) : Prop := ∀ n', n ≤ n' → tokAt M tok last (n' + p) = leftOf M W n'
theorem ready_start {M p : Int} (hp : 0 ≤ p) : Ready M 0 p 0 M 0 := by
  intro n' h
  unfold tokAt leftOf
  split <;> omega
theorem ready_put {M W n tok last q : Int} (h : Ready M W 0 n tok last) : Ready M W q n tok (last + q) := by
  intro n' h'
  have := h n' h'
  unfold tokAt at *
  have e : n' + q - (last + q) = n' + 0 - last := by omega
  rw [e]; exact this
theorem ready_at {M W p n : Int} : Ready M W p n (leftOf M W n) (n + p) := by
  intro n' h
  unfold tokAt leftOf
  split <;> omega
theorem ready_later {M W p n n' tok last : Int} (h : Ready M W p n tok last) (hn : n ≤ n') : Ready M W p n' tok last := fun k hk => h k (by omega)
def wholeOf (W n c : Int) (room : Bool) : Int := if room = true then max W (n * 1000000) + c else W
def toldOf (ov room : Bool) : Bool := if room = true then !ov else ov
def roomOf (M W n c : Int) : Bool := decide (max W (n * 1000000) + c ≤ n * 1000000 + M)
theorem room_iff {M W n c : Int} : c ≤ leftOf M W n ↔ roomOf M W n c = true := by
  unfold leftOf roomOf
  rw [decide_eq_true_iff]
  omega
section
variable {M W p n n0 c tok last : Int} {ov : Bool}
theorem ready_let (h : Ready M W p n0 tok last) (hn : n0 ≤ n) (hc : 0 ≤ c) :
    letTold ov M tok last (n + p) c = toldOf ov (roomOf M W n c) ∧ letTok M tok last (n + p) c = leftOf M (wholeOf W n c (roomOf M W n c)) n ∧
      Ready M (wholeOf W n c (roomOf M W n c)) p n (leftOf M (wholeOf W n c (roomOf M W n c)) n) (n + p) := by
  have e := h n hn
  refine ⟨?_, ?_, ready_at⟩
  · unfold letTold toldOf
    rw [e]
    simp only [room_iff]
  · unfold letTok wholeOf
    rw [e]
    simp only [room_iff]
    split
    · unfold leftOf; omega
    · rfl
theorem ready_cut (h : Ready M W p n0 tok last) (hn : n0 ≤ n) (hc : c = 0 ∨ leftOf M W n < c) :
    letTold ov M tok last (n + p) c = toldOf ov (decide (c ≤ leftOf M W n)) ∧ letTok M tok last (n + p) c = leftOf M W n ∧ Ready M W p n (leftOf M W n) (n + p) := by
  have e := h n hn
  refine ⟨?_, ?_, ready_at⟩
  · unfold letTold toldOf
    rw [e]
    simp only [decide_eq_true_iff]
  · unfold letTok
    rw [e]
    split <;> omega
end
structure Ent where
  now : Int
  len : Int
  room : Bool
  whole : Int
def Step (M : Int) (c : Int → Int) (n W : Int) (e : Ent) : Prop := n ≤ e.now ∧ 0 ≤ c e.len ∧ e.room = roomOf M W e.now (c e.len) ∧ e.whole = wholeOf W e.now (c e.len) e.room
def Chain (M : Int) (c : Int → Int) : Int → Int → List Ent → Prop
  | _, _, [] => True
  | n, W, e :: es => Step M c n W e ∧ Chain M c e.now e.whole es
def endN : Int → List Ent → Int
  | n, [] => n
  | _, e :: es => endN e.now es
def endW : Int → List Ent → Int
  | W, [] => W
  | _, e :: es => endW e.whole es
theorem endN_snoc {n : Int} {es : List Ent} {e : Ent} : endN n (es ++ [e]) = e.now := by
  induction es generalizing n with
  | nil => rfl
  | cons a r ih => exact ih
theorem endW_snoc {n : Int} {es : List Ent} {e : Ent} : endW n (es ++ [e]) = e.whole := by
  induction es generalizing n with
  | nil => rfl
  | cons a r ih => exact ih
theorem chain_append {M : Int} {c : Int → Int} {n W : Int} {es fs : List Ent} : Chain M c n W (es ++ fs) ↔ Chain M c n W es ∧ Chain M c (endN n es) (endW W es) fs := by
  induction es generalizing n W with
  | nil => simp [Chain, endN, endW]
  | cons a r ih => simp only [List.cons_append, Chain, endN, endW, ih, and_assoc]
/-- a packet's tuple -/
abbrev tup4 (e : Ent) (t1 t2 t3 : Tok) (n : Nat) : Obj := { cls := .type "tuple", data := .seq #[.int e.now t1, .int e.len t2, .bool e.room, .int e.whole t3] n }
def EntIn (news : List (Addr × Obj)) (v : Value) (e : Ent) : Prop := ∃ (a : Addr) (t1 t2 t3 : Tok) (n : Nat), v = .ref a ∧ (a, tup4 e t1 t2 t3 n) ∈ news
def EntsIn (news : List (Addr × Obj)) : List Value → List Ent → Prop
  | [], [] => True
  | v :: vs, e :: es => EntIn news v e ∧ EntsIn news vs es
  | _, _ => False
section
variable {news news' : List (Addr × Obj)} {v : Value} {e : Ent} {vs : List Value} {es : List Ent}
theorem EntIn.mono (h : EntIn news v e) (s : ∀ p ∈ news, p ∈ news') : EntIn news' v e := by
  obtain ⟨a, t1, t2, t3, n, rfl, hm⟩ := h
  exact ⟨a, t1, t2, t3, n, rfl, s _ hm⟩
theorem EntsIn.mono (h : EntsIn news vs es) (s : ∀ p ∈ news, p ∈ news') : EntsIn news' vs es := by
  induction vs generalizing es with
  | nil =>
    cases es with
    | nil => trivial
    | cons a r => exact h.elim
  | cons v vs ih =>
    cases es with
    | nil => exact h.elim
    | cons a r => exact ⟨h.1.mono s, ih h.2⟩
theorem EntsIn.snoc (h : EntsIn news vs es) (k : EntIn news v e) : EntsIn news (vs ++ [v]) (es ++ [e]) := by
  induction vs generalizing es with
  | nil =>
    cases es with
    | nil => exact ⟨k, trivial⟩
    | cons a r => exact h.elim
  | cons v vs ih =>
    cases es with
    | nil => exact h.elim
    | cons a r => exact ⟨h.1, ih h.2⟩
theorem EntsIn.length (h : EntsIn news vs es) : vs.length = es.length := by
  induction vs generalizing es with
  | nil =>
    cases es with
    | nil => rfl
    | cons a r => exact h.elim
  | cons v vs ih =>
    cases es with
    | nil => exact h.elim
    | cons a r => simp only [List.length_cons, ih h.2]
theorem EntsIn.get (h : EntsIn news vs es) {k : Nat} (hk : vs[k]? = some v) : ∃ pre e post, es = pre ++ e :: post ∧ pre.length = k ∧ EntIn news v e := by
  induction vs generalizing es k with
  | nil => simp at hk
  | cons u vs ih =>
    cases es with
    | nil => exact h.elim
    | cons a r =>
      cases k with
      | zero =>
        have : u = v := by simpa using hk
        subst this
        exact ⟨[], a, r, rfl, rfl, h.1⟩
      | succ k =>
        obtain ⟨pre, e, post, rfl, hl, hv⟩ := ih h.2 (k := k) (by simpa using hk)
        exact ⟨a :: pre, e, post, rfl, by simp [hl], hv⟩
end
theorem worth_nonneg {sp rate n : Int} {oc : Bool} (hs : 0 ≤ sp) (hr : 1 ≤ rate) (hn : 0 ≤ n) : 0 ≤ worth sp rate oc n := by
  unfold worth
  split
  · exact Int.ediv_nonneg (Int.mul_nonneg hs hn) (by omega)
  · exact Int.ediv_nonneg hs (by omega)
end
section
structure StS where
  now : Int
  whole : Int
  tn : Tok
  tw : Tok
  vs : List Value
  n : Nat
  es : List Ent
def StS.Ok (M : Int) (cc : Int → Int) (pre : List Int) (c : StS) : Prop := c.es.length = pre.length ∧ Chain M cc 0 0 c.es ∧ endN 0 c.es = c.now ∧ endW 0 c.es = c.whole ∧ 0 ≤ c.now
abbrev streamNames : List Str := [Str.ofString "drawn", Str.ofString "length", Str.ofString "worth", Str.ofString "ms", Str.ofString "later", Str.ofString "is_room"]
section
variable {prog : Program} {w : World} {A : Around} {E : Value → Shared → Prop} {s : Shared} {env : Env} {h₀ : Heap} {body : List Stmt} {Q : Flow → Shared → Prop}
/-- a turn's end: one packet more -/
def StreamEnd (h₀ : Heap) (L l : Addr) (all : List (Addr × Obj)) (m₀ : Str → Option Value) (M : Int) (cc : Int → Int) (now whole : Int) (vs : List Value) (s₁ s₂ : Shared) : Prop :=
  ∃ h' tk' m' news' a e t1 t2 t3 tn tw n n', s₂ = { s₁ with heap := h', toks := tk' } ∧ Fr h₀ L h' m' ∧ News h₀ L h' news' ∧ (l, listOf (vs ++ [Value.ref a]).toArray n) ∈ news' ∧ (a, tup4 e t1 t2 t3 n') ∈ news' ∧
    (∀ p ∈ all, p ∈ news') ∧ l < a ∧ (∀ p ∈ all, p.1 < a) ∧ m' (Str.ofString "now") = some (.int e.now tn) ∧ m' (Str.ofString "whole") = some (.int e.whole tw) ∧
    (∀ z, z ≠ Str.ofString "k" → z ≠ Str.ofString "now" → z ≠ Str.ofString "whole" → streamNames.contains z = false → m' z = m₀ z) ∧ Step M cc now whole e
def StreamTurn (h₀ : Heap) (L l : Addr) (all : List (Addr × Obj)) (m₀ : Str → Option Value) (M : Int) (cc : Int → Int) (now whole : Int) (vs : List Value) (s₁ : Shared) (Q : Flow → Shared → Prop) (f : Flow) (s₂ : Shared) : Prop :=
  match f with
  | .ret v => Q (.ret v) s₂
  | .brk => Q .next s₂
  | _ => StreamEnd h₀ L l all m₀ M cc now whole vs s₁ s₂
theorem off_of_lt {l S : Addr} {news : List (Addr × Obj)} (h : @LT.lt Nat _ S l ∧ AllLt l news) : OwnOff news [l] := fun p hp b hb => by
  rw [List.mem_singleton.mp hb]; exact Nat.ne_of_lt (tb_ltOf h.2 p hp)
theorem small_size {vs : List Value} (h : vs.length < 6) : vs.toArray.size ≤ sizeLine := by
  rw [sizeLine_eq, List.size_toArray]; omega
theorem stream_loop {r l D S : Addr} {oD oS : Obj} {n0 : Nat} {news : List (Addr × Obj)} {m₀ : Str → Option Value} {tn0 tw0 t₀ u₀ v₀ : Tok} (M : Int) (cc : Int → Int) (hh : A.handled = none) (hr : IsRange s.heap r 0 6 1 t₀ u₀ v₀)
    (F : Fr h₀ env.locals s.heap m₀) (N : News h₀ env.locals s.heap ((D, oD) :: (l, listOf #[] n0) :: (S, oS) :: news)) (hoff : OwnOff news [l]) (hnow : m₀ (Str.ofString "now") = some (.int 0 tn0)) (hwh : m₀ (Str.ofString "whole") = some (.int 0 tw0))
    (turn : ∀ (now whole : Int) (tn tw : Tok) (vs : List Value) (n : Nat) (rest : List (Addr × Obj)) (k : Int) (t : Tok) (u : Str → Option Value) (h : Heap) (tk : Nat), 0 ≤ k → k < 6 → vs.length < 6 → 0 ≤ now → OwnOff rest [l] →
      Fr h₀ env.locals h (fun y => if y = Str.ofString "k" then some (.int k t) else kstB (fun z => if streamNames.contains z then u z else m₀ z) [(Str.ofString "now", .int now tn), (Str.ofString "whole", .int whole tw)] y) →
      News h₀ env.locals h ((l, listOf vs.toArray n) :: (S, oS) :: rest) →
      wpAny (model prog w) A (execs body env) (StreamTurn h₀ env.locals l ((S, oS) :: rest) m₀ M cc now whole vs { s with heap := h, toks := tk } Q) E { s with heap := h, toks := tk })
    (done : ∀ (now whole : Int) (tn tw : Tok) (vs : List Value) (n : Nat) (es : List Ent) (tl : List (Addr × Obj)) (u : Str → Option Value) (h : Heap) (tk : Nat), EntsIn ((S, oS) :: (news ++ tl)) vs es → es.length = 6 → Chain M cc 0 0 es →
      Fr h₀ env.locals h (fun y => if y = Str.ofString "k" then u y else kstB (fun z => if streamNames.contains z then u z else m₀ z) [(Str.ofString "now", .int now tn), (Str.ofString "whole", .int whole tw)] y) →
      News h₀ env.locals h ((l, listOf vs.toArray n) :: (S, oS) :: (news ++ tl)) → Q .next { s with heap := h, toks := tk }) :
    wpAny (model prog w) A (pyIter (.ref r)) (fun it s₂ => LoopAtV prog w A h₀ env (Str.ofString "k") body Q E it s₂) E s := by
  let cst := (S, oS) :: news
  refine kd_range (σ := StS) (n := 6) (fun c => [(l, listOf c.vs.toArray c.n)]) cst (fun c => [(Str.ofString "now", .int c.now c.tn), (Str.ofString "whole", .int c.whole c.tw)]) (fun nl c => EntsIn nl c.vs c.es)
    streamNames (StS.Ok M cc) (l :: cst.map (·.1)) ⟨0, 0, tn0, tw0, [], n0, []⟩ hh hr (by decide) (by rfl) F N ?_ (fun c => rfl) trivial ?_ ⟨rfl, trivial, rfl, rfl, Int.le_refl 0⟩ ?_ ?_
  · intro p hp
    simp only [List.append_nil, List.singleton_append] at hp
    exact List.mem_cons_of_mem _ hp
  · intro p hp
    rcases List.mem_cons.mp hp with e | hp
    · rw [e]; exact hnow
    · rw [List.mem_singleton.mp hp]; exact hwh
  · rintro ⟨now, whole, tn, tw, vs, n, es⟩ tl pre k t u h tk own hk hpre hsep hofs hfa ⟨o1, o2, o3, o4, o5⟩ F₁ N₁
    dsimp only at *
    have hl := hfa.length
    refine wpAny_mono (turn now whole tn tw vs n (news ++ (tl ++ own)) k t u h tk (by omega) (by omega) (by omega) o5 (fun p hp b hb => (List.mem_append.mp hp).elim (fun hp => hoff p hp b hb) fun hp => hofs p hp b (by rw [List.mem_singleton.mp hb]; exact List.mem_cons_self ..)) F₁ N₁) (fun f s₂ p => ?_) fun _ _ e => e
    have fin : StreamEnd h₀ env.locals l (cst ++ (tl ++ own)) m₀ M cc now whole vs { s with heap := h, toks := tk } s₂ → InvEndG h₀ env.locals (KdS (fun c : StS => [(l, listOf c.vs.toArray c.n)]) cst (fun c => [(Str.ofString "now", .int c.now c.tn), (Str.ofString "whole", .int c.whole c.tw)]) (fun nl c => EntsIn nl c.vs c.es) (Str.ofString "k") streamNames m₀ (StS.Ok M cc) (l :: cst.map (·.1)) (pre ++ [k])) own { s with heap := h, toks := tk } s₂ := by
      rintro ⟨h', tk', m', news', a, e, t1, t2, t3, tn', tw', n1, n2, rfl, F', N', hm1, hm2, hall, hla, hfr, hm', hw', hrest, hst⟩
      refine kd_end (tl := tl) ⟨e.now, e.whole, tn', tw', vs ++ [Value.ref a], n1, es ++ [e]⟩ [(a, tup4 e t1 t2 t3 n2)] hsep F' N' ?_ ?_ rfl ?_ ?_ ?_ ?_ ?_ ⟨?_, ?_, endN_snoc, endW_snoc, ?_⟩
      · intro p hp
        rcases List.mem_cons.mp hp with rfl | hp
        · exact hm1
        · have hp : p ∈ cst ++ ([(a, tup4 e t1 t2 t3 n2)] ++ tl) := hp
          rcases List.mem_append.mp hp with hp | hp
          · exact hall _ (List.mem_append.mpr (.inl hp))
          · rcases List.mem_append.mp hp with hp | hp
            · rw [List.mem_singleton.mp hp]; exact hm2
            · exact hall _ (List.mem_append.mpr (.inr (List.mem_append.mpr (.inl hp))))
      · intro p hp
        exact hall _ (List.mem_append.mpr (.inr (List.mem_append.mpr (.inr hp))))
      · intro q hq b hb
        rw [List.mem_singleton.mp hq]
        rcases List.mem_cons.mp hb with rfl | hb
        · exact Nat.ne_of_lt hla
        · obtain ⟨p, hp, rfl⟩ := List.mem_map.mp hb
          exact Nat.ne_of_lt (hfr p (List.mem_append.mpr (.inl hp)))
      · intro q hq p hp
        rw [List.mem_singleton.mp hq]
        exact Nat.ne_of_lt (hfr p (List.mem_append.mpr (.inr (List.mem_append.mpr (.inr hp)))))
      · intro p hp
        rcases List.mem_cons.mp hp with e | hp
        · rw [e]; exact hm'
        · rw [List.mem_singleton.mp hp]; exact hw'
      · intro z h1 h2 h3
        exact hrest z h1 (h2 _ (List.mem_cons_self ..)) (h2 _ (List.mem_cons_of_mem _ (List.mem_cons_self ..))) h3
      · refine (hfa.mono kd_sub).snoc ⟨a, t1, t2, t3, n2, rfl, kd_new (List.mem_singleton.mpr rfl)⟩
      · simp only [List.length_append, List.length_singleton, o1]
      · refine chain_append.mpr ⟨o2, ?_, trivial⟩
        rw [o3, o4]; exact hst
      · exact Int.le_trans o5 hst.1
    cases f with
    | ret v => exact p
    | brk => exact p
    | next => exact fin p
    | cont => exact fin p
  · rintro ⟨now, whole, tn, tw, vs, n, es⟩ tl u h tk ho hfa ⟨o1, o2, o3, o4, o5⟩ F₁ N₁
    have o1' : es.length = 6 := o1
    exact done now whole tn tw vs n es tl u h tk hfa o1' o2 F₁ N₁
end
end
section
section
variable {M : Model} {A : Around} {env : Env} {x : Str} {E : Value → Shared → Prop} {s : Shared} {e : Int} {t : Tok} {Q : Unit → Shared → Prop}
theorem store_any0 (p : Int → Prop) (hp : p e) (h : ∀ y, p y → wpAny M A (storeName env x (.int y t)) Q E s) : wpAny M A (storeName env x (.int e t)) Q E s := h e hp
end
section
variable {M : Model} {A : Around} {env : Env} {x : Str} {E : Value → Shared → Prop} {e : Int} {t : Tok} {Q : Unit → Shared → Prop} {H : Heap} {G : _} {D : _} {X : Nat} {O : _}
theorem store_any (p : Int → Prop) (hp : p e) (h : ∀ y t' tk', p y → wpAny M A (storeName env x (.int y t')) Q E (Shared.mk H G D tk' O)) : wpAny M A (storeName env x (.int e t)) Q E (Shared.mk H G D X O) := h e t X hp
end
theorem hid_of {p : Prop} (h : p) : Hid p := ⟨h⟩
theorem menu_nonneg {m : Int} (h : 0 ≤ m) (k : Nat) : 0 ≤ [0, m / 2, m, 0, m / 5, 1, m + 1, 4 * m].getD k 0 := by
  match k with
  | 0 => simp
  | 1 => simp; omega
  | 2 => simpa using h
  | 3 => simp
  | 4 => simp; omega
  | 5 => simp
  | 6 => simp; omega
  | 7 => simp; omega
  | k + 8 => simp
theorem add_menu {n m : Int} (h : 0 ≤ m) (k : Nat) : n ≤ n + [0, m / 2, m, 0, m / 5, 1, m + 1, 4 * m].getD k 0 := by
  have := menu_nonneg h k
  omega
theorem end_lt {l' l S D : Addr} {oS : Obj} {all : List (Addr × Obj)} (h : @LT.lt Nat _ l' D ∧ @LT.lt Nat _ l D ∧ @LT.lt Nat _ S D ∧ AllLt D all) : @LT.lt Nat _ l D ∧ ∀ p ∈ (S, oS) :: all, @LT.lt Nat _ p.1 D :=
  ⟨h.2.1, fun p hp => by
    rcases List.mem_cons.mp hp with rfl | hp
    · exact h.2.2.1
    · exact tb_ltOf h.2.2.2 p hp⟩
theorem StreamEnd.intro {h₀ : Heap} {L l a : Addr} {all news' : List (Addr × Obj)} {m₀ m' : Str → Option Value} {M : Int} {cc : Int → Int} {now whole n1 l1 w1 : Int} {r1 : Bool} {vs : List Value} {s₁ : Shared} {h' : Heap} {tk' n n' : Nat} {t1 t2 t3 tn tw : Tok}
    (F : Fr h₀ L h' m') (N : News h₀ L h' news') (m1 : (l, listOf (vs ++ [Value.ref a]).toArray n) ∈ news') (m2 : (a, tup4 ⟨n1, l1, r1, w1⟩ t1 t2 t3 n') ∈ news') (ha : ∀ p ∈ all, p ∈ news') (hl : @LT.lt Nat _ l a) (hf : ∀ p ∈ all, @LT.lt Nat _ p.1 a)
    (hn : m' (Str.ofString "now") = some (.int n1 tn)) (hw : m' (Str.ofString "whole") = some (.int w1 tw)) (hr : ∀ z, z ≠ Str.ofString "k" → z ≠ Str.ofString "now" → z ≠ Str.ofString "whole" → streamNames.contains z = false → m' z = m₀ z) (hs : Step M cc now whole ⟨n1, l1, r1, w1⟩) :
    StreamEnd h₀ L l all m₀ M cc now whole vs s₁ { s₁ with heap := h', toks := tk' } :=
  ⟨h', tk', m', news', a, ⟨n1, l1, r1, w1⟩, t1, t2, t3, tn, tw, n, n', rfl, F, N, m1, m2, ha, hl, hf, hn, hw, hr, hs⟩
theorem step_of {M now whole n len y wv : Int} {cc : Int → Int} (h0 : 0 ≤ wv) (hn : now ≤ n) (hw : Hid (wv = cc len)) (hy : Hid (y = (if n * 1000000 > whole then n * 1000000 else whole) + wv)) :
    (y ≤ n * 1000000 + M → Step M cc now whole ⟨n, len, decide (y ≤ n * 1000000 + M), y⟩) ∧ (¬ y ≤ n * 1000000 + M → Step M cc now whole ⟨n, len, decide (y ≤ n * 1000000 + M), whole⟩) := by
  have hy := hy.out
  have hw := hw.out
  subst hw
  have e : (if n * 1000000 > whole then n * 1000000 else whole) = max whole (n * 1000000) := by split <;> omega
  rw [e] at hy
  subst hy
  refine ⟨fun h => ⟨hn, h0, rfl, ?_⟩, fun h => ⟨hn, h0, rfl, ?_⟩⟩
  · unfold wholeOf; rw [if_pos (by simpa using h)]
  · unfold wholeOf; rw [if_neg (by simpa using h)]
end
def streamPost (news : List (Addr × Obj)) (M : Int) (c : Int → Int) (r : Value) (nx : List (Addr × Obj)) : Prop :=
  ∃ (R : Addr) (vs : List Value) (n : Nat) (tl : List (Addr × Obj)) (es : List Ent), r = .ref R ∧ nx = (R, listOf vs.toArray n) :: tl ∧ (∀ p ∈ news, p ∈ tl) ∧ EntsIn tl vs es ∧ es.length = 6 ∧ Chain M c 0 0 es
set_option maxHeartbeats 4000000 in
theorem stream_con0 {w : World} {mean : ExcName → Option Value} {mg mb : Str → Option Value} {news : List (Addr × Obj)} {S A : Addr} {vs : List Value} {ns : List Int} {ov : Bool} {rate : Int} {u : Str} {burst : Int} {oc : Bool} {j M : Int} {t0 t1 t2 t3 t4 t5 : Tok} {c : Nat}
   (hr : 1 ≤ rate) (hR : rate ≤ 1000000000000) (hu : isUnit u) (hj0 : 0 ≤ j) (hj3 : j ≤ 3) :
    Con w mean mg mb 3 193 [(A, vs, ns)] ((S, stm ov rate u burst oc t0 t1 t2 t3 c) :: news) [.ref A, .int j t4, .ref S, .int M t5] (streamPost ((S, stm ov rate u burst oc t0 t1 t2 t3 c) :: news) M (worth (spanOf u) rate oc)) := by
  unfold Con
  k_fill
  k_with_none
  k_with "binaryOp FloorDiv int int" =>
    k_here
    (with_reducible show wpAny _ _ (binaryOp Operator.FloorDiv (Value.int _ _) (Value.int _ _)) _ _ _)
    (with_reducible refine my_floordiv ?_ ?_ ?_)
    · omega
    · omega
  k_with "binaryOp Mod int int" =>
    k_here
    (with_reducible show wpAny _ _ (binaryOp Operator.Mod (Value.int _ _) (Value.int _ _)) _ _ _)
    (with_reducible refine my_mod ?_ ?_)
    · omega
  k_with "binaryOp Pow int int" =>
    k_here
    first
    | (with_reducible refine my_pow 10 9 1000000000 (by decide) (by decide) (by decide) (by decide) ?_)
    | (with_reducible refine my_pow 10 6 1000000 (by decide) (by decide) (by decide) (by decide) ?_)
    | (with_reducible refine my_pow 10 12 1000000000000 (by decide) (by decide) (by decide) (by decide) ?_)
    | (with_reducible refine my_pow 10 15 1000000000000000 (by decide) (by decide) (by decide) (by decide) ?_)
  k_with "execs cons" =>
    k_here
    (with_reducible show wpAny _ _ (execs _ _) _ _ (Shared.mk _ _ _ (_ + _) _))
    (with_reducible refine gen_toks ?_)
    intro tk8
  k_with "subscriptTail List cons BinOp ref int" =>
    k_here
    (with_reducible show wpAny _ _ (subscriptTail _ _ (Value.ref _) (Value.int _ _)) _ _ _)
    k_dflt (refine item_anyK (by is_list) (by l_ints) (by l_idx) (by l_idx) (by l_idx) ?_; k_whole)
    intro _
  k_with "subscriptTail List cons Name ref int" =>
    k_here
    (with_reducible show wpAny _ _ (subscriptTail _ _ (Value.ref _) (Value.int _ _)) _ _ _)
    k_dflt (refine item_anyK (by is_list) (by l_ints) (by l_idx) (by l_idx) (by l_idx) ?_; k_whole)
    intro _
  k_with "getItem ref str" =>
    k_here
    (with_reducible show wpAny _ _ (getItem (Value.ref _) (Value.str _ _)) _ _ _)
    dsimp only
    (rename isUnit _ => hu9)
    with_unfolding_all first
    | (refine my_getUnit spanOf hu9 (by k_tabat) rfl rfl rfl rfl rfl (by decide +kernel) ?_; intro _)
    | (refine my_getUnit secsOf hu9 (by k_tabat) rfl rfl rfl rfl rfl (by decide +kernel) ?_; intro _)
  k_with "compareOp NotIn str ref" =>
    k_here
    (with_reducible show wpAny _ _ (compareOp CmpOp.NotIn (Value.str _ _) (Value.ref _)) _ _ _)
    dsimp only
    (rename isUnit _ => hu9)
    with_unfolding_all (refine my_notinUnit hu9 (by k_tabat) rfl rfl rfl rfl rfl ?_)
  k_with "subscriptTail Name Name ref str" =>
    k_here
    (with_reducible show wpAny _ _ (subscriptTail _ _ (Value.ref _) (Value.str _ _)) _ _ _)
    dsimp only
    (rename isUnit _ => hu9)
    with_unfolding_all (refine my_itemUnit secsOf hu9 (by k_tabat) rfl rfl rfl rfl rfl (by decide +kernel) rfl (fun _ => rfl) ?_; intro _)
  k_with "call ref" =>
    k_here
    (with_reducible show wpAny _ _ (call (Value.ref 56) _) _ _ _)
    exfalso
    first | omega | (simp_all; done) | (simp_all; omega)
  k_with "call ref" =>
    k_here
    (with_reducible show wpAny _ _ (call (Value.ref 179) _) _ _ _)
    k_dflt (refine Con.useE (by k_asm) (by k_asm) (by k_asm) (by k_asm) (by k_asm) (by first | exact rfl | assumption) (worth_con (by k_mem) (by first | assumption | omega) (by first | assumption | omega) (by assumption)) (worth_nonneg (by omega) (by assumption) (by first | assumption | omega)) (by ktr_room) (by ktr_units) ?_; k_whole)
    intro y9 t9 h9 tk9 hy9 hp9 F9 N9
    (try dsimp only)
    (try k_fold)
  k_with "call ref" =>
    k_here
    (with_reducible show wpAny _ _ (call (Value.ref 200) _) _ _ _)
    k_dflt (refine Con.useI (by k_asm) (by k_asm) (by k_asm) (by k_asm) (by k_asm) (by first | exact rfl | assumption) left_con (by ktr_room) (by ktr_units) ?_; k_whole)
    intro t9 h9 tk9 F9 N9
    (try dsimp only)
    (try k_fold)
  k_with "storeName int" =>
    k_here
    (with_reducible show wpAny _ _ (storeName _ (Str.ofString "drawn") (Value.int (cellAt _ _ _) _)) _ _ _)
    (with_reducible refine store_any (fun _ => True) trivial ?_)
    intro y8 t8 k8 _
    (try dsimp only)
  k_with "storeName int" =>
    k_here
    (with_reducible show wpAny _ _ (storeName _ (Str.ofString "length") (Value.int (_ % _) _)) _ _ _)
    (with_reducible refine store_any (fun y => 0 ≤ y) ?_ ?_)
    · omega
    intro y8 t8 k8 hy8
    (try dsimp only)
  k_with "storeName int" =>
    k_here
    (with_reducible show wpAny _ _ (storeName _ (Str.ofString "ms") (Value.int (_ / _) _)) _ _ _)
    (with_reducible refine store_any (fun y => 0 ≤ y) ?_ ?_)
    · omega
    intro y8 t8 k8 hy8
    (try dsimp only)
  k_with "storeName int" =>
    k_here
    (with_reducible show wpAny _ _ (storeName _ (Str.ofString "now") (Value.int (_ + _) _)) _ _ _)
    (with_reducible refine store_any (fun y => _ ≤ y) (add_menu ?_ _) ?_)
    · assumption
    intro y8 t8 k8 hy8
    (try dsimp only)
  k_with "storeName int" =>
    k_here
    (with_reducible show wpAny _ _ (storeName _ (Str.ofString "later") (Value.int (_ + _) _)) _ _ _)
    (with_reducible refine store_any (fun y => Hid (y = _)) (hid_of rfl) ?_)
    intro y8 t8 k8 hy8
    (try dsimp only)
  k_with "call builtin:list.append" =>
    k_here
    (try dsimp only [List.cons_append, List.nil_append])
    (with_reducible show wpAny _ _ (call (Value.builtin _) [Value.ref _, _]) _ _ _)
    k_dflt (refine append_K (by k_asm) (by k_asm) (by k_upd) ?_ (small_size (by assumption)); k_whole)
    intro h' F' N'
    (try k_sweep)
  dsimp only [CbLists]
  intro dp un gd cn cs a ccd cl outer A₀ base h₀ L m s Q E hB hF hX hN hT hk hsl hsi hsn hdp hun hret
  refine wpAny_call ?_
  k_dflt cell_enter
  clear hN
  have hsp := span_bounds hu
  repeat' ((fail_if_success (with_reducible show wpAny _ _ (exec (Stmt.For _ _ _ _ _) _) _ _ _)); first | (k_unfold; (try dsimp only)) | (k_end; wrow_close) | walk1 | (dsimp only; walk1) | (leave1; walk_say "STEP leave1"; try dsimp only) | fail "no step")
  k_here
  (rename Fr _ _ _ _ => lF')
  (with_unfolding_all refine' For_invVF lF' ?k1 ?k2 ?_; (case k1 => exact rfl); (case k2 => exact rfl); k_whole)
  repeat' ((fail_if_success (with_reducible show wpAny _ _ (pyIter _) _ _ _)); first | (k_unfold; (try dsimp only)) | (k_end; wrow_close) | walk1 | (dsimp only; walk1) | (leave1; walk_say "STEP leave1"; try dsimp only) | fail "no step")
  (rename Fr _ _ _ _ => lF)
  (rename News _ _ _ _ => lN)
  (rename IsRange _ _ _ _ _ _ _ _ => rgX)
  with_unfolding_all refine' stream_loop M (worth (spanOf u) rate oc) (by rfl) rgX lF lN (off_of_lt (by assumption)) (by rfl) (by rfl) ?turn ?done
  case turn =>
    intro now whole tn tw vs' n' all k tk u' h' tk' hk0 hk6 hl6 hnow hoff F' N'
    clear lF lN rgX
    k_steps
    all_goals
      show StreamEnd _ _ _ _ _ _ _ _ _ _ _ _
      (rename News _ _ _ _ => N9)
      (rename Fr _ _ _ _ => F9)
      (rename _ ∧ _ ∧ _ ∧ AllLt _ _ => hl9)
      simp only [List.push_toArray] at N9
      refine' StreamEnd.intro F9 N9 ?m1 ?m2 ?all hl9.2.1 (end_lt hl9).2 ?now ?whole ?rest ?step
      case step =>
        first
        | (refine' (step_of ?qqa ?qqb ?qqc ?qqd).1 ?qqe; (case qqc => assumption); (case qqd => assumption); (case qqb => assumption); (case qqa => assumption); (case qqe => assumption))
        | (refine' (step_of ?qqa ?qqb ?qqc ?qqd).2 ?qqe; (case qqc => assumption); (case qqd => assumption); (case qqb => assumption); (case qqa => assumption); (case qqe => assumption))
      case m1 => k_memK
      case m2 => k_memK
      case all => exact fun p hp => List.mem_cons_of_mem _ (List.mem_cons_of_mem _ (List.mem_cons_of_mem _ hp))
      case now => with_unfolding_all rfl
      case whole => with_unfolding_all rfl
      case rest =>
        intro z h1 h2 h3 h4
        simp only [streamNames, List.contains_cons, List.contains_nil, Bool.or_false, Bool.or_eq_false_iff, beq_eq_false_iff_ne, ne_eq] at h4
        simp [kstB, h1, h2, h3, h4]
  case done =>
    intro now whole tn tw vs' n' es tl u' h' tk' hes hl6 hch F' N'
    clear lF lN rgX
    k_steps
    (rename News _ _ _ _ => N9)
    refine hret _ _ _ _ (by assumption) N9 ⟨_, _, _, _, es, rfl, rfl, ?_, hes, hl6, hch⟩
    intro p hp
    rcases List.mem_cons.mp hp with rfl | hp
    · exact List.mem_cons_self ..
    · exact List.mem_cons_of_mem _ (List.mem_append.mpr (.inl hp))

section
abbrev holdNames : List Str := [Str.ofString "now", Str.ofString "length", Str.ofString "is_room", Str.ofString "whole"]
section
variable {prog : Program} {w : World} {A : Around} {E : Value → Shared → Prop} {s : Shared} {env : Env} {h₀ : Heap} {target : PySem.Expr} {body : List Stmt} {Q : Flow → Shared → Prop}
def HoldEnd (w : World) (h₀ : Heap) (L dx : Addr) (all : List (Addr × Obj)) (m₀ : Str → Option Value) (ov : Bool) (rate : Int) (u : Str) (burst : Int) (oc : Bool) (M put : Int) (e : Ent) (s₁ s₂ : Shared) : Prop :=
  ∃ h' tk' m' news' o' tok' last', s₂ = { s₁ with heap := h', toks := tk' } ∧ Fr h₀ L h' m' ∧ News h₀ L h' news' ∧ (dx, o') ∈ news' ∧ (∀ p ∈ all, p ∈ news') ∧ CelIs w o' ov rate u burst oc M tok' last' ∧ Ready M e.whole put e.now tok' last' ∧
    ∀ z, holdNames.contains z = false → m' z = m₀ z
def HoldTurn (w : World) (h₀ : Heap) (L dx : Addr) (all : List (Addr × Obj)) (m₀ : Str → Option Value) (ov : Bool) (rate : Int) (u : Str) (burst : Int) (oc : Bool) (M put : Int) (e : Ent) (s₁ : Shared) (Q : Flow → Shared → Prop) (f : Flow) (s₂ : Shared) : Prop :=
  match f with
  | .ret v => Q (.ret v) s₂
  | .brk => Q .next s₂
  | _ => HoldEnd w h₀ L dx all m₀ ov rate u burst oc M put e s₁ s₂
theorem HoldEnd.intro {L dx : Addr} {all news' : List (Addr × Obj)} {m₀ m' : Str → Option Value} {ov : Bool} {rate : Int} {u : Str} {burst : Int} {oc : Bool} {M put tok' last' : Int} {e : Ent} {s₁ : Shared} {h' : Heap} {tk' : Nat} {o' : Obj}
    (F : Fr h₀ L h' m') (N : News h₀ L h' news') (m1 : (dx, o') ∈ news') (ha : ∀ p ∈ all, p ∈ news') (hc : CelIs w o' ov rate u burst oc M tok' last') (hy : Ready M e.whole put e.now tok' last') (hr : ∀ z, holdNames.contains z = false → m' z = m₀ z) :
    HoldEnd w h₀ L dx all m₀ ov rate u burst oc M put e s₁ { s₁ with heap := h', toks := tk' } := ⟨h', tk', m', news', o', tok', last', rfl, F, N, m1, ha, hc, hy, hr⟩
theorem fr_off {L : Addr} {h : Heap} {names : List Str} {m m₀ : Str → Option Value} (hm : ∀ z, names.contains z = false → m z = m₀ z) (F : Fr h₀ L h m) : Fr h₀ L h (fun z => if names.contains z then m z else m₀ z) := by
  have e : (fun z => if names.contains z then m z else m₀ z) = m := by
    funext z
    cases hz : names.contains z with
    | true => simp
    | false => simp only [Bool.false_eq_true, if_false]; exact (hm z hz).symm
  rw [e]; exact F
theorem holds_items {I R S x dx : Addr} {lo oS ox : Obj} {rest : List (Addr × Obj)} {m₀ : Str → Option Value} {ov : Bool} {rate : Int} {u : Str} {burst : Int} {oc : Bool} {M put : Int} {cc : Int → Int}
    (hI : ∀ p ∈ (x, ox) :: (S, oS) :: (R, lo) :: rest, @LT.lt Nat _ p.1 I) (hdI : @LT.lt Nat _ dx I) (hoff : OwnOff ((x, ox) :: (S, oS) :: (R, lo) :: rest) [dx])
    (turn : ∀ (e : Ent) (T : Addr) (t1 t2 t3 : Tok) (nT : Nat) (o : Obj) (tok last n W : Int) (rest₁ : List (Addr × Obj)) (m₁ : Str → Option Value) (h : Heap) (tk : Nat),
      OwnOff ((T, tup4 e t1 t2 t3 nT) :: (S, oS) :: rest₁) [dx] → CelIs w o ov rate u burst oc M tok last → Ready M W put n tok last → Step M cc n W e →
      Fr h₀ env.locals h (fun z => if holdNames.contains z then m₁ z else m₀ z) → News h₀ env.locals h ((dx, o) :: (x, ox) :: (T, tup4 e t1 t2 t3 nT) :: (S, oS) :: rest₁) →
      wpAny (model prog w) A (assign target env (.ref T)) (fun _ s₂ => wpAny (model prog w) A (execs body env) (HoldTurn w h₀ env.locals dx ((x, ox) :: (T, tup4 e t1 t2 t3 nT) :: (S, oS) :: rest₁) m₀ ov rate u burst oc M put e { s with heap := h, toks := tk } Q) E s₂) E { s with heap := h, toks := tk })
    (done : ∀ (o : Obj) (tok last : Int) (m₁ : Str → Option Value) (h : Heap) (tk : Nat), CelIs w o ov rate u burst oc M tok last → Fr h₀ env.locals h (fun z => if holdNames.contains z then m₁ z else m₀ z) → News h₀ env.locals h ((dx, o) :: (x, ox) :: (S, oS) :: (R, lo) :: rest) → Q .next { s with heap := h, toks := tk }) :
    ∀ (vs : List Value) (es : List Ent) (o : Obj) (tok last n W : Int) (m : Str → Option Value), EntsIn rest vs es → Chain M cc n W es → CelIs w o ov rate u burst oc M tok last → Ready M W put n tok last → (∀ z, holdNames.contains z = false → m z = m₀ z) →
      ItemsRest prog w A E h₀ env target body Q s [(I, "list_iterator")] [(R, lo)] (vs.map .val) m ((dx, o) :: (x, ox) :: (S, oS) :: (R, lo) :: rest) := by
  intro vs
  induction vs with
  | nil =>
    intro es o tok last n W m _ _ hc _ hm h tk F N
    exact done o tok last m h tk hc (fr_off hm F) N
  | cons v vs ih =>
    intro es o tok last n W m hes hch hc hy hm
    cases es with
    | nil => exact hes.elim
    | cons e es =>
      obtain ⟨⟨T, t1, t2, t3, nT, rfl, hT⟩, hes⟩ := hes
      obtain ⟨hst, hch⟩ := hch
      intro v' h tk hv F oI hoI N
      have hv : v' = .ref T := hv
      subst hv
      have N : News h₀ env.locals h ((I, oI) :: (dx, o) :: (x, ox) :: (S, oS) :: (R, lo) :: rest) := N
      have ho' : OwnOff ((T, tup4 e t1 t2 t3 nT) :: (S, oS) :: (I, oI) :: (R, lo) :: rest) [dx] :=
        List.forall_mem_cons.mpr ⟨hoff _ (.tail _ (.tail _ (.tail _ hT))), List.forall_mem_cons.mpr ⟨hoff _ (.tail _ (.head _)), List.forall_mem_cons.mpr ⟨fun b hb => List.mem_singleton.mp hb ▸ (Nat.ne_of_lt hdI).symm, List.forall_mem_cons.mpr ⟨hoff _ (.tail _ (.tail _ (.head _))), fun p hp => hoff p (.tail _ (.tail _ (.tail _ hp)))⟩⟩⟩⟩
      have N' : News h₀ env.locals h ((dx, o) :: (x, ox) :: (T, tup4 e t1 t2 t3 nT) :: (S, oS) :: (I, oI) :: (R, lo) :: rest) :=
        List.forall_mem_cons.mpr ⟨N _ (.tail _ (.head _)), List.forall_mem_cons.mpr ⟨N _ (.tail _ (.tail _ (.head _))), List.forall_mem_cons.mpr ⟨N _ (.tail _ (.tail _ (.tail _ (.tail _ (.tail _ hT))))), List.forall_mem_cons.mpr ⟨N _ (.tail _ (.tail _ (.tail _ (.head _)))), List.forall_mem_cons.mpr ⟨N _ (.head _), List.forall_mem_cons.mpr ⟨N _ (.tail _ (.tail _ (.tail _ (.tail _ (.head _))))), fun p hp => N p (.tail _ (.tail _ (.tail _ (.tail _ (.tail _ hp)))))⟩⟩⟩⟩⟩⟩
      refine wpAny_mono (turn e T t1 t2 t3 nT o tok last n W ((I, oI) :: (R, lo) :: rest) m h tk ho' hc hy hst (fr_off hm F) N') (fun _ s₂ h₂ => wpAny_mono h₂ (fun f s₃ p => ?_) fun _ _ e => e) fun _ _ e => e
      have fin : HoldEnd w h₀ env.locals dx ((x, ox) :: (T, tup4 e t1 t2 t3 nT) :: (S, oS) :: (I, oI) :: (R, lo) :: rest) m₀ ov rate u burst oc M put e { s with heap := h, toks := tk } s₃ →
          UnrEndW h₀ env.locals { s with heap := h, toks := tk } [(I, oI)] (fun m' n' => SubL [(R, lo)] n' ∧ ItemsRest prog w A E h₀ env target body Q s [(I, "list_iterator")] [(R, lo)] (vs.map .val) m' n') s₃ := by
        rintro ⟨h', tk', m', news', o', tok', last', rfl, F', N', hm1, ha, hc', hy', hr'⟩
        refine ⟨h', tk', m', (dx, o') :: (x, ox) :: (S, oS) :: (R, lo) :: rest, rfl, F', ?_, ?_, ⟨?_, trivial⟩, ih es o' tok' last' e.now e.whole m' hes hch hc' hy' hr'⟩
        · exact List.forall_mem_cons.mpr ⟨N' _ (ha _ (.tail _ (.tail _ (.tail _ (.head _))))), List.forall_mem_cons.mpr ⟨N' _ hm1, List.forall_mem_cons.mpr ⟨N' _ (ha _ (.head _)), List.forall_mem_cons.mpr ⟨N' _ (ha _ (.tail _ (.tail _ (.head _)))), fun p hp => N' p (ha p (.tail _ (.tail _ (.tail _ (.tail _ hp)))))⟩⟩⟩⟩
        · intro p hp q hq
          rw [List.mem_singleton.mp hq]
          rcases List.mem_cons.mp hp with rfl | hp
          · exact Nat.ne_of_lt hdI
          · exact Nat.ne_of_lt (hI p hp)
        · exact List.mem_cons_of_mem _ (List.mem_cons_of_mem _ (List.mem_cons_of_mem _ (List.mem_cons_self ..)))
      cases f with
      | ret v => exact p
      | brk => exact p
      | next => exact fin p
      | cont => exact fin p
theorem holds_loop {R S x dx : Addr} {oS ox o : Obj} {rest : List (Addr × Obj)} {m₀ : Str → Option Value} {ov : Bool} {rate : Int} {u : Str} {burst : Int} {oc : Bool} {M put tok last n W : Int} {cc : Int → Int} {vs : List Value} {es : List Ent} {nn : Nat}
    (hh : A.handled = none) (F : Fr h₀ env.locals s.heap m₀) (N : News h₀ env.locals s.heap ((dx, o) :: (x, ox) :: (S, oS) :: (R, listOf vs.toArray nn) :: rest)) (hoff : OwnOff ((x, ox) :: (S, oS) :: (R, listOf vs.toArray nn) :: rest) [dx])
    (hes : EntsIn rest vs es) (hch : Chain M cc n W es) (hc : CelIs w o ov rate u burst oc M tok last) (hy : Ready M W put n tok last)
    (turn : ∀ (e : Ent) (T : Addr) (t1 t2 t3 : Tok) (nT : Nat) (o : Obj) (tok last n W : Int) (rest₁ : List (Addr × Obj)) (m₁ : Str → Option Value) (h : Heap) (tk : Nat),
      OwnOff ((T, tup4 e t1 t2 t3 nT) :: (S, oS) :: rest₁) [dx] → CelIs w o ov rate u burst oc M tok last → Ready M W put n tok last → Step M cc n W e →
      Fr h₀ env.locals h (fun z => if holdNames.contains z then m₁ z else m₀ z) → News h₀ env.locals h ((dx, o) :: (x, ox) :: (T, tup4 e t1 t2 t3 nT) :: (S, oS) :: rest₁) →
      wpAny (model prog w) A (assign target env (.ref T)) (fun _ s₂ => wpAny (model prog w) A (execs body env) (HoldTurn w h₀ env.locals dx ((x, ox) :: (T, tup4 e t1 t2 t3 nT) :: (S, oS) :: rest₁) m₀ ov rate u burst oc M put e { s with heap := h, toks := tk } Q) E s₂) E { s with heap := h, toks := tk })
    (done : ∀ (o : Obj) (tok last : Int) (m₁ : Str → Option Value) (h : Heap) (tk : Nat), CelIs w o ov rate u burst oc M tok last → Fr h₀ env.locals h (fun z => if holdNames.contains z then m₁ z else m₀ z) → News h₀ env.locals h ((dx, o) :: (x, ox) :: (S, oS) :: (R, listOf vs.toArray nn) :: rest) → Q .next { s with heap := h, toks := tk }) :
    wpAny (model prog w) A (pyIter (.ref R)) (fun it s₂ => TurnsAt prog w A h₀ env target body Q E it s₂) E s := by
  refine iter_listTurns (lo := listOf vs.toArray nn) (vs := vs) hh F N (List.mem_cons_of_mem _ (List.mem_cons_of_mem _ (List.mem_cons_of_mem _ (List.mem_cons_self ..)))) rfl rfl fun I hI => ?_
  exact holds_items (fun p hp => hI p (List.mem_cons_of_mem _ hp)) (hI _ (List.mem_cons_self ..)) hoff turn done vs es o tok last n W m₀ hes hch hc hy fun _ _ => rfl
end
end
theorem told_eq {ov room b : Bool} (h : b = toldOf ov room) : b = (room != ov) := by
  subst h
  cases ov <;> cases room <;> rfl
def holdsPost (w : World) (rest : List (Addr × Obj)) (x dx : Addr) (ov : Bool) (rate : Int) (u : Str) (burst : Int) (oc : Bool) (most : Int) (r : Value) (nx : List (Addr × Obj)) : Prop :=
  ∃ o' tok last, r = .bool true ∧ nx = (dx, o') :: (x, instObj 119 dx) :: rest ∧ CelIs w o' ov rate u burst oc most tok last
set_option maxHeartbeats 4000000 in
theorem holds_con {w : World} {mean : ExcName → Option Value} {mg mb : Str → Option Value} {rest : List (Addr × Obj)} {x dx S R : Addr} {o : Obj} {vs : List Value} {es : List Ent} {nn : Nat} {ov : Bool} {rate : Int} {u : Str} {burst : Int} {oc : Bool} {M put : Int} {few : Bool} {t0 t1 t2 t3 t4 t5 : Tok} {c : Nat}
   (ho : CelIs w o ov rate u burst oc M M 0) (hx : @LT.lt Nat _ dx x) (hoff : OwnOff ((x, instObj 119 dx) :: (S, stm ov rate u burst oc t0 t1 t2 t3 c) :: (R, listOf vs.toArray nn) :: rest) [dx]) (hes : EntsIn rest vs es) (hch : Chain M (worth (spanOf u) rate oc) 0 0 es) (hr : 1 ≤ rate) (hR : rate ≤ 1000000000000) (hu : isUnit u) (hput : 0 ≤ put) :
    Con w mean mg mb 4 214 [] ((dx, o) :: (x, instObj 119 dx) :: (S, stm ov rate u burst oc t0 t1 t2 t3 c) :: (R, listOf vs.toArray nn) :: rest) [.ref x, .ref S, .int M t4, .ref R, .bool few, .int put t5]
      (holdsPost w ((S, stm ov rate u burst oc t0 t1 t2 t3 c) :: (R, listOf vs.toArray nn) :: rest) x dx ov rate u burst oc M) := by
  unfold Con
  k_fill
  k_with_none
  k_with "binaryOp FloorDiv int int" =>
    k_here
    (with_reducible show wpAny _ _ (binaryOp Operator.FloorDiv (Value.int _ _) (Value.int _ _)) _ _ _)
    (with_reducible refine my_floordiv ?_ ?_ ?_)
    · omega
    · omega
  k_with "binaryOp Mod int int" =>
    k_here
    (with_reducible show wpAny _ _ (binaryOp Operator.Mod (Value.int _ _) (Value.int _ _)) _ _ _)
    (with_reducible refine my_mod ?_ ?_)
    · omega
  k_with "binaryOp Pow int int" =>
    k_here
    first
    | (with_reducible refine my_pow 10 9 1000000000 (by decide) (by decide) (by decide) (by decide) ?_)
    | (with_reducible refine my_pow 10 6 1000000 (by decide) (by decide) (by decide) (by decide) ?_)
    | (with_reducible refine my_pow 10 12 1000000000000 (by decide) (by decide) (by decide) (by decide) ?_)
    | (with_reducible refine my_pow 10 15 1000000000000000 (by decide) (by decide) (by decide) (by decide) ?_)
  k_with "execs cons" =>
    k_here
    (with_reducible show wpAny _ _ (execs _ _) _ _ (Shared.mk _ _ _ (_ + _) _))
    (with_reducible refine gen_toks ?_)
    intro tk8
  k_with "subscriptTail List cons BinOp ref int" =>
    k_here
    (with_reducible show wpAny _ _ (subscriptTail _ _ (Value.ref _) (Value.int _ _)) _ _ _)
    k_dflt (refine item_anyK (by is_list) (by l_ints) (by l_idx) (by l_idx) (by l_idx) ?_; k_whole)
    intro _
  k_with "subscriptTail List cons Name ref int" =>
    k_here
    (with_reducible show wpAny _ _ (subscriptTail _ _ (Value.ref _) (Value.int _ _)) _ _ _)
    k_dflt (refine item_anyK (by is_list) (by l_ints) (by l_idx) (by l_idx) (by l_idx) ?_; k_whole)
    intro _
  k_with "getItem ref str" =>
    k_here
    (with_reducible show wpAny _ _ (getItem (Value.ref _) (Value.str _ _)) _ _ _)
    dsimp only
    (rename isUnit _ => hu9)
    with_unfolding_all first
    | (refine my_getUnit spanOf hu9 (by k_tabat) rfl rfl rfl rfl rfl (by decide +kernel) ?_; intro _)
    | (refine my_getUnit secsOf hu9 (by k_tabat) rfl rfl rfl rfl rfl (by decide +kernel) ?_; intro _)
  k_with "compareOp NotIn str ref" =>
    k_here
    (with_reducible show wpAny _ _ (compareOp CmpOp.NotIn (Value.str _ _) (Value.ref _)) _ _ _)
    dsimp only
    (rename isUnit _ => hu9)
    with_unfolding_all (refine my_notinUnit hu9 (by k_tabat) rfl rfl rfl rfl rfl ?_)
  k_with "subscriptTail Name Name ref str" =>
    k_here
    (with_reducible show wpAny _ _ (subscriptTail _ _ (Value.ref _) (Value.str _ _)) _ _ _)
    dsimp only
    (rename isUnit _ => hu9)
    with_unfolding_all (refine my_itemUnit secsOf hu9 (by k_tabat) rfl rfl rfl rfl rfl (by decide +kernel) rfl (fun _ => rfl) ?_; intro _)
  k_with "call ref" =>
    k_here
    (with_reducible show wpAny _ _ (call (Value.ref 56) _) _ _ _)
    exfalso
    first | omega | (simp_all; done) | (simp_all; omega)
  k_with "call ref" =>
    k_here
    (with_reducible show wpAny _ _ (call (Value.ref 179) _) _ _ _)
    k_dflt (refine Con.useI (by k_asm) (by k_asm) (by k_asm) (by k_asm) (by k_asm) (by first | exact rfl | assumption) (worth_con (by k_mem) (by first | assumption | omega) (by first | assumption | omega) (by assumption)) (by ktr_room) (by ktr_units) ?_; k_whole)
    intro t9 h9 tk9 F9 N9
    (try dsimp only)
    (try k_fold)
  k_with "call ref" =>
    k_here
    (with_reducible show wpAny _ _ (call (Value.ref 200) _) _ _ _)
    k_dflt (refine Con.useI (by k_asm) (by k_asm) (by k_asm) (by k_asm) (by k_asm) (by first | exact rfl | assumption) left_con (by ktr_room) (by ktr_units) ?_; k_whole)
    intro t9 h9 tk9 F9 N9
    (try dsimp only)
    (try k_fold)
  k_with "call ref" =>
    k_here
    (with_reducible show wpAny _ _ (call (Value.ref 137) _) _ _ _)
    k_dflt (refine Con.useI (by k_asm) (by k_asm) (by k_asm) (by k_asm) (by k_asm) (by first | exact rfl | assumption) (cost_con (by k_mem) (by k_mem) (by first | with_reducible assumption | exact ⟨_, _, _, _, _, _, _, _, _, _, _, _, _, _, _, _, _, _, _, _, rfl, rfl, rfl, rfl, rfl⟩) (by first | assumption | omega) (by first | assumption | omega) (by assumption)) (by ktr_room) (by ktr_units) ?_; k_whole)
    intro t9 h9 tk9 F9 N9
    (try dsimp only)
    (try k_fold)
  k_with "call ref" =>
    k_here
    (with_reducible show wpAny _ _ (call (Value.ref 207) _) _ _ _)
    k_dflt (refine Con.use (by k_asm) (by k_asm) (by k_asm) (by k_asm) (by k_asm) (by first | exact rfl | assumption) (shown_con (by assumption) (by assumption) (by assumption) (by first | assumption | omega) (by first | assumption | omega) (by assumption) (by first | assumption | exact told_eq (by assumption)) (by assumption)) (by ktr_room) (by ktr_units) ?_; k_whole)
    k_dflt (intro r9 nx9 h9 tk9 F9 N9 p9; (obtain ⟨o9, er9, en9, ho9⟩ := p9); subst er9 en9)
    (try dsimp only)
    (try k_fold)
  dsimp only [CbLists]
  intro dp un gd cn cs a ccd cl outer A₀ base h₀ L m s Q E hB hF hX hN hT hk hdp hun hret
  refine wpAny_call ?_
  k_dflt cell_enter
  clear hN
  have hsp := span_bounds hu
  repeat' ((fail_if_success (with_reducible show wpAny _ _ (exec (Stmt.For _ _ _ _ _) _) _ _ _)); first | (k_unfold; (try dsimp only)) | (k_end; wrow_close) | walk1 | (dsimp only; walk1) | (leave1; walk_say "STEP leave1"; try dsimp only) | fail "no step")
  k_here
  (rename Fr _ _ _ _ => lF')
  (with_unfolding_all refine' For_turns lF' ?_; k_whole)
  repeat' ((fail_if_success (with_reducible show wpAny _ _ (pyIter _) _ _ _)); first | (k_unfold; (try dsimp only)) | (k_end; wrow_close) | walk1 | (dsimp only; walk1) | (leave1; walk_say "STEP leave1"; try dsimp only) | fail "no step")
  (rename Fr _ _ _ _ => lF)
  (rename News _ _ _ _ => lN)
  with_unfolding_all refine' holds_loop (by rfl) lF lN hoff hes hch ho (ready_start hput) ?turn ?done
  case turn =>
    intro e T t1' t2' t3' nT o' tok last n W rest₁ m₁ h tk hoff' ho' hy hst F' N'
    clear lF lN ho
    have hA := (ready_let (ov := ov) hy hst.1 hst.2.1).1
    have hB := (ready_let (ov := ov) hy hst.1 hst.2.1).2.1
    have hC := (ready_let (ov := ov) hy hst.1 hst.2.1).2.2
    have hL := ready_later hy hst.1
    rw [← hst.2.2.1] at hA hB hC
    rw [← hst.2.2.2] at hB hC
    have hW : e.room = false → Ready M e.whole put e.now tok last := by
      intro h0
      have := hst.2.2.2
      rw [h0] at this
      rw [this]
      exact hL
    clear hL hst hy
    k_steps
    all_goals first
      | ((rename (_ : Int) ≠ _ => hne9); exact absurd rfl hne9)
      | (show HoldEnd _ _ _ _ _ _ _ _ _ _ _ _ _ _ _ _
         (rename News _ _ _ _ => N9)
         (rename Fr _ _ _ _ => F9)
         refine' HoldEnd.intro F9 N9 ?m1 ?all ?hc ?hy ?rest
         (case m1 => k_memK)
         (case all => exact fun p hp => List.mem_cons_of_mem _ hp)
         (case hc => assumption)
         (case hy => first | exact hC | exact hW (by assumption))
         (case rest =>
           intro z hz
           simp only [holdNames, List.contains_cons, List.contains_nil, Bool.or_false, Bool.or_eq_false_iff, beq_eq_false_iff_ne, ne_eq] at hz
           simp [hz]))
  case done =>
    intro o' tok last m₁ h tk ho' F' N'
    clear lF lN
    k_steps
    (rename News _ _ _ _ => N9)
    exact hret _ _ _ _ (by assumption) N9 ⟨_, _, _, rfl, rfl, ho'⟩

section
theorem mem_grow {rest tl own : List (Addr × Obj)} {p : Addr × Obj} (h : p ∈ rest ++ tl) : p ∈ rest ++ (tl ++ own) :=
  (List.mem_append.mp h).elim (fun h => List.mem_append_left _ h) fun h => List.mem_append_right _ (List.mem_append_left _ h)
theorem off_more {q1 q2 : Addr × Obj} {dx : Addr} {bs : List Addr} {rest tl own : List (Addr × Obj)} (hoff : OwnOff (q1 :: q2 :: rest) [dx]) (hofs : OwnOff (tl ++ own) (dx :: bs)) : OwnOff (q1 :: q2 :: (rest ++ (tl ++ own))) [dx] := by
  intro p hp b hb
  have hp : p ∈ (q1 :: q2 :: rest) ++ (tl ++ own) := hp
  exact (List.mem_append.mp hp).elim (fun h => hoff p h b hb) fun h => hofs p h b (List.mem_singleton.mp hb ▸ List.mem_cons_self ..)
abbrev cutNames : List Str := [Str.ofString "wait", Str.ofString "octets", Str.ofString "worth", Str.ofString "left"]
abbrev tornNames : List Str := [Str.ofString "now", Str.ofString "length", Str.ofString "is_room", Str.ofString "whole", Str.ofString "i", Str.ofString "wait", Str.ofString "octets", Str.ofString "worth", Str.ofString "left"]
structure CutS where
  at' : Int
  ta : Tok
  o : Obj
structure TornS where
  at' : Int
  full : Int
  mv : Int
  ta : Tok
  tf : Tok
  tm : Tok
  o : Obj
section
variable {prog : Program} {w : World} {A : Around} {E : Value → Shared → Prop} {s : Shared} {env : Env} {h₀ : Heap} {body : List Stmt} {Q : Flow → Shared → Prop}
def CutEnd (w : World) (h₀ : Heap) (L dx : Addr) (all : List (Addr × Obj)) (m₀ : Str → Option Value) (ov : Bool) (rate : Int) (u : Str) (burst : Int) (oc : Bool) (M full mv now : Int) (s₁ s₂ : Shared) : Prop :=
  ∃ h' tk' m' news' o' tok' last' a' ta', s₂ = { s₁ with heap := h', toks := tk' } ∧ Fr h₀ L h' m' ∧ News h₀ L h' news' ∧ (dx, o') ∈ news' ∧ (∀ p ∈ all, p ∈ news') ∧ CelIs w o' ov rate u burst oc M tok' last' ∧ Ready M full mv a' tok' last' ∧ a' ≤ now ∧
    m' (Str.ofString "at") = some (.int a' ta') ∧ ∀ z, z ≠ Str.ofString "i" → z ≠ Str.ofString "at" → cutNames.contains z = false → m' z = m₀ z
def CutTurn (w : World) (h₀ : Heap) (L dx : Addr) (all : List (Addr × Obj)) (m₀ : Str → Option Value) (ov : Bool) (rate : Int) (u : Str) (burst : Int) (oc : Bool) (M full mv now : Int) (s₁ : Shared) (Q : Flow → Shared → Prop) (f : Flow) (s₂ : Shared) : Prop :=
  match f with
  | .ret v => Q (.ret v) s₂
  | .brk => Q .next s₂
  | _ => CutEnd w h₀ L dx all m₀ ov rate u burst oc M full mv now s₁ s₂
theorem CutEnd.intro {L dx : Addr} {all news' : List (Addr × Obj)} {m₀ m' : Str → Option Value} {ov : Bool} {rate : Int} {u : Str} {burst : Int} {oc : Bool} {M full mv now tok' last' a' : Int} {s₁ : Shared} {h' : Heap} {tk' ta' : Nat} {o' : Obj}
    (F : Fr h₀ L h' m') (N : News h₀ L h' news') (m1 : (dx, o') ∈ news') (ha : ∀ p ∈ all, p ∈ news') (hc : CelIs w o' ov rate u burst oc M tok' last') (hy : Ready M full mv a' tok' last') (hn : a' ≤ now) (hat : m' (Str.ofString "at") = some (.int a' ta'))
    (hr : ∀ z, z ≠ Str.ofString "i" → z ≠ Str.ofString "at" → cutNames.contains z = false → m' z = m₀ z) :
    CutEnd w h₀ L dx all m₀ ov rate u burst oc M full mv now s₁ { s₁ with heap := h', toks := tk' } := ⟨h', tk', m', news', o', tok', last', a', ta', rfl, F, N, m1, ha, hc, hy, hn, hat, hr⟩
theorem cut_loop {r T S x dx : Addr} {oT oS ox o₀ : Obj} {rest : List (Addr × Obj)} {m₀ : Str → Option Value} {ta₀ t₀ u₀ v₀ : Tok} {ov : Bool} {rate : Int} {u : Str} {burst : Int} {oc : Bool} {M full mv now at₀ tok₀ last₀ : Int}
    (hh : A.handled = none) (hr : IsRange s.heap r 0 2 1 t₀ u₀ v₀) (F : Fr h₀ env.locals s.heap m₀) (N : News h₀ env.locals s.heap ((dx, o₀) :: (x, ox) :: (T, oT) :: (S, oS) :: rest)) (hoff : OwnOff ((T, oT) :: (S, oS) :: rest) [dx])
    (hat : m₀ (Str.ofString "at") = some (.int at₀ ta₀)) (hc : CelIs w o₀ ov rate u burst oc M tok₀ last₀) (hy : Ready M full mv at₀ tok₀ last₀) (hle : at₀ ≤ now)
    (turn : ∀ (i : Int) (t : Tok) (at' : Int) (ta : Tok) (o : Obj) (tok last : Int) (rest₂ : List (Addr × Obj)) (m₁ : Str → Option Value) (h : Heap) (tk : Nat), 0 ≤ i → i < 2 → at' ≤ now → OwnOff ((T, oT) :: (S, oS) :: rest₂) [dx] → CelIs w o ov rate u burst oc M tok last → Ready M full mv at' tok last →
      Fr h₀ env.locals h (fun y => if y = Str.ofString "i" then some (.int i t) else kstB (fun z => if cutNames.contains z then m₁ z else m₀ z) [(Str.ofString "at", .int at' ta)] y) → News h₀ env.locals h ((dx, o) :: (x, ox) :: (T, oT) :: (S, oS) :: rest₂) →
      wpAny (model prog w) A (execs body env) (CutTurn w h₀ env.locals dx ((x, ox) :: (T, oT) :: (S, oS) :: rest₂) m₀ ov rate u burst oc M full mv now { s with heap := h, toks := tk } Q) E { s with heap := h, toks := tk })
    (done : ∀ (at' : Int) (ta : Tok) (o : Obj) (tok last : Int) (m₁ : Str → Option Value) (h : Heap) (tk : Nat), at' ≤ now → CelIs w o ov rate u burst oc M tok last → Ready M full mv at' tok last →
      Fr h₀ env.locals h (fun y => if y = Str.ofString "i" then m₁ y else kstB (fun z => if cutNames.contains z then m₁ z else m₀ z) [(Str.ofString "at", .int at' ta)] y) → News h₀ env.locals h ((dx, o) :: (x, ox) :: (T, oT) :: (S, oS) :: rest) → Q .next { s with heap := h, toks := tk }) :
    wpAny (model prog w) A (pyIter (.ref r)) (fun it s₂ => LoopAtV prog w A h₀ env (Str.ofString "i") body Q E it s₂) E s := by
  refine kd_range (σ := CutS) (n := 2) (fun c => [(dx, c.o)]) ((x, ox) :: (T, oT) :: (S, oS) :: rest) (fun c => [(Str.ofString "at", .int c.at' c.ta)]) (fun _ _ => True)
    cutNames (fun _ c => c.at' ≤ now ∧ ∃ tok last, CelIs w c.o ov rate u burst oc M tok last ∧ Ready M full mv c.at' tok last) (dx :: ((x, ox) :: (T, oT) :: (S, oS) :: rest).map (·.1)) ⟨at₀, ta₀, o₀⟩ hh hr (by decide) (by rfl) F N ?_ (fun c => rfl) trivial ?_ ⟨hle, tok₀, last₀, hc, hy⟩ ?_ ?_
  · intro p hp
    simpa using hp
  · intro p hp
    rw [List.mem_singleton.mp hp]; exact hat
  · rintro ⟨at', ta, o⟩ tl pre k t m₁ h tk own hk hpre hsep hofs _ ⟨hle', tok, last, hc', hy'⟩ F₁ N₁
    dsimp only at *
    refine wpAny_mono (turn k t at' ta o tok last (rest ++ (tl ++ own)) m₁ h tk (by omega) (by omega) hle' ?_ hc' hy' F₁ N₁) (fun f s₂ p => ?_) fun _ _ e => e
    · exact off_more hoff hofs
    · have fin : CutEnd w h₀ env.locals dx ((x, ox) :: (T, oT) :: (S, oS) :: (rest ++ (tl ++ own))) m₀ ov rate u burst oc M full mv now { s with heap := h, toks := tk } s₂ →
          InvEndG h₀ env.locals (KdS (fun c : CutS => [(dx, c.o)]) ((x, ox) :: (T, oT) :: (S, oS) :: rest) (fun c => [(Str.ofString "at", .int c.at' c.ta)]) (fun _ _ => True) (Str.ofString "i") cutNames m₀ (fun (_ : List Int) c => c.at' ≤ now ∧ ∃ tok last, CelIs w c.o ov rate u burst oc M tok last ∧ Ready M full mv c.at' tok last) (dx :: ((x, ox) :: (T, oT) :: (S, oS) :: rest).map (·.1)) (pre ++ [k])) own { s with heap := h, toks := tk } s₂ := by
        rintro ⟨h', tk', m', news', o', tok', last', a', ta', rfl, F', N', hm1, hall, hc2, hy2, hn2, hat2, hrest⟩
        refine kd_end (tl := tl) ⟨a', ta', o'⟩ [] hsep F' N' ?_ ?_ rfl (fun q hq => nomatch hq) (fun q hq => nomatch hq) ?_ ?_ trivial ⟨hn2, tok', last', hc2, hy2⟩
        · exact List.forall_mem_cons.mpr ⟨hm1, List.forall_mem_cons.mpr ⟨hall _ (.head _), List.forall_mem_cons.mpr ⟨hall _ (.tail _ (.head _)), List.forall_mem_cons.mpr ⟨hall _ (.tail _ (.tail _ (.head _))), fun p hp => hall p (.tail _ (.tail _ (.tail _ (mem_grow hp))))⟩⟩⟩⟩
        · intro p hp
          exact hall p (List.mem_cons_of_mem _ (List.mem_cons_of_mem _ (List.mem_cons_of_mem _ (List.mem_append.mpr (.inr (List.mem_append.mpr (.inr hp)))))))
        · intro p hp
          rw [List.mem_singleton.mp hp]; exact hat2
        · intro z h1 h2 h3
          exact hrest z h1 (h2 _ (List.mem_cons_self ..)) h3
      cases f with
      | ret v => exact p
      | brk => exact p
      | next => exact fin p
      | cont => exact fin p
  · rintro ⟨at', ta, o⟩ tl m₁ h tk ho _ ⟨hle', tok, last, hc', hy'⟩ F₁ N₁
    dsimp only at *
    have N₁ : News h₀ env.locals h ((dx, o) :: ((x, ox) :: (T, oT) :: (S, oS) :: rest ++ tl)) := N₁
    refine done at' ta o tok last m₁ h tk hle' hc' hy' F₁ fun p hp => N₁ p ?_
    rcases List.mem_cons.mp hp with rfl | hp
    · exact List.mem_cons_self ..
    · exact List.mem_cons_of_mem _ (List.mem_append.mpr (.inl hp))
def TornEnd (w : World) (h₀ : Heap) (L dx : Addr) (all : List (Addr × Obj)) (m₀ : Str → Option Value) (ov : Bool) (rate : Int) (u : Str) (burst : Int) (oc : Bool) (M mv : Int) (e : Ent) (s₁ s₂ : Shared) : Prop :=
  ∃ h' tk' m' news' o' tok' last' ta tf tm, s₂ = { s₁ with heap := h', toks := tk' } ∧ Fr h₀ L h' m' ∧ News h₀ L h' news' ∧ (dx, o') ∈ news' ∧ (∀ p ∈ all, p ∈ news') ∧ CelIs w o' ov rate u burst oc M tok' last' ∧ Ready M e.whole mv e.now tok' last' ∧
    m' (Str.ofString "at") = some (.int e.now ta) ∧ m' (Str.ofString "full") = some (.int e.whole tf) ∧ m' (Str.ofString "moved") = some (.int mv tm) ∧
    ∀ z, z ≠ Str.ofString "k" → z ≠ Str.ofString "at" → z ≠ Str.ofString "full" → z ≠ Str.ofString "moved" → tornNames.contains z = false → m' z = m₀ z
def TornTurn (w : World) (h₀ : Heap) (L dx : Addr) (all : List (Addr × Obj)) (m₀ : Str → Option Value) (ov : Bool) (rate : Int) (u : Str) (burst : Int) (oc : Bool) (M mv : Int) (e : Ent) (s₁ : Shared) (Q : Flow → Shared → Prop) (f : Flow) (s₂ : Shared) : Prop :=
  match f with
  | .ret v => Q (.ret v) s₂
  | .brk => Q .next s₂
  | _ => TornEnd w h₀ L dx all m₀ ov rate u burst oc M mv e s₁ s₂
theorem TornEnd.intro {L dx : Addr} {all news' : List (Addr × Obj)} {m₀ m' : Str → Option Value} {ov : Bool} {rate : Int} {u : Str} {burst : Int} {oc : Bool} {M mv tok' last' : Int} {e : Ent} {s₁ : Shared} {h' : Heap} {tk' ta tf tm : Nat} {o' : Obj}
    (F : Fr h₀ L h' m') (N : News h₀ L h' news') (m1 : (dx, o') ∈ news') (ha : ∀ p ∈ all, p ∈ news') (hc : CelIs w o' ov rate u burst oc M tok' last') (hy : Ready M e.whole mv e.now tok' last')
    (h1 : m' (Str.ofString "at") = some (.int e.now ta)) (h2 : m' (Str.ofString "full") = some (.int e.whole tf)) (h3 : m' (Str.ofString "moved") = some (.int mv tm))
    (hr : ∀ z, z ≠ Str.ofString "k" → z ≠ Str.ofString "at" → z ≠ Str.ofString "full" → z ≠ Str.ofString "moved" → tornNames.contains z = false → m' z = m₀ z) :
    TornEnd w h₀ L dx all m₀ ov rate u burst oc M mv e s₁ { s₁ with heap := h', toks := tk' } := ⟨h', tk', m', news', o', tok', last', ta, tf, tm, rfl, F, N, m1, ha, hc, hy, h1, h2, h3, hr⟩
def mvAt (k turn put : Int) : Int := if k ≤ turn then 0 else put
theorem torn_loop {r R S x dx : Addr} {oS ox o₀ : Obj} {nn : Nat} {rest : List (Addr × Obj)} {m₀ : Str → Option Value} {ta₀ tf₀ tm₀ t₀ u₀ v₀ : Tok} {ov : Bool} {rate : Int} {u : Str} {burst : Int} {oc : Bool} {M tok₀ last₀ turn put : Int} {cc : Int → Int} {vs : List Value} {es : List Ent}
    (hh : A.handled = none) (hr : IsRange s.heap r 0 6 1 t₀ u₀ v₀) (F : Fr h₀ env.locals s.heap m₀) (D : Addr) (oD : Obj) (N : News h₀ env.locals s.heap ((D, oD) :: (dx, o₀) :: (x, ox) :: (S, oS) :: (R, listOf vs.toArray nn) :: rest)) (hoff : OwnOff ((S, oS) :: (R, listOf vs.toArray nn) :: rest) [dx])
    (hat : m₀ (Str.ofString "at") = some (.int 0 ta₀)) (hfu : m₀ (Str.ofString "full") = some (.int 0 tf₀)) (hmo : m₀ (Str.ofString "moved") = some (.int 0 tm₀)) (hc : CelIs w o₀ ov rate u burst oc M tok₀ last₀) (hy : Ready M 0 0 0 tok₀ last₀)
    (hes : EntsIn rest vs es) (hl6 : es.length = 6) (hch : Chain M cc 0 0 es) (ht0 : 0 ≤ turn)
    (step : ∀ (e : Ent) (T : Addr) (t1 t2 t3 : Tok) (nT : Nat) (k : Int) (t : Tok) (at' full mv : Int) (ta tf tm : Tok) (o : Obj) (tok last : Int) (rest₁ : List (Addr × Obj)) (m₁ : Str → Option Value) (h : Heap) (tk : Nat), 0 ≤ k → k < 6 → vs[k.toNat]? = some (.ref T) → vs.length = 6 →
      OwnOff ((T, tup4 e t1 t2 t3 nT) :: (S, oS) :: (R, listOf vs.toArray nn) :: rest₁) [dx] → CelIs w o ov rate u burst oc M tok last → Ready M full mv at' tok last → Step M cc at' full e → mv = mvAt k turn put →
      Fr h₀ env.locals h (fun y => if y = Str.ofString "k" then some (.int k t) else kstB (fun z => if tornNames.contains z then m₁ z else m₀ z) [(Str.ofString "at", .int at' ta), (Str.ofString "full", .int full tf), (Str.ofString "moved", .int mv tm)] y) →
      News h₀ env.locals h ((dx, o) :: (x, ox) :: (T, tup4 e t1 t2 t3 nT) :: (S, oS) :: (R, listOf vs.toArray nn) :: rest₁) →
      wpAny (model prog w) A (execs body env) (TornTurn w h₀ env.locals dx ((x, ox) :: (T, tup4 e t1 t2 t3 nT) :: (S, oS) :: (R, listOf vs.toArray nn) :: rest₁) m₀ ov rate u burst oc M (mvAt (k + 1) turn put) e { s with heap := h, toks := tk } Q) E { s with heap := h, toks := tk })
    (done : ∀ (o : Obj) (tok last at' full mv : Int) (ta tf tm : Tok) (m₁ : Str → Option Value) (h : Heap) (tk : Nat), CelIs w o ov rate u burst oc M tok last →
      Fr h₀ env.locals h (fun y => if y = Str.ofString "k" then m₁ y else kstB (fun z => if tornNames.contains z then m₁ z else m₀ z) [(Str.ofString "at", .int at' ta), (Str.ofString "full", .int full tf), (Str.ofString "moved", .int mv tm)] y) →
      News h₀ env.locals h ((dx, o) :: (x, ox) :: (S, oS) :: (R, listOf vs.toArray nn) :: rest) → Q .next { s with heap := h, toks := tk }) :
    wpAny (model prog w) A (pyIter (.ref r)) (fun it s₂ => LoopAtV prog w A h₀ env (Str.ofString "k") body Q E it s₂) E s := by
  refine kd_range (σ := TornS) (n := 6) (fun c => [(dx, c.o)]) ((x, ox) :: (S, oS) :: (R, listOf vs.toArray nn) :: rest) (fun c => [(Str.ofString "at", .int c.at' c.ta), (Str.ofString "full", .int c.full c.tf), (Str.ofString "moved", .int c.mv c.tm)]) (fun _ _ => True)
    tornNames (fun pre c => (∃ tok last, CelIs w c.o ov rate u burst oc M tok last ∧ Ready M c.full c.mv c.at' tok last) ∧ Chain M cc c.at' c.full (es.drop pre.length) ∧ c.mv = mvAt (pre.length : Int) turn put) (dx :: ((x, ox) :: (S, oS) :: (R, listOf vs.toArray nn) :: rest).map (·.1)) ⟨0, 0, 0, ta₀, tf₀, tm₀, o₀⟩ hh hr (by decide) (by rfl) F N ?_ (fun c => rfl) trivial ?_ ⟨⟨tok₀, last₀, hc, hy⟩, hch, ?_⟩ ?_ ?_
  · intro p hp
    simp only [List.append_nil, List.singleton_append] at hp
    exact List.mem_cons_of_mem _ hp
  · intro p hp
    rcases List.mem_cons.mp hp with e | hp
    · rw [e]; exact hat
    rcases List.mem_cons.mp hp with e | hp
    · rw [e]; exact hfu
    · rw [List.mem_singleton.mp hp]; exact hmo
  · show (0 : Int) = mvAt 0 turn put
    unfold mvAt; rw [if_pos ht0]
  · rintro ⟨at', full, mv, ta, tf, tm, o⟩ tl pre k t m₁ h tk own hk hpre hsep hofs _ ⟨⟨tok, last, hc', hy'⟩, hch', hmv⟩ F₁ N₁
    dsimp only at *
    have N₁ : News h₀ env.locals h ((dx, o) :: ((x, ox) :: (S, oS) :: (R, listOf vs.toArray nn) :: rest ++ (tl ++ own))) := N₁
    have hlv := hes.length
    have hkn : k.toNat = pre.length := by omega
    have hvk : vs[k.toNat]? = some vs[k.toNat] := List.getElem?_eq_getElem (by omega)
    obtain ⟨pre', e, post, hes', hlp, T, t1, t2, t3, nT, hT, hTm⟩ := hes.get hvk
    rw [hT] at hvk
    have hdr : es.drop pre.length = e :: post := by
      rw [hes', ← hkn, ← hlp]; simp
    have hdr2 : es.drop (pre ++ [k]).length = post := by
      rw [List.length_append, List.length_singleton, hes', ← hkn, ← hlp]
      rw [List.drop_append]
      simp
    rw [hdr] at hch'
    have hTin : (T, tup4 e t1 t2 t3 nT) ∈ (S, oS) :: (R, listOf vs.toArray nn) :: rest := List.mem_cons_of_mem _ (List.mem_cons_of_mem _ hTm)
    have hofb : OwnOff ((T, tup4 e t1 t2 t3 nT) :: (S, oS) :: (R, listOf vs.toArray nn) :: (rest ++ (tl ++ own))) [dx] := List.forall_mem_cons.mpr ⟨hoff _ hTin, off_more hoff hofs⟩
    have N₂ : News h₀ env.locals h ((dx, o) :: (x, ox) :: (T, tup4 e t1 t2 t3 nT) :: (S, oS) :: (R, listOf vs.toArray nn) :: (rest ++ (tl ++ own))) :=
      List.forall_mem_cons.mpr ⟨N₁ _ (.head _), List.forall_mem_cons.mpr ⟨N₁ _ (.tail _ (.head _)), List.forall_mem_cons.mpr ⟨N₁ _ (.tail _ (.tail _ (.tail _ (.tail _ (List.mem_append_left _ hTm))))), fun p hp => N₁ p (.tail _ (.tail _ hp))⟩⟩⟩
    refine wpAny_mono (step e T t1 t2 t3 nT k t at' full mv ta tf tm o tok last (rest ++ (tl ++ own)) m₁ h tk (by omega) (by omega) hvk (by omega) hofb hc' hy' hch'.1 (by rw [hmv]; congr 1; omega) F₁ N₂) (fun f s₂ p => ?_) fun _ _ e => e
    have fin : TornEnd w h₀ env.locals dx ((x, ox) :: (T, tup4 e t1 t2 t3 nT) :: (S, oS) :: (R, listOf vs.toArray nn) :: (rest ++ (tl ++ own))) m₀ ov rate u burst oc M (mvAt (k + 1) turn put) e { s with heap := h, toks := tk } s₂ →
        InvEndG h₀ env.locals (KdS (fun c : TornS => [(dx, c.o)]) ((x, ox) :: (S, oS) :: (R, listOf vs.toArray nn) :: rest) (fun c => [(Str.ofString "at", .int c.at' c.ta), (Str.ofString "full", .int c.full c.tf), (Str.ofString "moved", .int c.mv c.tm)]) (fun _ _ => True) (Str.ofString "k") tornNames m₀ (fun (pre : List Int) c => (∃ tok last, CelIs w c.o ov rate u burst oc M tok last ∧ Ready M c.full c.mv c.at' tok last) ∧ Chain M cc c.at' c.full (es.drop pre.length) ∧ c.mv = mvAt (pre.length : Int) turn put) (dx :: ((x, ox) :: (S, oS) :: (R, listOf vs.toArray nn) :: rest).map (·.1)) (pre ++ [k])) own { s with heap := h, toks := tk } s₂ := by
      rintro ⟨h', tk', m', news', o', tok', last', ta', tf', tm', rfl, F', N', hm1, hall, hc2, hy2, hat2, hfu2, hmo2, hrest⟩
      refine kd_end (tl := tl) ⟨e.now, e.whole, mvAt (k + 1) turn put, ta', tf', tm', o'⟩ [] hsep F' N' ?_ ?_ rfl (fun q hq => nomatch hq) (fun q hq => nomatch hq) ?_ ?_ trivial ⟨⟨tok', last', hc2, hy2⟩, ?_, ?_⟩
      · exact List.forall_mem_cons.mpr ⟨hm1, List.forall_mem_cons.mpr ⟨hall _ (.head _), List.forall_mem_cons.mpr ⟨hall _ (.tail _ (.tail _ (.head _))), List.forall_mem_cons.mpr ⟨hall _ (.tail _ (.tail _ (.tail _ (.head _)))), fun p hp => hall p (.tail _ (.tail _ (.tail _ (.tail _ (mem_grow hp)))))⟩⟩⟩⟩
      · intro p hp
        exact hall p (List.mem_cons_of_mem _ (List.mem_cons_of_mem _ (List.mem_cons_of_mem _ (List.mem_cons_of_mem _ (List.mem_append.mpr (.inr (List.mem_append.mpr (.inr hp))))))))
      · intro p hp
        rcases List.mem_cons.mp hp with e | hp
        · rw [e]; exact hat2
        rcases List.mem_cons.mp hp with e | hp
        · rw [e]; exact hfu2
        · rw [List.mem_singleton.mp hp]; exact hmo2
      · intro z h1 h2 h3
        exact hrest z h1 (h2 _ (List.mem_cons_self ..)) (h2 _ (List.mem_cons_of_mem _ (List.mem_cons_self ..))) (h2 _ (List.mem_cons_of_mem _ (List.mem_cons_of_mem _ (List.mem_cons_self ..)))) h3
      · rw [hdr2]; exact hch'.2
      · show mvAt (k + 1) turn put = mvAt _ turn put
        congr 1
        rw [List.length_append, List.length_singleton]; omega
    cases f with
    | ret v => exact p
    | brk => exact p
    | next => exact fin p
    | cont => exact fin p
  · rintro ⟨at', full, mv, ta, tf, tm, o⟩ tl m₁ h tk ho _ ⟨⟨tok, last, hc', hy'⟩, _, _⟩ F₁ N₁
    dsimp only at *
    have N₁ : News h₀ env.locals h ((dx, o) :: ((x, ox) :: (S, oS) :: (R, listOf vs.toArray nn) :: rest ++ tl)) := N₁
    refine done o tok last at' full mv ta tf tm m₁ h tk hc' F₁ fun p hp => N₁ p ?_
    rcases List.mem_cons.mp hp with rfl | hp
    · exact List.mem_cons_self ..
    · exact List.mem_cons_of_mem _ (List.mem_append.mpr (.inl hp))
end
section
variable {prog : Program} {w : World} {A : Around} {E : Value → Shared → Prop} {s : Shared} {env : Env} {h₀ : Heap} {Q : Flow → Shared → Prop}
theorem fr_same {L : Addr} {h : Heap} {m : Str → Option Value} {x : Str} {v : Value} (F : Fr h₀ L h m) (e : m x = some v) : Fr h₀ L h (fun y => if y = x then some v else m y) := by
  have e2 : (fun y => if y = x then some v else m y) = m := by
    funext y
    by_cases hy : y = x
    · rw [if_pos hy, hy, e]
    · rw [if_neg hy]
  rw [e2]; exact F
theorem torn_cut {st : Stmt} {rest : List Stmt} {m3 : Str → Option Value} {dx : Addr} {o : Obj} {news1 : List (Addr × Obj)} (ov : Bool) (rate : Int) (u : Str) (burst : Int) (oc : Bool) (M full mvN at' : Int)
    (F : Fr h₀ env.locals s.heap m3) (N : News h₀ env.locals s.heap ((dx, o) :: news1))
    (first : ∀ (Q' : Flow → Shared → Prop), (∀ (h' : Heap) (tk' : Nat) (o2 : Obj) (tm2 : Tok) (tok last : Int), Fr h₀ env.locals h' (fun y => if y = Str.ofString "moved" then some (.int mvN tm2) else m3 y) → News h₀ env.locals h' ((dx, o2) :: news1) → CelIs w o2 ov rate u burst oc M tok last → Ready M full mvN at' tok last → Q' .next { s with heap := h', toks := tk' }) →
      wpAny (model prog w) A (exec st env) Q' E s)
    (tail : ∀ (h' : Heap) (tk' : Nat) (o2 : Obj) (tm2 : Tok) (tok last : Int), Fr h₀ env.locals h' (fun y => if y = Str.ofString "moved" then some (.int mvN tm2) else m3 y) → News h₀ env.locals h' ((dx, o2) :: news1) → CelIs w o2 ov rate u burst oc M tok last → Ready M full mvN at' tok last →
      wpAny (model prog w) A (execs rest env) Q E { s with heap := h', toks := tk' }) : wpAny (model prog w) A (execs (st :: rest) env) Q E s :=
  wpAny_execs_cons (first _ fun h' tk' o2 tm2 tok last a b c d => tail h' tk' o2 tm2 tok last a b c d)
end
section
variable {prog : Program} {w : World} {A : Around} {E : Value → Shared → Prop} {s : Shared} {Q : Value → Shared → Prop}
theorem my_pow6 {i : Int} {t u : Tok} (h0 : 0 ≤ i) (h1 : i < 2) (h : ∀ y, 1 ≤ y → y ≤ 6 → Q (.int y s.toks) { s with toks := s.toks + 1 }) :
    wpAny (model prog w) A (binaryOp .Pow (.int 6 t) (.int i u)) Q E s := by
  have e : i = 0 ∨ i = 1 := by omega
  rcases e with rfl | rfl
  · exact my_pow 6 0 1 (by decide) (by decide) (by decide) (by decide) (h 1 (by decide) (by decide))
  · exact my_pow 6 1 6 (by decide) (by decide) (by decide) (by decide) (h 6 (by decide) (by decide))
theorem my_item {h₀ : Heap} {L R T : Addr} {value slice : PySem.Expr} {vs : List Value} {news : List (Addr × Obj)} {nn : Nat} {k : Int} {u : Tok} (hx : vs[k.toNat]? = some (.ref T)) (N : News h₀ L s.heap news) (hm : (R, listOf vs.toArray nn) ∈ news) (h0 : 0 ≤ k) (hhi : k < 2 ^ 63) (h : Q (.ref T) s)
    (hs : subscripted slice false (.ref R) (.int k u) = operate [.ref R, .int k u] (getItem (.ref R) (.int k u)) := by with_unfolding_all rfl) :
    wpAny (model prog w) A (subscriptTail value slice (.ref R) (.int k u)) Q E s := by
  have hl : s.heap.IsList R vs.toArray := ⟨_, (N _ hm).1, rfl, nn, rfl⟩
  exact tail_any hl.typeIs slot_list_getitem.lookup (wpAny_getItem_list hl h0 hhi (by simpa using hx) h) hs
end
theorem add_cut {a now Z : Int} (h : a ≤ now) : a ≤ a + Z % (now - a + 1) ∧ a + Z % (now - a + 1) ≤ now := by
  have h1 := Int.emod_nonneg Z (b := now - a + 1) (by omega)
  have h2 := Int.emod_lt_of_pos Z (b := now - a + 1) (by omega)
  omega
section
variable {M W p n0 n c y tok last : Int} {ov : Bool}
theorem cut_due (hyy : Hid (y = c)) (hy : Ready M W p n0 tok last) (hn : n0 ≤ n) (hc : y = 0 ∨ M - max 0 (W - n * 1000000) < y) : letTold ov M tok last (n + p) c = (decide (y ≤ M - max 0 (W - n * 1000000)) != ov) := by
  have h := (ready_cut (ov := ov) (c := y) hy hn hc).1
  rw [← hyy.out, h]
  unfold leftOf toldOf
  cases ov <;> cases decide (y ≤ M - max 0 (W - n * 1000000)) <;> rfl
theorem cut_left (hyy : Hid (y = c)) (hy : Ready M W p n0 tok last) (hn : n0 ≤ n) (hc : y = 0 ∨ M - max 0 (W - n * 1000000) < y) : letTok M tok last (n + p) c = M - max 0 (W - n * 1000000) := by
  have h := (ready_cut (ov := true) (c := y) hy hn hc).2.1
  rw [← hyy.out, h]
  rfl
end
end
theorem told_eq' {ov room b : Bool} (h : b = toldOf ov room) : b = (room != ov) := told_eq h
set_option maxHeartbeats 4000000 in
theorem torn_con {w : World} {mean : ExcName → Option Value} {mg mb : Str → Option Value} {rest : List (Addr × Obj)} {x dx S R : Addr} {o : Obj} {vs : List Value} {es : List Ent} {nn : Nat} {ov : Bool} {rate : Int} {u : Str} {burst : Int} {oc : Bool} {M cuts turn put : Int} {t0 t1 t2 t3 t4 t5 t6 t7 : Tok} {c : Nat}
   (ho : CelIs w o ov rate u burst oc M M 0) (hx : @LT.lt Nat _ dx x) (hoff : OwnOff ((S, stm ov rate u burst oc t0 t1 t2 t3 c) :: (R, listOf vs.toArray nn) :: rest) [dx]) (hes : EntsIn rest vs es) (hl6 : es.length = 6) (hch : Chain M (worth (spanOf u) rate oc) 0 0 es) (hb : 0 ≤ burst) (hb2 : burst ≤ 3000) (hr : 1 ≤ rate) (hR : rate ≤ 1000000000000) (hu : isUnit u) (ht0 : 0 ≤ turn) (ht6 : turn < 6) :
    Con w mean mg mb 4 221 [] ((dx, o) :: (x, instObj 119 dx) :: (S, stm ov rate u burst oc t0 t1 t2 t3 c) :: (R, listOf vs.toArray nn) :: rest) [.ref x, .ref S, .int M t4, .ref R, .int cuts t5, .int turn t6, .int put t7]
      (holdsPost w ((S, stm ov rate u burst oc t0 t1 t2 t3 c) :: (R, listOf vs.toArray nn) :: rest) x dx ov rate u burst oc M) := by
  unfold Con
  k_fill
  k_with_none
  k_with "binaryOp FloorDiv int int" =>
    k_here
    (with_reducible show wpAny _ _ (binaryOp Operator.FloorDiv (Value.int _ _) (Value.int _ _)) _ _ _)
    (with_reducible refine my_floordiv ?_ ?_ ?_)
    · omega
    · omega
  k_with "binaryOp Mod int int" =>
    k_here
    (with_reducible show wpAny _ _ (binaryOp Operator.Mod (Value.int _ _) (Value.int _ _)) _ _ _)
    (with_reducible refine my_mod ?_ ?_)
    · omega
  k_with "binaryOp Pow int int" =>
    k_here
    first
    | (with_reducible refine my_pow 10 9 1000000000 (by decide) (by decide) (by decide) (by decide) ?_)
    | (with_reducible refine my_pow 10 6 1000000 (by decide) (by decide) (by decide) (by decide) ?_)
    | (with_reducible refine my_pow 10 12 1000000000000 (by decide) (by decide) (by decide) (by decide) ?_)
    | (with_reducible refine my_pow 10 15 1000000000000000 (by decide) (by decide) (by decide) (by decide) ?_)
  k_with "execs cons" =>
    k_here
    (with_reducible show wpAny _ _ (execs _ _) _ _ (Shared.mk _ _ _ (_ + _) _))
    (with_reducible refine gen_toks ?_)
    intro tk8
  k_with "subscriptTail List cons BinOp ref int" =>
    k_here
    (with_reducible show wpAny _ _ (subscriptTail _ _ (Value.ref _) (Value.int _ _)) _ _ _)
    k_dflt (refine item_anyK (by is_list) (by l_ints) (by l_idx) (by l_idx) (by l_idx) ?_; k_whole)
    intro _
  k_with "subscriptTail List cons Name ref int" =>
    k_here
    (with_reducible show wpAny _ _ (subscriptTail _ _ (Value.ref _) (Value.int _ _)) _ _ _)
    k_dflt (refine item_anyK (by is_list) (by l_ints) (by l_idx) (by l_idx) (by l_idx) ?_; k_whole)
    intro _
  k_with "getItem ref str" =>
    k_here
    (with_reducible show wpAny _ _ (getItem (Value.ref _) (Value.str _ _)) _ _ _)
    dsimp only
    (rename isUnit _ => hu9)
    with_unfolding_all first
    | (refine my_getUnit spanOf hu9 (by k_tabat) rfl rfl rfl rfl rfl (by decide +kernel) ?_; intro _)
    | (refine my_getUnit secsOf hu9 (by k_tabat) rfl rfl rfl rfl rfl (by decide +kernel) ?_; intro _)
  k_with "compareOp NotIn str ref" =>
    k_here
    (with_reducible show wpAny _ _ (compareOp CmpOp.NotIn (Value.str _ _) (Value.ref _)) _ _ _)
    dsimp only
    (rename isUnit _ => hu9)
    with_unfolding_all (refine my_notinUnit hu9 (by k_tabat) rfl rfl rfl rfl rfl ?_)
  k_with "subscriptTail Name Name ref str" =>
    k_here
    (with_reducible show wpAny _ _ (subscriptTail _ _ (Value.ref _) (Value.str _ _)) _ _ _)
    dsimp only
    (rename isUnit _ => hu9)
    with_unfolding_all (refine my_itemUnit secsOf hu9 (by k_tabat) rfl rfl rfl rfl rfl (by decide +kernel) rfl (fun _ => rfl) ?_; intro _)
  k_with "call ref" =>
    k_here
    (with_reducible show wpAny _ _ (call (Value.ref 56) _) _ _ _)
    exfalso
    first | omega | (simp_all; done) | (simp_all; omega)
  k_with "call ref" =>
    k_here
    (with_reducible show wpAny _ _ (call (Value.ref 179) _) _ _ _)
    k_dflt (refine Con.useH (by k_asm) (by k_asm) (by k_asm) (by k_asm) (by k_asm) (by first | exact rfl | assumption) (worth_con (by k_mem) (by first | assumption | omega) (by first | assumption | omega) (by assumption)) (by ktr_room) (by ktr_units) ?_; k_whole)
    intro y9 t9 h9 tk9 hy9 F9 N9
    (try dsimp only)
    (try k_fold)
  k_with "call ref" =>
    k_here
    (with_reducible show wpAny _ _ (call (Value.ref 200) _) _ _ _)
    k_dflt (refine Con.useI (by k_asm) (by k_asm) (by k_asm) (by k_asm) (by k_asm) (by first | exact rfl | assumption) left_con (by ktr_room) (by ktr_units) ?_; k_whole)
    intro t9 h9 tk9 F9 N9
    (try dsimp only)
    (try k_fold)
  k_with "call ref" =>
    k_here
    (with_reducible show wpAny _ _ (call (Value.ref 207) _) _ _ _)
    k_dflt (refine Con.useD (by k_asm) (by k_asm) (by k_asm) (by k_asm) (by k_asm) (by first | exact rfl | assumption) (shown_con (by with_reducible assumption) (by with_reducible assumption) (by with_reducible assumption) (by first | assumption | omega) (by first | assumption | omega) (by with_reducible assumption) (by first | exact told_eq (by with_reducible assumption) | exact cut_due (by with_reducible assumption) (by with_reducible assumption) (by omega) (by first | exact .inl (by with_reducible assumption) | exact .inr (by omega))) (by first | with_reducible assumption | assumption | exact cut_left (by with_reducible assumption) (by with_reducible assumption) (by omega) (by first | exact .inl (by with_reducible assumption) | exact .inr (by omega)))) (by kcj_all) (by ktr_room) (by ktr_units) ?_; k_whole)
    k_dflt (intro r9 nx9 h9 tk9 F9 N9 p9; (obtain ⟨o9, er9, en9, ho9⟩ := p9); subst er9 en9)
    (try dsimp only)
    (try k_fold)
  k_with "storeName int" =>
    k_here
    (with_reducible show wpAny _ _ (storeName _ (Str.ofString "at") (Value.int (_ + _ % _) _)) _ _ _)
    (with_reducible refine store_any (fun y => _ ≤ y ∧ y ≤ _) (add_cut ?_) ?_)
    · omega
    intro y8 t8 k8 hy8
    (try dsimp only)
  k_with "storeName int" =>
    k_here
    (with_reducible show wpAny _ _ (storeName _ (Str.ofString "octets") (Value.int (List.getD _ _ _) _)) _ _ _)
    (with_reducible refine store_any (fun _ => True) trivial ?_)
    intro y8 t8 k8 _
    (try dsimp only)
  k_with "binaryOp Pow int int" =>
    k_here
    (with_reducible refine my_pow6 (by assumption) (by assumption) ?_)
    intro y8 hy8 hz8
  k_with "subscriptTail Name Name ref int" =>
    k_here
    (with_reducible show wpAny _ _ (subscriptTail _ _ (Value.ref _) (Value.int _ _)) _ _ _)
    k_dflt (refine my_item (by assumption) (by k_asm) (by k_mem) (by omega) (by omega) ?_)
  dsimp only [CbLists]
  intro dp un gd cn cs a ccd cl outer A₀ base h₀ L m s Q E hB hF hX hN hT hk hdp hun hret
  refine wpAny_call ?_
  k_dflt cell_enter
  clear hN
  have hsp := span_bounds hu
  repeat' ((fail_if_success (with_reducible show wpAny _ _ (exec (Stmt.For _ _ _ _ _) _) _ _ _)); first | (k_unfold; (try dsimp only)) | (k_end; wrow_close) | walk1 | (dsimp only; walk1) | (leave1; walk_say "STEP leave1"; try dsimp only) | fail "no step")
  k_here
  (rename Fr _ _ _ _ => lF')
  (with_unfolding_all refine' For_invVF lF' ?k1 ?k2 ?_; (case k1 => exact rfl); (case k2 => exact rfl); k_whole)
  repeat' ((fail_if_success (with_reducible show wpAny _ _ (pyIter _) _ _ _)); first | (k_unfold; (try dsimp only)) | (k_end; wrow_close) | walk1 | (dsimp only; walk1) | (leave1; walk_say "STEP leave1"; try dsimp only) | fail "no step")
  (rename Fr _ _ _ _ => lF)
  (rename News _ _ _ _ => lN)
  (rename IsRange _ _ _ _ _ _ _ _ => rgX)
  with_unfolding_all refine' torn_loop (put := put) (by rfl) rgX lF _ _ lN hoff (by rfl) (by rfl) (by rfl) ho (ready_start (by decide)) hes hl6 hch ht0 ?turn ?done
  case turn =>
    intro e T t1' t2' t3' nT k t at' full mv ta tf tm o' tok last rest₁ m₁ h tk hk0 hk6 hvk hvl hoff' ho' hy hst hmv F' N'
    clear lF lN rgX ho hoff hes hch
    have hle := hst.1
    repeat' ((fail_if_success (with_reducible show wpAny _ _ (execs (Stmt.If _ _ _ _ :: _) _) _ _ _)); first | (k_unfold; (try dsimp only)) | (k_end; wrow_close) | walk1 | (dsimp only; walk1) | (leave1; walk_say "STEP leave1"; try dsimp only) | fail "no step")
    (rename Fr _ _ _ _ => lF)
    (rename News _ _ _ _ => lN)
    with_unfolding_all refine' torn_cut ov rate u burst oc M full (mvAt (k + 1) turn put) at' lF lN ?first ?tail
    case first =>
      intro Q' hQ
      by_cases hkt : k = turn
      · have e1 : mvAt (k + 1) turn put = put := by unfold mvAt; rw [if_neg (by omega)]
        have e0 : mv = 0 := by rw [hmv]; unfold mvAt; rw [if_pos (by omega)]
        rw [e1] at hQ
        subst e0
        have hy2 : Ready M full put at' tok (last + put) := ready_put hy
        clear hy hmv e1
        obtain ⟨k0, k1, k2, k3, k4, k5, k6, k7, k8, v1, v2, v3, v5, v6, v7, v8, sp', most', tok', last', rfl, hz1, hz2, hz3, hz4⟩ := ho'
        k_steps
        all_goals first
          | exact absurd hkt (by with_reducible assumption)
          | exact absurd (by with_reducible assumption) hkt
          | ((rename News _ _ _ _ => N9)
             (rename Fr _ _ _ _ => F9)
             exact hQ _ _ _ _ _ _ F9 N9 ⟨_, _, _, _, _, _, _, _, _, _, _, _, _, _, _, _, _, _, _, _, rfl, hz1, hz2, hz3, by rw [← hz4]⟩ hy2)
      · have e1 : mvAt (k + 1) turn put = mv := by rw [hmv]; unfold mvAt; by_cases hh : k ≤ turn; (rw [if_pos hh, if_pos (by omega)]); (rw [if_neg hh, if_neg (by omega)])
        rw [e1] at hQ
        k_steps
        all_goals first
          | exact absurd hkt (by with_reducible assumption)
          | exact absurd (by with_reducible assumption) hkt
          | ((rename News _ _ _ _ => N9)
             (rename Fr _ _ _ _ => F9)
             exact hQ _ _ _ _ _ _ (fr_same F9 (by with_unfolding_all rfl)) N9 ho' hy)
    case tail =>
      intro h3 tk3 o2' tm2 tok2 last2 F3 N3 hc2 hy2
      clear lF lN hy ho' hmv
      repeat' ((fail_if_success (with_reducible show wpAny _ _ (exec (Stmt.For _ _ _ _ _) _) _ _ _)); first | (k_unfold; (try dsimp only)) | (k_end; wrow_close) | walk1 | (dsimp only; walk1) | (leave1; walk_say "STEP leave1"; try dsimp only) | fail "no step")
      k_here
      (rename Fr _ _ _ _ => lF')
      (with_unfolding_all refine' For_invVF lF' ?k5 ?k6 ?_; (case k5 => exact rfl); (case k6 => exact rfl); k_whole)
      repeat' ((fail_if_success (with_reducible show wpAny _ _ (pyIter _) _ _ _)); first | (k_unfold; (try dsimp only)) | (k_end; wrow_close) | walk1 | (dsimp only; walk1) | (leave1; walk_say "STEP leave1"; try dsimp only) | fail "no step")
      (rename Fr _ _ _ _ => lF)
      (rename News _ _ _ _ => lN)
      (rename IsRange _ _ _ _ _ _ _ _ => rgX)
      with_unfolding_all refine' cut_loop (now := e.now) (by rfl) rgX lF lN hoff' (by rfl) hc2 hy2 hst.1 ?cut ?cdone
      case cut =>
        intro i ti at2 ta2 o2 tok2 last2 rest₂ m₂ h2 tk2 hi0 hi2 hle2 hoff2 ho2 hy3 F2 N2
        clear lF lN rgX hy2 hst
        k_steps
        all_goals
          show CutEnd _ _ _ _ _ _ _ _ _ _ _ _ _ _ _ _ _
          (rename News _ _ _ _ => N9)
          (rename Fr _ _ _ _ => F9)
          refine' CutEnd.intro F9 N9 ?m1 ?all ?hc ?hy ?le ?hat ?rest
          case m1 => k_memK
          case hat => with_unfolding_all rfl
          case hc => with_reducible assumption
          case all => first | exact fun p hp => List.mem_cons_of_mem _ hp | kcj_all
          case hy => first | exact ready_at | exact ready_later hy3 (by omega)
          case le => omega
          case rest =>
            intro z h1 h2 hz
            simp only [cutNames, List.contains_cons, List.contains_nil, Bool.or_false, Bool.or_eq_false_iff, beq_eq_false_iff_ne, ne_eq] at hz
            simp [kstB, h1, h2, hz]
      case cdone =>
        intro at2 ta2 o2 tok2 last2 m₂ h2 tk2 hle2 ho2 hy3 F2 N2
        clear lF lN rgX hy2
        have hA := (ready_let (ov := ov) hy3 hle2 hst.2.1).1
        have hB := (ready_let (ov := ov) hy3 hle2 hst.2.1).2.1
        have hC := (ready_let (ov := ov) hy3 hle2 hst.2.1).2.2
        rw [← hst.2.2.1] at hA hB hC
        rw [← hst.2.2.2] at hB hC
        clear hy3 hst
        k_steps
        all_goals
          show TornEnd _ _ _ _ _ _ _ _ _ _ _ _ _ _ _ _
          (rename News _ _ _ _ => N9)
          (rename Fr _ _ _ _ => F9)
          refine' TornEnd.intro F9 N9 ?m1 ?all ?hc ?hy ?h1 ?h2 ?h3 ?rest
          case m1 => k_memK
          case hc => with_reducible assumption
          case all => kcj_all
          case hy => exact hC
          case h1 => with_unfolding_all rfl
          case h2 => with_unfolding_all rfl
          case h3 => with_unfolding_all rfl
          case rest =>
            intro z z1 z2 z3 z4 hz
            simp only [tornNames, List.contains_cons, List.contains_nil, Bool.or_false, Bool.or_eq_false_iff, beq_eq_false_iff_ne, ne_eq] at hz
            simp [kstB, z1, z2, z3, z4, hz]
  case done =>
    intro o' tok last at' full mv ta tf tm m₁ h tk ho' F' N'
    clear lF lN rgX
    k_steps
    (rename News _ _ _ _ => N9)
    exact hret _ _ _ _ (by assumption) N9 ⟨_, _, _, rfl, rfl, ho'⟩

section
section
variable {prog : Program} {w : World} {A : Around} {E : Value → Shared → Prop} {s : Shared} {Q : Value → Shared → Prop}
theorem my_itemV {h₀ : Heap} {L R : Addr} {value slice : PySem.Expr} {vs : List Value} {v : Value} {news : List (Addr × Obj)} {nn : Nat} {k : Int} {u : Tok} (N : News h₀ L s.heap news) (hm : (R, listOf vs.toArray nn) ∈ news) (h0 : 0 ≤ k) (hhi : k < 2 ^ 63) (hx : vs[k.toNat]? = some v) (h : Q v s)
    (hs : subscripted slice false (.ref R) (.int k u) = operate [.ref R, .int k u] (getItem (.ref R) (.int k u)) := by with_unfolding_all rfl) :
    wpAny (model prog w) A (subscriptTail value slice (.ref R) (.int k u)) Q E s := by
  have hl : s.heap.IsList R vs.toArray := ⟨_, (N _ hm).1, rfl, nn, rfl⟩
  exact tail_any hl.typeIs slot_list_getitem.lookup (wpAny_getItem_list hl h0 hhi (by simpa using hx) h) hs
theorem my_unitItem {h₀ : Heap} {L R : Addr} {value slice : PySem.Expr} {t1 t2 t3 t4 t5 : Tok} {news : List (Addr × Obj)} {nn : Nat} {k : Int} {u : Tok} (N : News h₀ L s.heap news)
    (hm : (R, listOf [Value.str (Str.ofString "second") t1, .str (Str.ofString "minute") t2, .str (Str.ofString "hour") t3, .str (Str.ofString "day") t4, .str (Str.ofString "week") t5].toArray nn) ∈ news) (h0 : 0 ≤ k) (hk : k < 5) (h : ∀ x t, isUnit x → Q (.str x t) s)
    (hs : subscripted slice false (.ref R) (.int k u) = operate [.ref R, .int k u] (getItem (.ref R) (.int k u)) := by with_unfolding_all rfl) :
    wpAny (model prog w) A (subscriptTail value slice (.ref R) (.int k u)) Q E s := by
  have e : k = 0 ∨ k = 1 ∨ k = 2 ∨ k = 3 ∨ k = 4 := by omega
  rcases e with rfl | rfl | rfl | rfl | rfl
  · exact my_itemV N hm (by omega) (by omega) (by rfl) (h _ _ (.inl rfl)) hs
  · exact my_itemV N hm (by omega) (by omega) (by rfl) (h _ _ (.inr (.inl rfl))) hs
  · exact my_itemV N hm (by omega) (by omega) (by rfl) (h _ _ (.inr (.inr (.inl rfl)))) hs
  · exact my_itemV N hm (by omega) (by omega) (by rfl) (h _ _ (.inr (.inr (.inr (.inl rfl))))) hs
  · exact my_itemV N hm (by omega) (by omega) (by rfl) (h _ _ (.inr (.inr (.inr (.inr rfl))))) hs
end
end
/-- what _law_drawn gives -/
def drawnPost (news : List (Addr × Obj)) (r : Value) (nx : List (Addr × Obj)) : Prop :=
  ∃ (S : Addr) (ov : Bool) (rate : Int) (u : Str) (burst : Int) (oc : Bool) (t0 t1 t2 t3 : Tok) (c : Nat), r = .ref S ∧ nx = (S, stm ov rate u burst oc t0 t1 t2 t3 c) :: news ∧ 1 ≤ rate ∧ rate ≤ 1000000000000 ∧ isUnit u ∧ 0 ≤ burst ∧ burst ≤ 3000 ∧ (oc = false → 1 ≤ burst) ∧ (∀ p ∈ news, @LT.lt Nat _ p.1 S)
theorem drawnPost.intro {news : List (Addr × Obj)} {S : Addr} {ov : Bool} {rate : Int} {u : Str} {burst : Int} {oc : Bool} {t0 t1 t2 t3 : Tok} {c : Nat} (h1 : 1 ≤ rate ∧ rate ≤ 1000000000000) (hu : isUnit u) (h2 : 0 ≤ burst) (h3 : burst ≤ 3000) (h4 : oc = false → 1 ≤ burst) (h5 : ∀ p ∈ news, @LT.lt Nat _ p.1 S) :
    drawnPost news (.ref S) ((S, stm ov rate u burst oc t0 t1 t2 t3 c) :: news) := ⟨S, ov, rate, u, burst, oc, t0, t1, t2, t3, c, rfl, rfl, h1.1, h1.2, hu, h2, h3, h4, h5⟩
set_option maxHeartbeats 4000000 in
theorem drawn_con {w : World} {mean : ExcName → Option Value} {mg mb : Str → Option Value} {news : List (Addr × Obj)} {A : Addr} {vs : List Value} {ns : List Int} {j : Int} {t4 : Tok}
   (hj0 : 0 ≤ j) (hj3 : j ≤ 3) :
    Con w mean mg mb 2 172 [(A, vs, ns)] news [.ref A, .int j t4] (drawnPost news) := by
  unfold Con
  k_fill
  k_with_none
  k_with "binaryOp FloorDiv int int" =>
    k_here
    (with_reducible show wpAny _ _ (binaryOp Operator.FloorDiv (Value.int _ _) (Value.int _ _)) _ _ _)
    (with_reducible refine my_floordiv ?_ ?_ ?_)
    · omega
    · omega
  k_with "binaryOp Mod int int" =>
    k_here
    (with_reducible show wpAny _ _ (binaryOp Operator.Mod (Value.int _ _) (Value.int _ _)) _ _ _)
    (with_reducible refine my_mod ?_ ?_)
    · omega
  k_with "binaryOp Pow int int" =>
    k_here
    first
    | (with_reducible refine my_pow 10 9 1000000000 (by decide) (by decide) (by decide) (by decide) ?_)
    | (with_reducible refine my_pow 10 6 1000000 (by decide) (by decide) (by decide) (by decide) ?_)
    | (with_reducible refine my_pow 10 12 1000000000000 (by decide) (by decide) (by decide) (by decide) ?_)
    | (with_reducible refine my_pow 10 15 1000000000000000 (by decide) (by decide) (by decide) (by decide) ?_)
  k_with "execs cons" =>
    k_here
    (with_reducible show wpAny _ _ (execs _ _) _ _ (Shared.mk _ _ _ (_ + _) _))
    (with_reducible refine gen_toks ?_)
    intro tk8
  k_with "subscriptTail List cons BinOp ref int" =>
    k_here
    (with_reducible show wpAny _ _ (subscriptTail _ _ (Value.ref _) (Value.int _ _)) _ _ _)
    k_dflt (refine item_anyK (by is_list) (by l_ints) (by l_idx) (by l_idx) (by l_idx) ?_; k_whole)
    intro _
  k_with "subscriptTail List cons Name ref int" =>
    k_here
    (with_reducible show wpAny _ _ (subscriptTail _ _ (Value.ref _) (Value.int _ _)) _ _ _)
    k_dflt (refine item_anyK (by is_list) (by l_ints) (by l_idx) (by l_idx) (by l_idx) ?_; k_whole)
    intro _
  k_with "getItem ref str" =>
    k_here
    (with_reducible show wpAny _ _ (getItem (Value.ref _) (Value.str _ _)) _ _ _)
    dsimp only
    (rename isUnit _ => hu9)
    with_unfolding_all first
    | (refine my_getUnit spanOf hu9 (by k_tabat) rfl rfl rfl rfl rfl (by decide +kernel) ?_; intro _)
    | (refine my_getUnit secsOf hu9 (by k_tabat) rfl rfl rfl rfl rfl (by decide +kernel) ?_; intro _)
  k_with "compareOp NotIn str ref" =>
    k_here
    (with_reducible show wpAny _ _ (compareOp CmpOp.NotIn (Value.str _ _) (Value.ref _)) _ _ _)
    dsimp only
    (rename isUnit _ => hu9)
    with_unfolding_all (refine my_notinUnit hu9 (by k_tabat) rfl rfl rfl rfl rfl ?_)
  k_with "subscriptTail Name Name ref str" =>
    k_here
    (with_reducible show wpAny _ _ (subscriptTail _ _ (Value.ref _) (Value.str _ _)) _ _ _)
    dsimp only
    (rename isUnit _ => hu9)
    with_unfolding_all (refine my_itemUnit secsOf hu9 (by k_tabat) rfl rfl rfl rfl rfl (by decide +kernel) rfl (fun _ => rfl) ?_; intro _)
  k_with "call ref" =>
    k_here
    (with_reducible show wpAny _ _ (call (Value.ref 56) _) _ _ _)
    exfalso
    first | omega | (simp_all; done) | (simp_all; omega)
  k_with "subscriptTail Name BinOp ref int" =>
    k_here
    (with_reducible show wpAny _ _ (subscriptTail _ _ (Value.ref _) (Value.int _ _)) _ _ _)
    k_dflt (refine my_unitItem (by k_asm) (by k_mem) (by omega) (by omega) ?_)
    intro x8 t8 hx8
    (try dsimp only)
  k_with "storeName int" =>
    k_here
    first
    | (with_reducible show wpAny _ _ (storeName _ (Str.ofString "form") (Value.int (cellAt _ _ _) _)) _ _ _)
    | (with_reducible show wpAny _ _ (storeName _ (Str.ofString "pace") (Value.int (cellAt _ _ _) _)) _ _ _)
    | (with_reducible show wpAny _ _ (storeName _ (Str.ofString "burst") (Value.int (cellAt _ _ _) _)) _ _ _)
    (with_reducible refine store_any (fun _ => True) trivial ?_)
    intro y8 t8 k8 _
    (try dsimp only)
  k_with "storeName int" =>
    k_here
    (with_reducible show wpAny _ _ (storeName _ (Str.ofString "rate") (Value.int (_ + _) _)) _ _ _)
    (with_reducible refine store_any (fun y => 1 ≤ y ∧ y ≤ 1000000000000) ?_ ?_)
    · omega
    intro y8 t8 k8 hy8
    (try dsimp only)
  dsimp only [CbLists]
  intro dp un gd cn cs a ccd cl outer A₀ base h₀ L m s Q E hB hF hX hN hT hk hsl hsi hsn hdp hun hret
  refine wpAny_call ?_
  k_dflt cell_enter
  clear hN
  k_steps
  all_goals
    refine' hret _ ((_, stm _ _ _ _ _ _ _ _ _ _) :: news) _ _ (by assumption) (cb_drop (by assumption) (List.forall_mem_cons.mpr ⟨?hm, ?hsb⟩)) (drawnPost.intro ?hp1 ?hp2 ?hp3 ?hp4 ?hp5 ?hp6)
    case hm => k_memK
    case hsb => first | exact fun p hp => List.mem_cons_of_mem _ (List.mem_cons_of_mem _ hp) | exact fun p hp => List.mem_cons_of_mem _ (List.mem_cons_of_mem _ (List.mem_cons_of_mem _ hp))
    case hp2 => assumption
    case hp1 => first | assumption | omega
    case hp3 => omega
    case hp4 => omega
    case hp5 =>
      intro ho
      first
        | omega
        | (have ho' := of_decide_eq_false ho; exact absurd (by assumption) ho')
    case hp6 => first
      | ((rename _ ∧ _ ∧ AllLt _ _ => hl9); exact fun p hp => tb_ltOf hl9.2.2 p hp)
      | ((rename _ ∧ AllLt _ _ => hl9); exact fun p hp => tb_ltOf hl9.2 p hp)

/-- a contract, from one over the ledger with some of its entries once more ahead -/
theorem Con.dupP {w : World} {mean : ExcName → Option Value} {mg mb : Str → Option Value} {k : Nat} {f : Addr} {sc : List (Addr × List Value × List Int)} {news : List (Addr × Obj)} {vs : List Value} {Post' Post : Value → List (Addr × Obj) → Prop}
    (l : List (Addr × Obj)) (h : Con w mean mg mb k f sc (l ++ news) vs Post') (hl : ∀ p ∈ l, p ∈ news) (hp : ∀ r nx, Post' r nx → ∃ nx', (∀ p ∈ nx', p ∈ nx) ∧ Post r nx') : Con w mean mg mb k f sc news vs Post := by
  intro dp un gd cn cs a ccd cl outer A₀ base h₀ L m s Q E hB hF hX hN hT hk
  have key := h dp un gd cn cs a ccd cl outer A₀ base h₀ L m s Q E hB hF hX (news_dup hN hl) hT hk
  revert key
  have mono : ∀ (sc : List (Addr × List Value × List Int)) {P P' : Prop}, (P → P') → CbLists base sc P → CbLists base sc P' := by
    intro sc
    induction sc with
    | nil => intro P P' i x; exact i x
    | cons q r ih => intro P P' i x a b c; exact ih i (x a b c)
  refine mono sc ?_
  intro key hdp hun hret
  refine key hdp hun ?_
  intro r nx h' tk' F' N' p'
  obtain ⟨nx', hs, p⟩ := hp r nx p'
  exact hret _ _ _ _ F' (fun p hp => N' p (hs p hp)) p
def statPost (news : List (Addr × Obj)) (ov : Bool) (rate : Int) (u : Str) (burst : Int) (oc : Bool) (r : Value) (nx : List (Addr × Obj)) : Prop :=
  ∃ (T : Addr) (t0 t1 t2 t3 : Tok) (c : Nat), r = .ref T ∧ nx = (T, stm ov rate u burst oc t0 t1 t2 t3 c) :: news
set_option maxHeartbeats 4000000 in
theorem stat_con0 {w : World} {mean : ExcName → Option Value} {mg mb : Str → Option Value} {news : List (Addr × Obj)} {x dx : Addr} {o : Obj} {ov : Bool} {rate : Int} {u : Str} {burst : Int} {oc : Bool} {most tok last : Int}
   (ho : CelIs w o ov rate u burst oc most tok last) :
    Con w mean mg mb 1 158 [] ([(x, instObj 119 dx), (dx, o)] ++ news) [.ref x] (statPost ([(x, instObj 119 dx), (dx, o)] ++ news) ov rate u burst oc) := by
  obtain ⟨k0, k1, k2, k3, k4, k5, k6, k7, k8, v1, v2, v3, v5, v6, v7, v8, sp, most, tok, last, rfl, rfl, rfl, rfl, rfl⟩ := ho
  rw [List.cons_append, List.singleton_append]
  unfold Con
  k_fill
  k_with_none
  k_with "binaryOp FloorDiv int int" =>
    k_here
    (with_reducible show wpAny _ _ (binaryOp Operator.FloorDiv (Value.int _ _) (Value.int _ _)) _ _ _)
    (with_reducible refine my_floordiv ?_ ?_ ?_)
    · omega
    · omega
  k_with "binaryOp Mod int int" =>
    k_here
    (with_reducible show wpAny _ _ (binaryOp Operator.Mod (Value.int _ _) (Value.int _ _)) _ _ _)
    (with_reducible refine my_mod ?_ ?_)
    · omega
  k_with "binaryOp Pow int int" =>
    k_here
    first
    | (with_reducible refine my_pow 10 9 1000000000 (by decide) (by decide) (by decide) (by decide) ?_)
    | (with_reducible refine my_pow 10 6 1000000 (by decide) (by decide) (by decide) (by decide) ?_)
    | (with_reducible refine my_pow 10 12 1000000000000 (by decide) (by decide) (by decide) (by decide) ?_)
    | (with_reducible refine my_pow 10 15 1000000000000000 (by decide) (by decide) (by decide) (by decide) ?_)
  k_with "execs cons" =>
    k_here
    (with_reducible show wpAny _ _ (execs _ _) _ _ (Shared.mk _ _ _ (_ + _) _))
    (with_reducible refine gen_toks ?_)
    intro tk8
  k_with "subscriptTail List cons BinOp ref int" =>
    k_here
    (with_reducible show wpAny _ _ (subscriptTail _ _ (Value.ref _) (Value.int _ _)) _ _ _)
    k_dflt (refine item_anyK (by is_list) (by l_ints) (by l_idx) (by l_idx) (by l_idx) ?_; k_whole)
    intro _
  k_with "subscriptTail List cons Name ref int" =>
    k_here
    (with_reducible show wpAny _ _ (subscriptTail _ _ (Value.ref _) (Value.int _ _)) _ _ _)
    k_dflt (refine item_anyK (by is_list) (by l_ints) (by l_idx) (by l_idx) (by l_idx) ?_; k_whole)
    intro _
  k_with "getItem ref str" =>
    k_here
    (with_reducible show wpAny _ _ (getItem (Value.ref _) (Value.str _ _)) _ _ _)
    dsimp only
    (rename isUnit _ => hu9)
    with_unfolding_all first
    | (refine my_getUnit spanOf hu9 (by k_tabat) rfl rfl rfl rfl rfl (by decide +kernel) ?_; intro _)
    | (refine my_getUnit secsOf hu9 (by k_tabat) rfl rfl rfl rfl rfl (by decide +kernel) ?_; intro _)
  k_with "compareOp NotIn str ref" =>
    k_here
    (with_reducible show wpAny _ _ (compareOp CmpOp.NotIn (Value.str _ _) (Value.ref _)) _ _ _)
    dsimp only
    (rename isUnit _ => hu9)
    with_unfolding_all (refine my_notinUnit hu9 (by k_tabat) rfl rfl rfl rfl rfl ?_)
  k_with "subscriptTail Name Name ref str" =>
    k_here
    (with_reducible show wpAny _ _ (subscriptTail _ _ (Value.ref _) (Value.str _ _)) _ _ _)
    dsimp only
    (rename isUnit _ => hu9)
    with_unfolding_all (refine my_itemUnit secsOf hu9 (by k_tabat) rfl rfl rfl rfl rfl (by decide +kernel) rfl (fun _ => rfl) ?_; intro _)
  k_with "call ref" =>
    k_here
    (with_reducible show wpAny _ _ (call (Value.ref 56) _) _ _ _)
    exfalso
    first | omega | (simp_all; done) | (simp_all; omega)
  dsimp only [CbLists]
  intro dp un gd cn cs a ccd cl outer A₀ base h₀ L m s Q E hB hF hX hN hT hk hdp hun hret
  refine wpAny_call ?_
  k_dflt cell_enter
  clear hN
  k_steps
  all_goals
    (rename News _ _ _ _ => N9)
    exact hret _ _ _ _ (by assumption) N9 ⟨_, _, _, _, _, _, rfl, rfl⟩
theorem stat_con {w : World} {mean : ExcName → Option Value} {mg mb : Str → Option Value} {news : List (Addr × Obj)} {x dx : Addr} {o : Obj} {ov : Bool} {rate : Int} {u : Str} {burst : Int} {oc : Bool} {most tok last : Int}
   (h1 : (x, instObj 119 dx) ∈ news) (h2 : (dx, o) ∈ news) (ho : CelIs w o ov rate u burst oc most tok last) :
    Con w mean mg mb 1 158 [] news [.ref x] (statPost news ov rate u burst oc) :=
  Con.dupP [(x, instObj 119 dx), (dx, o)] (stat_con0 ho) (by
    intro p hp
    rcases List.mem_cons.mp hp with rfl | hp
    · exact h1
    · rw [List.mem_singleton.mp hp]; exact h2) (by
    rintro r nx ⟨T, t0, t1, t2, t3, c, rfl, rfl⟩
    exact ⟨_, fun p hp => (List.mem_cons.mp hp).elim (fun e => e ▸ List.mem_cons_self ..) fun hp => List.mem_cons_of_mem _ (List.mem_append.mpr (.inr hp)), T, t0, t1, t2, t3, c, rfl, rfl⟩)

section
section
variable {prog : Program} {w : World} {A : Around} {E : Value → Shared → Prop} {s : Shared} {env : Env} {h₀ : Heap} {body : List Stmt} {Q : Flow → Shared → Prop}
def LawEnd (h₀ : Heap) (L a3 a2 a1 : Addr) (o1 : Obj) (own : List (Addr × Obj)) (s₁ s₂ : Shared) : Prop :=
  ∃ h' tk' m' news' o3' o2' v3' v2', s₂ = { s₁ with heap := h', toks := tk' } ∧ Fr h₀ L h' m' ∧ News h₀ L h' news' ∧ (a3, o3') ∈ news' ∧ (a2, o2') ∈ news' ∧ (a1, o1) ∈ news' ∧ (∀ p ∈ own, p ∈ news') ∧ o3'.data = .cell v3' ∧ o2'.data = .cell v2'
theorem LawEnd.intro {L a3 a2 a1 : Addr} {o1 : Obj} {own news' : List (Addr × Obj)} {m' : Str → Option Value} {s₁ : Shared} {h' : Heap} {tk' : Nat} {o3' o2' : Obj} {v3' v2' : Option Value}
    (F : Fr h₀ L h' m') (N : News h₀ L h' news') (h3 : (a3, o3') ∈ news') (h2 : (a2, o2') ∈ news') (h1 : (a1, o1) ∈ news') (ho : ∀ p ∈ own, p ∈ news') (d3 : o3'.data = .cell v3') (d2 : o2'.data = .cell v2') :
    LawEnd h₀ L a3 a2 a1 o1 own s₁ { s₁ with heap := h', toks := tk' } := ⟨h', tk', m', news', o3', o2', v3', v2', rfl, F, N, h3, h2, h1, ho, d3, d2⟩
theorem law_loop {x : Str} {px : Pos} {r a3 a2 a1 : Addr} {o3 o2 o1 : Obj} {v3 v2 : Option Value} {m₀ : Str → Option Value} {t₀ u₀ v₀ : Tok}
    (hh : A.handled = none) (hr : IsRange s.heap r 0 4 1 t₀ u₀ v₀) (F : Fr h₀ env.locals s.heap m₀) (N : News h₀ env.locals s.heap [(a3, o3), (a2, o2), (a1, o1)]) (d3 : o3.data = .cell v3) (d2 : o2.data = .cell v2)
    (turn : ∀ (j : Int) (t : Tok) (o3 o2 : Obj) (v3 v2 : Option Value) (own : List (Addr × Obj)) (m₁ : Str → Option Value) (h : Heap) (tk : Nat) (Q' : Flow → Shared → Prop), 0 ≤ j → j ≤ 3 → OwnOff own [a3, a2, a1] → o3.data = .cell v3 → o2.data = .cell v2 →
      Fr h₀ env.locals h m₁ → News h₀ env.locals h ((a3, o3) :: (a2, o2) :: (a1, o1) :: own) → (∀ s₂, LawEnd h₀ env.locals a3 a2 a1 o1 own { s with heap := h, toks := tk } s₂ → Q' .next s₂) →
      wpAny (model prog w) A (assign (.Name x px) env (.int j t)) (fun _ s₂ => wpAny (model prog w) A (execs body env) Q' E s₂) E { s with heap := h, toks := tk })
    (done : ∀ (o3 o2 : Obj) (m₁ : Str → Option Value) (h : Heap) (tk : Nat), Fr h₀ env.locals h m₁ → News h₀ env.locals h [(a3, o3), (a2, o2), (a1, o1)] → Q .next { s with heap := h, toks := tk }) :
    wpAny (model prog w) A (pyIter (.ref r)) (fun it s₂ => TurnsAt prog w A h₀ env (.Name x px) body Q E it s₂) E s := by
  refine wpAny_pyIter_range hr (by decide) ?_
  have W : Walks prog w A s.heap.objs.size [s.heap.objs.size] [s.heap.objs.size] 4 (fun i v => i < 4 ∧ ∃ t, v = .int (0 + (i : Nat) * 1) t)
      (fun i h => IsRangeIter h s.heap.objs.size (0 + (i : Nat) * 1) (((4 : Nat) : Int) - (i : Nat)) 1) := (Walks.range hh _ 0 1 4).bound
  have hlt : ∀ p ∈ [(a3, o3), (a2, o2), (a1, o1)], p.1 ≠ s.heap.objs.size := fun p hp => Nat.ne_of_lt (Heap.lt_size (N p hp).1)
  have hlt' : ∀ (q3 q2 : Obj), ∀ p ∈ [(a3, q3), (a2, q2), (a1, o1)], p.1 ≠ s.heap.objs.size := fun q3 q2 => List.forall_mem_cons.mpr ⟨hlt (a3, o3) (List.mem_cons_self ..), List.forall_mem_cons.mpr ⟨hlt (a2, o2) (List.mem_cons_of_mem _ (List.mem_cons_self ..)), fun p hp => hlt p (List.mem_cons_of_mem _ (List.mem_cons_of_mem _ hp))⟩⟩
  refine ⟨s.heap.objs.size, _, _, 4, _, _, _, m₀, [(a3, o3), (a2, o2), (a1, o1)], (fun _ _ nx => ∃ o3 o2 v3 v2, nx = [(a3, o3), (a2, o2), (a1, o1)] ∧ o3.data = .cell v3 ∧ o2.data = .cell v2), rfl,
    KTurns.ofWalks W (fun i v s Q E _ q => wpAny_pure q), ?_, ?_, ?_, ?_, F.push _, (fun p hp => ⟨Heap.get?_push_of_some _ (N p hp).1, (N p hp).2⟩), ⟨o3, o2, v3, v2, rfl, d3, d2⟩, ?_, ?_⟩
  · intro hm
    exact absurd F.ns.lt ((List.mem_singleton.mp hm) ▸ Nat.lt_irrefl _)
  · intro b hb
    rw [List.mem_singleton.mp hb]
    exact next_is_new F
  · intro p hp hI
    exact hlt p hp (List.mem_singleton.mp hI)
  · show IsRangeIter _ _ _ _ _
    exact Heap.get?_push_size _ rfl
  · rintro i v m₁ news₁ h₁ tk₁ own hin ⟨_, t, rfl⟩ ⟨o3, o2, v3, v2, rfl, d3, d2⟩ hoff hown hget hall hst F₁ N₁
    have e1 : (0 : Int) + (i : Int) * 1 = (i : Int) := by omega
    rw [e1]
    have N₂ : News h₀ env.locals h₁ ((a3, o3) :: (a2, o2) :: (a1, o1) :: own) := fun p hp => N₁ p (by
      have hp : p ∈ [(a3, o3), (a2, o2), (a1, o1)] ++ own := hp
      exact List.mem_append.mpr (List.mem_append.mp hp).symm)
    have fin : ∀ s₃, LawEnd h₀ env.locals a3 a2 a1 o1 own { s with heap := h₁, toks := tk₁ } s₃ → LoopStepU h₀ env.locals [s.heap.objs.size] own (fun _ nx => ∃ o3 o2 v3 v2, nx = [(a3, o3), (a2, o2), (a1, o1)] ∧ o3.data = .cell v3 ∧ o2.data = .cell v2) { s with heap := h₁, toks := tk₁ } .next s₃ := by
      rintro s₃ ⟨h', tk', m', news', o3', o2', v3', v2', e, F', N', h3, h2, h1, ho, d3', d2'⟩
      have hm : ∀ p ∈ [(a3, o3'), (a2, o2'), (a1, o1)], p ∈ news' := List.forall_mem_cons.mpr ⟨h3, List.forall_mem_cons.mpr ⟨h2, fun q hq => List.mem_singleton.mp hq ▸ h1⟩⟩
      refine ⟨rfl, h', tk', m', [(a3, o3'), (a2, o2'), (a1, o1)], e, F', fun p hp => N' p ((List.mem_append.mp hp).elim (ho p) (hm p)), fun p hp hI => hlt' o3' o2' p hp (List.mem_singleton.mp hI), o3', o2', v3', v2', rfl, d3', d2'⟩
    have hof : OwnOff own [a3, a2, a1] := fun p hp b hb e => by
      have h1 : p.1 = s.heap.objs.size := List.mem_singleton.mp (hown p hp)
      rw [e] at h1
      have hb : b ∈ [(a3, o3), (a2, o2), (a1, o1)].map Prod.fst := hb
      obtain ⟨q, hq, rfl⟩ := List.mem_map.mp hb
      exact hlt' o3 o2 q hq h1
    exact turn i t o3 o2 v3 v2 own m₁ h₁ tk₁ _ (by omega) (by omega) hof d3 d2 F₁ N₂ fun s₂ p => .next (fin s₂ p)
  · rintro h' tk m' news' F' N' _ ⟨o3, o2, v3, v2, rfl, _, _⟩
    exact done o3 o2 m' h' tk F' N'
end
end
section
theorem news_add {h₀ h : Heap} {L : Addr} {q : Addr × Obj} {news tl : List (Addr × Obj)} (N : News h₀ L h (q :: tl)) (hs : ∀ p ∈ news, p ∈ tl) : News h₀ L h (q :: (news ++ tl)) := by
  intro p hp
  rcases List.mem_cons.mp hp with rfl | hp
  · exact N _ (List.mem_cons_self ..)
  rcases List.mem_append.mp hp with hp | hp
  · exact N _ (List.mem_cons_of_mem _ (hs p hp))
  · exact N _ (List.mem_cons_of_mem _ hp)
theorem ints3 {ys : List Value} {ns : List Int} (h : IntsAre ys ns) (hn : ns.length = 3) : ∃ (a b c : Int) (t1 t2 t3 : Tok), ys = [.int a t1, .int b t2, .int c t3] := by
  obtain ⟨a, b, c, rfl⟩ : ∃ a b c, ns = [a, b, c] := by
    match ns, hn with
    | [a, b, c], _ => exact ⟨a, b, c, rfl⟩
  cases h with
  | cons _ _ h => cases h with
    | cons _ _ h => cases h with
      | cons _ _ h => cases h; exact ⟨_, _, _, _, _, _, rfl⟩
end
section
section
variable {prog : Program} {w : World} {A : Around} {E : Value → Shared → Prop} {s : Shared} {env : Env} {h₀ : Heap} {L : Addr} {m : Str → Option Value} {elt : PySem.Expr} {x : Str} {scope : Scope} {cl : List (Str × Addr)}
/-- a limit is made -/
def CellMade (w : World) (h₀ : Heap) (L : Addr) (m : Str → Option Value) (ov : Bool) (rate : Int) (u : Str) (burst : Int) (oc : Bool) (M : Int) (news : List (Addr × Obj)) (s₁ : Shared) (y : Value) (s₂ : Shared) : Prop :=
  ∃ (h' : Heap) (tk' : Nat) (x dx : Addr) (o : Obj), y = .ref x ∧ s₂ = { s₁ with heap := h', toks := tk' } ∧ Fr h₀ L h' m ∧ News h₀ L h' ((x, instObj 119 dx) :: (dx, o) :: news) ∧ CelIs w o ov rate u burst oc M M 0 ∧ (∀ p ∈ news, @LT.lt Nat _ p.1 dx) ∧ @LT.lt Nat _ dx x
def MadeTurn (prog : Program) (w : World) (A : Around) (h₀ : Heap) (L : Addr) (m : Str → Option Value) (env : Env) (elt : PySem.Expr) (x : Str) (scope : Scope) (cl : List (Str × Addr)) (s : Shared) (S a3 : Addr) (oS o3 : Obj) (ov : Bool) (rate : Int) (u : Str) (burst : Int) (oc : Bool) (M : Int) : Prop :=
  ∀ (tl : List (Addr × Obj)) (ys : List Value) (v : Value) (I : Addr) (oI : Obj) (C : Addr) (oC : Obj) (D : Addr) (m₂ : Str → Option Value) (h : Heap) (tk : Nat) (E' : Value → Shared → Prop), LCg.NsObj oC m₂ → m₂ x = some v → Fr h₀ L h m →
    News h₀ L h ((I, oI) :: (C, oC) :: (D, LCg.lst ys) :: (S, oS) :: (a3, o3) :: tl) →
    wpAny (model prog w) A (eval elt (compEnvC scope cl C env)) (CellMade w h₀ L m ov rate u burst oc M ((I, oI) :: (C, oC) :: (D, LCg.lst ys) :: (S, oS) :: (a3, o3) :: tl) { s with heap := h, toks := tk }) E' { s with heap := h, toks := tk }
theorem cells_one {S a3 : Addr} {oS o3 : Obj} {ov : Bool} {rate : Int} {u : Str} {burst : Int} {oc : Bool} {M : Int} {P : Nat → Value → Prop} {Fin : List Value → List (Addr × Obj) → Prop} {k i : Nat} {ys : List Value} {news : List (Addr × Obj)}
    (turn : MadeTurn prog w A h₀ L m env elt x scope cl s S a3 oS o3 ov rate u burst oc M) (hS : (S, oS) ∈ news) (h3 : (a3, o3) ∈ news)
    (rest : ∀ (x' dx : Addr) (o : Obj), CelIs w o ov rate u burst oc M M 0 → (∀ p ∈ news, @LT.lt Nat _ p.1 dx) → @LT.lt Nat _ dx x' → LCg.CompRest prog w A h₀ L m env elt x scope cl s (fun _ => True) P Fin k (i + 1) (ys ++ [.ref x']) ((x', instObj 119 dx) :: (dx, o) :: news)) :
    LCg.CompRest prog w A h₀ L m env elt x scope cl s (fun _ => True) P Fin (k + 1) i ys news := by
  refine LCg.CompRest.succ fun v I oI C oC D m₂ h tk E' _ hC hx F N off ne => ?_
  have N' : News h₀ L h ((I, oI) :: (C, oC) :: (D, LCg.lst ys) :: (S, oS) :: (a3, o3) :: news) :=
    List.forall_mem_cons.mpr ⟨N _ (.head _), List.forall_mem_cons.mpr ⟨N _ (.tail _ (.head _)), List.forall_mem_cons.mpr ⟨N _ (.tail _ (.tail _ (.head _))), List.forall_mem_cons.mpr ⟨N _ (.tail _ (.tail _ (.tail _ hS))), List.forall_mem_cons.mpr ⟨N _ (.tail _ (.tail _ (.tail _ h3))), fun p hp => N p (.tail _ (.tail _ (.tail _ hp)))⟩⟩⟩⟩⟩
  refine wpAny_mono (turn news ys v I oI C oC D m₂ h tk E' hC hx F N') (fun y s₂ p => ?_) fun _ _ e => e
  obtain ⟨h', tk', x', dx, o, rfl, rfl, F', N2, hc, hlt, hdx⟩ := p
  have hI := hlt (I, oI) (List.mem_cons_self ..)
  have hCC := hlt (C, oC) (List.mem_cons_of_mem _ (List.mem_cons_self ..))
  have hD := hlt (D, LCg.lst ys) (List.mem_cons_of_mem _ (List.mem_cons_of_mem _ (List.mem_cons_self ..)))
  have gt : ∀ {a b c : Nat}, a < b → b < c → c ≠ a := fun h1 h2 => Nat.ne_of_gt (Nat.lt_trans h1 h2)
  refine LCg.CompEnd.intro F' N2 ((x', instObj 119 dx) :: (dx, o) :: news) ?_ ?_ trivial (rest x' dx o hc (fun p hp => hlt p (List.mem_cons_of_mem _ (List.mem_cons_of_mem _ (List.mem_cons_of_mem _ (List.mem_cons_of_mem _ (List.mem_cons_of_mem _ hp)))))) hdx)
  · exact List.forall_mem_cons.mpr ⟨(.tail _ (.tail _ (.head _))), List.forall_mem_cons.mpr ⟨(.tail _ (.tail _ (.tail _ (.head _)))), List.forall_mem_cons.mpr ⟨(.tail _ (.tail _ (.tail _ (.tail _ (.head _))))), List.forall_mem_cons.mpr ⟨(.head _), List.forall_mem_cons.mpr ⟨(.tail _ (.head _)), fun p hp => (.tail _ (.tail _ (.tail _ (.tail _ (.tail _ (.tail _ (.tail _ hp)))))))⟩⟩⟩⟩⟩
  · exact ⟨⟨gt hI hdx, gt hCC hdx, gt hD hdx⟩, ⟨Nat.ne_of_gt hI, Nat.ne_of_gt hCC, Nat.ne_of_gt hD⟩, off⟩
theorem cells_comp {S a3 : Addr} {o3 : Obj} {ov : Bool} {rate : Int} {u : Str} {burst : Int} {oc : Bool} {t0 t1 t2 t3 : Tok} {c : Nat} {P : Nat → Value → Prop} {Fin : List Value → List (Addr × Obj) → Prop} {news : List (Addr × Obj)}
    (_hd : o3.data = .cell (some (.ref S))) (hS : (S, stm ov rate u burst oc t0 t1 t2 t3 c) ∈ news) (h3 : (a3, o3) ∈ news) (turn : MadeTurn prog w A h₀ L m env elt x scope cl s S a3 (stm ov rate u burst oc t0 t1 t2 t3 c) o3 ov rate u burst oc (bucketOf (spanOf u) rate burst oc))
    (fin : ∀ (x0 dx0 : Addr) (o0 : Obj) (x1 dx1 : Addr) (o1 : Obj) (x2 dx2 : Addr) (o2 : Obj), CelIs w o0 ov rate u burst oc (bucketOf (spanOf u) rate burst oc) (bucketOf (spanOf u) rate burst oc) 0 → CelIs w o1 ov rate u burst oc (bucketOf (spanOf u) rate burst oc) (bucketOf (spanOf u) rate burst oc) 0 → CelIs w o2 ov rate u burst oc (bucketOf (spanOf u) rate burst oc) (bucketOf (spanOf u) rate burst oc) 0 →
      (∀ p ∈ news, @LT.lt Nat _ p.1 dx0) → @LT.lt Nat _ dx0 x0 → @LT.lt Nat _ x0 dx1 → @LT.lt Nat _ dx1 x1 → @LT.lt Nat _ x1 dx2 → @LT.lt Nat _ dx2 x2 →
      Fin [.ref x0, .ref x1, .ref x2] ((x2, instObj 119 dx2) :: (dx2, o2) :: (x1, instObj 119 dx1) :: (dx1, o1) :: (x0, instObj 119 dx0) :: (dx0, o0) :: news)) :
    LCg.CompRest prog w A h₀ L m env elt x scope cl s (fun _ => True) P Fin 3 0 [] news := by
  refine cells_one turn hS h3 fun x0 dx0 o0 c0 f0 l0 => ?_
  refine cells_one turn (List.mem_cons_of_mem _ (List.mem_cons_of_mem _ hS)) (List.mem_cons_of_mem _ (List.mem_cons_of_mem _ h3)) fun x1 dx1 o1 c1 f1 l1 => ?_
  refine cells_one turn (List.mem_cons_of_mem _ (List.mem_cons_of_mem _ (List.mem_cons_of_mem _ (List.mem_cons_of_mem _ hS)))) (List.mem_cons_of_mem _ (List.mem_cons_of_mem _ (List.mem_cons_of_mem _ (List.mem_cons_of_mem _ h3)))) fun x2 dx2 o2 c2 f2 l2 => ?_
  exact LCg.CompRest.zero (fin x0 dx0 o0 x1 dx1 o1 x2 dx2 o2 c0 c1 c2 f0 l0 (f1 _ (List.mem_cons_self ..)) l1 (f2 _ (List.mem_cons_self ..)) l2)
end
end
section
theorem news_sub {h₀ h : Heap} {L : Addr} {all news : List (Addr × Obj)} (N : News h₀ L h all) (hs : ∀ p ∈ news, p ∈ all) : News h₀ L h news := fun p hp => N p (hs p hp)
section
variable {h₀ h : Heap} {L DC x0 dx0 x1 dx1 x2 dx2 S R : Addr} {lo i0 i1 i2 o0 o1 o2 p0 p1 p2 : Obj} {ov : Bool} {rate : Int} {u : Str} {burst : Int} {oc : Bool} {t0 t1 t2 t3 : Tok} {c nn : Nat} {OLD tl : List (Addr × Obj)} {vs : List Value} {es : List Ent} {P : Prop}
theorem own_off {b : Addr} {l : List (Addr × Obj)} (h : ∀ p ∈ l, p.1 ≠ b) : OwnOff l [b] := fun p hp c hc => by
  rw [List.mem_singleton.mp hc]; exact h p hp
theorem law_a (N : News h₀ L h ((DC, lo) :: (x2, i2) :: (dx2, o2) :: (x1, i1) :: (dx1, o1) :: (x0, i0) :: (dx0, o0) :: OLD)) (hf : ∀ p ∈ OLD, @LT.lt Nat _ p.1 dx0)
    (l0 : @LT.lt Nat _ dx0 x0) (l1 : @LT.lt Nat _ x0 dx1) (l2 : @LT.lt Nat _ dx1 x1) (l3 : @LT.lt Nat _ x1 dx2) (l4 : @LT.lt Nat _ dx2 x2) (off : LCg.Off1 DC ((x2, p2) :: (dx2, o2) :: (x1, p1) :: (dx1, o1) :: (x0, p0) :: (dx0, o0) :: OLD))
    (hS : (S, stm ov rate u burst oc t0 t1 t2 t3 c) ∈ OLD) (hR : (R, listOf vs.toArray nn) ∈ OLD) (hes : EntsIn tl vs es) (htl : ∀ p ∈ tl, p ∈ OLD)
    (k : News h₀ L h ((dx0, o0) :: (x0, i0) :: (S, stm ov rate u burst oc t0 t1 t2 t3 c) :: (R, listOf vs.toArray nn) :: (DC, lo) :: (x2, i2) :: (dx2, o2) :: (x1, i1) :: (dx1, o1) :: OLD) →
      OwnOff ((x0, i0) :: (S, stm ov rate u burst oc t0 t1 t2 t3 c) :: (R, listOf vs.toArray nn) :: (DC, lo) :: (x2, i2) :: (dx2, o2) :: (x1, i1) :: (dx1, o1) :: OLD) [dx0] → EntsIn ((DC, lo) :: (x2, i2) :: (dx2, o2) :: (x1, i1) :: (dx1, o1) :: OLD) vs es → P) : P := by
  have l02 := Nat.lt_trans (Nat.lt_trans l0 l1) l2
  exact k (news_sub N (List.forall_mem_cons.mpr ⟨(.tail _ (.tail _ (.tail _ (.tail _ (.tail _ (.tail _ (.head _))))))), List.forall_mem_cons.mpr ⟨(.tail _ (.tail _ (.tail _ (.tail _ (.tail _ (.head _)))))), List.forall_mem_cons.mpr ⟨(.tail _ (.tail _ (.tail _ (.tail _ (.tail _ (.tail _ (.tail _ hS))))))), List.forall_mem_cons.mpr ⟨(.tail _ (.tail _ (.tail _ (.tail _ (.tail _ (.tail _ (.tail _ hR))))))), List.forall_mem_cons.mpr ⟨(.head _), List.forall_mem_cons.mpr ⟨(.tail _ (.head _)), List.forall_mem_cons.mpr ⟨(.tail _ (.tail _ (.head _))), List.forall_mem_cons.mpr ⟨(.tail _ (.tail _ (.tail _ (.head _)))), List.forall_mem_cons.mpr ⟨(.tail _ (.tail _ (.tail _ (.tail _ (.head _))))), fun p h => (.tail _ (.tail _ (.tail _ (.tail _ (.tail _ (.tail _ (.tail _ h)))))))⟩⟩⟩⟩⟩⟩⟩⟩⟩)) (own_off (List.forall_mem_cons.mpr ⟨Nat.ne_of_gt l0, List.forall_mem_cons.mpr ⟨Nat.ne_of_lt (hf _ hS), List.forall_mem_cons.mpr ⟨Nat.ne_of_lt (hf _ hR), List.forall_mem_cons.mpr ⟨Ne.symm off.2.2.2.2.2.1, List.forall_mem_cons.mpr ⟨Nat.ne_of_gt (Nat.lt_trans l02 (Nat.lt_trans l3 l4)), List.forall_mem_cons.mpr ⟨Nat.ne_of_gt (Nat.lt_trans l02 l3), List.forall_mem_cons.mpr ⟨Nat.ne_of_gt l02, List.forall_mem_cons.mpr ⟨Nat.ne_of_gt (Nat.lt_trans l0 l1), fun p h => Nat.ne_of_lt (hf p h)⟩⟩⟩⟩⟩⟩⟩⟩)) (hes.mono (fun p h => (.tail _ (.tail _ (.tail _ (.tail _ (.tail _ (htl p h))))))))
theorem law_b (N : News h₀ L h ((dx0, o0) :: (x0, i0) :: (S, stm ov rate u burst oc t0 t1 t2 t3 c) :: (R, listOf vs.toArray nn) :: (DC, lo) :: (x2, i2) :: (dx2, o2) :: (x1, i1) :: (dx1, o1) :: OLD)) (hf : ∀ p ∈ OLD, @LT.lt Nat _ p.1 dx0)
    (l0 : @LT.lt Nat _ dx0 x0) (l1 : @LT.lt Nat _ x0 dx1) (l2 : @LT.lt Nat _ dx1 x1) (l3 : @LT.lt Nat _ x1 dx2) (l4 : @LT.lt Nat _ dx2 x2) (off : LCg.Off1 DC ((x2, i2) :: (dx2, o2) :: (x1, i1) :: (dx1, o1) :: (x0, i0) :: (dx0, p0) :: OLD))
    (hS : (S, stm ov rate u burst oc t0 t1 t2 t3 c) ∈ OLD) (hR : (R, listOf vs.toArray nn) ∈ OLD) (hes : EntsIn tl vs es) (htl : ∀ p ∈ tl, p ∈ OLD)
    (k : News h₀ L h ((dx1, o1) :: (x1, i1) :: (S, stm ov rate u burst oc t0 t1 t2 t3 c) :: (R, listOf vs.toArray nn) :: (DC, lo) :: (x2, i2) :: (dx2, o2) :: (x0, i0) :: (dx0, o0) :: OLD) →
      OwnOff ((x1, i1) :: (S, stm ov rate u burst oc t0 t1 t2 t3 c) :: (R, listOf vs.toArray nn) :: (DC, lo) :: (x2, i2) :: (dx2, o2) :: (x0, i0) :: (dx0, o0) :: OLD) [dx1] → EntsIn ((DC, lo) :: (x2, i2) :: (dx2, o2) :: (x0, i0) :: (dx0, o0) :: OLD) vs es → P) : P := by
  have l01 := Nat.lt_trans l0 l1
  exact k (news_sub N (List.forall_mem_cons.mpr ⟨(.tail _ (.tail _ (.tail _ (.tail _ (.tail _ (.tail _ (.tail _ (.tail _ (.head _))))))))), List.forall_mem_cons.mpr ⟨(.tail _ (.tail _ (.tail _ (.tail _ (.tail _ (.tail _ (.tail _ (.head _)))))))), List.forall_mem_cons.mpr ⟨(.tail _ (.tail _ (.head _))), List.forall_mem_cons.mpr ⟨(.tail _ (.tail _ (.tail _ (.head _)))), List.forall_mem_cons.mpr ⟨(.tail _ (.tail _ (.tail _ (.tail _ (.head _))))), List.forall_mem_cons.mpr ⟨(.tail _ (.tail _ (.tail _ (.tail _ (.tail _ (.head _)))))), List.forall_mem_cons.mpr ⟨(.tail _ (.tail _ (.tail _ (.tail _ (.tail _ (.tail _ (.head _))))))), List.forall_mem_cons.mpr ⟨(.tail _ (.head _)), List.forall_mem_cons.mpr ⟨(.head _), fun p h => (.tail _ (.tail _ (.tail _ (.tail _ (.tail _ (.tail _ (.tail _ (.tail _ (.tail _ h)))))))))⟩⟩⟩⟩⟩⟩⟩⟩⟩)) (own_off (List.forall_mem_cons.mpr ⟨Nat.ne_of_gt l2, List.forall_mem_cons.mpr ⟨Nat.ne_of_lt (Nat.lt_trans (hf _ hS) l01), List.forall_mem_cons.mpr ⟨Nat.ne_of_lt (Nat.lt_trans (hf _ hR) l01), List.forall_mem_cons.mpr ⟨Ne.symm off.2.2.2.1, List.forall_mem_cons.mpr ⟨Nat.ne_of_gt (Nat.lt_trans l2 (Nat.lt_trans l3 l4)), List.forall_mem_cons.mpr ⟨Nat.ne_of_gt (Nat.lt_trans l2 l3), List.forall_mem_cons.mpr ⟨Nat.ne_of_lt l1, List.forall_mem_cons.mpr ⟨Nat.ne_of_lt l01, fun p h => Nat.ne_of_lt (Nat.lt_trans (hf p h) l01)⟩⟩⟩⟩⟩⟩⟩⟩)) (hes.mono (fun p h => (.tail _ (.tail _ (.tail _ (.tail _ (.tail _ (htl p h))))))))
theorem law_c (N : News h₀ L h ((dx1, o1) :: (x1, i1) :: (S, stm ov rate u burst oc t0 t1 t2 t3 c) :: (R, listOf vs.toArray nn) :: (DC, lo) :: (x2, i2) :: (dx2, o2) :: (x0, i0) :: (dx0, o0) :: OLD)) (hf : ∀ p ∈ OLD, @LT.lt Nat _ p.1 dx0)
    (l0 : @LT.lt Nat _ dx0 x0) (l1 : @LT.lt Nat _ x0 dx1) (l2 : @LT.lt Nat _ dx1 x1) (l3 : @LT.lt Nat _ x1 dx2) (l4 : @LT.lt Nat _ dx2 x2) (off : LCg.Off1 DC ((x2, i2) :: (dx2, o2) :: (x1, i1) :: (dx1, p1) :: (x0, i0) :: (dx0, p0) :: OLD))
    (hS : (S, stm ov rate u burst oc t0 t1 t2 t3 c) ∈ OLD) (hR : (R, listOf vs.toArray nn) ∈ OLD) (hes : EntsIn tl vs es) (htl : ∀ p ∈ tl, p ∈ OLD)
    (k : News h₀ L h ((dx2, o2) :: (x2, i2) :: (S, stm ov rate u burst oc t0 t1 t2 t3 c) :: (R, listOf vs.toArray nn) :: (DC, lo) :: (x1, i1) :: (dx1, o1) :: (x0, i0) :: (dx0, o0) :: OLD) →
      OwnOff ((S, stm ov rate u burst oc t0 t1 t2 t3 c) :: (R, listOf vs.toArray nn) :: (DC, lo) :: (x1, i1) :: (dx1, o1) :: (x0, i0) :: (dx0, o0) :: OLD) [dx2] → EntsIn ((DC, lo) :: (x1, i1) :: (dx1, o1) :: (x0, i0) :: (dx0, o0) :: OLD) vs es → P) : P := by
  have l23 := Nat.lt_trans l2 l3
  have l03 := Nat.lt_trans (Nat.lt_trans l0 l1) l23
  exact k (news_sub N (List.forall_mem_cons.mpr ⟨(.tail _ (.tail _ (.tail _ (.tail _ (.tail _ (.tail _ (.head _))))))), List.forall_mem_cons.mpr ⟨(.tail _ (.tail _ (.tail _ (.tail _ (.tail _ (.head _)))))), List.forall_mem_cons.mpr ⟨(.tail _ (.tail _ (.head _))), List.forall_mem_cons.mpr ⟨(.tail _ (.tail _ (.tail _ (.head _)))), List.forall_mem_cons.mpr ⟨(.tail _ (.tail _ (.tail _ (.tail _ (.head _))))), List.forall_mem_cons.mpr ⟨(.tail _ (.head _)), List.forall_mem_cons.mpr ⟨(.head _), List.forall_mem_cons.mpr ⟨(.tail _ (.tail _ (.tail _ (.tail _ (.tail _ (.tail _ (.tail _ (.head _)))))))), List.forall_mem_cons.mpr ⟨(.tail _ (.tail _ (.tail _ (.tail _ (.tail _ (.tail _ (.tail _ (.tail _ (.head _))))))))), fun p h => (.tail _ (.tail _ (.tail _ (.tail _ (.tail _ (.tail _ (.tail _ (.tail _ (.tail _ h)))))))))⟩⟩⟩⟩⟩⟩⟩⟩⟩)) (own_off (List.forall_mem_cons.mpr ⟨Nat.ne_of_lt (Nat.lt_trans (hf _ hS) l03), List.forall_mem_cons.mpr ⟨Nat.ne_of_lt (Nat.lt_trans (hf _ hR) l03), List.forall_mem_cons.mpr ⟨Ne.symm off.2.1, List.forall_mem_cons.mpr ⟨Nat.ne_of_lt l3, List.forall_mem_cons.mpr ⟨Nat.ne_of_lt l23, List.forall_mem_cons.mpr ⟨Nat.ne_of_lt (Nat.lt_trans l1 l23), List.forall_mem_cons.mpr ⟨Nat.ne_of_lt l03, fun p h => Nat.ne_of_lt (Nat.lt_trans (hf p h) l03)⟩⟩⟩⟩⟩⟩⟩)) (hes.mono (fun p h => (.tail _ (.tail _ (.tail _ (.tail _ (.tail _ (htl p h))))))))
end
end
section
abbrev tellNames : List Str := [Str.ofString "cell"]
section
variable {prog : Program} {w : World} {A : Around} {E : Value → Shared → Prop} {s : Shared} {env : Env} {h₀ : Heap} {target : PySem.Expr} {body : List Stmt} {Q : Flow → Shared → Prop}
def TellEnd (h₀ : Heap) (L : Addr) (all : List (Addr × Obj)) (m₀ : Str → Option Value) (s₁ s₂ : Shared) : Prop :=
  ∃ h' tk' m' news', s₂ = { s₁ with heap := h', toks := tk' } ∧ Fr h₀ L h' m' ∧ News h₀ L h' news' ∧ (∀ p ∈ all, p ∈ news') ∧ ∀ z, tellNames.contains z = false → m' z = m₀ z
def TellTurn (h₀ : Heap) (L : Addr) (all : List (Addr × Obj)) (m₀ : Str → Option Value) (s₁ : Shared) (Q : Flow → Shared → Prop) (f : Flow) (s₂ : Shared) : Prop :=
  match f with
  | .ret v => Q (.ret v) s₂
  | .brk => Q .next s₂
  | _ => TellEnd h₀ L all m₀ s₁ s₂
theorem TellEnd.intro {L : Addr} {all news' : List (Addr × Obj)} {m₀ m' : Str → Option Value} {s₁ : Shared} {h' : Heap} {tk' : Nat}
    (F : Fr h₀ L h' m') (N : News h₀ L h' news') (ha : ∀ p ∈ all, p ∈ news') (hr : ∀ z, tellNames.contains z = false → m' z = m₀ z) :
    TellEnd h₀ L all m₀ s₁ { s₁ with heap := h', toks := tk' } := ⟨h', tk', m', news', rfl, F, N, ha, hr⟩
/-- the values are cells of the ledger -/
def CellsIn (w : World) (news : List (Addr × Obj)) (ov : Bool) (rate : Int) (u : Str) (burst : Int) (oc : Bool) (M : Int) : List Value → Prop
  | [] => True
  | v :: r => (∃ x dx o tok last, v = .ref x ∧ (x, instObj 119 dx) ∈ news ∧ (dx, o) ∈ news ∧ CelIs w o ov rate u burst oc M tok last) ∧ CellsIn w news ov rate u burst oc M r
def TellStep (prog : Program) (w : World) (A : Around) (E : Value → Shared → Prop) (s : Shared) (env : Env) (h₀ : Heap) (target : PySem.Expr) (body : List Stmt) (Q : Flow → Shared → Prop) (S a3 : Addr) (oS o3 : Obj) (m₀ : Str → Option Value) (ov : Bool) (rate : Int) (u : Str) (burst : Int) (oc : Bool) (M : Int) : Prop :=
  ∀ (x dx : Addr) (o : Obj) (tok last : Int) (rest₁ : List (Addr × Obj)) (m₁ : Str → Option Value) (h : Heap) (tk : Nat), CelIs w o ov rate u burst oc M tok last →
      Fr h₀ env.locals h (fun z => if tellNames.contains z then m₁ z else m₀ z) → News h₀ env.locals h ((x, instObj 119 dx) :: (dx, o) :: (S, oS) :: (a3, o3) :: rest₁) →
      wpAny (model prog w) A (assign target env (.ref x)) (fun _ s₂ => wpAny (model prog w) A (execs body env) (TellTurn h₀ env.locals ((x, instObj 119 dx) :: (dx, o) :: (S, oS) :: (a3, o3) :: rest₁) m₀ { s with heap := h, toks := tk } Q) E s₂) E { s with heap := h, toks := tk }
theorem tell_items {I DC S a3 : Addr} {lo oS o3 : Obj} {news : List (Addr × Obj)} {m₀ : Str → Option Value} {ov : Bool} {rate : Int} {u : Str} {burst : Int} {oc : Bool} {M : Int}
    (hI : ∀ p ∈ news, @LT.lt Nat _ p.1 I) (hD : (DC, lo) ∈ news) (hS : (S, oS) ∈ news) (h3 : (a3, o3) ∈ news)
    (turn : TellStep prog w A E s env h₀ target body Q S a3 oS o3 m₀ ov rate u burst oc M)
    (done : ∀ (m₁ : Str → Option Value) (h : Heap) (tk : Nat), Fr h₀ env.locals h (fun z => if tellNames.contains z then m₁ z else m₀ z) → News h₀ env.locals h news → Q .next { s with heap := h, toks := tk }) :
    ∀ (vs : List Value) (m : Str → Option Value), CellsIn w news ov rate u burst oc M vs → (∀ z, tellNames.contains z = false → m z = m₀ z) →
      ItemsRest prog w A E h₀ env target body Q s [(I, "list_iterator")] [(DC, lo)] (vs.map .val) m news := by
  intro vs
  induction vs with
  | nil =>
    intro m _ hm h tk F N
    exact done m h tk (fr_off hm F) N
  | cons v vs ih =>
    intro m hcs hm
    obtain ⟨⟨x, dx, o, tok, last, rfl, hx, hdx, hc⟩, hcs⟩ := hcs
    intro v' h tk hv F oI hoI N
    have hv : v' = .ref x := hv
    subst hv
    have N : News h₀ env.locals h ((I, oI) :: news) := N
    have N' : News h₀ env.locals h ((x, instObj 119 dx) :: (dx, o) :: (S, oS) :: (a3, o3) :: (I, oI) :: news) :=
      List.forall_mem_cons.mpr ⟨N _ (.tail _ hx), List.forall_mem_cons.mpr ⟨N _ (.tail _ hdx), List.forall_mem_cons.mpr ⟨N _ (.tail _ hS), List.forall_mem_cons.mpr ⟨N _ (.tail _ h3), N⟩⟩⟩⟩
    refine wpAny_mono (turn x dx o tok last ((I, oI) :: news) m h tk hc (fr_off hm F) N') (fun _ s₂ h₂ => wpAny_mono h₂ (fun f s₃ p => ?_) fun _ _ e => e) fun _ _ e => e
    have fin : TellEnd h₀ env.locals ((x, instObj 119 dx) :: (dx, o) :: (S, oS) :: (a3, o3) :: (I, oI) :: news) m₀ { s with heap := h, toks := tk } s₃ →
        UnrEndW h₀ env.locals { s with heap := h, toks := tk } [(I, oI)] (fun m' n' => SubL [(DC, lo)] n' ∧ ItemsRest prog w A E h₀ env target body Q s [(I, "list_iterator")] [(DC, lo)] (vs.map .val) m' n') s₃ := by
      rintro ⟨h', tk', m', news', rfl, F', N', ha, hr'⟩
      refine ⟨h', tk', m', news, rfl, F', ?_, ?_, ⟨hD, trivial⟩, ih m' hcs hr'⟩
      · intro p hp
        exact N' p (ha p (List.mem_cons_of_mem _ (List.mem_cons_of_mem _ (List.mem_cons_of_mem _ (List.mem_cons_of_mem _ hp)))))
      · intro p hp q hq
        rw [List.mem_singleton.mp hq]
        exact Nat.ne_of_lt (hI p hp)
    cases f with
    | ret v => exact p
    | brk => exact p
    | next => exact fin p
    | cont => exact fin p
theorem tell_loop {DC S a3 : Addr} {vs : List Value} {oS o3 : Obj} {news : List (Addr × Obj)} {m₀ : Str → Option Value} {ov : Bool} {rate : Int} {u : Str} {burst : Int} {oc : Bool} {M : Int}
    (hh : A.handled = none) (F : Fr h₀ env.locals s.heap m₀) (N : News h₀ env.locals s.heap news) (_hd : o3.data = .cell (some (.ref S))) (hD : (DC, LCg.lst vs) ∈ news) (hS : (S, oS) ∈ news) (h3 : (a3, o3) ∈ news) (hc : CellsIn w news ov rate u burst oc M vs)
    (turn : TellStep prog w A E s env h₀ target body Q S a3 oS o3 m₀ ov rate u burst oc M)
    (done : ∀ (m₁ : Str → Option Value) (h : Heap) (tk : Nat), Fr h₀ env.locals h (fun z => if tellNames.contains z then m₁ z else m₀ z) → News h₀ env.locals h news → Q .next { s with heap := h, toks := tk }) :
    wpAny (model prog w) A (pyIter (.ref DC)) (fun it s₂ => TurnsAt prog w A h₀ env target body Q E it s₂) E s :=
  iter_listTurns (lo := LCg.lst vs) (vs := vs) hh F N hD rfl rfl fun _ hI => tell_items hI hD hS h3 turn done vs m₀ hc fun _ _ => rfl
end
end
section
open PyProof.V PySem.Spec
theorem unit_ok {u : Str} (hu : isUnit u) : PyData.strOk u = true := by
  rcases hu with rfl | rfl | rfl | rfl | rfl <;> decide +kernel
theorem limit_ok : PyData.strOk (Str.ofString "limit") = true := by decide +kernel
section
variable {prog : Program} {w : World} {A : Around} {E : Value → Shared → Prop} {s : Shared} {Q : Value → Shared → Prop}
theorem stm_reads {h : Heap} {h₀ : Heap} {L : Addr} {news : List (Addr × Obj)} {a : Addr} {ov : Bool} {rate : Int} {u : Str} {burst : Int} {oc : Bool} {t0 t1 t2 t3 : Tok} {c : Nat} (N : News h₀ L h news) (ha : (a, stm ov rate u burst oc t0 t1 t2 t3 c) ∈ news) :
    ∃ as, Reads h (.ref a) (.tuple [.str (Str.ofString "limit"), .bool ov, .int rate, .str u, .int burst, .bool oc]) as :=
  ⟨_, reads_tuple_at (N.get ha) rfl rfl (ReadsAll.cons (Reads.str _ _) (ReadsAll.cons (Reads.bool _) (ReadsAll.cons (Reads.int _ _) (ReadsAll.cons (Reads.str _ _) (ReadsAll.cons (Reads.int _ _) (ReadsAll.cons (Reads.bool _) ReadsAll.nil))))))⟩
theorem stm_shaped {ov : Bool} {rate : Int} {u : Str} {burst : Int} {oc : Bool} (hu : isUnit u) : SeqAt.shaped (.tuple [.str (Str.ofString "limit"), .bool ov, .int rate, .str u, .int burst, .bool oc]) = true := by
  simp [SeqAt.shaped, PyData.canLay0, PyData.canLayAll0, PyData.depth, PyData.depthAll, unit_ok hu, limit_ok]
theorem stm_ne {h₀ : Heap} {L : Addr} {news : List (Addr × Obj)} {a b : Addr} {ov : Bool} {rate : Int} {u : Str} {burst : Int} {oc : Bool} {t0 t1 t2 t3 s0 s1 s2 s3 : Tok} {c d : Nat} (hu : isUnit u) (N : News h₀ L s.heap news) (ha : (a, stm ov rate u burst oc t0 t1 t2 t3 c) ∈ news) (hb : (b, stm ov rate u burst oc s0 s1 s2 s3 d) ∈ news)
    (hU : A.units + 64 < cLine) (h : Q (.bool false) s) : wpAny (model prog w) A (compareOp .NotEq (.ref a) (.ref b)) Q E s := by
  obtain ⟨as, ra⟩ := stm_reads N ha
  obtain ⟨bs, rb⟩ := stm_reads N hb
  refine ne_dataH ra rb (stm_shaped hu) (stm_shaped hu) hU ?_
  simpa [PyData.eqv, PyData.eqvAll] using h
end
end
set_option maxHeartbeats 8000000 in
theorem law_test : PySem.Challenge.rw_pq1069_01.Holds := hd (by
  k_go0
  k_with_none
  k_with "binaryOp FloorDiv int int" =>
    k_here
    (with_reducible show wpAny _ _ (binaryOp Operator.FloorDiv (Value.int _ _) (Value.int _ _)) _ _ _)
    (with_reducible refine my_floordiv ?_ ?_ ?_)
    · omega
    · omega
  k_with "binaryOp Mod int int" =>
    k_here
    (with_reducible show wpAny _ _ (binaryOp Operator.Mod (Value.int _ _) (Value.int _ _)) _ _ _)
    (with_reducible refine my_mod ?_ ?_)
    · omega
  k_with "binaryOp Pow int int" =>
    k_here
    first
    | (with_reducible refine my_pow 10 9 1000000000 (by decide) (by decide) (by decide) (by decide) ?_)
    | (with_reducible refine my_pow 10 6 1000000 (by decide) (by decide) (by decide) (by decide) ?_)
    | (with_reducible refine my_pow 10 12 1000000000000 (by decide) (by decide) (by decide) (by decide) ?_)
    | (with_reducible refine my_pow 10 15 1000000000000000 (by decide) (by decide) (by decide) (by decide) ?_)
  k_with "execs cons" =>
    k_here
    (with_reducible show wpAny _ _ (execs _ _) _ _ (Shared.mk _ _ _ (_ + _) _))
    (with_reducible refine gen_toks ?_)
    intro tk8
  k_with "subscriptTail List cons BinOp ref int" =>
    k_here
    (with_reducible show wpAny _ _ (subscriptTail _ _ (Value.ref _) (Value.int _ _)) _ _ _)
    k_dflt (refine item_anyK (by is_list) (by l_ints) (by l_idx) (by l_idx) (by l_idx) ?_; k_whole)
    intro _
  k_with "subscriptTail List cons Name ref int" =>
    k_here
    (with_reducible show wpAny _ _ (subscriptTail _ _ (Value.ref _) (Value.int _ _)) _ _ _)
    k_dflt (refine item_anyK (by is_list) (by l_ints) (by l_idx) (by l_idx) (by l_idx) ?_; k_whole)
    intro _
  k_with "getItem ref str" =>
    k_here
    (with_reducible show wpAny _ _ (getItem (Value.ref _) (Value.str _ _)) _ _ _)
    dsimp only
    (rename isUnit _ => hu9)
    with_unfolding_all first
    | (refine my_getUnit spanOf hu9 (by k_tabat) rfl rfl rfl rfl rfl (by decide +kernel) ?_; intro _)
    | (refine my_getUnit secsOf hu9 (by k_tabat) rfl rfl rfl rfl rfl (by decide +kernel) ?_; intro _)
  k_with "compareOp NotIn str ref" =>
    k_here
    (with_reducible show wpAny _ _ (compareOp CmpOp.NotIn (Value.str _ _) (Value.ref _)) _ _ _)
    dsimp only
    (rename isUnit _ => hu9)
    with_unfolding_all (refine my_notinUnit hu9 (by k_tabat) rfl rfl rfl rfl rfl ?_)
  k_with "subscriptTail Name Name ref str" =>
    k_here
    (with_reducible show wpAny _ _ (subscriptTail _ _ (Value.ref _) (Value.str _ _)) _ _ _)
    dsimp only
    (rename isUnit _ => hu9)
    with_unfolding_all (refine my_itemUnit secsOf hu9 (by k_tabat) rfl rfl rfl rfl rfl (by decide +kernel) rfl (fun _ => rfl) ?_; intro _)
  k_with "call ref" =>
    k_here
    (with_reducible show wpAny _ _ (call (Value.ref 56) _) _ _ _)
    exfalso
    first | omega | (simp_all; done) | (simp_all; omega)
  k_with "call ref" =>
    k_here
    (with_reducible show wpAny _ _ (call (Value.ref 186) _) _ _ _)
    k_dflt (refine Con.useI (by k_asm) (by k_asm) (by k_asm) (by k_asm) (by k_asm) (by first | exact rfl | assumption) (bucket_con (by k_mem) (by first | assumption | omega) (by first | assumption | omega) (by assumption) (by first | assumption | omega) (by first | assumption | omega)) (by first | ktr_room | decide) (by first | ktr_units | decide) ?_; k_whole)
    intro t9 h9 tk9 F9 N9
    (try dsimp only)
    (try k_fold)
  k_with "call ref" =>
    k_here
    (with_reducible show wpAny _ _ (call (Value.ref 172) _) _ _ _)
    k_dflt (refine Con.useS (by k_asm) (by k_asm) (by k_asm) (by k_asm) (by k_asm) (by first | exact rfl | assumption) (by assumption) (by assumption) (by omega) (drawn_con (by assumption) (by assumption)) (by first | ktr_room | decide) (by first | ktr_units | decide) ?_; k_whole)
    k_dflt (intro r9 nx9 h9 tk9 F9 N9 p9; (obtain ⟨S9, ov9, rate9, u9, burst9, oc9, t90, t91, t92, t93, c9, er9, en9, hr9, hR9, hu9, hb9, hc9, hbo9, hlt9⟩ := p9); subst er9 en9)
    (try k_lt hlt9)
    (try dsimp only)
    (try k_fold)
  k_with "call ref" =>
    k_here
    (with_reducible show wpAny _ _ (call (Value.ref 193) _) _ _ _)
    k_dflt (refine Con.useS (by k_asm) (by k_asm) (by k_asm) (by k_asm) (by k_asm) (by first | exact rfl | assumption) (by assumption) (by assumption) (by omega) (stream_con0 (by assumption) (by assumption) (by assumption) (by assumption) (by assumption)) (by first | ktr_room | decide) (by first | ktr_units | decide) ?_; k_whole)
    k_dflt (intro r9 nx9 h9 tk9 F9 N9 p9; (obtain ⟨R9, vs9, n9, tl9, es9, er9, en9, hs9, hes9, hl9, hch9⟩ := p9); subst er9 en9; (have N8 := news_add N9 hs9); clear N9; (simp only [List.cons_append] at N8))
    (try dsimp only)
    (try k_fold)
  k_with "call ref" =>
    k_here
    (with_reducible show wpAny _ _ (call (Value.ref 151) _) _ _ _)
    k_dflt (refine Con.use (by k_asm) (by k_asm) (by k_asm) (by k_asm) (by k_asm) (by first | exact rfl | assumption) (make_con (by assumption) (by assumption) (by assumption) (by assumption) (by assumption) (by assumption)) (by first | ktr_room | decide) (by first | ktr_units | decide) ?_; k_whole)
    k_dflt (intro r9 nx9 h9 tk9 F9 N9 p9; (obtain ⟨x9, dx9, o9, er9, en9, ho9, hlt9, hdx9⟩ := p9); subst er9 en9)
    (try dsimp only)
    (try k_fold)
  k_with "call ref" =>
    k_here
    (with_reducible show wpAny _ _ (call (Value.ref 214) _) _ _ _)
    k_dflt (refine Con.use (by k_asm) (by k_asm) (by k_asm) (by k_asm) (by k_asm) (by first | exact rfl | assumption) (holds_con (by with_reducible assumption) (by with_reducible assumption) (by with_reducible assumption) (by with_reducible assumption) (by with_reducible assumption) (by assumption) (by assumption) (by assumption) (by omega)) (by first | ktr_room | decide) (by first | ktr_units | decide) ?_; k_whole)
    k_dflt (intro r9 nx9 h9 tk9 F9 N9 p9; (obtain ⟨o9, tok9, last9, er9, en9, ho9⟩ := p9); subst er9 en9)
    (try dsimp only)
    (try k_fold)
  k_with "call ref" =>
    k_here
    (with_reducible show wpAny _ _ (call (Value.ref 221) _) _ _ _)
    k_dflt (refine Con.use (by k_asm) (by k_asm) (by k_asm) (by k_asm) (by k_asm) (by first | exact rfl | assumption) (torn_con (by with_reducible assumption) (by with_reducible assumption) (by with_reducible assumption) (by with_reducible assumption) (by with_reducible assumption) (by with_reducible assumption) (by assumption) (by assumption) (by assumption) (by assumption) (by assumption) (by omega) (by omega)) (by first | ktr_room | decide) (by first | ktr_units | decide) ?_; k_whole)
    k_dflt (intro r9 nx9 h9 tk9 F9 N9 p9; (obtain ⟨o9, tok9, last9, er9, en9, ho9⟩ := p9); subst er9 en9)
    (try dsimp only)
    (try k_fold)
  k_with "call ref" =>
    k_here
    (with_reducible show wpAny _ _ (call (Value.ref 158) _) _ _ _)
    k_dflt (refine Con.use (by k_asm) (by k_asm) (by k_asm) (by k_asm) (by k_asm) (by first | exact rfl | assumption) (stat_con (by k_mem) (by k_mem) (by with_reducible assumption)) (by first | ktr_room | decide) (by first | ktr_units | decide) ?_; k_whole)
    k_dflt (intro r9 nx9 h9 tk9 F9 N9 p9; (obtain ⟨T9, t90, t91, t92, t93, c9, er9, en9⟩ := p9); subst er9 en9)
    (try dsimp only)
    (try k_fold)
  k_with "compareOp NotEq ref ref" =>
    k_here
    (with_reducible show wpAny _ _ (compareOp CmpOp.NotEq (Value.ref _) (Value.ref _)) _ _ _)
    k_dflt (refine stm_ne (by assumption) (by k_asm) (by k_memK) (by k_memK) (by ke_room) ?_; k_whole)
  (all_goals try k_fold)
  repeat' ((fail_if_success (with_reducible show wpAny _ _ (exec (Stmt.For _ _ _ _ _) _) _ _ _)); first | (k_unfold; (try dsimp only)) | (k_end; wrow_close) | walk1 | (dsimp only; walk1) | (leave1; walk_say "STEP leave1"; try dsimp only) | fail "no step")
  k_here
  (rename Fr _ _ _ _ => lF')
  (with_unfolding_all refine' For_turns lF' ?_; k_whole)
  repeat' ((fail_if_success (with_reducible show wpAny _ _ (pyIter _) _ _ _)); first | (k_unfold; (try dsimp only)) | (k_end; wrow_close) | walk1 | (dsimp only; walk1) | (leave1; walk_say "STEP leave1"; try dsimp only) | fail "no step")
  (rename Fr _ _ _ _ => lF)
  (rename News _ _ _ _ => lN)
  (rename IsRange _ _ _ _ _ _ _ _ => rgX)
  with_unfolding_all refine' law_loop (by rfl) rgX lF lN (by assumption) (by assumption) ?turn ?done
  case turn =>
    intro j t o3 o2 v3 v2 own m₁ h tk Q' hj0 hj3 hoff hd3 hd2 F' N' hQ
    clear lF lN rgX
    repeat' ((fail_if_success (with_reducible show wpAny _ _ (assign (PySem.Expr.Tuple _ _ _) _ _) _ _ _)); first | (k_unfold; (try dsimp only)) | (k_end; wrow_close) | walk1 | (dsimp only; walk1) | (leave1; walk_say "STEP leave1"; try dsimp only) | fail "no step")
    (rename IntsAre _ (List.map _ _) => hI8)
    obtain ⟨cuts, clock, back, tc1, tc2, tc3, e8⟩ := ints3 hI8 (by rfl)
    subst e8
    clear hI8
    repeat' ((fail_if_success (with_reducible show LCg.CompSrc ..)); first | (k_unfold; (try dsimp only)) | (k_end; wrow_close) | walk1 | (dsimp only; walk1) | (leave1; walk_say "STEP leave1"; try dsimp only) | fail "no step")
    (rename News _ _ _ _ => lN)
    (rename Fr _ _ _ _ => lF)
    (rename IsRange _ _ _ _ _ _ _ _ => rgX)
    (rename _ = Data.cell (some (Value.ref _)) => hd9)
    (rename _ = Data.cell (some (Value.int _ _)) => hd8)
    k_dflt refine' LCg.CompSrc.range (n := 3) (by rfl) lF lN rgX (by decide) (by rfl) (Nat.le_of_ble_eq_true rfl) ?_
    intro g9
    with_unfolding_all refine' cells_comp hd9 ?hS ?h3 ?mt ?fin
    case hS => k_memK
    case h3 => k_memK
    case mt =>
      intro tl ys v I oI C oC D m₂ h2 tk2 E' hC hx F2 N2
      clear lF lN rgX
      k_steps
      exact ⟨_, _, _, _, _, rfl, rfl, by assumption, by assumption, by assumption, by assumption, by assumption⟩
    case fin =>
      intro x0 dx0 o0 x1 dx1 o1 x2 dx2 o2 hc0 hc1 hc2 hf0 hl0 hl1 hl2 hl3 hl4 DC hq tkq Fq Nq Oq
      clear lF lN rgX
      (rename EntsIn _ _ _ => hes8)
      repeat' ((fail_if_success (with_reducible show wpAny _ _ (call (Value.ref _) _) _ _ _)); first | (k_unfold; (try dsimp only)) | (k_end; wrow_close) | walk1 | (dsimp only; walk1) | (leave1; walk_say "STEP leave1"; try dsimp only) | fail "no step")
      (rename News _ _ _ ((DC, _) :: _) => N7)
      refine' law_a N7 hf0 hl0 hl1 hl2 hl3 hl4 Oq ?hS1 ?hR1 hes8 ?tl1 ?_
      case hS1 => k_memK
      case hR1 => k_memK
      case tl1 => exact fun p hp => by (repeat (refine List.mem_cons_of_mem _ ?_)); exact List.mem_append.mpr (.inr hp)
      clear N7
      intro N8 off8 es8
      walk1
      clear N8 off8 es8
      (rename CelIs _ _ _ _ _ _ _ _ _ _ => hk1)
      repeat' ((fail_if_success (with_reducible show wpAny _ _ (call (Value.ref _) _) _ _ _)); first | (k_unfold; (try dsimp only)) | (k_end; wrow_close) | walk1 | (dsimp only; walk1) | (leave1; walk_say "STEP leave1"; try dsimp only) | fail "no step")
      (rename News _ _ _ ((_, _) :: _) => N7)
      refine' law_b N7 hf0 hl0 hl1 hl2 hl3 hl4 Oq ?hS2 ?hR2 hes8 ?tl2 ?_
      case hS2 => k_memK
      case hR2 => k_memK
      case tl2 => exact fun p hp => by (repeat (refine List.mem_cons_of_mem _ ?_)); exact List.mem_append.mpr (.inr hp)
      clear N7
      intro N8 off8 es8
      walk1
      clear N8 off8 es8
      (rename CelIs _ _ _ _ _ _ _ _ _ _ => hk2)
      repeat' ((fail_if_success (with_reducible show wpAny _ _ (call (Value.ref _) _) _ _ _)); first | (k_unfold; (try dsimp only)) | (k_end; wrow_close) | walk1 | (dsimp only; walk1) | (leave1; walk_say "STEP leave1"; try dsimp only) | fail "no step")
      (rename News _ _ _ ((_, _) :: _) => N7)
      refine' law_c N7 hf0 hl0 hl1 hl2 hl3 hl4 Oq ?hS3 ?hR3 hes8 ?tl3 ?_
      case hS3 => k_memK
      case hR3 => k_memK
      case tl3 => exact fun p hp => by (repeat (refine List.mem_cons_of_mem _ ?_)); exact List.mem_append.mpr (.inr hp)
      clear N7
      intro N8 off8 es8
      walk1
      clear N8 off8 es8
      (rename CelIs _ _ _ _ _ _ _ _ _ _ => hk3)
      clear hc0 hc1 hc2
      repeat' ((fail_if_success (with_reducible show wpAny _ _ (exec (Stmt.For _ _ _ _ _) _) _ _ _)); first | (k_unfold; (try dsimp only)) | (k_end; wrow_close) | walk1 | (dsimp only; walk1) | (leave1; walk_say "STEP leave1"; try dsimp only) | fail "no step")
      k_here
      (rename Fr _ _ _ _ => lF')
      (with_unfolding_all refine' For_turns lF' ?_; k_whole)
      repeat' ((fail_if_success (with_reducible show wpAny _ _ (pyIter _) _ _ _)); first | (k_unfold; (try dsimp only)) | (k_end; wrow_close) | walk1 | (dsimp only; walk1) | (leave1; walk_say "STEP leave1"; try dsimp only) | fail "no step")
      (rename Fr _ _ _ _ => lF)
      (rename News _ _ _ _ => lN)
      with_unfolding_all refine' tell_loop (by rfl) lF lN hd9 ?hD ?hS ?h3 ?hc ?tturn ?tdone
      case hD => k_memK
      case hS => k_memK
      case h3 => k_memK
      case hc =>
        refine' ⟨⟨x0, dx0, _, _, _, rfl, ?_, ?_, hk1⟩, ⟨x1, dx1, _, _, _, rfl, ?_, ?_, hk2⟩, ⟨x2, dx2, _, _, _, rfl, ?_, ?_, hk3⟩, trivial⟩ <;> k_memK
      case tturn =>
        intro x dx o tok last rest₁ m₂ h2 tk2 ho F2 N2
        clear lF lN hk1 hk2 hk3 hes8
        repeat' ((fail_if_success (with_reducible show wpAny _ _ (call (Value.ref _) _) _ _ _)); first | (k_unfold; (try dsimp only)) | (k_end; wrow_close) | walk1 | (dsimp only; walk1) | (leave1; walk_say "STEP leave1"; try dsimp only) | fail "no step")
        walk1
        obtain ⟨ka0, ka1, ka2, ka3, ka4, ka5, ka6, ka7, ka8, va1, va2, va3, va5, va6, va7, va8, spa, mosta, toka, lasta, rfl, rfl, rfl, rfl, rfl⟩ := ho
        k_steps
        all_goals first
          | ((rename (_ : Int) ≠ _ => hne9); exact absurd rfl hne9)
          | (show TellEnd _ _ _ _ _ _
             (rename News _ _ _ _ => N9)
             (rename Fr _ _ _ _ => F9)
             refine' TellEnd.intro F9 N9 ?all ?rest
             (case all => first | exact fun p hp => List.mem_cons_of_mem _ hp | (kcj_all))
             (case rest =>
               intro z hz
               simp only [tellNames, List.contains_cons, List.contains_nil, Bool.or_false, beq_eq_false_iff_ne, ne_eq] at hz
               simp [hz]))
      case tdone =>
        intro m₂ h2 tk2 F2 N2
        k_steps
        refine' hQ _ (LawEnd.intro F2 N2 ?g3 ?g2 ?g1 ?go hd9 hd8)
        case g3 => k_memK
        case g2 => k_memK
        case g1 => k_memK
        case go => exact fun p hp => by (repeat (refine List.mem_cons_of_mem _ ?_)); exact List.mem_append.mpr (.inl hp)
  case done =>
    intro o3 o2 m₁ h tk F' N'
    clear lF lN rgX
    k_steps)

end Mine
theorem PySem.Challenge.cw_pq1069_01_holds : PySem.Challenge.rw_pq1069_01.Holds :=
  Mine.law_test
