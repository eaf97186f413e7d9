import PyProof.Rows.All
import Wide.All
import OpenK.AllK
import Wide.FinOn
import Lean
import PySem.Challenge.RW_no0062_01
set_option Elab.async false

open PySem PySem.W PyProof.Rows
local macro_rules | `(tactic| walk_at $s:str) => `(tactic| k_extra $s)

section
open PySem PySem.W PyProof.Rows
namespace Mine
set_option maxRecDepth 100000
set_option maxHeartbeats 8000000
open_top hd for PySem.Challenge.rw_no0062_01
end Mine
end

section
open PySem PySem.W PyProof.Rows
set_option maxRecDepth 100000
set_option maxHeartbeats 8000000
namespace Mine
open PySem.Challenge

abbrev Pure (w : World) (d : Nat) (f : Addr) (vs : List Value) (R : Tok → Value) : Prop :=
  ∀ (dp un : Nat) (gd : Option (List Code)) (cn : Str) (cs : Scope) (a : Addr) (ccd : Value) (cl : List (Str × Addr)) (outer : List Env) (A₀ : Around) (base h₀ : Heap) (L : Addr) (m : Str → Option Value) (s : Shared) (news : List (Addr × Obj)) (Q E : Value → Shared → Prop)
    (mean : ExcName → Option Value) (mg mb : Str → Option Value),
    Below A₀ base outer h₀ → Fr h₀ L s.heap m → (Mine.hd.heap_39 w.params).In h₀ → News h₀ L s.heap news → Top Mine.hd.view_39 (looseW Mine.hd.view_39 [Str.ofString "FRAME_TYPES"]) mean mg mb h₀ → cs.kind = .function →
    dp + d < recursionLimit → un + 8 * d < cLine → CbRet h₀ L m news s Q R →
      wpAny (model PySem.Challenge.rw_no0062_01.row.prog w) (ktrTop dp un gd cn cs L a ccd cl outer) (call (.ref f) vs) Q E s

theorem Pure.use {w : World} {d : Nat} {f : Addr} {vs : List Value} {R : Tok → Value} (C : Pure w d f vs R) {dp un : Nat} {gd : Option (List Code)} {cn : Str} {cs : Scope} {a : Addr} {ccd : Value} {cl : List (Str × Addr)} {outer : List Env} {A₀ : Around} {base h₀ : Heap} {L : Addr} {m : Str → Option Value} {s : Shared} {news : List (Addr × Obj)} {Q E : Value → Shared → Prop}
    {mean : ExcName → Option Value} {mg mb : Str → Option Value} (B : Below A₀ base outer h₀) (F : Fr h₀ L s.heap m) (X : (Mine.hd.heap_39 w.params).In h₀) (N : News h₀ L s.heap news) (T : Top Mine.hd.view_39 (looseW Mine.hd.view_39 [Str.ofString "FRAME_TYPES"]) mean mg mb h₀) (hk : cs.kind = .function)
    (hd : dp + d < recursionLimit) (hu : un + 8 * d < cLine)
    (h : ∀ (t : Tok) (h' : Heap) (tk' : Nat), Fr h₀ L h' m → News h₀ L h' news → Q (R t) { s with heap := h', toks := tk' }) :
    wpAny (model PySem.Challenge.rw_no0062_01.row.prog w) (ktrTop dp un gd cn cs L a ccd cl outer) (call (.ref f) vs) Q E s :=
  C _ _ _ _ _ _ _ _ _ _ _ _ _ _ _ _ _ _ _ _ _ B F X N T hk hd hu h

def roleStr (r : Bool) : Str := if r then Str.ofString "server" else Str.ofString "client"

theorem number_of_ct (w : World) (sid : Int) (t : Tok) : Pure w 1 50 [.int sid t] (.int (sid.fdiv 4)) := by
  dsimp only [Pure, CbRet]
  k_fill
  intro dp un gd cn cs a ccd cl outer A₀ base h₀ L m s news Q E mean mg mb B F X N T hk hd hu hret
  refine wpAny_call ?_
  k_dflt cell_enter
  k_steps
  all_goals cb_end hret

theorem opener_of_ct (w : World) (sid : Int) (t : Tok) : Pure w 1 57 [.int sid t] (.str (roleStr (decide (sid.fmod 2 = 1)))) := by
  dsimp only [Pure, CbRet]
  k_fill
  intro dp un gd cn cs a ccd cl outer A₀ base h₀ L m s news Q E mean mg mb B F X N T hk hd hu hret
  refine wpAny_call ?_
  k_dflt cell_enter
  k_steps
  k_with "tree" => (simp_all [roleStr])
  all_goals cb_end hret

theorem is_one_way_ct (w : World) (sid : Int) (t : Tok) : Pure w 1 64 [.int sid t] (fun _ => .bool (decide ((sid.fdiv 2).fmod 2 = 1))) := by
  dsimp only [Pure, CbRet]
  k_fill
  intro dp un gd cn cs a ccd cl outer A₀ base h₀ L m s news Q E mean mg mb B F X N T hk hd hu hret
  refine wpAny_call ?_
  k_dflt cell_enter
  k_steps
  all_goals cb_end hret
end Mine
end

section
open PySem PySem.W PyProof.Rows
set_option maxRecDepth 100000
set_option maxHeartbeats 8000000
namespace Mine
open PySem.Challenge

theorem stream_id_ct (w : World) (n : Int) (t : Tok) (o : Bool) (t2 : Tok) (u : Bool) : Pure w 1 43 [.int n t, .str (roleStr o) t2, .bool u] (.int (4 * n + (if o then 1 else 0) + (if u then 2 else 0))) := by
  k_with_none
  dsimp only [Pure, CbRet]
  k_fill
  intro dp un gd cn cs a ccd cl outer A₀ base h₀ L m s news Q E mean mg mb B F X N T hk hd hu hret
  cases o <;> cases u <;> dsimp only [roleStr]
  all_goals refine wpAny_call ?_
  all_goals k_dflt cell_enter
  all_goals k_steps
  all_goals cb_end hret

theorem roleStr_beq (a b : Bool) : (roleStr a == roleStr b) = (a == b) := by cases a <;> cases b <;> decide +kernel
theorem can_send_ct (w : World) (n : Int) (t : Tok) (o : Bool) (t2 : Tok) : Pure w 2 71 [.int n t, .str (roleStr o) t2] (fun _ => .bool (!(decide ((n.fdiv 2).fmod 2 = 1)) || (decide (n.fmod 2 = 1) == o))) := by
  k_with_none
  k_with "call ref" => (k_here; k_dflt (first | refine' Pure.use (number_of_ct _ _ _) (by k_asm) (by k_asm) (by k_asm) (by k_asm) (by k_asm) (by first | exact rfl | assumption) (by ktr_room) (by ktr_units) ?_ | refine' Pure.use (opener_of_ct _ _ _) (by k_asm) (by k_asm) (by k_asm) (by k_asm) (by k_asm) (by first | exact rfl | assumption) (by ktr_room) (by ktr_units) ?_ | refine' Pure.use (is_one_way_ct _ _ _) (by k_asm) (by k_asm) (by k_asm) (by k_asm) (by k_asm) (by first | exact rfl | assumption) (by ktr_room) (by ktr_units) ?_); intro t9 h9 tk9 F9 N9; (try dsimp only); (try k_fold))
  dsimp only [Pure, CbRet]
  k_fill
  intro dp un gd cn cs a ccd cl outer A₀ base h₀ L m s news Q E mean mg mb B F X N T hk hd hu hret
  refine wpAny_call ?_
  k_dflt cell_enter
  k_steps
  k_with "tree" => (simp_all [roleStr_beq, bne])
  all_goals cb_end hret

theorem can_receive_ct (w : World) (n : Int) (t : Tok) (o : Bool) (t2 : Tok) : Pure w 2 78 [.int n t, .str (roleStr o) t2] (fun _ => .bool (!(decide ((n.fdiv 2).fmod 2 = 1)) || !(decide (n.fmod 2 = 1) == o))) := by
  k_with_none
  k_with "call ref" => (k_here; k_dflt (first | refine' Pure.use (number_of_ct _ _ _) (by k_asm) (by k_asm) (by k_asm) (by k_asm) (by k_asm) (by first | exact rfl | assumption) (by ktr_room) (by ktr_units) ?_ | refine' Pure.use (opener_of_ct _ _ _) (by k_asm) (by k_asm) (by k_asm) (by k_asm) (by k_asm) (by first | exact rfl | assumption) (by ktr_room) (by ktr_units) ?_ | refine' Pure.use (is_one_way_ct _ _ _) (by k_asm) (by k_asm) (by k_asm) (by k_asm) (by k_asm) (by first | exact rfl | assumption) (by ktr_room) (by ktr_units) ?_); intro t9 h9 tk9 F9 N9; (try dsimp only); (try k_fold))
  dsimp only [Pure, CbRet]
  k_fill
  intro dp un gd cn cs a ccd cl outer A₀ base h₀ L m s news Q E mean mg mb B F X N T hk hd hu hret
  refine wpAny_call ?_
  k_dflt cell_enter
  k_steps
  k_with "tree" => (simp_all [roleStr_beq, bne])
  all_goals cb_end hret
end Mine
end

section
open PySem PySem.W PyProof.Rows
set_option maxRecDepth 100000
set_option maxHeartbeats 8000000
namespace Mine
open PySem.Challenge

abbrev Ct (w : World) (d : Nat) (f : Addr) (vs : List Value) (led : List (Addr × Obj)) (Post : Value → List (Addr × Obj) → Prop) : Prop :=
  ∀ (dp un : Nat) (gd : Option (List Code)) (cn : Str) (cs : Scope) (a : Addr) (ccd : Value) (cl : List (Str × Addr)) (outer : List Env) (A₀ : Around) (base h₀ : Heap) (L : Addr) (m : Str → Option Value) (s : Shared) (own : List (Addr × Obj)) (Q E : Value → Shared → Prop)
    (mean : ExcName → Option Value) (mg mb : Str → Option Value),
    Below A₀ base outer h₀ → Fr h₀ L s.heap m → (Mine.hd.heap_39 w.params).In h₀ → News h₀ L s.heap (led ++ own) → Top Mine.hd.view_39 (looseW Mine.hd.view_39 [Str.ofString "FRAME_TYPES"]) mean mg mb h₀ → cs.kind = .function →
    dp + d < recursionLimit → un + 8 * d < cLine → OwnOff own (led.map (·.1)) →
    (∀ (v : Value) (led' : List (Addr × Obj)) (h' : Heap) (tk' : Nat), Post v led' → Fr h₀ L h' m → News h₀ L h' (led' ++ own) → Q v { s with heap := h', toks := tk' }) →
      wpAny (model PySem.Challenge.rw_no0062_01.row.prog w) (ktrTop dp un gd cn cs L a ccd cl outer) (call (.ref f) vs) Q E s

def intsV (l : List (Int × Tok)) : List Value := l.map fun p => .int p.1 p.2

abbrev boxL (b l : Addr) (xs : List (Int × Tok)) (nl : Nat) (seed : Int) (ts : Tok) (nb : Nat) : List (Addr × Obj) :=
  [(b, listOf #[.ref l, .int seed ts] nb), (l, listOf (intsV xs).toArray nl)]

theorem intsV_length (l : List (Int × Tok)) : (intsV l).length = l.length := by unfold intsV; simp

section
variable {prog : Program} {w : World} {A : Around} {E : Value → Shared → Prop} {s : Shared} {h₀ : Heap} {L D : Addr} {m : Str → Option Value} {news news' : List (Addr × Obj)} {n : Nat}
theorem len_cons {x : Int} {tx : Tok} {r : List (Int × Tok)} {Q : Value → Shared → Prop} (N : News h₀ L s.heap news) (hm : (D, listOf (Value.int x tx :: intsV r).toArray n) ∈ news) (hz : r.length ≤ 100)
    (h : Q (.int ((r.length : Int) + 1) (s.toks + 1)) { s with toks := s.toks + 1 + 1 }) : wpAny (model prog w) A (call (.builtin "len") [.ref D]) Q E s := by
  refine len_list (News.isList N hm) ?_ ?_
  · simp [intsV_length]; omega
  · simpa [intsV_length] using h
theorem pop0 {x : Int} {tx u : Tok} {r : List (Int × Tok)} {Q : Value → Shared → Prop} (F : Fr h₀ L s.heap m) (N : News h₀ L s.heap news)
    (U : Upd D (listOf (Value.int x tx :: intsV r).toArray n) (listOf (intsV r).toArray (n + 1)) news news') (hz : r.length ≤ 100)
    (h : ∀ h', Fr h₀ L h' m → News h₀ L h' news' → Q (.int x tx) { s with heap := h' }) : wpAny (model prog w) A (call (.builtin "list.pop") [.ref D, .int 0 u]) Q E s := by
  refine kl_popAt (p := []) (q := intsV r) (k := 0) F N (by rfl) ?_ (by rfl) U ?_ h
  · simp [seqIndex?, intsV_length]
  · rw [PySem.sizeLine_eq]; simp [intsV_length]; omega
end

theorem take_ct (w : World) (b l : Addr) (xs : List (Int × Tok)) (nl : Nat) (seed : Int) (ts : Tok) (nb : Nat) (wide : Int) (tw : Tok) (hw : 0 < wide) (hs0 : 0 ≤ seed) (hs1 : seed < 2147483647) (hx : xs.length ≤ 63) (hbl : b ≠ l) :
    Ct w 1 153 [.ref b, .int wide tw] (boxL b l xs nl seed ts nb)
      (fun v led' => ∃ r t' xs' nl' seed' ts' nb', v = .int r t' ∧ 0 ≤ r ∧ r < wide ∧ 0 ≤ seed' ∧ seed' < 2147483647 ∧ xs'.length ≤ 63 ∧ led' = boxL b l xs' nl' seed' ts' nb') := by
  k_with_none
  k_with "call builtin:len" => (k_here; (with_reducible show wpAny _ _ (call (Value.builtin "len") [Value.ref _]) _ _ _); k_dflt (refine' len_cons (by k_asm) (by k_mem) (by (simp only [List.length_cons] at *; omega)) ?_))
  k_with "call builtin:list.pop" => (k_here; k_dflt (refine' pop0 (by k_asm) (by k_asm) (by k_upd) (by (simp only [List.length_cons] at *; omega)) ?_); intro h' F' N'; (try dsimp only [List.nil_append, List.cons_append] at N'))
  dsimp only [Ct, boxL]
  k_fill
  intro dp un gd cn cs a ccd cl outer A₀ base h₀ L m s own Q E mean mg mb B F X N T hk hd hu hoff hret
  have hlb : l ≠ b := Ne.symm hbl
  simp only [List.map_cons, List.map_nil, List.cons_append, List.nil_append] at N hoff
  cases xs with
  | nil =>
    simp only [intsV, List.map_nil] at N
    refine wpAny_call ?_
    k_dflt cell_enter
    k_steps
    refine hret _ (boxL b l [] nl ((seed * 48271 + 11).fmod 2147483647) _ nb) _ _ ⟨_, _, _, _, _, _, _, rfl, ?_, ?_, ?_, ?_, ?_, rfl⟩ (by assumption) (by assumption)
    · exact Int.fmod_nonneg_of_pos _ hw
    · exact Int.fmod_lt_of_pos _ hw
    · exact Int.fmod_nonneg_of_pos _ (by decide)
    · exact Int.fmod_lt_of_pos _ (by decide)
    · simp
  | cons p r =>
    obtain ⟨x, tx⟩ := p
    simp only [intsV, List.map_cons] at N
    refine wpAny_call ?_
    k_dflt cell_enter
    k_steps
    refine hret _ (boxL b l r (nl + 1) seed ts nb) _ _ ⟨_, _, _, _, _, _, _, rfl, ?_, ?_, hs0, hs1, ?_, rfl⟩ (by assumption) (by assumption)
    · exact Int.fmod_nonneg_of_pos _ hw
    · exact Int.fmod_lt_of_pos _ hw
    · simp only [List.length_cons] at hx; omega
end Mine
end

section
open PySem PySem.W PyProof.Rows
open PySem.Calls
set_option maxRecDepth 100000
set_option maxHeartbeats 2000000
namespace Mine
open PySem.Challenge
theorem opener_at (w : World) (sid : Int) (t : Tok) (o : Bool) (ho : decide (sid.fmod 2 = 1) = o) : Pure w 1 57 [.int sid t] (.str (roleStr o)) := ho ▸ opener_of_ct w sid t

theorem one_way_at (w : World) (sid : Int) (t : Tok) (u : Bool) (hu : decide ((sid.fdiv 2).fmod 2 = 1) = u) : Pure w 1 64 [.int sid t] (fun _ => .bool u) := hu ▸ is_one_way_ct w sid t

abbrev L2 (a b : Int) (t1 t2 : Tok) (n : Nat) : Obj := listOf #[.int a t1, .int b t2] n

theorem fin_int {Q : Value → Shared → Prop} {x y : Int} {t : Tok} {s : Shared} (h : Q (.int x t) s) (e : y = x) : Q (.int y t) s := e ▸ h

/-- the attributes of the StreamIds object -/
abbrev attrs (h : Fin 7 → Int) (k : Fin 7 → Tok) (r : Bool) (tr : Tok) (ol pl om pm cm gr : Addr) (n : Nat) : Obj :=
  dictOf [⟨h 0, .str (Str.ofString "role") (k 0), .str (roleStr r) tr⟩, ⟨h 1, .str (Str.ofString "own_limits") (k 1), .ref ol⟩, ⟨h 2, .str (Str.ofString "peer_limits") (k 2), .ref pl⟩,
    ⟨h 3, .str (Str.ofString "own_many") (k 3), .ref om⟩, ⟨h 4, .str (Str.ofString "peer_many") (k 4), .ref pm⟩, ⟨h 5, .str (Str.ofString "closed_many") (k 5), .ref cm⟩, ⟨h 6, .str (Str.ofString "granted") (k 6), .ref gr⟩] n
theorem bit_of {x : Int} {o : Bool} (h : decide (x % 2 = 1) = o) : x % 2 = if o then 1 else 0 := by
  subst h
  rcases Int.emod_two_eq x with e | e <;> rw [e] <;> rfl
theorem sid_back {sid : Int} {o u : Bool} (_h0 : 0 ≤ sid) (ho : decide (sid.fmod 2 = 1) = o) (hu : decide ((sid.fdiv 2).fmod 2 = 1) = u) : 4 * sid.fdiv 4 + (if o then 1 else 0) + (if u then 2 else 0) = sid := by
  have d4 : sid.fdiv 4 = sid / 2 / 2 := (Int.fdiv_eq_ediv_of_nonneg _ (by decide)).trans (Int.ediv_ediv_of_nonneg (y := 2) (z := 2) (by decide)).symm
  have e2 : (if u = true then (2 : Int) else 0) = 2 * (if u then 1 else 0) := by cases u <;> rfl
  rw [Int.fdiv_eq_ediv_of_nonneg _ (by decide), Int.fmod_eq_emod_of_nonneg _ (by decide)] at hu
  rw [Int.fmod_eq_emod_of_nonneg _ (by decide)] at ho
  rw [d4, e2, ← bit_of ho, ← bit_of hu]
  have h1 := Int.mul_ediv_add_emod sid 2
  have h2 := Int.mul_ediv_add_emod (sid / 2) 2
  generalize sid / 2 % 2 = c at *
  generalize sid / 2 / 2 = q at *
  generalize sid / 2 = y at *
  generalize sid % 2 = a at *
  subst h1 h2
  rw [Int.mul_add, ← Int.mul_assoc, Int.add_assoc, Int.add_assoc, Int.add_comm a]; rfl
theorem stream_at (w : World) (sid : Int) (t : Tok) (o : Bool) (t2 : Tok) (u : Bool) (h0 : 0 ≤ sid) (ho : decide (sid.fmod 2 = 1) = o) (hu : decide ((sid.fdiv 2).fmod 2 = 1) = u) : Pure w 1 43 [.int (sid.fdiv 4) t, .str (roleStr o) t2, .bool u] (.int sid) :=
  sid_back h0 ho hu ▸ (sid_back h0 ho hu).symm ▸ stream_id_ct w (sid.fdiv 4) t o t2 u
theorem send_at (w : World) (sid : Int) (t : Tok) (o u r : Bool) (t2 : Tok) (ho : decide (sid.fmod 2 = 1) = o) (hu : decide ((sid.fdiv 2).fmod 2 = 1) = u) : Pure w 2 71 [.int sid t, .str (roleStr r) t2] (fun _ => .bool (!u || (o == r))) :=
  ho ▸ hu ▸ can_send_ct w sid t r t2
theorem recv_at (w : World) (sid : Int) (t : Tok) (o u r : Bool) (t2 : Tok) (ho : decide (sid.fmod 2 = 1) = o) (hu : decide ((sid.fdiv 2).fmod 2 = 1) = u) : Pure w 2 78 [.int sid t, .str (roleStr r) t2] (fun _ => .bool (!u || !(o == r))) :=
  ho ▸ hu ▸ can_receive_ct w sid t r t2

end Mine
end

section
open PySem PySem.W PyProof.Rows
set_option maxRecDepth 100000
set_option maxHeartbeats 8000000
namespace Mine
open PySem.Challenge

/-- a frame kind, and whether it is for the sender -/
inductive KindOk : Str → Bool → Prop
  | a : KindOk (Str.ofString "stream") false
  | b : KindOk (Str.ofString "reset_stream") false
  | c : KindOk (Str.ofString "stream_data_blocked") false
  | d : KindOk (Str.ofString "stop_sending") true
  | e : KindOk (Str.ofString "max_stream_data") true

section
variable {w : World} {A : Around} {E : Value → Shared → Prop} {s : Shared} {h₀ : Heap} {L : Addr} {m : Str → Option Value} {kind : Str} {fs : Bool} {t : Tok}
theorem notin_sending {Q : Value → Shared → Prop} (F : Fr h₀ L s.heap m) (X : (Mine.hd.heap_39 w.params).In h₀) (hk : KindOk kind fs) (h : Q (.bool fs) s) :
    wpAny (model PySem.Challenge.rw_no0062_01.row.prog w) A (compareOp .NotIn (.str kind t) (.ref 35)) Q E s := by
  revert X; k_fill; intro X
  refine notin_tuple_strs (ys := [Str.ofString "stream", Str.ofString "reset_stream", Str.ofString "stream_data_blocked"]) (kun_topT F X (by k_is)) ?_ ?_
  · with_unfolding_all (repeat constructor)
  · cases hk <;> exact h
theorem ftypes {value slice : PySem.Expr} {Q : Value → Shared → Prop} (F : Fr h₀ L s.heap m) (X : (Mine.hd.heap_39 w.params).In h₀) (hk : KindOk kind fs) (h : ∀ v t, Q (.int v t) { s with toks := s.toks + 1 })
    (hs : subscripted slice false (.ref 36) (.str kind t) = operate [.ref 36, .str kind t] (getItem (.ref 36) (.str kind t))) :
    wpAny (model PySem.Challenge.rw_no0062_01.row.prog w) A (subscriptTail value slice (.ref 36) (.str kind t)) Q E s := by
  revert X; k_fill; intro X
  cases hk
  all_goals k_dflt (refine' topItem_K F X ?z1 ?z2 ?z3 ?z4 hs; (case z1 => k_is); (case z2 => k_keys); (case z3 => k_is); (case z4 => exact h _ _))
end
end Mine
end

section
open PySem PySem.W PyProof.Rows
set_option maxRecDepth 100000
set_option maxHeartbeats 1000000
namespace Mine

/-- each object that stood stands, of the same class and with the same dict -/
def DK (h h' : Heap) : Prop := ∀ b o, h.get? b = some o → ∃ o', h'.get? b = some o' ∧ o'.dict = o.dict
theorem DK.refl (h : Heap) : DK h h := fun _ o e => ⟨o, e, rfl⟩
theorem DK.trans {h₁ h₂ h₃ : Heap} (a : DK h₁ h₂) (b : DK h₂ h₃) : DK h₁ h₃ := fun c o e =>
  let ⟨_, e₁, q₁⟩ := a c o e
  let ⟨o₂, e₂, q₂⟩ := b c _ e₁
  ⟨o₂, e₂, q₂.trans q₁⟩

/-- a tree without calls whose stores leave every dict slot -/
inductive Safe {α : Type} : Sem α → Prop
  | pure (a : α) : Safe (.pure a)
  | raise (e : Value) : Safe (.raise e)
  | unsupported (w : String) : Safe (.unsupported w)
  | rule (t : String) (k : Unit → Sem α) : (∀ x, Safe (k x)) → Safe (.rule t k)
  | at (t : Pos) (k : Unit → Sem α) : (∀ x, Safe (k x)) → Safe (.at t k)
  | load (a : Addr) (p : Option Value) (k : Obj → Sem α) : (∀ x, Safe (k x)) → Safe (.load a p k)
  | update (a : Addr) (p : Option Value) (f : Obj → Obj) (k : Unit → Sem α) : (∀ o, o.isFreed = false → (f o).dict = o.dict ∧ (f o).isFreed = false) → (∀ x, Safe (k x)) → Safe (.update a p f k)
  | alloc (o : Obj) (k : Addr → Sem α) : (∀ x, Safe (k x)) → Safe (.alloc o k)
  | ask (k : Setting → Sem α) : (∀ x, Safe (k x)) → Safe (.ask k)
  | stack (k : List (Code × Pos) → Sem α) : (∀ x, Safe (k x)) → Safe (.stack k)

theorem Safe.bind {α β : Type} {m : Sem α} {f : α → Sem β} (h : Safe m) (hf : ∀ a, Safe (f a)) : Safe (m >>= f) := by
  show Safe (Sem.bind m f)
  induction h with
  | pure a => exact hf a
  | raise e => exact .raise e
  | unsupported w => exact .unsupported w
  | rule t k _ ih => exact .rule _ _ ih
  | «at» t k _ ih => exact .at _ _ ih
  | load a p k _ ih => exact .load _ _ _ ih
  | update a p g k hg _ ih => exact .update _ _ _ _ hg ih
  | alloc o k _ ih => exact .alloc _ _ ih
  | ask k _ ih => exact .ask _ ih
  | stack k _ ih => exact .stack _ ih

theorem wp_safe {α : Type} {M : Model} {Γ : Ctx} {Q : α → Pos → Shared → Prop} {E : Value → Pos → Shared → Prop} {t : Sem α} (ht : Safe t) :
    ∀ (h₀ : Heap) (p : Pos) (s : Shared), DK h₀ s.heap → Sem.wp M Γ t Q E p s → Sem.wp M Γ t (fun a p s' => Q a p s' ∧ DK h₀ s'.heap) (fun e p s' => E e p s' ∧ DK h₀ s'.heap) p s := by
  induction ht with
  | pure a => intro h₀ p s d h; exact ⟨h, d⟩
  | raise e => intro h₀ p s d h; exact ⟨h, d⟩
  | unsupported w => intro h₀ p s d h; exact h
  | rule t k _ ih => intro h₀ p s d h; exact ih () h₀ p s d h
  | «at» t k _ ih => intro h₀ p s d h; exact ih () h₀ _ s d h
  | load a q k _ ih => intro h₀ p s d h; obtain ⟨o, ho, h⟩ := h; exact ⟨o, ho, ih o h₀ p s d h⟩
  | update a q g k hg _ ih =>
    intro h₀ p s d h
    obtain ⟨h1, h⟩ := h
    refine ⟨h1, ih () h₀ p _ (d.trans fun b o e => ?_) h⟩
    by_cases hb : b = a
    · subst hb
      have hfr := (Heap.get?_some_iff.mp e).2
      exact ⟨g o, Heap.get?_update_self _ e (hg o hfr).2, (hg o hfr).1⟩
    · exact ⟨o, (Heap.get?_update_ne _ _ _ _ hb).trans e, rfl⟩
  | alloc o k _ ih =>
    intro h₀ p s d h
    exact ih _ h₀ p _ (d.trans fun b o e => ⟨o, Heap.get?_push_of_some _ e, rfl⟩) h
  | ask k _ ih => intro h₀ p s d h; exact ih _ h₀ p s d h
  | stack k _ ih => intro h₀ p s d h; exact ih _ h₀ p s d h

theorem wpAny_safe {α : Type} {M : Model} {A : Around} {E : Value → Shared → Prop} {s : Shared} {Q : α → Shared → Prop} {t : Sem α} (ht : Safe t) (h : wpAny M A t Q E s) :
    wpAny M A t (fun a s' => Q a s' ∧ DK s.heap s'.heap) (fun e s' => E e s' ∧ DK s.heap s'.heap) s :=
  fun Γ p hΓ => wp_safe ht s.heap p s (DK.refl _) (h Γ p hΓ)

theorem safe_load (a : Addr) : Safe (load a) := .load _ _ _ fun _ => .pure _
theorem safe_stack : Safe stack := .stack _ fun _ => .pure _
theorem safe_fieldsOf (v : Value) : Safe (fieldsOf v) := by
  unfold fieldsOf
  split
  · refine Safe.bind (safe_load _) fun o => ?_
    split
    · exact .pure _
    · exact .unsupported _
  · exact .unsupported _
theorem safe_field (v : Value) (i : Nat) : Safe (field v i) := by
  unfold field
  refine Safe.bind (safe_fieldsOf v) fun vs => ?_
  split
  · exact .pure _
  · exact .unsupported _
theorem safe_setField (v : Value) (i : Nat) (x : Value) : Safe (setField v i x) := by
  unfold setField
  split
  · unfold updateField
    refine Safe.bind (safe_load _) fun o => ?_
    split
    · split
      · refine .update _ _ _ _ (fun o _ => ?_) fun _ => .pure _
        obtain ⟨c, d, dt, sl⟩ := o
        cases dt <;> first | exact ⟨rfl, rfl⟩ | (constructor <;> first | rfl | assumption)
      · exact .unsupported _
    · exact .unsupported _
  · exact .unsupported _
theorem safe_setFlight (e : Value) (f : Option Addr) : Safe (setFlight e f) := by
  unfold setFlight
  refine Safe.bind (safe_field _ _) fun v => ?_
  split
  · exact safe_setField _ _ _
  · exact .pure _
theorem safe_newObjAsIs (n : String) (d : Data) : Safe (newObjAsIs (.type n) d) := by
  unfold newObjAsIs
  exact Safe.bind (.alloc _ _ fun _ => .pure _) fun _ => .pure _
theorem safe_newEntry (a b c d e : Value) (pl : List Value) : Safe (EntryCells.newEntry a b c d e pl) := by
  unfold EntryCells.newEntry newFields newObj
  generalize ([a, b, c, d, e] ++ if pl.isEmpty = true then List.replicate 6 Value.none else pl).toArray = l
  dsimp only
  split
  · exact Safe.bind (.unsupported _) fun _ => safe_newObjAsIs _ _
  · exact safe_newObjAsIs _ _
theorem safe_entryPlaceOf (f : Addr) (b : Bool) : Safe (entryPlaceOf f b) := by
  unfold entryPlaceOf
  refine Safe.bind safe_stack fun acts => ?_
  split
  · exact .pure _
  · exact .pure _
theorem safe_behindIsImport (env : Env) (l : List Env) : Safe (behindIsImport env l) := by
  unfold behindIsImport
  split
  · exact .pure _
  · split
    · exact .pure _
    · exact Safe.bind (safe_field _ _) fun _ => .pure _
theorem safe_keptBack (env : Env) (b : Bool) (l : List Env) : Safe (keptBack env b l) := by
  unfold keptBack
  split
  · split
    · exact .pure _
    · unfold underTheClaimsCaller
      exact Safe.bind (Safe.bind safe_stack fun _ => .pure _) fun _ => .pure _
  · exact .pure _
theorem safe_readyFrames : ∀ l : List Env, Safe (readyFrames l)
  | [] => .pure _
  | env :: outer => by
    unfold readyFrames
    split
    · refine Safe.bind (safe_load _) fun o => ?_
      split
      · exact .pure _
      · refine Safe.bind (safe_behindIsImport _ _) fun b => Safe.bind (safe_keptBack _ _ _) fun v => Safe.bind ?_ fun _ => safe_readyFrames outer
        refine .update _ _ _ _ (fun o ho => ⟨rfl, ?_⟩) fun _ => .pure _
        obtain ⟨c, d, dt, sl⟩ := o
        cases dt <;> first | rfl | exact ho
    · exact .unsupported _
theorem safe_frameOf (env : Env) : Safe (PySem.frameOf env) := by
  unfold PySem.frameOf frameEnvs
  refine Safe.bind (Safe.bind safe_stack fun _ => .pure _) fun l => ?_
  refine Safe.bind ?_ fun o => ?_
  · cases List.dropWhile (fun x => x.frame != env.frame) l with
    | nil => exact .pure _
    | cons e r => exact Safe.bind (safe_readyFrames _) fun _ => .pure _
  · split
    · exact .pure _
    · exact .unsupported _
theorem safe_noteFrame (e : Value) (env : Env) : Safe (noteFrame e env) := by
  unfold noteFrame
  split
  · refine Safe.bind (safe_field _ _) fun hd => ?_
    have tail : ∀ b, Safe (do let a ← PySem.frameOf env; let pl ← entryPlaceOf b (hd != .none); let x ← EntryCells.newEntry hd a .none (rawInt b) .none pl; setField e 1 x) :=
      fun b => Safe.bind (safe_frameOf _) fun _ => Safe.bind (safe_entryPlaceOf _ _) fun _ => Safe.bind (safe_newEntry _ _ _ _ _ _) fun _ => safe_setField _ _ _
    split
    · refine Safe.bind (safe_field _ _) fun x => ?_
      split
      · exact .pure _
      · exact Safe.bind (safe_setField _ _ _) fun _ => tail _
    · exact tail _
  · exact .unsupported _
theorem safe_leaving (env : Env) (e : Value) : Safe (leaving env e) := Safe.bind (safe_noteFrame _ _) fun _ => safe_setFlight _ _
end Mine
end

section
open PySem PySem.W PyProof.Rows
set_option maxRecDepth 100000
set_option maxHeartbeats 2000000
namespace Mine
open PySem.Challenge

abbrev excBm : List Value := [.type "Exception", .type "BaseException", .type "object"]

/-- what is known of the class QuicError and of its names -/
def QC (h : Heap) : Prop := ∃ nm q bs sn sub ab col dd k0 k1 k2 k3 k5 mN, h.get? 31 = some (excClassObj nm q 31 30 bs excBm true sn sub ab col dd k0 k1 k2 k3 k5 "Exception.__new__") ∧ h.Ns 30 mN ∧
  mN "__init__" = some (.ref 28) ∧ mN "__setattr__" = none ∧ mN "code" = none ∧ mN "frame_type" = none ∧ mN "text" = none ∧ mN "__getattribute__" = none ∧ mN "__getattr__" = none

theorem ns_val {K : Frag} {h : Heap} {a : Addr} {mN : Str → Option Value} {x : Str} {r : Option Value} (X : K.In h) (G : h.Ns a mN) (e : nsIn K a x = some r) : mN x = r := by
  obtain ⟨o, es, ep, ho, hd, _, hf⟩ := G
  unfold nsIn at e
  split at e
  · rename_i c d es' n' sl q
    have := X _ _ q
    rw [ho] at this
    cases this
    cases hd
    rw [← hf]
    unfold nsFind findBy
    rw [← Array.find?_toList]
    split at e
    · rename_i en he
      cases e
      rw [he]
      rfl
    · rename_i he
      rw [he]
      split at e
      · cases e
      · cases e; rfl
  · cases e

theorem qc_of {w : World} {h : Heap} (X : (Mine.hd.heap_39 w.params).In h) (hdev : model rw_no0062_01.row.prog w = model rw_no0062_01.row.prog w := rfl) : QC h := by
  revert X hdev
  k_fill
  intro X _
  have hC : h.get? 31 = _ := X 31 _ (by k_is)
  have hN : h.Ns 30 (h.nsMap 30) := .of_isNs (isNs_of_in X (by kernel_rfl))
  exact ⟨_, _, _, _, _, _, _, _, _, _, _, _, _, _, hC, hN, ns_val X hN (by k_is), ns_val X hN (by k_is), ns_val X hN (by k_is), ns_val X hN (by k_is), ns_val X hN (by k_is), ns_val X hN (by k_is), ns_val X hN (by k_is)⟩
end Mine
end

section
open PySem PySem.W PyProof.Rows
open PySem.Builtin PySem.Builtin.ObjectAttr PySem.Calls
set_option maxRecDepth 100000
set_option maxHeartbeats 2000000
namespace Mine
open PySem.Challenge

abbrev excO (od : Option Addr) (t : Addr) : Obj := { cls := .ref 31, dict := od, data := .fields #[.ref t, .none, .none, .none, .bool false, .none] }

theorem lk_code : typeLookup (.type "Exception") "code" = pure none := by rw [typeLookup_type, builtinLookup_eq_fast]; kernel_rfl
theorem lk_frame_type : typeLookup (.type "Exception") "frame_type" = pure none := by rw [typeLookup_type, builtinLookup_eq_fast]; kernel_rfl
theorem lk_text : typeLookup (.type "Exception") "text" = pure none := by rw [typeLookup_type, builtinLookup_eq_fast]; kernel_rfl

section
variable {prog : Program} {w : World} {A : Around} {E : Value → Shared → Prop} {h : Heap} {g : Array GenState} {d : Drawn} {t : Nat} {os : OsState}
variable {nm q : Str} {C N x : Addr} {bs bm : List Value} {sn : List Str} {sub : List Value} {ab : Bool} {col : Option Bool} {dd : Option Addr} {k0 k1 k2 k3 k5 : Option Value} {B newId sa owner : String}
  {mN : Str → Option Value} {name : Str} {v : Value}

theorem first_entry {o : Obj} {tk : Tok} {Q : PySem.Fin → Shared → Prop} (SF : StoreFacts B bm sa owner)
    (hC : h.get? C = some (excClassObj nm q C N bs bm true sn sub ab col dd k0 k1 k2 k3 k5 newId)) (hn : h.Ns N mN) (hna : mN name = none)
    (hB : typeLookup (.type B) name = pure none) (hx : h.get? x = some o) (hc : o.cls = .ref C) (hnc : ∀ c, o.data ≠ .cls c) (hdn : o.dict = none)
    (hq : ∀ h' tk', h'.Ns1 h.objs.size (fun y => if y = name then some v else none) → h'.get? x = some { cls := o.cls, dict := some h.objs.size, data := o.data, slots := o.slots } →
      (∀ b ob, b ≠ x → h.get? b = some ob → h'.get? b = some ob) → Q (.done (.ret .none)) ⟨h', g, d, tk', os⟩) :
    wpAny (model prog w) A (Builtin.«object.__setattr__» ⟨[.ref x, .str name tk, v], []⟩) Q E ⟨h, g, d, t, os⟩ := by
  have hpass := SF.passes (.ref x)
  unfold Builtin.«object.__setattr__»
  repeat (first | rw [refuse_eq] | (rw [refuseLoop_ref, hpass]) | (with_reducible refine wpAny_loadPart_at hx ?_; rw [hc]) | with_reducible refine wpAny_mroOf_exc hC ?_ | (with_reducible refine wpAny_typeLookup_exc hC hn SF.mro hB ?_; rw [hna]) | wp_step)
  rw [hdn, if_neg (by simp [typeHasDict])]
  split
  · rename_i hcd
    cases hcd
  split
  · rename_i c hcd
    exact absurd hcd (hnc c)
  · have hx₁ : (h.push { cls := .type "dict", data := .dict #[] }).get? x = some o := Heap.get?_push_of_some _ hx
    have hxs : x ≠ h.objs.size := Nat.ne_of_lt (Heap.lt_size hx)
    refine wpAny_bind (wpAny_alloc' ?_)
    refine wpAny_bind (wpAny_update' hx₁ ?_)
    refine wpAny_pure ?_
    have hgd : ((h.push { cls := .type "dict", data := .dict #[] }).update x fun o => { cls := o.cls, dict := some h.objs.size, data := o.data, slots := o.slots }).get? h.objs.size
        = some { cls := .type "dict", data := .dict #[] } :=
      (Heap.get?_update_ne _ _ _ _ hxs.symm).trans (Heap.get?_push_at rfl rfl)
    have hnd : ((h.push { cls := .type "dict", data := .dict #[] }).update x fun o => { cls := o.cls, dict := some h.objs.size, data := o.data, slots := o.slots }).Ns h.objs.size (fun _ => none) :=
      ⟨_, #[], _, hgd, rfl, fun e he => absurd he (by simp), fun _ => rfl⟩
    show wpAny _ _ (storeInDict h.objs.size (.str name tk) name v) _ _ _
    unfold storeInDict newKeyGuard
    refine wpAny_bind (wpAny_pure (wpAny_bind (wpAny_nsSet1 (Heap.Ns1.of_empty hnd) fun h' hn' hs => ?_)))
    obtain ⟨oD, esD, epD, hoD, hdD, hcD⟩ := hn'.count (Within.cons name v Within.nil)
    refine wpAny_bind (wpAny_lookBehind hoD (by rw [hdD]; exact pastItsLine_dict (Nat.le_trans hcD (by rw [List.length_cons, List.length_nil, sizeLine_eq]; omega))) ?_)
    wp_walk
    refine hq h' _ hn' ?_ fun b ob hbx hb => ?_
    · refine (hs.2 x hxs).trans (Heap.get?_update_self _ hx₁ ?_)
      have hfr := (Heap.get?_some_iff.mp hx).2
      obtain ⟨oc, od, odt, osl⟩ := o
      cases odt <;> first | rfl | exact hfr
    · exact (hs.2 b (Nat.ne_of_lt (Heap.lt_size hb))).trans ((Heap.get?_update_ne _ _ _ _ hbx).trans (Heap.get?_push_of_some _ hb))

theorem first_attr {o : Obj} {Q : Unit → Shared → Prop} (SF : StoreFacts B bm sa owner)
    (hC : h.get? C = some (excClassObj nm q C N bs bm true sn sub ab col dd k0 k1 k2 k3 k5 newId)) (hn : h.Ns N mN) (hns : mN "__setattr__" = none) (hna : mN name = none)
    (hB : typeLookup (.type B) name = pure none) (hx : h.get? x = some o) (hc : o.cls = .ref C) (hnc : ∀ c, o.data ≠ .cls c) (hdn : o.dict = none)
    (hq : ∀ h' tk', h'.Ns1 h.objs.size (fun y => if y = name then some v else none) → h'.get? x = some { cls := o.cls, dict := some h.objs.size, data := o.data, slots := o.slots } →
      (∀ b ob, b ≠ x → h.get? b = some ob → h'.get? b = some ob) → Q () ⟨h', g, d, tk', os⟩) :
    wpAny (model prog w) A (setAttr (.ref x) name v) Q E ⟨h, g, d, t, os⟩ := by
  have f3 := SF.slot.bind (.ref x)
  unfold setAttr callSpecial? specialOf
  repeat (any_goals (first | assumption | (with_reducible refine wpAny_loadPart_at hx ?_; rw [hc]) | (with_reducible refine wpAny_typeLookup_exc hC hn SF.mro SF.slot.lookup ?_; rw [hns]) | wp_step))
  refine codeAny_call_builtin SF.slot.plain SF.entry (wpAny_check_sa SF hC hx hc (first_entry SF hC hn hna hB hx hc hnc hdn fun h' tk' a b c => ?_))
  repeat (any_goals (first | assumption | wp_step))
  exact hq h' tk' a b c
end
end Mine
end

section
open PySem PySem.W PyProof.Rows
open PySem.Calls
set_option maxRecDepth 100000
set_option maxHeartbeats 2000000
namespace Mine
open PySem.Challenge

/-- the object is a namespace with these names -/
def NsO (o : Obj) (mA : Str → Option Value) : Prop := ∃ es ep, o.data = .dict es ep ∧ StrKeys es ∧ UniqKeys es ∧ ∀ name, nsFind es name = mA name

theorem fr_but {h₀ h h' : Heap} {L : Addr} {m : Str → Option Value} (P : Addr → Prop) (F : Fr h₀ L h m) (k : ∀ b o, P b → h.get? b = some o → h'.get? b = some o) (hL : P L) (h0 : ∀ b o, h₀.get? b = some o → P b) : Fr h₀ L h' m := by
  obtain ⟨oL, es, ep, e, r⟩ := F.ns
  exact ⟨⟨oL, es, ep, k _ _ hL e, r⟩, fun b o q => k b o (h0 b o q) (F.keep b o q), F.above⟩

section
variable {prog : Program} {w : World} {A : Around} {E : Value → Shared → Prop} {s : Shared} {h₀ : Heap} {L e d t0 : Addr} {m : Str → Option Value} {news : List (Addr × Obj)} {name : Str} {v : Value} {od : Obj} {mA : Str → Option Value}

inductive AttrName : Str → Prop
  | code : AttrName (Str.ofString "code")
  | ft : AttrName (Str.ofString "frame_type")
  | tx : AttrName (Str.ofString "text")

theorem store1 {Q : Unit → Shared → Prop} (F : Fr h₀ L s.heap m) (N : News h₀ L s.heap ((e, excO none t0) :: news)) (hQ : QC h₀) (ha : AttrName name) (hne : ∀ p ∈ news, p.1 ≠ e)
    (h : ∀ d od h' tk', Fr h₀ L h' m → News h₀ L h' ((e, excO (some d) t0) :: (d, od) :: news) → NsO od (fun y => if y = name then some v else none) → (∀ p ∈ news, p.1 ≠ d) → @Ne Nat e d → Q () { s with heap := h', toks := tk' }) :
    wpAny (model prog w) A (setAttr (.ref e) name v) Q E s := by
  obtain ⟨nm, q, bs, sn, sub, ab, col, dd, k0, k1, k2, k3, k5, mN, hC, hN, q1, q2, q3, q4, q5, q6, q7⟩ := hQ
  have hC' := F.keep _ _ hC
  have hN' : s.heap.Ns 30 mN := hN.keeps F.keep
  have hx := (N _ (.head _)).1
  obtain ⟨hp, g, dr, tk, os⟩ := s
  have hb : typeLookup (.type "Exception") name = pure none ∧ mN name = none := by
    cases ha
    · exact ⟨lk_code, q3⟩
    · exact ⟨lk_frame_type, q4⟩
    · exact ⟨lk_text, q5⟩
  refine first_attr PySem.F.store_Exception hC' hN' q2 hb.2 hb.1 hx rfl (fun c hc => (by cases hc)) rfl fun h' tk' n1 hx' hk => ?_
  obtain ⟨od, es, ep, e1, e2, e3, e4, e5⟩ := n1
  have hlt : ∀ p ∈ (e, excO none t0) :: news, p.1 < hp.objs.size := fun p hp' => Heap.lt_size (N p hp').1
  have hLe : L ≠ e := Ne.symm (N _ (.head _)).2.1
  have hLs : L < hp.objs.size := F.ns.lt
  have hd0 : h₀.get? hp.objs.size = none := by
    cases hq : h₀.get? hp.objs.size with
    | none => rfl
    | some o => exact absurd (Heap.lt_size (F.keep _ _ hq)) (Nat.lt_irrefl _)
  refine h hp.objs.size od h' tk' (fr_but (fun b => b ≠ e) F (fun b o hb => hk b o hb) hLe fun b o q hbe => ?_) (fun p hp' => ?_) ⟨es, ep, e2, e3, e4, e5⟩ (fun p hp' => Nat.ne_of_lt (hlt p (.tail _ hp'))) (Nat.ne_of_lt (hlt _ (.head _)))
  · have := (N _ (.head _)).2.2
    rw [show (e, excO none t0).1 = b from hbe.symm, q] at this
    cases this
  · rcases List.mem_cons.mp hp' with rfl | hp'
    · exact ⟨hx', (N _ (.head _)).2⟩
    · rcases List.mem_cons.mp hp' with rfl | hp'
      · exact ⟨e1, Nat.ne_of_gt hLs, hd0⟩
      · exact ⟨hk _ _ (hne p hp') (N p (.tail _ hp')).1, (N p (.tail _ hp')).2⟩

theorem store2 {Q : Unit → Shared → Prop} {ns : List Str} (F : Fr h₀ L s.heap m) (N : News h₀ L s.heap ((e, excO (some d) t0) :: (d, od) :: news)) (hQ : QC h₀) (ha : AttrName name) (hed : @Ne Nat e d) (hne1 : ∀ p ∈ news, p.1 ≠ e) (hne2 : ∀ p ∈ news, p.1 ≠ d) (ho : NsO od mA) (hw : Within mA ns) (hsz : ns.length ≤ 100)
    (h : ∀ od' h' tk', Fr h₀ L h' m → News h₀ L h' ((e, excO (some d) t0) :: (d, od') :: news) → NsO od' (fun y => if y = name then some v else mA y) → Q () { s with heap := h', toks := tk' }) :
    wpAny (model prog w) A (setAttr (.ref e) name v) Q E s := by
  obtain ⟨nm, q, bs, sn, sub, ab, col, dd, k0, k1, k2, k3, k5, mN, hC, hN, q1, q2, q3, q4, q5, q6, q7⟩ := hQ
  have hC' := F.keep _ _ hC
  have hN' : s.heap.Ns 30 mN := hN.keeps F.keep
  have hx := (N _ (.head _)).1
  have hd := (N _ (.tail _ (.head _))).1
  have hne : ∀ p ∈ news, p.1 ≠ e ∧ p.1 ≠ d := fun p hp => ⟨hne1 p hp, hne2 p hp⟩
  have he31 : e ≠ 31 := fun z => by
    have := (N _ (.head _)).2.2
    rw [show (e, excO (some d) t0).1 = 31 from z, hC] at this
    cases this
  obtain ⟨hp, g, dr, tk, os⟩ := s
  have hb : typeLookup (.type "Exception") name = pure none ∧ mN name = none := by
    cases ha
    · exact ⟨lk_code, q3⟩
    · exact ⟨lk_frame_type, q4⟩
    · exact ⟨lk_text, q5⟩
  obtain ⟨es, ep, e2, e3, e4, e5⟩ := ho
  have I : hp.Inst e 31 mA := ⟨_, hx, rfl, (fun c hc => by cases hc), .inr ⟨d, rfl, Ne.symm hed, od, es, ep, hd, e2, e3, e4, e5⟩⟩
  refine store_attr PySem.F.store_Exception hC' hN' q2 hb.2 hb.1 he31 I (fun h' tk' I' hk hsame => ?_) hw (by rw [sizeLine_eq]; omega)
  obtain ⟨o₁, ho₁, c1, c2, c3, c4⟩ := hsame _ hx
  have hx' : h'.get? e = some (excO (some d) t0) := by
    obtain ⟨oc, odi, oda, osl⟩ := o₁
    have := c4 d rfl
    dsimp only at c1 c2 c3 this
    subst c1 c2 c3 this
    exact ho₁
  obtain ⟨o₂, ho₂, _, _, hdd⟩ := I'
  rw [hx'] at ho₂
  cases ho₂
  rcases hdd with ⟨hdd, _⟩ | ⟨d', hdd, _, od', es', ep', f1, f2, f3, f4, f5⟩
  · cases hdd
  cases hdd
  have hkb : ∀ b o, b ≠ e ∧ b ≠ d → hp.get? b = some o → h'.get? b = some o := fun b o hb q => hk b o hb.1 (fun o₀ dx g1 g2 => by rw [hx] at g1; cases g1; cases g2; exact hb.2) q
  have n0 : ∀ b o, h₀.get? b = some o → b ≠ e ∧ b ≠ d := by
    intro b o q
    constructor
    · intro z
      have := (N _ (.head _)).2.2
      rw [show (e, excO (some d) t0).1 = b from z.symm, q] at this
      cases this
    · intro z
      have := (N _ (.tail _ (.head _))).2.2
      rw [show (d, od).1 = b from z.symm, q] at this
      cases this
  refine h od' h' tk' (fr_but (fun b => b ≠ e ∧ b ≠ d) F hkb ⟨Ne.symm (N _ (.head _)).2.1, Ne.symm (N _ (.tail _ (.head _))).2.1⟩ n0) (fun p hp' => ?_) ⟨es', ep', f2, f3, f4, f5⟩
  rcases List.mem_cons.mp hp' with rfl | hp'
  · exact ⟨hx', (N _ (.head _)).2⟩
  · rcases List.mem_cons.mp hp' with rfl | hp'
    · exact ⟨f1, (N _ (.tail _ (.head _))).2⟩
    · exact ⟨hkb _ _ (hne p hp') (N p (.tail _ (.tail _ hp'))).1, (N p (.tail _ (.tail _ hp'))).2⟩
end
end Mine
end

section
open PySem PySem.W PyProof.Rows
open PySem.Calls
set_option maxRecDepth 100000
set_option maxHeartbeats 2000000
namespace Mine
open PySem.Challenge

section
variable {prog : Program} {w : World} {A : Around} {E : Value → Shared → Prop} {s : Shared} {h₀ : Heap} {L e t0 : Addr} {m : Str → Option Value} {news : List (Addr × Obj)}

abbrev tupO (vs : List Value) : Obj := { cls := .type "tuple", data := .seq vs.toArray }

theorem base_init {args : List Value} {Q : Value → Shared → Prop} (F : Fr h₀ L s.heap m) (N : News h₀ L s.heap ((e, excO none t0) :: news)) (hQ : QC h₀) (hne : ∀ p ∈ news, p.1 ≠ e) (hlen : args.length ≤ 100)
    (h : ∀ t h' tk', Fr h₀ L h' m → News h₀ L h' ((e, excO none t) :: (t, tupO args) :: news) → (∀ p ∈ (e, excO none t0) :: news, p.1 < t) → Q .none { s with heap := h', toks := tk' }) :
    wpAny (model prog w) A (call (.builtin "Exception.__init__") (.ref e :: args)) Q E s := by
  obtain ⟨nm, q, bs, sn, sub, ab, col, dd, k0, k1, k2, k3, k5, mN, hC, hN, q1, q2, q3, q4, q5, q6, q7⟩ := hQ
  have hC' := F.keep _ _ hC
  have hx : s.heap.get? e = some (excO none t0) := (N _ (.head _)).1
  have FE := PySem.F.excBase_Exception
  have hN2 := (N.push F (tupO args))
  have F2 := F.push (tupO args)
  obtain ⟨hp, g, dr, tk, os⟩ := s
  have hlt : ∀ p ∈ (e, excO none t0) :: news, p.1 < hp.objs.size := fun p hp' => Heap.lt_size (N p hp').1
  refine wpAny_call (codeAny_call_builtin FE.init.plain FE.initEntry (wpAny_check_init_sub FE hC' hx rfl ?_))
  unfold Builtin.«BaseException.__init__»
  have hsz : (tupO args).data.pastItsLine = none := pastItsLine_seq (by rw [List.size_toArray, sizeLine_eq]; omega)
  dsimp only
  refine wpAny_ite_false rfl ?_
  refine wpAny_bind (wpAny_newObj_type ?_ (by show args.toArray.size ≤ sizeLine; rw [List.size_toArray, sizeLine_eq]; omega))
  unfold Builtin.BaseException.bexcPut
  refine wpAny_bind (wpAny_bind (wpAny_field (a := e) (o := excO none t0) (Heap.get?_push_of_some _ hx) rfl rfl ?_))
  refine wpAny_bind (wpAny_setField (Heap.get?_push_of_some _ hx) rfl (by simp) ?_)
  have he2 : (e, excO none t0) ∈ (hp.objs.size, tupO args) :: (e, excO none t0) :: news := .tail _ (.head _)
  obtain ⟨F3, N3⟩ := news_upd (pre := [(hp.objs.size, tupO args)]) (d := e) (o := excO none t0) (o' := excO none hp.objs.size) (post := news) (f := Obj.mapFields (·.setIfInBounds 0 (.ref hp.objs.size))) F2 hN2
    (fun p hp' => by rw [List.mem_singleton.mp hp']; exact Nat.ne_of_gt (hlt _ (.head _))) hne rfl rfl
  have N4 : News h₀ L _ ((e, excO none hp.objs.size) :: (hp.objs.size, tupO args) :: news) := fun p hp' => N3 p (by
    rcases List.mem_cons.mp hp' with rfl | hp'
    · exact .tail _ (.head _)
    · rcases List.mem_cons.mp hp' with rfl | hp'
      · exact .head _
      · exact .tail _ (.tail _ hp'))
  have fin := h hp.objs.size _ tk F3 N4 hlt
  show wpAny _ _ _ _ _ _
  refine wpAny_letGo ?_
  exact wpAny_pure fin

theorem call_quic {rest : List Value} {oI : Obj} {Q : Value → Shared → Prop} (F : Fr h₀ L s.heap m) (N : News h₀ L s.heap news) (hQ : QC h₀) (hf : h₀.get? 28 = some oI) (hfc : oI.cls = .type "function") (hlen : rest.length ≤ 100)
    (h : ∀ e t h', Fr h₀ L h' m → News h₀ L h' ((e, excO none t) :: (t, tupO rest) :: news) → e ≠ t → (∀ p ∈ news, p.1 ≠ e ∧ p.1 ≠ t) →
      wpAny (model prog w) (A.under (.builtin "type.__call__" ⟨.ref 31 :: rest, []⟩)) (call (.ref 28) (.ref e :: rest)) (fun r s' => r = .none ∧ Q (.ref e) s') E { s with heap := h' }) :
    wpAny (model prog w) A (call (.ref 31) rest) Q E s := by
  obtain ⟨nm, q, bs, sn, sub, ab, col, dd, k0, k1, k2, k3, k5, mN, hC, hN, q1, q2, q3, q4, q5, q6, q7⟩ := hQ
  have hC' := F.keep _ _ hC
  have hN' : s.heap.Ns 30 mN := hN.keeps F.keep
  have hf' := F.keep _ _ hf
  obtain ⟨hp, g, dr, tk, os⟩ := s
  refine wpAny_call_exc_init PySem.F.excBase_Exception hC' hN' q1 hf' hfc (fun h' e hm => ?_) (by rw [sizeLine_eq]; omega)
  obtain ⟨hk, hnew, t, he, htn, ht⟩ := hm
  have F' := F.keeps hk
  have fr : ∀ b, hp.get? b = none → h₀.get? b = none := fun b hb => by
    cases hq : h₀.get? b with
    | none => rfl
    | some o => have := F.keep b o hq; rw [hb] at this; cases this
  have N1 : News h₀ L h' news := fun p hp' => ⟨hk _ _ (N p hp').1, (N p hp').2⟩
  have N2 := News.more F' (News.more F' N1 ht (fun es n q => by cases q) (fr t htn)) he (fun es n q => by cases q) (fr e hnew)
  refine h e t h' F' N2 (fun z => ?_) (fun p hp' => ⟨fun z => ?_, fun z => ?_⟩)
  · rw [z, ht] at he; cases he
  · have := (N p hp').1; rw [z, hnew] at this; cases this
  · have := (N p hp').1; rw [z, htn] at this; cases this
end

theorem under_make (A : Around) (rest : List Value) : A.under (.builtin "type.__call__" ⟨.ref 31 :: rest, []⟩) = { A with depth := A.depth + 1, units := A.units + 1 } := by
  obtain ⟨hd, dp, fr, gd, un⟩ := A
  rfl

theorem drop4 {h₀ h : Heap} {L : Addr} {a b c d : Addr × Obj} {own : List (Addr × Obj)} (N : News h₀ L h (a :: b :: c :: d :: own)) : News h₀ L h ([a, b, c] ++ own) := fun p hp => N p (by
  rcases List.mem_cons.mp hp with rfl | hp
  · exact .head _
  rcases List.mem_cons.mp hp with rfl | hp
  · exact .tail _ (.head _)
  rcases List.mem_cons.mp hp with rfl | hp
  · exact .tail _ (.tail _ (.head _))
  · exact .tail _ (.tail _ (.tail _ (.tail _ hp))))

theorem init_ct (w : World) (e t0 : Addr) (c ft : Int) (tc tf : Tok) (hc : c = 4 ∨ c = 5) (txt : Str) (tt : Tok) (hl : txt.length ≤ 100) (args : List Value) (he : @Ne Nat e t0) :
    Ct w 1 28 [.ref e, .int c tc, .int ft tf, .str txt tt] [(e, excO none t0), (t0, tupO args)]
      (fun v led' => v = .none ∧ ∃ t2 o2 d od mA, led' = [(e, excO (some d) t2), (d, od), (t2, o2)] ∧ NsO od mA ∧ mA (Str.ofString "code") = some (.int c tc) ∧ @Ne Nat e d ∧ @Ne Nat e t2) := by
  k_with_none
  k_with "getMethod type:Exception" => (k_here; refine' method_type (by k_asm) (by k_asm) (by kernel_rfl) (by decide +kernel) (by k_dflt k_is) (by k_handed) ?_)
  k_with "call builtin:Exception.__init__" => (k_here; k_dflt (refine' base_init (by k_asm) (by k_asm) (by exact qc_of (by k_asm)) (by k_all) (by simp) ?_); intro t2 h2 tk2 F2 N2 l2; (try k_lt l2))
  k_with "setAttr ref" => (k_here; k_dflt (refine' store1 (by k_asm) (by k_asm) (by exact qc_of (by k_asm)) (by constructor) (by k_all) ?_); intro d3 od3 h3 tk3 F3 N3 o3 l3 l4)
  k_with "setAttr ref" => (k_here; k_dflt (refine' store2 (by k_asm) (by k_asm) (by exact qc_of (by k_asm)) (by constructor) (by assumption) (by k_all) (by assumption) (by assumption) (by within_ways) (by decide) ?_); intro od3 h3 tk3 F3 N3 o3)
  dsimp only [Ct]
  k_fill
  intro dp un gd cn cs a ccd cl outer A₀ base h₀ L m s own Q E mean mg mb B F X N T hk hd hu' hoff hret
  simp only [List.map_cons, List.map_nil, List.cons_append, List.nil_append] at N hoff
  all_goals refine wpAny_call ?_
  all_goals k_dflt cell_enter
  all_goals k_steps
  all_goals (rename News _ _ _ _ => NN; rename NsO _ _ => oo; rename Fr h₀ _ _ _ => FF; exact hret _ _ _ _ ⟨rfl, _, _, _, _, _, rfl, oo, by first | rfl | decide, by assumption, by omega⟩ FF (drop4 NN))
end Mine
end

section
open PySem PySem.W PyProof.Rows
open PySem.Calls
set_option maxRecDepth 100000
set_option maxHeartbeats 2000000
namespace Mine
open PySem.Challenge

section
variable {prog : Program} {w : World} {A : Around} {E : Value → Shared → Prop} {s : Shared} {e d : Addr} {oe od : Obj} {mA : Str → Option Value} {ws : Array Value} {v : Value}

theorem code_entry {tk : Tok} {Q : PySem.Fin → Shared → Prop} (hQ : QC s.heap) (hx : s.heap.get? e = some oe) (hc : oe.cls = .ref 31) (hw : oe.data = .fields ws) (hd : oe.dict = some d) (ho : s.heap.get? d = some od) (hn : NsO od mA) (hv : mA (Str.ofString "code") = some v)
    (hq : Q (.done (.ret v)) s) : wpAny (model prog w) A (Builtin.«object.__getattribute__» ⟨[.ref e, .str (Str.ofString "code") tk], []⟩) Q E s := by
  obtain ⟨nm, q, bs, sn, sub, ab, col, dd, k0, k1, k2, k3, k5, mN, hC, hN, q1, q2, q3, q4, q5, q6, q7⟩ := hQ
  obtain ⟨hp, g, dr, tk0, os⟩ := s
  have FB := PySem.F.excBase_Exception
  have hB : typeLookup (.type "Exception") "code" = pure none := by rw [typeLookup_type, builtinLookup_eq_fast]; kernel_rfl
  obtain ⟨es, ep, e2, e3, e4, e5⟩ := hn
  have hns : hp.Ns d mA := ⟨od, es, ep, ho, e2, e3, e5⟩
  unfold Builtin.«object.__getattribute__»
  repeat (first | (with_reducible refine wpAny_loadPart_at hx ?_; rw [hc]) | (with_reducible refine wpAny_typeLookup_exc hC hN FB.mroIs hB ?_; rw [q3]) | wp_step)
  rw [hw]
  dsimp only
  unfold instanceDict
  repeat (first | (with_reducible refine wpAny_loadPart_at hx ?_; rw [hc]) | with_reducible refine wpAny_loadPart_at hC ?_ | wp_step)
  rw [hd]
  repeat (first | (with_reducible refine wpAny_nsGet hns ?_; rw [hv]) | wp_step)
  exact hq

theorem check_ga {M : Model} {nameV : Value} {Q : Unit → Shared → Prop} (hQ : QC s.heap) (hx : s.heap.get? e = some oe) (hc : oe.cls = .ref 31) (hq : Q () s) : wpAny M A (checkBuiltinCall "BaseException.__getattribute__" ⟨[.ref e, nameV], []⟩) Q E s := by
  obtain ⟨nm, q, bs, sn, sub, ab, col, dd, k0, k1, k2, k3, k5, mN, hC, hN, q1, q2, q3, q4, q5, q6, q7⟩ := hQ
  obtain ⟨hp, g, dr, tk0, os⟩ := s
  have hcB : (Value.ref 31 :: excBm).contains (.type "BaseException") = true := by decide +kernel
  have hk : builtinKind "BaseException.__getattribute__" = some .slot := by decide +kernel
  have hsplit : splitId "BaseException.__getattribute__" = some ("BaseException", "__getattribute__") := by decide +kernel
  have ha := PySem.F.args_bexc_ga (.ref e) nameV
  simp only [checkBuiltinCall, hk, hsplit]
  refine wpAny_bind ?_
  unfold isInstance
  repeat (first | (with_reducible refine wpAny_loadPart_at hx ?_; rw [hc]) | (with_reducible refine wpAny_isSubtype_exc hC ?_; rw [hcB]) | wp_step)
  exact hq

theorem code_attr {expr : Bool} {Q : Value → Shared → Prop} (hQ : QC s.heap) (hx : s.heap.get? e = some oe) (hc : oe.cls = .ref 31) (hw : oe.data = .fields ws) (hd : oe.dict = some d) (ho : s.heap.get? d = some od) (hn : NsO od mA) (hv : mA (Str.ofString "code") = some v)
    (hh : handedOut v = pure v) (hq : Q v { s with toks := s.toks + 1 }) : wpAny (model prog w) A (getAttr (.ref e) (Str.ofString "code") expr) Q E s := by
  have hQ' := hQ
  obtain ⟨nm, q, bs, sn, sub, ab, col, dd, k0, k1, k2, k3, k5, mN, hC, hN, q1, q2, q3, q4, q5, q6, q7⟩ := hQ
  obtain ⟨hp, g, dr, tk0, os⟩ := s
  have FB := PySem.F.attrBase_Exception
  have FE := PySem.F.excBase_Exception
  have f3 := FB.ga.bind (.ref e)
  have hx2 : (Value.builtin "BaseException.__getattribute__" == Value.builtin "object.__getattribute__") = false := by decide +kernel
  have hx0 : (expr && onTheHeap (Value.builtin "BaseException.__getattribute__")) = false := by cases expr <;> rfl
  have hx1 : (onTheHeap (Value.ref 31) && Value.builtin "BaseException.__getattribute__" == Value.builtin "object.__getattribute__") = false := by rw [hx2]; rfl
  have hcB : (Value.ref 31 :: excBm).contains (.type "BaseException") = true := by decide +kernel
  unfold getAttr getAttrBy
  repeat (any_goals (first | assumption | (with_reducible refine wpAny_loadPart_at hx ?_; rw [hc]) | (with_reducible refine wpAny_typeLookup_exc hC hN FE.mroIs FB.ga.lookup ?_; rw [q6]) | (with_reducible refine wpAny_typeLookup_exc hC hN FE.mroIs FB.noGetattr ?_; rw [q7]) | wp_step))
  refine codeAny_call_builtin FB.ga.plain PySem.F.entry_bexc_ga (check_ga (s := ⟨hp, g, dr, tk0 + 1, os⟩) hQ' hx hc (code_entry (s := ⟨hp, g, dr, tk0 + 1, os⟩) hQ' hx hc hw hd ho hn hv ?_))
  show wpAny _ _ (handedOut v) _ _ _
  rw [hh]
  exact wpAny_pure hq
end
end Mine
end

section
open PySem PySem.W PyProof.Rows
open PySem.Calls
set_option maxRecDepth 100000
set_option maxHeartbeats 2000000
namespace Mine
open PySem.Challenge

/-- what a raise of a QuicError leaves behind -/
def RaiseBack (E : Value → Shared → Prop) (v : Value) (s₁ : Shared) : Prop :=
  ∃ e od t, v = .ref e ∧ s₁.heap.get? e = some (excO od t) ∧ QC s₁.heap ∧ E (.ref e) s₁

theorem raise_q {prog : Program} {w : World} {A : Around} {E : Value → Shared → Prop} {s : Shared} {env : Env} {x : PySem.Expr} {pos : Pos} {Q : Flow → Shared → Prop} (hh : A.handled = none)
    (h : wpAny (model prog w) A (eval x env) (RaiseBack E) E s) : wpAny (model prog w) A (exec (.Raise (some x) none pos) env) Q E s := by
  rw [arm_exec_Raise]
  simp only [evalOpt, Option.map]
  refine wpAny_bind (wpAny_standAt ?_)
  unfold raiseStmt
  refine wpAny_bind (wpAny_bind (wpAny_mono h (fun v s₁ h₁ => wpAny_bind (wpAny_standAt (wpAny_pure ?_))) fun _ _ y => y))
  obtain ⟨e, od, t, rfl, he, ⟨nm, q, bs, sn, sub, ab, col, dd, k0, k1, k2, k3, k5, mN, hC, hN, q1, q2, q3, q4, q5, q6, q7⟩, hE⟩ := h₁
  obtain ⟨hp, g, d, tk, os⟩ := s₁
  have hcB : (Value.ref 31 :: excBm).contains (.type "BaseException") = true := by decide +kernel
  repeat (first | with_reducible refine wpAny_loadPart_at he ?_ | with_reducible refine wpAny_loadPart_at hC ?_ | (with_reducible refine wpAny_isSubtype_exc hC ?_; rw [hcB]) | wp_step)
  exact wpAny_raiseNew_none hh hE

section
variable {M : Model} {A : Around} {E : Value → Shared → Prop} {s' : Shared} {base g : Heap} {env : Env} {outer : List Env} {L e d t : Addr} {m : Str → Option Value} {Q : Unit → Shared → Prop} {news : List (Addr × Obj)}

/-- the exception e in flight: all else stands, and its dict is d -/
def FlyS (base G : Heap) (l : List Env) (e d : Addr) (news : List (Addr × Obj)) (h : Heap) : Prop :=
  (∃ B a0, base.StaysIn B ∧ (∀ b o, G.get? b = some o → b ∉ l.filterMap (·.frame) → B.get? b = some o) ∧ (∀ q ∈ news, B.get? q.1 = some q.2 ∧ G.get? q.1 = none ∧ base.get? q.1 = none) ∧ Heap.FlyingW B l e (.ref 31) a0 h) ∧
  ∃ oe, h.get? e = some oe ∧ oe.dict = some d

theorem leave_q (hfr : A.frames = some (env :: outer)) (hf : env.frame = some L) (hk : env.scope.kind ≠ .module) (hst : base.StaysIn g) (hfun : g.FunFrames base outer) (F : Fr g L s'.heap m)
    (N : News g L s'.heap ((e, excO (some d) t) :: news)) (hne : ∀ q ∈ news, q.1 ≠ e)
    (hQ : ∀ h', FlyS base g outer e d news h' → g.UpToSlots h' → Q () { s' with heap := h' }) : wpAny M A (leaving env (.ref e)) Q E s' := by
  have hLb : base.get? L = none := by
    cases hq : base.get? L with
    | none => rfl
    | some o => exact absurd (Nat.lt_of_lt_of_le (Heap.lt_size (hst L o hq)) F.above) (Nat.lt_irrefl _)
  have hLg : g.get? L = none := kts_self F
  have hfun' : s'.heap.FunFrames base (env :: outer) := .cons hk hf F.ns hLb (hfun.of_keeps fun b o q _ => ⟨o, F.keep b o q, rfl⟩)
  have he := (N _ (.head _)).1
  have heg := (N _ (.head _)).2.2
  have as_in : ∀ x ∈ env :: outer, ∀ b, x.frame = some b → b ∈ e :: (env :: outer).filterMap (·.frame) := fun x hx b hb => .tail _ (List.mem_filterMap.mpr ⟨x, hx, hb⟩)
  have memfr : ∀ b, b ∈ (env :: outer).filterMap (·.frame) → b = L ∨ b ∈ outer.filterMap (·.frame) := fun b hb => by
    obtain ⟨x, hx, hb'⟩ := List.mem_filterMap.mp hb
    rcases List.mem_cons.mp hx with rfl | hx
    · rw [hf] at hb'; exact .inl (Option.some.inj hb').symm
    · exact .inr (List.mem_filterMap.mpr ⟨x, hx, hb'⟩)
  have sg : ∀ b o, g.get? b = some o → b ∉ outer.filterMap (·.frame) → (hideAll s'.heap (e :: (env :: outer).filterMap (·.frame))).get? b = some o := fun b o q nm => hideAll_get _ (F.keep b o q) fun hm => by
    rcases List.mem_cons.mp hm with z | hm
    · rw [z, heg] at q; cases q
    rcases memfr b hm with z | z
    · rw [z, hLg] at q; cases q
    · exact nm z
  have st : base.StaysIn (hideAll s'.heap (e :: (env :: outer).filterMap (·.frame))) := fun b o q => sg b o (hst b o q) fun hm => by
    rw [(hfun.mem hm).1] at q; cases q
  have hl : ∀ q ∈ news, (hideAll s'.heap (e :: (env :: outer).filterMap (·.frame))).get? q.1 = some q.2 ∧ g.get? q.1 = none ∧ base.get? q.1 = none := fun q hq => by
    have hq' := N q (.tail _ hq)
    refine ⟨hideAll_get _ hq'.1 fun hm => ?_, hq'.2.2, fresh_of_stays hst hq'.2.2⟩
    rcases List.mem_cons.mp hm with z | hm
    · exact hne q hq z
    rcases memfr _ hm with z | z
    · exact hq'.2.1 z
    · obtain ⟨o, ho, _⟩ := (hfun.mem z).2
      rw [hq'.2.2] at ho; cases ho
  have hen : (hideAll s'.heap (e :: (env :: outer).filterMap (·.frame))).get? e = none := hideAll_none _ (.head _)
  have main : wpAny M A (leaving env (.ref e)) (fun _ s'' => ∃ h', s'' = { s' with heap := h' } ∧ Heap.LeftW (hideAll s'.heap (e :: (env :: outer).filterMap (·.frame))) (env :: outer) e (.ref 31) (.ref t) s'.heap h') E s' :=
    wpAny_leaving_firstW (a0 := .ref t) hfr (funFrames_hide hfun' as_in) hf he (fun b o hb => of_hideAll _ hb) hen rfl rfl rfl fun h' hL => ⟨h', rfl, hL⟩
  refine wpAny_mono (wpAny_safe (safe_leaving env (.ref e)) main) (fun _ s'' hh => ?_) fun _ _ hh => hh.1
  obtain ⟨⟨h', rfl, k1, ⟨_, _, k2⟩, k3, k4⟩, hdk⟩ := hh
  obtain ⟨oe, ho1, ho2⟩ := hdk e _ he
  exact hQ h' ⟨⟨_, .ref t, st, sg, hl, k1, hen, k2, k3⟩, oe, ho1, ho2⟩ ((Heap.UpToSlots.of_keeps F.keep).trans k4)

theorem leave_qB {A₁ : Around} (K : Below A₁ base outer g) (F : Fr g L s'.heap m) (N : News g L s'.heap ((e, excO (some d) t) :: news)) (hne : ∀ q ∈ news, q.1 ≠ e)
    (hfr : A.frames = some (env :: outer)) (hf : env.frame = some L) (hk : env.scope.kind ≠ .module)
    (hQ : ∀ h', FlyS base g outer e d news h' → g.UpToSlots h' → Q () { s' with heap := h' }) : wpAny M A (leaving env (.ref e)) Q E s' :=
  leave_q hfr hf hk K.stays K.frames F N hne hQ
end
end Mine
end

section
open PySem PySem.W PyProof.Rows
open PySem.Calls
set_option maxRecDepth 100000
set_option maxHeartbeats 2000000
namespace Mine
open PySem.Challenge

section
variable {prog : Program} {w : World} {A₀ : Around} {E : Value → Shared → Prop} {s' : Shared} {base g g₀ G : Heap} {outer : List Env} {L a e d : Addr} {m : Str → Option Value} {name : Str} {scope : Scope} {cd : Value}
  {n : Str} {b₀ : Stmt} {suite : List Stmt} {pos np : Pos} {rest : List ExceptHandler} {Q : Flow → Shared → Prop} {news : List (Addr × Obj)} {KF : Frag}
  {p : Program} {loose : List Str} {mean : ExcName → Option Value} {mg mb : Str → Option Value} {x : Str}

theorem note_dk {M : Model} {A : Around} {env : Env} {l : List Env} {B : Heap} {a0 cls : Value} {Q' : Unit → Shared → Prop} {E' : Value → Shared → Prop} (hfr : A.frames = some (env :: l)) (hf : env.frame = some L) (hfl : Heap.FlyingW B (env :: l) e cls a0 s'.heap) {oe : Obj} (ho : s'.heap.get? e = some oe)
    (h : ∀ h', Heap.HeldW B (env :: l) e cls a0 L h' → s'.heap.UpToSlots h' → (∃ o', h'.get? e = some o' ∧ o'.dict = oe.dict) → Q' () { s' with heap := h' }) : wpAny M A (noteFrame (.ref e) env) Q' E' s' := by
  have main : wpAny M A (noteFrame (.ref e) env) (fun _ s'' => ∃ h', s'' = { s' with heap := h' } ∧ Heap.HeldW B (env :: l) e cls a0 L h' ∧ s'.heap.UpToSlots h') E' s' :=
    wpAny_looks_onW hfr hf hfl fun h' h1 h2 => ⟨h', rfl, h1, h2⟩
  refine wpAny_mono (wpAny_safe (safe_noteFrame _ _) main) (fun _ s'' hh => ?_) fun _ _ hh => hh.1
  obtain ⟨⟨h', rfl, h1, h2⟩, hdk⟩ := hh
  exact h h' h1 h2 (hdk e oe ho)

theorem land_dk {M : Model} {A : Around} {l : List Env} {B : Heap} {a0 cls : Value} {Q' : Unit → Shared → Prop} {E' : Value → Shared → Prop} (hfl : Heap.HeldW B l e cls a0 L s'.heap) {oe : Obj} (ho : s'.heap.get? e = some oe)
    (h : ∀ h', Heap.FlyingW B l e cls a0 h' → s'.heap.UpToSlots h' → (∃ o', h'.get? e = some o' ∧ o'.dict = oe.dict) → Q' () { s' with heap := h' }) : wpAny M A (setFlight (.ref e) none) Q' E' s' := by
  have main : wpAny M A (setFlight (.ref e) none) (fun _ s'' => ∃ h', s'' = { s' with heap := h' } ∧ Heap.FlyingW B l e cls a0 h' ∧ s'.heap.UpToSlots h') E' s' :=
    wpAny_landsW hfl fun h' h1 h2 => ⟨h', rfl, h1, h2⟩
  refine wpAny_mono (wpAny_safe (safe_setFlight _ _) main) (fun _ s'' hh => ?_) fun _ _ hh => hh.1
  obtain ⟨⟨h', rfl, h1, h2⟩, hdk⟩ := hh
  exact h h' h1 h2 (hdk e oe ho)

theorem again_dk {M : Model} {A : Around} {l : List Env} {B : Heap} {a0 cls : Value} {Q' : Unit → Shared → Prop} {E' : Value → Shared → Prop} (hfl : Heap.FlyingW B l e cls a0 s'.heap) {oe : Obj} (ho : s'.heap.get? e = some oe)
    (h : ∀ h', Heap.FlyingW B l e cls a0 h' → s'.heap.UpToSlots h' → (∃ o', h'.get? e = some o' ∧ o'.dict = oe.dict) → Q' () { s' with heap := h' }) : wpAny M A (setFlight (.ref e) none) Q' E' s' := by
  have main : wpAny M A (setFlight (.ref e) none) (fun _ s'' => ∃ h', s'' = { s' with heap := h' } ∧ Heap.FlyingW B l e cls a0 h' ∧ s'.heap.UpToSlots h') E' s' :=
    lands_againW hfl fun h' h1 h2 => ⟨h', rfl, h1, h2⟩
  refine wpAny_mono (wpAny_safe (safe_setFlight _ _) main) (fun _ s'' hh => ?_) fun _ _ hh => hh.1
  obtain ⟨⟨h', rfl, h1, h2⟩, hdk⟩ := hh
  exact h h' h1 h2 (hdk e oe ho)

theorem caught_q (R : FlyS base G (envOf name scope L a cd :: outer) e d news s'.heap) (F : Fr g L G m) (K : Below A₀ base outer g) (hsm : G.UpToSlots s'.heap) (XB : KF.In base) (TB : Top p loose mean mg mb base)
    (D : KtsDicts (outer.filterMap (·.frame)) g) (T0 : KtsTurn (outer.filterMap (·.frame)) g₀ g)
    (ex : nsIn KF mainGlobals x = some (some (.ref 31))) (hQC : QC base)
    (k : ∀ h' g' oe ws tk, KtsTurn (outer.filterMap (·.frame)) g₀ g' → Fr g' L h' (fun y => if y = n then some (.ref e) else m y) → News g' L h' ((e, oe) :: news) → oe.cls = .ref 31 → oe.data = .fields ws → oe.dict = some d →
      Below A₀ base outer g' → KF.In g' → Top p loose mean mg mb g' → KtsDicts (outer.filterMap (·.frame)) g' →
      wpAny (model prog w) ((A₀.deeper (envOf name scope L a cd)).mark (some (.ref e))) (execs (b₀ :: suite) (envOf name scope L a cd))
        (fun f s₄ => wpAny (model prog w) (A₀.deeper (envOf name scope L a cd)) (do bindName (envOf name scope L a cd) n .none; unbindBehindTheSuite (envOf name scope L a cd) n pos) (fun _ s₅ => Q f s₅) E s₄)
        (AsSuiteRaised (model prog w) ((A₀.deeper (envOf name scope L a cd)).mark (some (.ref e))) (envOf name scope L a cd) n pos (notedBy (model prog w) ((A₀.deeper (envOf name scope L a cd)).mark (some (.ref e))) (envOf name scope L a cd) (cameBackBy (model prog w) (A₀.deeper (envOf name scope L a cd)) (envOf name scope L a cd) E)))
        { s' with heap := h', toks := tk })
    (hk : scope.kind = .function := by rfl) (hlo : (envOf name scope L a cd).kindOf n = some .local := by rfl) (hx : (envOf name scope L a cd).kindOf x = some .globalImplicit := by rfl) (hd : (x == ("__debug__" : Str)) = false := by decide) :
    wpAny (model prog w) (A₀.deeper (envOf name scope L a cd)) (noteFrame (.ref e) (envOf name scope L a cd))
      (fun _ s₂ => wpAny (model prog w) (A₀.deeper (envOf name scope L a cd)) (setFlight (.ref e) none) (fun _ s₃ =>
        wpAny (model prog w) (A₀.deeper (envOf name scope L a cd)) (handleBy (.ref e) (envOf name scope L a cd) (.ExceptHandler (some (.Name x np)) (some n) (b₀ :: suite) pos :: rest)) Q E s₃) E s₂) E s' := by
  obtain ⟨⟨B, a0, hB, hBG, hl, hfl⟩, oe0, ho0, hd0⟩ := R
  have hL : B.get? L = none := by
    obtain ⟨_, ⟨L', _, hf, hn', _⟩, _⟩ := hfl.2.2.1
    obtain rfl : L = L' := Option.some.inj hf
    exact hn'
  refine note_dk (Around.frames_deeper K.stack) rfl hfl ho0 fun h₄ hheld₄ hsm₄ ⟨oe1, ho1, hd1⟩ => ?_
  refine land_dk (s' := { s' with heap := h₄ }) hheld₄ ho1 fun h₅ hheld hsm₅' ⟨oe2, ho2, hd2⟩ => ?_
  have hsm₅ := hsm₄.trans hsm₅'
  obtain ⟨g₅, T₅, F₅, K₅⟩ := kts_ground K F hBG hheld.1 (hsm.trans hsm₅)
  have X₅ : KF.In g₅ := XB.keeps K₅.stays
  have P₅ : TopRead p loose mg mb g₅ := topRead_of (TB.keeps K₅.stays)
  obtain ⟨ob, hob, hobc⟩ := hheld.there
  obtain ⟨nm, q', bs, sn, sub, ab, col, dd, k0, k1, k2, k3, k5, mN, hC, _⟩ := hQC
  have hC₅ := F₅.keep _ _ (K₅.stays _ _ hC)
  refine wpAny_handleBy_cons (codeAny_handlers_test (name_K F₅ X₅ P₅ ex ?_ hk hx hd)) (by intro q; cases q)
  refine wpAny_excMatches_sub_self hC₅ hob hobc (by decide +kernel) (codeAny_handlers_suite_as ?_)
  refine again_dk (s' := { s' with heap := h₅ }) hheld ho2 fun h₆ hfl₆ hsm₆ ⟨oe3, ho3, hd3⟩ => ?_
  obtain ⟨g₆, T₆, F₆, K₆⟩ := kts_ground K F hBG hfl₆.1 ((hsm.trans hsm₅).trans hsm₆)
  obtain ⟨oe, ws, hoe, hoec, hoed, hoe0⟩ := hfl₆.first
  obtain rfl : oe3 = oe := Option.some.inj (ho3.symm.trans hoe)
  have ne₆ : g₆.get? e = none := T₆.none_ _ (kts_fresh F hBG hfl₆.2.1 fun o ho m => by
    obtain ⟨_, o', ho', hd⟩ := K.frames.mem m
    rw [ho] at ho'
    cases ho'
    obtain ⟨sl, hs⟩ := ((hsm.trans hsm₅).trans hsm₆) _ _ (F.keep _ _ ho) hd
    rw [hoe] at hs
    cases hs
    exact hd _ hoed)
  have Nl : News g₆ L h₆ news := fun q hq => ⟨hfl₆.1 _ _ (hl q hq).1, (fun z => by have := (hl q hq).1; rw [z, hL] at this; cases this), T₆.none_ _ (kts_none F.keep (hl q hq).2.1)⟩
  have N₆ := News.more F₆ Nl hoe (fun es n q => by rw [hoed] at q; cases q) ne₆
  have D₆ : KtsDicts (outer.filterMap (·.frame)) g₆ := D.turn T₆
  refine stN F₆ N₆ (fun h₇ F₇ N₇ => ?_) hk hlo
  exact k h₇ g₆ _ ws _ (T0.trans T₆) F₇ N₇ hoec hoed (by rw [hd3, hd2, hd1, hd0]) K₆ (XB.keeps K₆.stays) (TB.keeps K₆.stays) D₆
end
end Mine
end

section
open PySem PySem.W PyProof.Rows
open PySem.Calls
set_option maxRecDepth 100000
set_option maxHeartbeats 2000000
namespace Mine
open PySem.Challenge

abbrev CtT (w : World) (d : Nat) (f : Addr) (vs : List Value) (led : List (Addr × Obj)) (Post : Value → List (Addr × Obj) → List (Addr × Obj) → Prop) : Prop :=
  ∀ (dp un : Nat) (gd : Option (List Code)) (cn : Str) (cs : Scope) (a : Addr) (ccd : Value) (outer : List Env) (A₀ : Around) (base h₀ : Heap) (L : Addr) (m : Str → Option Value) (s : Shared) (own : List (Addr × Obj)) (Q E : Value → Shared → Prop)
    (mean : ExcName → Option Value) (mg mb : Str → Option Value),
    Below A₀ base outer h₀ → Fr h₀ L s.heap m → (Mine.hd.heap_39 w.params).In h₀ → News h₀ L s.heap (led ++ own) → Top Mine.hd.view_39 (looseW Mine.hd.view_39 [Str.ofString "FRAME_TYPES"]) mean mg mb h₀ →
    (Mine.hd.heap_39 w.params).In base → Top Mine.hd.view_39 (looseW Mine.hd.view_39 [Str.ofString "FRAME_TYPES"]) mean mg mb base → KtsDicts (outer.filterMap (·.frame)) h₀ → cs.kind = .function →
    dp + d < recursionLimit → un + 8 * d < cLine → OwnOff own (led.map (·.1)) →
    (∀ (v : Value) (led' : List (Addr × Obj)) (h' : Heap) (tk' : Nat) (h₁ : Heap), Post v led' own → KtsTurn (outer.filterMap (·.frame)) h₀ h₁ → Fr h₁ L h' m → News h₁ L h' (led' ++ own) → Below A₀ base outer h₁ → (Mine.hd.heap_39 w.params).In h₁ →
      Top Mine.hd.view_39 (looseW Mine.hd.view_39 [Str.ofString "FRAME_TYPES"]) mean mg mb h₁ → KtsDicts (outer.filterMap (·.frame)) h₁ → Q v { s with heap := h', toks := tk' }) →
      wpAny (model PySem.Challenge.rw_no0062_01.row.prog w) (ktrTop dp un gd cn cs L a ccd [] outer) (call (.ref f) vs) Q E s

theorem Ct.use {w : World} {d : Nat} {f : Addr} {vs : List Value} {led : List (Addr × Obj)} {Post : Value → List (Addr × Obj) → Prop} (C : Ct w d f vs led Post) {dp un : Nat} {gd : Option (List Code)} {cn : Str} {cs : Scope} {a : Addr} {ccd : Value} {cl : List (Str × Addr)} {outer : List Env} {A₀ : Around} {base h₀ : Heap} {L : Addr} {m : Str → Option Value} {s : Shared} {own : List (Addr × Obj)} {Q E : Value → Shared → Prop}
    {mean : ExcName → Option Value} {mg mb : Str → Option Value} (B : Below A₀ base outer h₀) (F : Fr h₀ L s.heap m) (X : (Mine.hd.heap_39 w.params).In h₀) (N : News h₀ L s.heap (led ++ own)) (T : Top Mine.hd.view_39 (looseW Mine.hd.view_39 [Str.ofString "FRAME_TYPES"]) mean mg mb h₀) (hk : cs.kind = .function)
    (hd : dp + d < recursionLimit) (hu : un + 8 * d < cLine) (ho : OwnOff own (led.map (·.1)))
    (h : ∀ (v : Value) (led' : List (Addr × Obj)) (h' : Heap) (tk' : Nat), Post v led' → Fr h₀ L h' m → News h₀ L h' (led' ++ own) → Q v { s with heap := h', toks := tk' }) :
    wpAny (model PySem.Challenge.rw_no0062_01.row.prog w) (ktrTop dp un gd cn cs L a ccd cl outer) (call (.ref f) vs) Q E s :=
  C _ _ _ _ _ _ _ _ _ _ _ _ _ _ _ _ _ _ _ _ _ B F X N T hk hd hu ho h

/-- the making of a QuicError: the class called, its __init__ run -/
theorem make_quic {w : World} {dp un : Nat} {gd : Option (List Code)} {cn : Str} {cs : Scope} {a : Addr} {ccd : Value} {cl : List (Str × Addr)} {outer : List Env} {A₀ : Around} {base h₀ : Heap} {L : Addr} {m : Str → Option Value} {s : Shared} {news : List (Addr × Obj)} {Q E : Value → Shared → Prop}
    {mean : ExcName → Option Value} {mg mb : Str → Option Value} {c ft : Int} {tc tf : Tok} {txt : Str} {tt : Tok} (hc : c = 4 ∨ c = 5) (hl : txt.length ≤ 100) (B : Below A₀ base outer h₀) (F : Fr h₀ L s.heap m) (X : (Mine.hd.heap_39 w.params).In h₀) (N : News h₀ L s.heap news) (T : Top Mine.hd.view_39 (looseW Mine.hd.view_39 [Str.ofString "FRAME_TYPES"]) mean mg mb h₀) (hk : cs.kind = .function)
    (hd : dp + 3 < recursionLimit) (hu : un + 24 < cLine)
    (h : ∀ e t2 o2 d od mA h' tk', Fr h₀ L h' m → News h₀ L h' ((e, excO (some d) t2) :: (d, od) :: (t2, o2) :: news) → (∀ p ∈ (d, od) :: (t2, o2) :: news, p.1 ≠ e) → NsO od mA → mA (Str.ofString "code") = some (.int c tc) → Q (.ref e) { s with heap := h', toks := tk' }) :
    wpAny (model PySem.Challenge.rw_no0062_01.row.prog w) (ktrTop dp un gd cn cs L a ccd cl outer) (call (.ref 31) [.int c tc, .int ft tf, .str txt tt]) Q E s := by
  revert X
  k_fill
  intro X
  have hf : h₀.get? 28 = _ := X 28 _ (by k_is)
  refine call_quic F N (qc_of X) hf rfl (by simp) fun e t h' F' N' hne hno => ?_
  rw [under_make]
  refine Ct.use (init_ct w e t c ft tc tf hc txt tt hl _ hne) (own := news) B F' X N' T hk (by show dp + 1 + 1 < _; omega) (by show un + 1 + 8 * 1 < _; omega) ?_ ?_
  · intro p hp b hb
    rcases List.mem_cons.mp hb with rfl | hb
    · exact (hno p hp).1
    · rw [List.mem_singleton.mp hb]; exact (hno p hp).2
  · rintro v led' h2 tk2 ⟨rfl, t2, o2, d, od, mA, rfl, ho, hm, n1, n2⟩ F2 N2
    refine ⟨rfl, h e t2 o2 d od mA h2 tk2 F2 N2 ?_ ho hm⟩
    intro p hp
    rcases List.mem_cons.mp hp with rfl | hp
    · exact Ne.symm n1
    rcases List.mem_cons.mp hp with rfl | hp
    · exact Ne.symm n2
    · exact (hno p hp).1

theorem off1_of {D : Addr} : ∀ {l : List (Addr × Obj)}, (∀ p ∈ l, p.1 ≠ D) → LCg.Off1 D l
  | [], _ => trivial
  | q :: r, h => ⟨h q (.head _), off1_of fun p hp => h p (.tail _ hp)⟩
theorem off1_mem {D : Addr} : ∀ {l : List (Addr × Obj)}, LCg.Off1 D l → ∀ p ∈ l, p.1 ≠ D
  | [], _, _, hp => nomatch hp
  | q :: r, h, p, hp => by
    rcases List.mem_cons.mp hp with rfl | hp
    · exact h.1
    · exact off1_mem h.2 p hp
theorem lt_mem {D : Addr} : ∀ {l : List (Addr × Obj)}, AllLt D l → ∀ p ∈ l, p.1 ≠ D
  | [], _, _, hp => nomatch hp
  | q :: r, h, p, hp => by
    rcases List.mem_cons.mp hp with rfl | hp
    · exact Nat.ne_of_lt h.1
    · exact lt_mem h.2 p hp
end Mine
end

section
open PySem PySem.W PyProof.Rows
open PySem.Calls
set_option maxRecDepth 100000
set_option maxHeartbeats 2000000
namespace Mine
open PySem.Challenge
theorem own_ne {d b : Nat} : ∀ {own : List (Addr × Obj)}, AllLt d own → d ≤ b → ∀ p ∈ own, p.1 ≠ b
  | [], _, _, _, hp => nomatch hp
  | q :: r, h, hb, p, hp => by
    obtain ⟨h1, h2⟩ := h
    rcases List.mem_cons.mp hp with rfl | hp
    · exact Nat.ne_of_lt (Nat.lt_of_lt_of_le h1 hb)
    · exact own_ne h2 hb p hp

/-- what is refused, and by which code -/
def refused (ok mine : Bool) (num many lim : Int) : Option Int :=
  if ok = false then some 5 else if mine = true then (if many ≤ num then some 5 else none) else if lim ≤ num then some 4 else none

theorem ok_t {u m fs b : Bool} (hfs : fs = true) (hc : (!u || m) = b) : (!(u && (m != fs))) = b := by
  subst hfs hc; cases u <;> cases m <;> rfl
theorem ok_f {u m fs b : Bool} (hfs : fs = false) (hc : (!u || !m) = b) : (!(u && (m != fs))) = b := by
  subst hfs hc; cases u <;> cases m <;> rfl
theorem not_t {b : Bool} (h : b = false) : (!b) = true := by rw [h]; rfl
theorem not_f {b : Bool} (h : b = true) : (!b) = false := by rw [h]; rfl
theorem and_f {u b : Bool} (h : u = false) : false = (u && b) := by rw [h]; rfl
theorem and_tt {u b : Bool} (h : u = true) (h2 : b = true) : true = (u && b) := by rw [h, h2]; rfl
theorem and_tf {u b : Bool} (h : u = true) (h2 : b = false) : false = (u && b) := by rw [h, h2]; rfl
theorem and_t {u b : Bool} (h : u = true) : b = (u && b) := by rw [h]; rfl
theorem ref_5 {ok mine : Bool} {num many lim : Int} (h : ok = false) : refused ok mine num many lim = some 5 := by simp [refused, h]

theorem ref_5m {ok m : Bool} {num many lim : Int} (h : ok = true) (hm : m = true) (hl : many ≤ num) : refused ok m num many lim = some 5 := by
  simp [refused, h, hm, hl]
theorem ref_0m {ok m : Bool} {num many lim : Int} (h : ok = true) (hm : m = true) (hl : ¬ many ≤ num) : refused ok m num many lim = none := by
  simp [refused, h, hm, hl]
theorem ref_4 {ok m : Bool} {num many lim : Int} (h : ok = true) (hm : m = false) (hl : lim ≤ num) : refused ok m num many lim = some 4 := by
  simp [refused, h, hm, hl]
theorem ref_0 {ok m : Bool} {num many lim : Int} (h : ok = true) (hm : m = false) (hl : ¬ lim ≤ num) : refused ok m num many lim = none := by
  simp [refused, h, hm, hl]
theorem dref_5m {ok m : Bool} {num many lim : Int} (h : ok = true) (hm : m = true) (hl : ¬ num < many) : refused ok m num many lim = some 5 := ref_5m h hm (Int.not_lt.mp hl)
theorem dref_0m {ok m : Bool} {num many lim : Int} (h : ok = true) (hm : m = true) (hl : num < many) : refused ok m num many lim = none := ref_0m h hm (Int.not_le.mpr hl)
end Mine
end

section
open PySem PySem.W PyProof.Rows
open PySem.Calls
set_option maxRecDepth 100000
set_option maxHeartbeats 2000000
namespace Mine
open PySem.Challenge

theorem bits_all : ∀ n : Fin 400, (Builtin.bitAnd (n.val : Int) 1 = 0 ↔ decide ((n.val : Int).fmod 2 = 1) = false) ∧ (Builtin.bitAnd (n.val : Int) 2 == 2) = decide (((n.val : Int).fdiv 2).fmod 2 = 1) ∧
    Builtin.bitAnd (n.val : Int) 3 = (if decide ((n.val : Int).fmod 2 = 1) = true then 1 else 0) + (if decide (((n.val : Int).fdiv 2).fmod 2 = 1) = true then 2 else 0) := by decide +kernel

theorem bits {sid : Int} {o u : Bool} (h0 : 0 ≤ sid) (h4 : sid < 400) (ho : decide (sid.fmod 2 = 1) = o) (hu : decide ((sid.fdiv 2).fmod 2 = 1) = u) :
    (Builtin.bitAnd sid 1 = 0 ↔ o = false) ∧ (Builtin.bitAnd sid 2 == 2) = u ∧ Builtin.bitAnd sid 3 = (if o = true then 1 else 0) + (if u = true then 2 else 0) := by
  obtain ⟨n, rfl⟩ := Int.eq_ofNat_of_zero_le h0
  have := bits_all ⟨n, by omega⟩
  subst ho hu
  exact this

theorem parts_ct (w : World) (sid : Int) (ts : Tok) (o u : Bool) (ho : decide (sid.fmod 2 = 1) = o) (hu : decide ((sid.fdiv 2).fmod 2 = 1) = u) (h0 : 0 ≤ sid) (h4 : sid < 400) :
    Ct w 1 160 [.int sid ts] []
      (fun v led' => ∃ T t1 t2 ob, v = .ref T ∧ led' = [(T, ob)] ∧ ob = tupO [.int (sid.fdiv 4) t1, .str (roleStr o) t2, .bool u]) := by
  dsimp only [Ct]
  k_fill
  intro dp un gd cn cs a ccd cl outer A₀ base h₀ L m s own Q E mean mg mb B F X N T hk hd hu' hoff hret
  simp only [List.map_cons, List.map_nil, List.cons_append, List.nil_append] at N hoff
  refine wpAny_call ?_
  k_dflt cell_enter
  k_steps
  all_goals have hb := bits h0 h4 ho hu
  · have e : o = true := by cases o with | true => rfl | false => exact absurd (hb.1.mpr rfl) (by assumption)
    subst e
    (rename News h₀ _ _ _ => NN; rw [hb.2.1] at NN; exact hret _ _ _ _ ⟨_, _, _, _, rfl, rfl, rfl⟩ (by assumption) NN)
  · have e : o = false := hb.1.mp (by assumption)
    subst e
    (rename News h₀ _ _ _ => NN; rw [hb.2.1] at NN; exact hret _ _ _ _ ⟨_, _, _, _, rfl, rfl, rfl⟩ (by assumption) NN)
end Mine
end

section
open PySem PySem.W PyProof.Rows
open PySem.Calls
set_option maxRecDepth 100000
set_option maxHeartbeats 8000000
namespace Mine
open PySem.Challenge
abbrev hereP (r : Bool) (tr : Tok) (le ls mi op to : Addr) : List (Str × Value) :=
  [(Str.ofString "role", .str (roleStr r) tr), (Str.ofString "let", .ref le), (Str.ofString "lets", .ref ls), (Str.ofString "mine", .ref mi), (Str.ofString "open", .ref op), (Str.ofString "told", .ref to)]

theorem parts_use {w : World} {sid : Int} {ts : Tok} {o u : Bool} (ho : decide (sid.fmod 2 = 1) = o) (hu : decide ((sid.fdiv 2).fmod 2 = 1) = u) (h0 : 0 ≤ sid) (h4 : sid < 400) {dp un : Nat} {gd : Option (List Code)} {cn : Str} {cs : Scope} {a : Addr} {ccd : Value} {cl : List (Str × Addr)} {outer : List Env} {A₀ : Around} {base h₀ : Heap} {L : Addr} {m : Str → Option Value} {s : Shared} {news : List (Addr × Obj)} {Q E : Value → Shared → Prop}
    {mean : ExcName → Option Value} {mg mb : Str → Option Value} (B : Below A₀ base outer h₀) (F : Fr h₀ L s.heap m) (X : (Mine.hd.heap_39 w.params).In h₀) (N : News h₀ L s.heap news) (T : Top Mine.hd.view_39 (looseW Mine.hd.view_39 [Str.ofString "FRAME_TYPES"]) mean mg mb h₀) (hk : cs.kind = .function)
    (hd : dp + 1 < recursionLimit) (hu' : un + 8 < cLine)
    (h : ∀ T t1 t2 h' tk', Fr h₀ L h' m → News h₀ L h' ((T, tupO [.int (sid.fdiv 4) t1, .str (roleStr o) t2, .bool u]) :: news) → Q (.ref T) { s with heap := h', toks := tk' }) :
    wpAny (model PySem.Challenge.rw_no0062_01.row.prog w) (ktrTop dp un gd cn cs L a ccd cl outer) (call (.ref 160) [.int sid ts]) Q E s := by
  refine Ct.use (parts_ct w sid ts o u ho hu h0 h4) B F X (own := news) N T hk hd hu' (fun p hp b hb => by cases hb) ?_
  rintro v led' h' tk' ⟨T, t1, t2, ob, rfl, rfl, rfl⟩ F' N'
  exact h T t1 t2 h' tk' F' N'

open PyProof.Rows.LCt PyProof.Rows.LCg in
theorem rest_ind {prog : Program} {w : World} {A : Around} {s : Shared} {h₀ : Heap} {L : Addr} {m : Str → Option Value} {env : Env} {ct elt : PySem.Expr} {x : Str} {scope : Scope} {cl : List (Str × Addr)} {S : List (Addr × Obj) → Prop} {Fin : List Value → List (Addr × Obj) → Prop}
    {its : Array Value} {ks : List Int} (p : Int → Bool) {n : Nat} {news : List (Addr × Obj)} (hI : IntsAre its.toList ks) (hn : n = ks.length)
    (step : ∀ (i : Nat) (k : Int) (t : Tok) ys I oI C oC D m₂ h tk (E' : Value → Shared → Prop), ks[i]? = some k → NsObj oC m₂ → m₂ x = some (.int k t) → Fr h₀ L h m → News h₀ L h ((I, oI) :: (C, oC) :: (D, lst ys) :: news) → Off3 I C D news → ((@Ne Nat I C) ∧ (@Ne Nat I D) ∧ (@Ne Nat C D)) →
      wpAny (model prog w) A (isTrue ct (compEnvC scope cl C env) (eval ct (compEnvC scope cl C env))) (fun ok s' => if ok = true then
        wpAny (model prog w) A (eval elt (compEnvC scope cl C env)) (CompEnd h₀ L m { s with heap := h, toks := tk } I oI C oC D (lst ys) S (fun y news' => news' = news ∧ (∃ t', y = .int k t') ∧ p k = true)) E' s'
        else CompEnd h₀ L m { s with heap := h, toks := tk } I oI C oC D (lst ys) S (fun _ news' => news' = news ∧ p k = false) Value.none s') E' { s with heap := h, toks := tk })
    (fin : ∀ ys, IntsAre ys (ks.filter p) → Fin ys news) :
    CompRestT prog w A h₀ L m env ct elt x scope cl s S (fun i v => its[i]? = some v) Fin n 0 [] news := by
  have key : ∀ (k i : Nat) (ys : List Value), i + k = n → IntsAre ys ((ks.take i).filter p) → CompRestT prog w A h₀ L m env ct elt x scope cl s S (fun i v => its[i]? = some v) Fin k i ys news := by
    intro k
    induction k with
    | zero =>
      intro i ys e hy
      refine CompRestT.zero (fin ys ?_)
      rwa [List.take_of_length_le (by omega)] at hy
    | succ k ih =>
      intro i ys e hy
      refine CompRestT.succ ?_
      intro v I oI C oC D m₂ h tk E' hv hC hx F N off ne
      have hlen : its.toList.length = ks.length := IntsAre.length hI
      have hi : i < ks.length := by omega
      obtain ⟨t, rfl⟩ : ∃ t, v = .int ks[i] t := by
        have hv' : its.toList[i]? = some v := by simpa using hv
        obtain ⟨n', t, rfl, hn'⟩ := IntsAre.at hI i v hv'
        rw [List.getElem?_eq_getElem hi] at hn'
        cases hn'
        exact ⟨t, rfl⟩
      have htake : ks.take (i + 1) = ks.take i ++ [ks[i]] := by rw [List.take_add_one, List.getElem?_eq_getElem hi]; rfl
      refine wpAny_mono (step i ks[i] t ys I oI C oC D m₂ h tk E' (by simp [hi]) hC hx F N off ne) (fun ok s' hq => ?_) (fun _ _ e => e)
      cases ok with
      | true =>
        simp only [if_true] at hq ⊢
        refine wpAny_mono hq (fun y s₅ h₅ => ?_) fun _ _ e => e
        obtain ⟨h₄, tk₄, news₄, rfl, F₄, N₄, off₄, hS₄, rfl, ⟨t', rfl⟩, hp⟩ := h₅
        refine ⟨h₄, tk₄, _, rfl, F₄, N₄, off₄, hS₄, ih (i + 1) _ (by omega) ?_⟩
        rw [htake, List.filter_append]
        simp only [List.filter_cons, hp, if_true, List.filter_nil]
        exact ksk_snoc hy
      | false =>
        simp only [Bool.false_eq_true, if_false] at hq ⊢
        obtain ⟨h₄, tk₄, news₄, rfl, F₄, N₄, off₄, hS₄, rfl, hp⟩ := hq
        refine ⟨h₄, tk₄, _, rfl, F₄, N₄, off₄, hS₄, ih (i + 1) _ (by omega) ?_⟩
        rw [htake, List.filter_append]
        simp only [List.filter_cons, hp, Bool.false_eq_true, if_false, List.filter_nil, List.append_nil]
        exact hy
  exact key n 0 [] (by omega) (by simpa using IntsAre.nil)

theorem rk_size {ys : List Value} {a : Int} {n : Nat} {f : Int → Int} (h : IntsAre ys ((rangeKs a n).map f)) (hn : n ≤ 1000) : ys.toArray.size ≤ sizeLine := by
  have := IntsAre.length h
  rw [List.size_toArray, this, List.length_map, rangeKs_length, sizeLine_eq]
  omega

theorem rk_len {ys : List Value} {ks : List Int} (h : IntsAre ys ks) : ys.toArray.size = ks.length := by
  rw [List.size_toArray]; exact IntsAre.length h

theorem in_kinds {w : World} {A : Around} {E : Value → Shared → Prop} {s : Shared} {h₀ : Heap} {L D : Addr} {news : List (Addr × Obj)} {kind : Str} {fs : Bool} {t t1 t2 : Tok} {Q : Value → Shared → Prop} (N : News h₀ L s.heap news)
    (hm : (D, { cls := .type "tuple", data := .seq #[.str (Str.ofString "stop_sending") t1, .str (Str.ofString "max_stream_data") t2] }) ∈ news) (hk : KindOk kind fs) (h : Q (.bool fs) s) :
    wpAny (model PySem.Challenge.rw_no0062_01.row.prog w) A (compareOp .In (.str kind t) (.ref D)) Q E s := by
  refine in_tuple_strs (ys := [Str.ofString "stop_sending", Str.ofString "max_stream_data"]) (News.isTup N hm) ?_ ?_
  · with_unfolding_all (repeat constructor)
  · cases hk <;> exact h

end Mine
end

section
open PySem PySem.W PyProof.Rows
open PySem.Calls
set_option maxRecDepth 100000
set_option maxHeartbeats 2000000
namespace Mine
open PySem.Challenge

theorem valueAt_cons {p : Int × Value} {r : List (Int × Value)} {k : Int} : valueAt (p :: r) k = if p.1 = k then some p.2 else valueAt r k := by
  unfold valueAt
  rw [List.find?_cons]
  by_cases h : p.1 = k <;> simp [h]
theorem valueAt_map (k : Int) (v : Value) (k' : Int) : ∀ kvs : List (Int × Value), valueAt (kvs.map fun kv => if kv.1 = k then (kv.1, v) else kv) k' = if k' = k then (valueAt kvs k').map (fun _ => v) else valueAt kvs k'
  | [] => by simp [valueAt]
  | p :: r => by
    rw [List.map_cons, valueAt_cons, valueAt_cons, valueAt_map k v k' r]
    by_cases h : p.1 = k <;> by_cases h2 : p.1 = k' <;> by_cases h3 : k' = k <;> simp_all
theorem valueAt_app (kvs : List (Int × Value)) (k : Int) (v : Value) (k' : Int) : valueAt (kvs ++ [(k, v)]) k' = (valueAt kvs k').or (if k = k' then some v else none) := by
  induction kvs with
  | nil => simp [valueAt_cons, valueAt]
  | cons p r ih =>
    rw [List.cons_append, valueAt_cons, valueAt_cons, ih]
    by_cases h : p.1 = k' <;> simp [h]
theorem any_isSome (kvs : List (Int × Value)) (k : Int) : kvs.any (fun kv => kv.1 = k) = (valueAt kvs k).isSome := by
  induction kvs with
  | nil => simp [valueAt]
  | cons p r ih => rw [List.any_cons, valueAt_cons, ih]; by_cases h : p.1 = k <;> simp [h]
theorem valueAt_stored (kvs : List (Int × Value)) (k : Int) (v : Value) (k' : Int) : valueAt (stored kvs k v) k' = if k' = k then some v else valueAt kvs k' := by
  unfold stored
  rw [any_isSome]
  cases h : valueAt kvs k with
  | none =>
    simp only [Option.isSome_none, Bool.false_eq_true, if_false]
    rw [valueAt_app]
    by_cases e : k' = k
    · subst e; simp [h]
    · simp [e, Ne.symm e]
  | some x =>
    simp only [Option.isSome_some, if_true]
    rw [valueAt_map]
    by_cases e : k' = k
    · subst e; simp [h]
    · simp [e]
theorem stored_len (kvs : List (Int × Value)) (k : Int) (v : Value) : (stored kvs k v).length = kvs.length + (if (valueAt kvs k).isSome = true then 0 else 1) := by
  unfold stored
  rw [any_isSome]
  cases (valueAt kvs k).isSome <;> simp

theorem int_key {prog : Program} {w : World} {k : Int} {v : Value} (hk : (PySem.intKind prog w).is k v = true) : ∃ t, v = .int k t := by
  cases v <;> simp [intKind, Value.isInt] at hk
  subst hk
  exact ⟨_, rfl⟩
theorem ints_of_keys {prog : Program} {w : World} (vs : List Value) : ∀ (kvs : List (Int × Value)), vs.length = kvs.length → (∀ (j : Nat) (v : Value), vs[j]? = some v → ∃ k x, kvs[j]? = some (k, x) ∧ (PySem.intKind prog w).is k v = true) → IntsAre vs (kvs.map (·.1)) := by
  induction vs with
  | nil =>
    intro kvs hl _
    cases kvs with
    | nil => exact .nil
    | cons _ _ => cases hl
  | cons v vs ih =>
    intro kvs hl h
    obtain ⟨k, x, e, hk⟩ := h 0 v rfl
    cases kvs with
    | nil => cases hl
    | cons p r =>
      cases e
      obtain ⟨t, rfl⟩ := int_key hk
      exact .cons _ _ (ih r (Nat.succ.inj hl) fun j v hv => h (j + 1) v hv)

section
variable {prog : Program} {w : World} {A : Around} {E : Value → Shared → Prop} {s : Shared} {h₀ : Heap} {L d : Addr} {m : Str → Option Value} {news : List (Addr × Obj)}

theorem sorted_open {o : Obj} {kvs : List (Int × Value)} {Q : Value → Shared → Prop} (hh : A.handled = none) (F : Fr h₀ L s.heap m) (N : News h₀ L s.heap news) (hp : (d, o) ∈ news) (hd : o.IsDictOf (PySem.intKind prog w) kvs) (lo : (d == sysModules) = false) (h64 : kvs.length < 64)
    (h : ∀ D vs ns c h' tk', Fr h₀ L h' m → News h₀ L h' ((D, listOf (List.toArray vs) c) :: news) → (∀ q ∈ news, q.1 < D) → IntsAre vs ns → ns.length = kvs.length → (∀ x ∈ ns, (valueAt kvs x).isSome = true) → Q (.ref D) { s with heap := h', toks := tk' }) :
    wpAny (model prog w) A (call (.builtin "sorted") [.ref d]) Q E s := by
  obtain ⟨ep, hat⟩ := (kda_dict N hp hd).dictAt
  refine kdu_sorted (kdl_dict (knd := PySem.intKind prog w) (kvs := kvs) (ep := ep) lo) hh F N hat (by rw [sizeLine_eq]; omega) fun B h' tk vs F' N' l1 hl hv => ?_
  have hI : IntsAre vs (kvs.map (·.1)) := ints_of_keys _ _ hl hv
  refine ksk_lsort F' N' (fun o => Upd.head fun p hp => Nat.ne_of_lt (l1 p hp)) rfl hI (by simpa using h64) fun vs' ns' c h'' F'' N'' hI' hlen hperm _ _ => ?_
  refine h B vs' ns' c h'' tk F'' N'' l1 hI' (by simpa using hlen) fun x hx => ?_
  have hx' := hperm.mem_iff.mp hx
  rw [← any_isSome]
  obtain ⟨p, hp1, rfl⟩ := List.mem_map.mp hx'
  exact List.any_eq_true.mpr ⟨p, hp1, by simp⟩

theorem item_ints {value slice : PySem.Expr} {Q : Value → Shared → Prop} {l : Addr} {vs : List Value} {ns : List Int} {c : Nat} {j : Int} {u : Tok} (N : News h₀ L s.heap news) (hm : (l, listOf vs.toArray c) ∈ news) (hi : IntsAre vs ns) (h0 : 0 ≤ j) (h1 : j < ns.length) (hfit : ns.length ≤ 1000)
    (h : ∀ x t, x ∈ ns → Q (.int x t) s)
    (hs : subscripted slice false (.ref l) (.int j u) = operate [.ref l, .int j u] (getItem (.ref l) (.int j u)) := by with_unfolding_all rfl) (hg : ∀ r, letTemporaryGo value (.ref l) r = pure () := by intro _; with_unfolding_all rfl) :
    wpAny (model prog w) A (subscriptTail value slice (.ref l) (.int j u)) Q E s := by
  have hj : j.toNat < ns.length := by omega
  obtain ⟨t, hx⟩ := hi.get j.toNat ns[j.toNat] (by simp [hj])
  exact item_listL ⟨_, (N _ hm).1, rfl, c, rfl⟩ h0 (by omega) hx (h _ t (List.getElem_mem hj)) hs hg

theorem item_menu {value slice : PySem.Expr} {Q : Value → Shared → Prop} {l : Addr} {t1 t2 t3 t4 t5 : Tok} {c : Nat} {j : Int} {u : Tok} (N : News h₀ L s.heap news)
    (hm : (l, listOf #[.str (Str.ofString "stream") t1, .str (Str.ofString "reset_stream") t2, .str (Str.ofString "stream_data_blocked") t3, .str (Str.ofString "stop_sending") t4, .str (Str.ofString "max_stream_data") t5] c) ∈ news) (h0 : 0 ≤ j) (h1 : j < 5)
    (h : ∀ kind t fs, KindOk kind fs → Q (.str kind t) s)
    (hs : ∀ j u, subscripted slice false (.ref l) (.int j u) = operate [.ref l, .int j u] (getItem (.ref l) (.int j u)) := by intro _ _; with_unfolding_all rfl) (hg : ∀ r, letTemporaryGo value (.ref l) r = pure () := by intro _; with_unfolding_all rfl) :
    wpAny (model prog w) A (subscriptTail value slice (.ref l) (.int j u)) Q E s := by
  have hL : s.heap.IsList l _ := ⟨_, (N _ hm).1, rfl, c, rfl⟩
  have hc : j = 0 ∨ j = 1 ∨ j = 2 ∨ j = 3 ∨ j = 4 := by omega
  rcases hc with rfl | rfl | rfl | rfl | rfl
  · exact item_listL (l := [.str (Str.ofString "stream") t1, .str (Str.ofString "reset_stream") t2, .str (Str.ofString "stream_data_blocked") t3, .str (Str.ofString "stop_sending") t4, .str (Str.ofString "max_stream_data") t5]) hL (by decide) (by decide) rfl (h _ _ _ .a) (hs _ _) hg
  · exact item_listL (l := [.str (Str.ofString "stream") t1, .str (Str.ofString "reset_stream") t2, .str (Str.ofString "stream_data_blocked") t3, .str (Str.ofString "stop_sending") t4, .str (Str.ofString "max_stream_data") t5]) hL (by decide) (by decide) rfl (h _ _ _ .b) (hs _ _) hg
  · exact item_listL (l := [.str (Str.ofString "stream") t1, .str (Str.ofString "reset_stream") t2, .str (Str.ofString "stream_data_blocked") t3, .str (Str.ofString "stop_sending") t4, .str (Str.ofString "max_stream_data") t5]) hL (by decide) (by decide) rfl (h _ _ _ .c) (hs _ _) hg
  · exact item_listL (l := [.str (Str.ofString "stream") t1, .str (Str.ofString "reset_stream") t2, .str (Str.ofString "stream_data_blocked") t3, .str (Str.ofString "stop_sending") t4, .str (Str.ofString "max_stream_data") t5]) hL (by decide) (by decide) rfl (h _ _ _ .d) (hs _ _) hg
  · exact item_listL (l := [.str (Str.ofString "stream") t1, .str (Str.ofString "reset_stream") t2, .str (Str.ofString "stream_data_blocked") t3, .str (Str.ofString "stop_sending") t4, .str (Str.ofString "max_stream_data") t5]) hL (by decide) (by decide) rfl (h _ _ _ .e) (hs _ _) hg

theorem fold_len (kvs : List (Int × Value)) : ∀ ns : List Int, (ns.foldl (fun k n => stored k n (.bool true)) kvs).length ≤ kvs.length + ns.length := by
  intro ns
  induction ns generalizing kvs with
  | nil => simp
  | cons a r ih =>
    have := ih (stored kvs a (.bool true))
    have := stored_length_le kvs a (.bool true)
    simp only [List.foldl_cons, List.length_cons]; omega

/-- the end of one turn of the loop that opens ids -/
def TurnEnd (prog : Program) (w : World) (h₀ : Heap) (L : Addr) (mm : Str → Option Value) (g : Obj → List (Addr × Obj)) (own : List (Addr × Obj)) (kvs : List (Int × Value)) (s : Shared) (fl : Flow) (s₂ : Shared) : Prop :=
  fl = .next ∧ ∃ h' tk' oo'', s₂ = { s with heap := h', toks := tk' } ∧ Fr h₀ L h' mm ∧ News h₀ L h' (g oo'' ++ own) ∧ oo''.IsDictOf (PySem.intKind prog w) kvs
theorem for_open {env : Env} {x : Str} {body : List Stmt} {Q : Flow → Shared → Prop} {l op : Addr} {vs : List Value} {ns : List Int} {nn : Nat} {oo : Obj} {kvs : List (Int × Value)} {g : Obj → List (Addr × Obj)} {m₀ : Str → Option Value}
    (hh : A.handled = none) (hl : (l, listOf vs.toArray nn) ∈ news) (hi : IntsAre vs ns) (F : Fr h₀ env.locals s.heap m₀) (N : News h₀ env.locals s.heap news) (U : UpdF op oo news g) (hd : oo.IsDictOf (PySem.intKind prog w) kvs) (_hmo : (op, oo) ∈ news) (hne : @Ne Nat l op)
    (turn : ∀ n t oo' kvs' h tk own, OwnOff own (news.map (·.1)) → oo'.IsDictOf (PySem.intKind prog w) kvs' → kvs'.length ≤ kvs.length + ns.length → Fr h₀ env.locals h (fun y => if y = x then some (.int n t) else m₀ y) → News h₀ env.locals h (g oo' ++ own) →
      wpAny (model prog w) A (execs body env) (TurnEnd prog w h₀ env.locals (fun y => if y = x then some (.int n t) else m₀ y) g own (stored kvs' n (.bool true)) { s with heap := h, toks := tk }) E { s with heap := h, toks := tk })
    (done : ∀ (u : Str → Option Value) (oo' : Obj) (h : Heap) (tk : Nat), oo'.IsDictOf (PySem.intKind prog w) (ns.foldl (fun k n => stored k n (.bool true)) kvs) → Fr h₀ env.locals h (fun y => if y = x then u y else m₀ y) → News h₀ env.locals h (g oo') → Q .next { s with heap := h, toks := tk }) :
    wpAny (model prog w) A (pyIter (.ref l)) (fun it s₂ => LoopAtV prog w A h₀ env x body Q E it s₂) E s := by
  obtain ⟨pre, post, e0, eg, hpre, hpost⟩ := U.split
  have egn : g oo = news := by rw [eg, e0]
  have egm : ∀ o', (g o').map (·.1) = news.map (·.1) := fun o' => by rw [eg, e0]; simp
  refine iter_invNL (fun i m nx => ∃ oo', nx = g oo' ∧ oo'.IsDictOf (PySem.intKind prog w) ((ns.take i).foldl (fun k n => stored k n (.bool true)) kvs) ∧ ∀ z, z ≠ x → m z = m₀ z) hh hl hi F N ⟨oo, egn.symm, by simpa using hd, fun _ _ => rfl⟩ ?_ ?_
  · rintro i n t m₁ news₁ h tk own hn ha hoff hl1 ⟨oo', rfl, hd', hm⟩ F1 N1
    have e : (fun y => if y = x then some (Value.int n t) else m₁ y) = fun y => if y = x then some (Value.int n t) else m₀ y := by
      funext z
      by_cases hz : z = x
      · simp [hz]
      · simp [hz, hm z hz]
    rw [e] at F1
    have hlen : ((ns.take i).foldl (fun k n => stored k n (.bool true)) kvs).length ≤ kvs.length + ns.length := by
      have := fold_len kvs (ns.take i)
      have e3 : (ns.take i).length ≤ ns.length := by rw [List.length_take]; exact Nat.min_le_right _ _
      omega
    refine wpAny_mono (turn n t oo' _ h tk own hoff hd' hlen F1 N1) (fun fl s₂ hq => ?_) (fun _ _ e => e)
    obtain ⟨rfl, h', tk', oo'', rfl, F', N', hd''⟩ := hq
    refine ⟨h', tk', _, g oo'' ++ own, g oo'', rfl, F', N', fun p hp => List.mem_append.mpr (.inl hp), fun p hp => List.mem_append.mpr (.inr hp), egm _, ?_, oo'', rfl, ?_, fun z hz => by simp [hz]⟩
    · rw [eg] at hl1 ⊢
      rcases List.mem_append.mp hl1 with h1 | h1
      · exact List.mem_append.mpr (.inl h1)
      · rcases List.mem_cons.mp h1 with h1 | h1
        · exact absurd (congrArg Prod.fst h1) hne
        · exact List.mem_append.mpr (.inr (.tail _ h1))
    · have hi' : i < ns.length := by
        rcases Nat.lt_or_ge i ns.length with h | h
        · exact h
        · rw [List.getElem?_eq_none h] at hn; cases hn
      rw [List.take_add_one, hn]
      simpa [List.foldl_append] using hd''
  · rintro m₁ news₁ h tk _ ⟨oo', rfl, hd', hm⟩ F1 N1
    have e : m₁ = fun y => if y = x then m₁ y else m₀ y := by
      funext z
      by_cases hz : z = x
      · simp [hz]
      · simp [hz, hm z hz]
    rw [e] at F1
    rw [List.take_length] at hd'
    exact done m₁ oo' h tk hd' F1 N1

theorem for_nil {env : Env} {x : Str} {body : List Stmt} {Q : Flow → Shared → Prop} {l : Addr} {nn : Nat} {m₀ : Str → Option Value}
    (hh : A.handled = none) (hl : (l, listOf #[] nn) ∈ news) (F : Fr h₀ env.locals s.heap m₀) (N : News h₀ env.locals s.heap news)
    (done : ∀ h tk, Fr h₀ env.locals h m₀ → News h₀ env.locals h news → Q .next { s with heap := h, toks := tk }) :
    wpAny (model prog w) A (pyIter (.ref l)) (fun it s₂ => LoopAtV prog w A h₀ env x body Q E it s₂) E s := by
  refine iter_invNL (vs := []) (ns := []) (nn := nn) (fun i m nx => m = m₀ ∧ nx = news) hh hl .nil F N ⟨rfl, rfl⟩ ?_ ?_
  · intro i n t m₁ news₁ h tk own hn
    simp at hn
  · rintro m₁ news₁ h tk _ ⟨rfl, rfl⟩ F1 N1
    exact done h tk F1 N1
end
end Mine
end

section
open PySem PySem.W PyProof.Rows
open PySem.Calls
set_option maxRecDepth 100000
set_option maxHeartbeats 2000000
namespace Mine
open PySem.Challenge

/-- which ids are open -/
def inOpen (r : Bool) (c0 c1 k : Int) : Bool := decide (0 ≤ k) && (decide (k.fmod 2 = 1) == !r) && decide (k.fdiv 4 < cond (decide ((k.fdiv 2).fmod 2 = 1)) c1 c0)

structure OpenOk (r : Bool) (c0 c1 : Int) (kvs : List (Int × Value)) : Prop where
  at_ : ∀ k, (valueAt kvs k).isSome = inOpen r c0 c1 k
  bools : ∀ k v, valueAt kvs k = some v → ∃ b, v = .bool b
  len : (kvs.length : Int) = c0 + c1

theorem openOk_nil (r : Bool) : OpenOk r 0 0 [] := by
  refine ⟨fun k => ?_, fun k v h => ?_, rfl⟩
  · have : inOpen r 0 0 k = false := by
      unfold inOpen
      by_cases h : 0 ≤ k
      · have h2 : 0 ≤ k.fdiv 4 := Int.fdiv_nonneg h (by decide)
        have e : cond (decide ((k.fdiv 2).fmod 2 = 1)) (0 : Int) 0 = 0 := by cases decide ((k.fdiv 2).fmod 2 = 1) <;> rfl
        rw [e, decide_eq_false (p := k.fdiv 4 < 0) (by omega), Bool.and_false]
      · rw [decide_eq_false h]; rfl
    rw [this]; rfl
  · simp [valueAt] at h

theorem OpenOk.set {r : Bool} {c0 c1 : Int} {kvs : List (Int × Value)} (h : OpenOk r c0 c1 kvs) {k : Int} {v : Value} (hk : valueAt kvs k = some v) (b : Bool) : OpenOk r c0 c1 (stored kvs k (.bool b)) := by
  refine ⟨fun k' => ?_, fun k' v' h' => ?_, ?_⟩
  · rw [valueAt_stored]
    by_cases e : k' = k
    · subst e; rw [if_pos rfl, ← h.at_, hk]; rfl
    · rw [if_neg e]; exact h.at_ k'
  · rw [valueAt_stored] at h'
    by_cases e : k' = k
    · rw [if_pos e] at h'; cases h'; exact ⟨_, rfl⟩
    · rw [if_neg e] at h'; exact h.bools _ _ h'
  · rw [stored_len, hk]; simpa using h.len

theorem key_bits (r u : Bool) (j : Int) (h : 0 ≤ j) : let key := 4 * j + (if (!r) = true then 1 else 0) + (if u = true then 2 else 0)
    0 ≤ key ∧ decide (key.fmod 2 = 1) = !r ∧ decide ((key.fdiv 2).fmod 2 = 1) = u ∧ key.fdiv 4 = j := by
  intro key
  have hk : key = cond r 0 1 + 2 * (cond u 1 0 + 2 * j) := by
    have e1 : (if (!r) = true then (1 : Int) else 0) = cond r 0 1 := by cases r <;> rfl
    have e2 : (if u = true then (2 : Int) else 0) = 2 * cond u 1 0 := by cases u <;> rfl
    show 4 * j + _ + _ = _
    rw [e1, e2, Int.mul_add, ← Int.mul_assoc, Int.add_comm (4 * j), Int.add_assoc, Int.add_comm (4 * j)]; rfl
  have a1 : (0 : Int) ≤ cond r 0 1 ∧ (cond r 0 1 : Int) / 2 = 0 ∧ decide ((cond r 0 1 : Int) % 2 = 1) = !r := by cases r <;> decide
  have c1 : (0 : Int) ≤ cond u 1 0 ∧ (cond u 1 0 : Int) / 2 = 0 ∧ decide ((cond u 1 0 : Int) % 2 = 1) = u := by cases u <;> decide
  have e2 : key / 2 = cond u 1 0 + 2 * j := by rw [hk, Int.add_mul_ediv_left _ _ (by decide), a1.2.1, Int.zero_add]
  refine ⟨?_, ?_, ?_, ?_⟩
  · rw [hk]; exact Int.add_nonneg a1.1 (Int.mul_nonneg (by decide) (Int.add_nonneg c1.1 (Int.mul_nonneg (by decide) h)))
  · rw [Int.fmod_eq_emod_of_nonneg _ (by decide), hk, Int.add_mul_emod_self_left]; exact a1.2.2
  · rw [Int.fdiv_eq_ediv_of_nonneg _ (by decide), Int.fmod_eq_emod_of_nonneg _ (by decide), e2, Int.add_mul_emod_self_left]; exact c1.2.2
  · rw [Int.fdiv_eq_ediv_of_nonneg _ (by decide)]
    exact (Int.ediv_ediv_of_nonneg (y := 2) (z := 2) (by decide)).symm.trans (by rw [e2, Int.add_mul_ediv_left _ _ (by decide), c1.2.1, Int.zero_add])
theorem key_inj (r : Bool) {k : Int} (h0 : 0 ≤ k) (h1 : decide (k.fmod 2 = 1) = !r) : k = 4 * k.fdiv 4 + (if (!r) = true then 1 else 0) + (if decide ((k.fdiv 2).fmod 2 = 1) = true then 2 else 0) := (sid_back h0 h1 rfl).symm

theorem inOpen_key (r u : Bool) (c0 c1 j : Int) (h : 0 ≤ j) : inOpen r c0 c1 (4 * j + (if (!r) = true then 1 else 0) + (if u = true then 2 else 0)) = decide (j < cond u c1 c0) := by
  obtain ⟨a, b, c, d⟩ := key_bits r u j h
  unfold inOpen
  rw [b, c, d, decide_eq_true a]
  simp

theorem OpenOk.add {r u : Bool} {c0 c1 : Int} {kvs : List (Int × Value)} (h : OpenOk r c0 c1 kvs) (h0 : 0 ≤ c0) (h1 : 0 ≤ c1) :
    OpenOk r (cond u c0 (c0 + 1)) (cond u (c1 + 1) c1) (stored kvs (4 * cond u c1 c0 + (if (!r) = true then 1 else 0) + (if u = true then 2 else 0)) (.bool true)) := by
  have hc : 0 ≤ cond u c1 c0 := by cases u <;> assumption
  obtain ⟨a, b, c, d⟩ := key_bits r u (cond u c1 c0) hc
  have hno : valueAt kvs (4 * cond u c1 c0 + (if (!r) = true then 1 else 0) + (if u = true then 2 else 0)) = none := by
    have := h.at_ (4 * cond u c1 c0 + (if (!r) = true then 1 else 0) + (if u = true then 2 else 0))
    rw [inOpen_key r u c0 c1 _ hc, decide_eq_false (by omega)] at this
    exact Option.isNone_iff_eq_none.mp (by simpa using this)
  refine ⟨fun k' => ?_, fun k' v' h' => ?_, ?_⟩
  · rw [valueAt_stored]
    by_cases e : k' = 4 * cond u c1 c0 + (if (!r) = true then 1 else 0) + (if u = true then 2 else 0)
    · rw [if_pos e, e]
      rw [inOpen_key r u _ _ _ hc]
      cases u <;> simp <;> omega
    · rw [if_neg e, h.at_]
      unfold inOpen
      by_cases h2 : 0 ≤ k'
      · by_cases h3 : decide (k'.fmod 2 = 1) = !r
        · have e2 := key_inj r h2 h3
          rw [decide_eq_true h2, h3]
          have e5 : ((!r) == !r) = true := by simp
          rw [e5]
          simp only [Bool.true_and]
          generalize hu : decide ((k'.fdiv 2).fmod 2 = 1) = u' at e2
          have key : (k'.fdiv 4 < cond u' c1 c0) ↔ (k'.fdiv 4 < cond u' (cond u (c1 + 1) c1) (cond u c0 (c0 + 1))) := by
            cases u <;> cases u' <;> simp only [cond] at e ⊢ <;> first
              | exact Iff.rfl
              | (constructor
                 · intro h; omega
                 · intro h
                   have : k'.fdiv 4 ≠ c0 ∨ k'.fdiv 4 ≠ c1 := by
                     first
                     | (left; intro z; rw [z] at e2; exact e e2)
                     | (right; intro z; rw [z] at e2; exact e e2)
                   first
                   | (have h9 : k'.fdiv 4 ≠ c0 := by (intro z; rw [z] at e2; exact e e2)
                      omega)
                   | (have h9 : k'.fdiv 4 ≠ c1 := by (intro z; rw [z] at e2; exact e e2)
                      omega))
          exact decide_eq_decide.mpr key
        · have h3' : (decide (k'.fmod 2 = 1) == !r) = false := by
            rw [Bool.eq_false_iff]; intro z; exact h3 (eq_of_beq z)
          rw [h3']; simp
      · rw [decide_eq_false h2]; rfl
  · rw [valueAt_stored] at h'
    by_cases e : k' = 4 * cond u c1 c0 + (if (!r) = true then 1 else 0) + (if u = true then 2 else 0)
    · rw [if_pos e] at h'; cases h'; exact ⟨_, rfl⟩
    · rw [if_neg e] at h'; exact h.bools _ _ h'
  · rw [stored_len, hno]
    have := h.len
    cases u <;> simp only [cond, Option.isSome_none, Bool.false_eq_true, if_false] <;> omega

theorem OpenOk.adds {r u : Bool} : ∀ (n : Nat) {c0 c1 : Int} {kvs : List (Int × Value)}, OpenOk r c0 c1 kvs → 0 ≤ c0 → 0 ≤ c1 →
    OpenOk r (cond u c0 (c0 + n)) (cond u (c1 + n) c1) (((rangeKs (cond u c1 c0) n).map fun k' => 4 * k' + (if (!r) = true then 1 else 0) + (if u = true then 2 else 0)).foldl (fun k n => stored k n (.bool true)) kvs)
  | 0, c0, c1, kvs, h, _, _ => by cases u <;> simpa [rangeKs] using h
  | n + 1, c0, c1, kvs, h, h0, h1 => by
    rw [kll_cons, List.map_cons, List.foldl_cons]
    have h2 := OpenOk.adds (u := u) n (h.add (u := u) h0 h1) (by cases u <;> simp only [cond] <;> omega) (by cases u <;> simp only [cond] <;> omega)
    cases u <;> simp only [cond] at h2 ⊢ <;> simp only [Int.natCast_add, Int.natCast_one] <;> simpa [Int.add_assoc, Int.add_comm, Int.add_left_comm] using h2

theorem filter_all : ∀ (n : Fin 6) (c : Fin 7), (rangeKs 0 ((n.val : Int) + 1 - 0).toNat).filter (fun k => !decide (k < (c.val : Int))) = rangeKs (c.val : Int) ((n.val : Int) + 1 - (c.val : Int)).toNat := by decide +kernel

theorem filter_map_eq {α β : Type} (f : α → β) (p : β → Bool) (q : α → Bool) : ∀ l : List α, (∀ a ∈ l, p (f a) = q a) → (l.map f).filter p = (l.filter q).map f
  | [], _ => rfl
  | a :: r, h => by
    have := filter_map_eq f p q r (fun b hb => h b (.tail _ hb))
    simp only [List.map_cons, List.filter_cons, h a (.head _), this]
    cases q a <;> simp

theorem ks_eq {r o u : Bool} {c0 c1 sid : Int} {kvs : List (Int × Value)} (h : OpenOk r c0 c1 kvs) (ho : decide (sid.fmod 2 = 1) = o) (hu : decide ((sid.fdiv 2).fmod 2 = 1) = u) (hor : (o == r) = false) (hs0 : 0 ≤ sid) (hs1 : sid < 24) (g0 : 0 ≤ c0) (g1 : c0 ≤ 6) (g2 : 0 ≤ c1) (g3 : c1 ≤ 6) :
    (rangeKs (cond u c1 c0) (sid.fdiv 4 + 1 - cond u c1 c0).toNat).map (fun k' => 4 * k' + (if o = true then 1 else 0) + (if u = true then 2 else 0))
      = ((rangeKs 0 (sid.fdiv 4 + 1 - 0).toNat).map fun k' => 4 * k' + Builtin.bitAnd sid 3).filter fun k => !(valueAt kvs k).isSome := by
  have ho' : o = !r := by cases o <;> cases r <;> simp_all
  have hb := (bits hs0 (by omega) ho hu).2.2
  have n0 : 0 ≤ sid.fdiv 4 := Int.fdiv_nonneg hs0 (by decide)
  have n1 : sid.fdiv 4 < 6 := by rw [Int.fdiv_eq_ediv_of_nonneg _ (by decide)]; omega
  obtain ⟨n, hn⟩ := Int.eq_ofNat_of_zero_le n0
  obtain ⟨c, hc⟩ := Int.eq_ofNat_of_zero_le (show 0 ≤ cond u c1 c0 by cases u <;> assumption)
  have hc6 : c < 7 := by cases u <;> simp only [cond] at hc <;> omega
  have key := filter_all ⟨n, by omega⟩ ⟨c, hc6⟩
  dsimp only at key
  rw [hn, hc]
  rw [filter_map_eq (fun k' => 4 * k' + Builtin.bitAnd sid 3) _ (fun k => !decide (k < (c : Int)))]
  · rw [key, hb, ho']
    refine List.map_congr_left fun k _ => ?_
    rw [Int.add_assoc]
  · intro k hk
    have hk0 := (mem_rangeKs hk).1
    rw [h.at_, hb, ho', ← Int.add_assoc, inOpen_key r u c0 c1 k hk0, hc]

def Told (v : Value) (g p : Int) : Prop := (∃ t, v = .int g t) ∨ (v = .none ∧ g < p)
theorem Told.up {v : Value} {g p : Int} (h : Told v g p) : Told v g (p + 1) := by
  rcases h with h | ⟨h, h2⟩
  · exact .inl h
  · exact .inr ⟨h, by omega⟩

end Mine
end

section
open PySem PySem.W PyProof.Rows
open PySem.Calls
set_option maxRecDepth 100000
set_option maxHeartbeats 2000000
namespace Mine
open PySem.Challenge
def OffA (a : Addr) (as : List Addr) : Prop := ∀ b ∈ as, a ≠ b
theorem off_cons {p : Addr × Obj} {own : List (Addr × Obj)} {as : List Addr} (h : OffA p.1 as) (t : OwnOff own as) : OwnOff (p :: own) as := fun q hq b hb => by
  rcases List.mem_cons.mp hq with rfl | hq
  · exact h b hb
  · exact t q hq b hb
end Mine
end

section
open PySem PySem.W PyProof.Rows
open PySem.Calls
set_option maxRecDepth 100000
set_option maxHeartbeats 2000000
namespace Mine
open PySem.Challenge
section
variable {prog : Program} {w : World} {A : Around} {E : Value → Shared → Prop} {s : Shared} {h₀ : Heap} {L : Addr} {m : Str → Option Value} {news : List (Addr × Obj)} {Q : Value → Shared → Prop}
theorem ne_lists {a b : Addr} {vs us : List Value} {ns ms : List Int} {c d : Nat} (N : News h₀ L s.heap news) (ha : (a, listOf vs.toArray c) ∈ news) (hb : (b, listOf us.toArray d) ∈ news) (hi : IntsAre vs ns) (hi' : IntsAre us ms) (hu : A.units + 64 < cLine) (e : ns = ms) (h : Q (.bool false) s) :
    wpAny (model prog w) A (compareOp .NotEq (.ref a) (.ref b)) Q E s := by
  refine ne_intsK ⟨_, (N _ ha).1, rfl, c, rfl⟩ hi ⟨_, (N _ hb).1, rfl, d, rfl⟩ hi' hu ?_
  rw [decide_eq_true e]; exact h
theorem ne_empty {a b : Addr} {oa ob : Obj} {kvs : List (Int × Value)} (N : News h₀ L s.heap news) (pa : (a, oa) ∈ news) (pb : (b, ob) ∈ news) (da : oa.IsDictOf (PySem.intKind prog w) kvs) (db : ob.IsDictOf (PySem.intKind prog w) []) (la : (a == sysModules) = false) (lb : (b == sysModules) = false) (hu : A.units < cLine)
    (h0 : kvs.length = 0 → Q (.bool false) s) (h1 : 0 < kvs.length → Q (.bool true) s) :
    wpAny (model prog w) A (compareOp .NotEq (.ref a) (.ref b)) Q E s := by
  refine keq_ne (r := true) la lb (Heap.dictOf_iff.mpr ⟨oa, (N _ pa).1, da⟩) (Heap.dictOf_iff.mpr ⟨ob, (N _ pb).1, db⟩) hu (fun hl => ?_) ?_
  · have : kvs = [] := List.eq_nil_of_length_eq_zero hl
    subst this
    exact .nil
  · cases kvs with
    | nil => exact h0 rfl
    | cons p r => exact h1 (by simp)
theorem told_eq {v : Value} {g p : Int} {t : Tok} (hT : Told v g p) (h0 : g = p → Q (.bool true) s) (h1 : g ≠ p → Q (.bool false) s) :
    wpAny (model prog w) A (compareOp .Eq v (.int p t)) Q E s := by
  rcases hT with ⟨tg, rfl⟩ | ⟨rfl, hlt⟩
  · walk1
    cases hb : (g == p) with
    | true => exact h0 (by simpa using hb)
    | false => exact h1 (by simpa using hb)
  · walk1
    exact h1 (by omega)
theorem item_open {value slice : PySem.Expr} {l : Addr} {vs : List Value} {ns : List Int} {c : Nat} {j : Int} {tj : Tok} {r : Bool} {c0 c1 : Int} {kvs : List (Int × Value)} (N : News h₀ L s.heap news) (hm : (l, listOf vs.toArray c) ∈ news) (hi : IntsAre vs ns) (hlen : ns.length = kvs.length) (hns : ∀ x ∈ ns, (valueAt kvs x).isSome = true)
    (ok : OpenOk r c0 c1 kvs) (g1 : c0 ≤ 6) (g3 : c1 ≤ 6) (h0 : 0 ≤ j) (h1 : j < kvs.length)
    (k : ∀ x t b u, valueAt kvs x = some (.bool b) → decide (x.fmod 2 = 1) = (!r) → decide ((x.fdiv 2).fmod 2 = 1) = u → (Builtin.bitAnd x 2 == 2) = u → 0 ≤ x → x < 24 → Q (.int x t) s)
    (hs : subscripted slice false (.ref l) (.int j tj) = operate [.ref l, .int j tj] (getItem (.ref l) (.int j tj)) := by with_unfolding_all rfl) (hg : ∀ r, letTemporaryGo value (.ref l) r = pure () := by intro _; with_unfolding_all rfl) :
    wpAny (model prog w) A (subscriptTail value slice (.ref l) (.int j tj)) Q E s := by
  have hl := ok.len
  refine item_ints N hm hi h0 (by omega) (by omega) (fun x t hx => ?_) hs hg
  have hx' := hns x hx
  have ha := ok.at_ x
  rw [hx'] at ha
  have ha' : inOpen r c0 c1 x = true := ha.symm
  unfold inOpen at ha'
  simp only [Bool.and_eq_true, decide_eq_true_eq, beq_iff_eq] at ha'
  obtain ⟨⟨p0, p1⟩, p2⟩ := ha'
  have p3 : x.fdiv 4 < 6 := Int.lt_of_lt_of_le p2 (by cases decide ((x.fdiv 2).fmod 2 = 1) <;> assumption)
  have p4 : x < 24 := by rw [Int.fdiv_eq_ediv_of_nonneg _ (by decide)] at p3; omega
  obtain ⟨v, hv⟩ := Option.isSome_iff_exists.mp hx'
  obtain ⟨b, rfl⟩ := ok.bools x v hv
  have hb := (bits p0 (by omega) rfl rfl).2.1
  exact k x t b _ hv p1 rfl hb p0 p4
theorem bit2_eq {x : Int} {t1 t2 : Tok} {u : Bool} (hb : (Builtin.bitAnd x 2 == 2) = u) (h : Q (.bool u) s) : wpAny (model prog w) A (compareOp .Eq (.int (Builtin.bitAnd x 2) t1) (.int 2 t2)) Q E s := by
  subst hb
  walk1
  exact h
end

end Mine
end

section
open PySem PySem.W PyProof.Rows
open PySem.Calls
set_option maxRecDepth 100000
set_option maxHeartbeats 2000000
namespace Mine
open PySem.Challenge
section
variable {prog : Program} {w : World} {A : Around} {E : Value → Shared → Prop} {s : Shared} {h₀ : Heap} {L : Addr} {m : Str → Option Value} {news news' : List (Addr × Obj)}
/-- reading a list of two at a side -/
theorem item_cond {value slice : PySem.Expr} {Q : Value → Shared → Prop} {l : Addr} {a0 a1 : Int} {t0 t1 t : Tok} {c : Nat} {u : Bool} (N : News h₀ L s.heap news) (hm : (l, L2 a0 a1 t0 t1 c) ∈ news)
    (hs : ∀ j, subscripted slice false (.ref l) (.int j t) = operate [.ref l, .int j t] (getItem (.ref l) (.int j t))) (hg : ∀ r, letTemporaryGo value (.ref l) r = pure ())
    (h : Q (.int (cond u a1 a0) (cond u t1 t0)) s) :
    wpAny (model prog w) A (subscriptTail value slice (.ref l) (.int (cond u 1 0) t)) Q E s := by
  have hL : s.heap.IsList l _ := ⟨_, (N _ hm).1, rfl, c, rfl⟩
  cases u
  · exact item_listL (l := [.int a0 t0, .int a1 t1]) hL (by decide) (by decide) rfl h (hs _) hg
  · exact item_listL (l := [.int a0 t0, .int a1 t1]) hL (by decide) (by decide) rfl h (hs _) hg
theorem item_told {value slice : PySem.Expr} {Q : Value → Shared → Prop} {l : Addr} {v0 v1 : Value} {g0 g1 p0 p1 : Int} {t : Tok} {c : Nat} {u : Bool} (N : News h₀ L s.heap news) (hm : (l, listOf #[v0, v1] c) ∈ news)
    (f0 : Told v0 g0 p0) (f1 : Told v1 g1 p1)
    (hs : ∀ j, subscripted slice false (.ref l) (.int j t) = operate [.ref l, .int j t] (getItem (.ref l) (.int j t))) (hg : ∀ r, letTemporaryGo value (.ref l) r = pure ())
    (h : ∀ v, Told v (cond u g1 g0) (cond u p1 p0) → Q v s) :
    wpAny (model prog w) A (subscriptTail value slice (.ref l) (.int (cond u 1 0) t)) Q E s := by
  have hL : s.heap.IsList l _ := ⟨_, (N _ hm).1, rfl, c, rfl⟩
  cases u
  · exact item_listL (l := [v0, v1]) hL (by decide) (by decide) rfl (h _ f0) (hs _) hg
  · exact item_listL (l := [v0, v1]) hL (by decide) (by decide) rfl (h _ f1) (hs _) hg
theorem set_cond {Q : Unit → Shared → Prop} {D : Addr} {a0 a1 x : Int} {t0 t1 t tx : Tok} {n : Nat} {u : Bool} (F : Fr h₀ L s.heap m) (N : News h₀ L s.heap news)
    (U : Upd D (L2 a0 a1 t0 t1 n) (L2 (cond u a0 x) (cond u x a1) (cond u t0 tx) (cond u tx t1) n) news news')
    (h : ∀ h', Fr h₀ L h' m → News h₀ L h' news' → Q () { s with heap := h' }) : wpAny (model prog w) A (setItem (.ref D) (.int (cond u 1 0) t) (.int x tx)) Q E s := by
  obtain ⟨pre, post, rfl, rfl, a, b⟩ := U.split
  have z := N (D, L2 a0 a1 t0 t1 n) (List.mem_append.mpr (.inr (.head _)))
  cases u
  · exact ki_setAt z.1 (by decide) (by decide) (by show _ < (2 : Int); decide) (h _ (F.change (Heap.SameBut.update ..) z.2.1 z.2.2) (ki_turn _ N a b rfl rfl))
  · exact ki_setAt z.1 (by decide) (by decide) (by show _ < (2 : Int); decide) (h _ (F.change (Heap.SameBut.update ..) z.2.1 z.2.2) (ki_turn _ N a b rfl rfl))
theorem set_told {Q : Unit → Shared → Prop} {D : Addr} {v0 v1 x : Value} {t : Tok} {n : Nat} {u : Bool} (F : Fr h₀ L s.heap m) (N : News h₀ L s.heap news)
    (U : Upd D (listOf #[v0, v1] n) (listOf #[cond u v0 x, cond u x v1] n) news news')
    (h : ∀ h', Fr h₀ L h' m → News h₀ L h' news' → Q () { s with heap := h' }) : wpAny (model prog w) A (setItem (.ref D) (.int (cond u 1 0) t) x) Q E s := by
  obtain ⟨pre, post, rfl, rfl, a, b⟩ := U.split
  have z := N (D, listOf #[v0, v1] n) (List.mem_append.mpr (.inr (.head _)))
  cases u
  · exact ki_setAt z.1 (by decide) (by decide) (by show _ < (2 : Int); decide) (h _ (F.change (Heap.SameBut.update ..) z.2.1 z.2.2) (ki_turn _ N a b rfl rfl))
  · exact ki_setAt z.1 (by decide) (by decide) (by show _ < (2 : Int); decide) (h _ (F.change (Heap.SameBut.update ..) z.2.1 z.2.2) (ki_turn _ N a b rfl rfl))
theorem at_eq {Q : Value → Shared → Prop} {t1 t2 : Tok} {u : Bool} (h : Q (.bool u) s) : wpAny (model prog w) A (compareOp .Eq (.int (cond u 1 0) t1) (.int 1 t2)) Q E s := by
  cases u
  · walk1; exact h
  · walk1; exact h
theorem eq_lit {Q : Value → Shared → Prop} {a b : Int} {c : Bool} {t1 t2 : Tok} (e : decide (a = b) = c) (h : Q (.bool c) s) : wpAny (model prog w) A (compareOp .Eq (.int a t1) (.int b t2)) Q E s := by
  walk1
  rw [show (a == b) = c from e]; exact h
end

end Mine
end

section
open PySem PySem.W PyProof.Rows
open PySem.Calls
set_option maxRecDepth 100000
set_option maxHeartbeats 2000000
namespace Mine
open PySem.Challenge

section
variable {prog : Program} {w : World} {A : Around} {E : Value → Shared → Prop} {s : Shared} {h₀ : Heap} {news : List (Addr × Obj)}
/-- here['open'][one] = True -/
theorem open_turn {env : Env} {p1 p2 p3 p4 p5 p6 p7 : Pos} {mm : Str → Option Value} {Q : Flow → Shared → Prop} {hD op le ls mi to : Addr} {oh oo : Obj} {r : Bool} {tr t : Tok} {n : Int} {kvs : List (Int × Value)} {g : Obj → List (Addr × Obj)}
    (hkf : env.scope.kind = .function) (hlH : env.kindOf (Str.ofString "here") = some .local) (hl1 : env.kindOf (Str.ofString "one") = some .local)
    (F : Fr h₀ env.locals s.heap mm) (N : News h₀ env.locals s.heap news) (eH : mm (Str.ofString "here") = some (.ref hD)) (e1 : mm (Str.ofString "one") = some (.int n t)) (hm : (hD, oh) ∈ news) (hdo : oh.IsDictOf (PySem.strKind prog w) (hereP r tr le ls mi op to))
    (U : UpdF op oo news g) (hd : oo.IsDictOf (PySem.intKind prog w) kvs) (hz : kvs.length ≤ sizeLine)
    (h : ∀ h' o' tk', Fr h₀ env.locals h' mm → News h₀ env.locals h' (g o') → o'.IsDictOf (PySem.intKind prog w) (stored kvs n (.bool true)) → Q .next { s with heap := h', toks := tk' }) :
    wpAny (model prog w) A (execs [Stmt.Assign [Expr.Subscript (Expr.Subscript (Expr.Name (Str.ofString "here") p1) (Expr.Constant (Const.str (Str.ofString "open")) 0 p2) p3) (Expr.Name (Str.ofString "one") p4) p5] (Expr.Constant (Const.bool true) 0 p6) p7] env) Q E s := by
  refine wpAny_execs_cons ?_
  refine wpAny_Assign_Subscript ?_ rfl
  walk1
  walk1
  refine wpAny_Name (wpAny_loadName_local hkf hlH F.ns eH ?_) (by decide)
  walk1
  refine kda_item (knd := PySem.strKind _ _) N hm hdo (strKind_is _ _ _ _) (by rfl) ?_
  refine wpAny_Name (wpAny_loadName_local hkf hl1 F.ns e1 ?_) (by decide)
  refine kda_set (knd := PySem.intKind _ _) F N U hd (intKind_is _ _ _ _) hz fun h' o' F' N' hd' => ?_
  refine wpAny_execs_nil ?_
  exact h h' o' _ F' N' hd'
end
theorem UpdF.app {d : Addr} {o : Obj} {own : List (Addr × Obj)} (ho : ∀ p ∈ own, p.1 ≠ d) : ∀ {l : List (Addr × Obj)} {g : Obj → List (Addr × Obj)}, UpdF d o l g → ∀ o', UpdF d o' (g o' ++ own) (fun o => g o ++ own)
  | _, _, .head h, o' => .head fun p hp => (List.mem_append.mp hp).elim (h p) (ho p)
  | _, _, .tail h u, o' => .tail h (UpdF.app ho u o')
theorem UpdF.mem {d x : Addr} {o y : Obj} (hx : @Ne Nat x d) : ∀ {l : List (Addr × Obj)} {g : Obj → List (Addr × Obj)}, UpdF d o l g → (x, y) ∈ l → ∀ o', (x, y) ∈ g o'
  | _, _, .head _, hm, _ => (List.mem_cons.mp hm).elim (fun e => absurd (congrArg Prod.fst e) hx) fun e => .tail _ e
  | _, _, .tail _ u, hm, o' => (List.mem_cons.mp hm).elim (fun e => e ▸ .head _) fun e => .tail _ (UpdF.mem hx u e o')

section
variable {prog : Program} {w : World} {A : Around} {E : Value → Shared → Prop} {s : Shared} {h₀ : Heap} {news : List (Addr × Obj)}
theorem for_here {env : Env} {p1 p2 p3 p4 p5 p6 p7 : Pos} {Q : Flow → Shared → Prop} {l op : Addr} {vs : List Value} {ns : List Int} {nn : Nat} {oo : Obj} {kvs : List (Int × Value)} {g : Obj → List (Addr × Obj)} {m₀ : Str → Option Value}
    {hD le ls mi to : Addr} {oh : Obj} {r : Bool} {tr : Tok}
    (hh : A.handled = none) (hl : (l, listOf vs.toArray nn) ∈ news) (hi : IntsAre vs ns) (F : Fr h₀ env.locals s.heap m₀) (N : News h₀ env.locals s.heap news) (U : UpdF op oo news g) (hd : oo.IsDictOf (PySem.intKind prog w) kvs) (hmo : (op, oo) ∈ news) (hne : @Ne Nat l op)
    (hkf : env.scope.kind = .function) (hlH : env.kindOf (Str.ofString "here") = some .local) (hl1 : env.kindOf (Str.ofString "one") = some .local) (eH : m₀ (Str.ofString "here") = some (.ref hD)) (hm : (hD, oh) ∈ news) (hdo : oh.IsDictOf (PySem.strKind prog w) (hereP r tr le ls mi op to)) (hDo : @Ne Nat hD op)
    (hz : kvs.length + ns.length ≤ 1000)
    (done : ∀ (u : Str → Option Value) (oo' : Obj) (h : Heap) (tk : Nat), oo'.IsDictOf (PySem.intKind prog w) (ns.foldl (fun k n => stored k n (.bool true)) kvs) → Fr h₀ env.locals h (fun y => if y = Str.ofString "one" then u y else m₀ y) → News h₀ env.locals h (g oo') → Q .next { s with heap := h, toks := tk }) :
    wpAny (model prog w) A (pyIter (.ref l)) (fun it s₂ => LoopAtV prog w A h₀ env (Str.ofString "one") [Stmt.Assign [Expr.Subscript (Expr.Subscript (Expr.Name (Str.ofString "here") p1) (Expr.Constant (Const.str (Str.ofString "open")) 0 p2) p3) (Expr.Name (Str.ofString "one") p4) p5] (Expr.Constant (Const.bool true) 0 p6) p7] Q E it s₂) E s := by
  refine for_open hh hl hi F N U hd hmo hne (fun n t oo' kvs' h tk own hoff hd' hlen F1 N1 => ?_) done
  have hown : ∀ p ∈ own, p.1 ≠ op := fun p hp => hoff p hp op (List.mem_map.mpr ⟨_, hmo, rfl⟩)
  refine open_turn (t := t) hkf hlH hl1 F1 N1 ?_ ?_ (List.mem_append.mpr (.inl (UpdF.mem hDo U hm oo'))) hdo (UpdF.app hown U oo') hd' (by rw [sizeLine_eq]; omega) fun h' o' tk' F' N' hd2 => ⟨rfl, h', tk', o', rfl, F', N', hd2⟩
  · show (if Str.ofString "here" = Str.ofString "one" then _ else m₀ (Str.ofString "here")) = _
    rw [if_neg (by decide)]; exact eH
  · show (if Str.ofString "one" = Str.ofString "one" then _ else _) = _
    rw [if_pos rfl]
end
end Mine
end

section
open PySem PySem.W PyProof.Rows
open PySem.Calls
set_option maxRecDepth 100000
set_option maxHeartbeats 60000000
namespace Mine
open PySem.Challenge

/-- the names of the loop's objects -/
structure Gm where
  r : Bool
  hh : Fin 7 → Int
  kk : Fin 7 → Tok
  tr : Tok
  tr2 : Tok
  n : Nat
  b : Addr
  l : Addr
  x : Addr
  dx : Addr
  ol : Addr
  pl : Addr
  om : Addr
  pm : Addr
  cm : Addr
  gr : Addr
  hD : Addr
  op : Addr
  le : Addr
  ls : Addr
  mi : Addr
  to : Addr
  oh : Obj
abbrev Gm.addrs (Γ : Gm) : List Addr := [Γ.b, Γ.l, Γ.x, Γ.dx, Γ.ol, Γ.pl, Γ.om, Γ.pm, Γ.cm, Γ.gr, Γ.hD, Γ.op, Γ.le, Γ.ls, Γ.mi, Γ.to]
structure Gok (w : World) (Γ : Gm) : Prop where
  hdo : Γ.oh.IsDictOf (PySem.strKind PySem.Challenge.rw_no0062_01.row.prog w) (hereP Γ.r Γ.tr2 Γ.le Γ.ls Γ.mi Γ.op Γ.to)
  hlo : (Γ.op == sysModules) = false
  nd : Γ.addrs.Nodup
def Ap (Γ : Gm) (own : List (Addr × Obj)) : Prop := Γ.addrs.Nodup ∧ OwnOff own Γ.addrs
theorem Ap.ne {Γ : Gm} {own : List (Addr × Obj)} (h : Ap Γ own) (i j : Nat) {p q : Addr} (hi : Γ.addrs[i]? = some p) (hj : Γ.addrs[j]? = some q) (hij : i ≠ j) : @Ne Nat p q := fun e =>
  hij ((List.getElem?_inj (List.getElem?_eq_some_iff.mp hi).1 h.1).mp (hi.trans ((congrArg some e).trans hj.symm)))
theorem Ap.off {Γ : Gm} {own : List (Addr × Obj)} (h : Ap Γ own) {d : Addr} (hd : d ∈ Γ.addrs) : ∀ p ∈ own, p.1 ≠ d := fun p hp => h.2 p hp d hd
theorem upd_at {d : Addr} {o o' : Obj} {own : List (Addr × Obj)} (ho : ∀ p ∈ own, p.1 ≠ d) : ∀ {l : List (Addr × Obj)} {i : Nat}, l[i]? = some (d, o) → (l.map (·.1)).Nodup → Upd d o o' (l ++ own) (l.set i (d, o') ++ own)
  | [], _, h, _ => nomatch h
  | q :: r, 0, h, nd => by
    cases h
    rw [List.map_cons, List.nodup_cons] at nd
    exact .head fun p hp => (List.mem_append.mp hp).elim (fun h e => nd.1 (e ▸ List.mem_map.mpr ⟨p, h, rfl⟩)) (ho p)
  | q :: r, i + 1, h, nd => by
    rw [List.map_cons, List.nodup_cons] at nd
    exact .tail (fun e => nd.1 (List.mem_map.mpr ⟨_, List.mem_of_getElem? (show r[i]? = _ from h), e.symm⟩)) (upd_at ho (show r[i]? = _ from h) nd.2)
theorem updF_at {d : Addr} {o : Obj} {own : List (Addr × Obj)} (ho : ∀ p ∈ own, p.1 ≠ d) : ∀ {l : List (Addr × Obj)} {i : Nat}, l[i]? = some (d, o) → (l.map (·.1)).Nodup → UpdF d o (l ++ own) (fun o' => l.set i (d, o') ++ own)
  | [], _, h, _ => nomatch h
  | q :: r, 0, h, nd => by
    cases h
    rw [List.map_cons, List.nodup_cons] at nd
    exact .head fun p hp => (List.mem_append.mp hp).elim (fun h e => nd.1 (e ▸ List.mem_map.mpr ⟨p, h, rfl⟩)) (ho p)
  | q :: r, i + 1, h, nd => by
    rw [List.map_cons, List.nodup_cons] at nd
    exact .tail (fun e => nd.1 (List.mem_map.mpr ⟨_, List.mem_of_getElem? (show r[i]? = _ from h), e.symm⟩)) (updF_at ho (show r[i]? = _ from h) nd.2)
theorem sub_refl {l : List (Addr × Obj)} : ∀ p ∈ l, p ∈ l := fun _ h => h
theorem sub_skip {q : Addr × Obj} {l l' : List (Addr × Obj)} (h : ∀ p ∈ l, p ∈ l') : ∀ p ∈ l, p ∈ q :: l' := fun p hp => .tail _ (h p hp)
theorem sub_keep {q : Addr × Obj} {l l' : List (Addr × Obj)} (h : ∀ p ∈ l, p ∈ l') : ∀ p ∈ q :: l, p ∈ q :: l' := fun p hp => (List.mem_cons.mp hp).elim (fun e => e ▸ .head _) fun e => .tail _ (h p e)
theorem sub_in {q : Addr × Obj} {l l' : List (Addr × Obj)} (hq : q ∈ l') (h : ∀ p ∈ l, p ∈ l') : ∀ p ∈ q :: l, p ∈ l' := fun p hp => (List.mem_cons.mp hp).elim (fun e => e ▸ hq) (h p)
theorem mid_in {tmp led own news : List (Addr × Obj)} (sub : ∀ p ∈ tmp ++ (led ++ own), p ∈ news) : ∀ p ∈ led ++ (tmp ++ own), p ∈ news := fun p hp => sub p (by
  simp only [List.mem_append] at hp ⊢
  rcases hp with h | h | h
  · exact .inr (.inl h)
  · exact .inl h
  · exact .inr (.inr h))
theorem mid_out {tmp led own : List (Addr × Obj)} : ∀ p ∈ tmp ++ (led ++ own), p ∈ led ++ (tmp ++ own) := mid_in sub_refl
theorem allLt_mem {d : Nat} : ∀ {l : List (Addr × Obj)}, AllLt d l → ∀ p ∈ l, @LT.lt Nat _ p.1 d
  | [], _, _, hp => nomatch hp
  | _ :: _, h, p, hp => (List.mem_cons.mp hp).elim (fun e => e ▸ h.1) (allLt_mem h.2 p)
theorem off_nl {as : List Addr} : OwnOff [] as := fun _ h => nomatch h

/-- the ledger of the loop, and what it says -/
inductive SL (w : World) (Γ : Gm) : (a0 a1 p0 p1 b0 b1 c0 c1 g0 g1 A0 A1 P0 P1 B0 B1 : Int) → (v0 v1 : Value) → (kvs : List (Int × Value)) → List (Addr × Obj) → Prop
  | mk {a0 a1 p0 p1 b0 b1 c0 c1 g0 g1 A0 A1 P0 P1 B0 B1 : Int} {v0 v1 : Value} {kvs : List (Int × Value)} {xs : List (Int × Tok)} {nl : Nat} {seed : Int} {ts : Tok} {nb : Nat} {ta0 ta1 : Tok} {na : Nat} {tp0 tp1 : Tok} {npl : Nat} {tb0 tb1 : Tok} {nbb : Nat} {tc0 tc1 : Tok} {nc : Nat} {d0 d1 : Int} {td0 td1 : Tok} {nd : Nat} {tg0 tg1 : Tok} {ng : Nat} {tl0 tl1 : Tok} {nle : Nat} {tq0 tq1 : Tok} {nls : Nat} {tm0 tm1 : Tok} {nmi : Nat} {nto : Nat} {oo : Obj}
    (f1 : xs.length ≤ 63) (f2 : 0 ≤ seed) (f3 : seed < 2147483647) (f11 : oo.IsDictOf (PySem.intKind PySem.Challenge.rw_no0062_01.row.prog w) kvs) :
    SL w Γ a0 a1 p0 p1 b0 b1 c0 c1 g0 g1 A0 A1 P0 P1 B0 B1 v0 v1 kvs
      [(Γ.b, listOf #[.ref Γ.l, .int seed ts] nb), (Γ.l, listOf (intsV xs).toArray nl), (Γ.x, instObj 135 Γ.dx), (Γ.dx, attrs Γ.hh Γ.kk Γ.r Γ.tr Γ.ol Γ.pl Γ.om Γ.pm Γ.cm Γ.gr Γ.n), (Γ.ol, L2 a0 a1 ta0 ta1 na), (Γ.pl, L2 p0 p1 tp0 tp1 npl), (Γ.om, L2 b0 b1 tb0 tb1 nbb), (Γ.pm, L2 c0 c1 tc0 tc1 nc), (Γ.cm, L2 d0 d1 td0 td1 nd), (Γ.gr, L2 g0 g1 tg0 tg1 ng), (Γ.hD, Γ.oh), (Γ.op, oo), (Γ.le, L2 A0 A1 tl0 tl1 nle), (Γ.ls, L2 P0 P1 tq0 tq1 nls), (Γ.mi, L2 B0 B1 tm0 tm1 nmi), (Γ.to, listOf #[v0, v1] nto)]

section
variable {w : World} {A : Around} {dp un : Nat} {gd : Option (List Code)} {cn : Str} {cs : Scope} {a : Addr} {ccd : Value} {cl : List (Str × Addr)} {outer : List Env} {A₀ : Around} {base h₀ : Heap} {L : Addr} {m : Str → Option Value} {s : Shared} {news tmp led own : List (Addr × Obj)} {Q E : Value → Shared → Prop}
    {mean : ExcName → Option Value} {mg mb : Str → Option Value} {Γ : Gm} {a0 a1 p0 p1 b0 b1 c0 c1 g0 g1 A0 A1 P0 P1 B0 B1 : Int} {v0 v1 : Value} {kvs : List (Int × Value)}

theorem SL.adr (hS : SL w Γ a0 a1 p0 p1 b0 b1 c0 c1 g0 g1 A0 A1 P0 P1 B0 B1 v0 v1 kvs led) : led.map (·.1) = Γ.addrs := by cases hS; rfl
theorem off_new {D : Addr} {ob : Obj} (hS : SL w Γ a0 a1 p0 p1 b0 b1 c0 c1 g0 g1 A0 A1 P0 P1 B0 B1 v0 v1 kvs led) (hf : ∀ p ∈ led, p.1 ≠ D) : OwnOff [(D, ob)] Γ.addrs := fun p hp b hb => by
  rw [List.mem_singleton.mp hp]
  rw [← hS.adr] at hb
  obtain ⟨q, hq, rfl⟩ := List.mem_map.mp hb
  exact fun e => hf q hq e.symm
theorem off_lt {D : Addr} {ob : Obj} (hS : SL w Γ a0 a1 p0 p1 b0 b1 c0 c1 g0 g1 A0 A1 P0 P1 B0 B1 v0 v1 kvs led) (hf : AllLt D (led ++ own)) : OwnOff [(D, ob)] Γ.addrs :=
  off_new hS fun p hp => Nat.ne_of_lt (allLt_mem hf p (List.mem_append.mpr (.inl hp)))
theorem off_app {D : Addr} {ob : Obj} (hS : SL w Γ a0 a1 p0 p1 b0 b1 c0 c1 g0 g1 A0 A1 P0 P1 B0 B1 v0 v1 kvs led) (hf : ∀ p ∈ led ++ own, @LT.lt Nat _ p.1 D) : OwnOff [(D, ob)] Γ.addrs :=
  off_new hS fun p hp => Nat.ne_of_lt (hf p (List.mem_append.mpr (.inl hp)))

theorem off_o1 {D : Addr} {ob : Obj} (hS : SL w Γ a0 a1 p0 p1 b0 b1 c0 c1 g0 g1 A0 A1 P0 P1 B0 B1 v0 v1 kvs led) (hf : LCg.Off1 D (led ++ own)) : OwnOff [(D, ob)] Γ.addrs :=
  off_new hS fun p hp => off1_mem hf p (List.mem_append.mpr (.inl hp))
theorem own_mid (adr : led.map (·.1) = Γ.addrs) (hA : Ap Γ own) (ht : OwnOff tmp Γ.addrs) : OwnOff (tmp ++ own) (led.map (·.1)) := fun p hp b hb => by
  rw [adr] at hb
  exact (List.mem_append.mp hp).elim (fun h => ht p h b hb) (fun h => hA.2 p h b hb)
theorem Ct.useT {d : Nat} {f : Addr} {vs : List Value} {Post : Value → List (Addr × Obj) → Prop} (C : Ct w d f vs led Post) (B : Below A₀ base outer h₀) (F : Fr h₀ L s.heap m) (X : (Mine.hd.heap_39 w.params).In h₀) (N : News h₀ L s.heap news) (T : Top Mine.hd.view_39 (looseW Mine.hd.view_39 [Str.ofString "FRAME_TYPES"]) mean mg mb h₀) (hk : cs.kind = .function) (hd : dp + d < recursionLimit) (hu : un + 8 * d < cLine) (adr : led.map (·.1) = Γ.addrs) (hA : Ap Γ own) (sub : ∀ p ∈ tmp ++ (led ++ own), p ∈ news) (ht : OwnOff tmp Γ.addrs)
    (h : ∀ (v : Value) (led' : List (Addr × Obj)) (h' : Heap) (tk' : Nat), Post v led' → Fr h₀ L h' m → News h₀ L h' (led' ++ (tmp ++ own)) → Q v { s with heap := h', toks := tk' }) :
    wpAny (model PySem.Challenge.rw_no0062_01.row.prog w) (ktrTop dp un gd cn cs L a ccd cl outer) (call (.ref f) vs) Q E s :=
  Ct.use C B F X (cb_drop N (mid_in sub)) T hk hd hu (own_mid adr hA ht) h
theorem CtT.useT {d : Nat} {f : Addr} {vs : List Value} {Post : Value → List (Addr × Obj) → List (Addr × Obj) → Prop} (C : CtT w d f vs led Post) (B : Below A₀ base outer h₀) (F : Fr h₀ L s.heap m) (X : (Mine.hd.heap_39 w.params).In h₀) (N : News h₀ L s.heap news) (T : Top Mine.hd.view_39 (looseW Mine.hd.view_39 [Str.ofString "FRAME_TYPES"]) mean mg mb h₀) (hk : cs.kind = .function) (XB : (Mine.hd.heap_39 w.params).In base) (TB : Top Mine.hd.view_39 (looseW Mine.hd.view_39 [Str.ofString "FRAME_TYPES"]) mean mg mb base) (KD : KtsDicts (outer.filterMap (·.frame)) h₀) (hd : dp + d < recursionLimit) (hu : un + 8 * d < cLine) (adr : led.map (·.1) = Γ.addrs) (hA : Ap Γ own) (sub : ∀ p ∈ tmp ++ (led ++ own), p ∈ news) (ht : OwnOff tmp Γ.addrs)
    (h : ∀ (v : Value) (led' : List (Addr × Obj)) (h' : Heap) (tk' : Nat) (h₁ : Heap), Post v led' (tmp ++ own) → KtsTurn (outer.filterMap (·.frame)) h₀ h₁ → Fr h₁ L h' m → News h₁ L h' (led' ++ (tmp ++ own)) → Below A₀ base outer h₁ → (Mine.hd.heap_39 w.params).In h₁ →
      Top Mine.hd.view_39 (looseW Mine.hd.view_39 [Str.ofString "FRAME_TYPES"]) mean mg mb h₁ → KtsDicts (outer.filterMap (·.frame)) h₁ → Q v { s with heap := h', toks := tk' }) :
    wpAny (model PySem.Challenge.rw_no0062_01.row.prog w) (ktrTop dp un gd cn cs L a ccd [] outer) (call (.ref f) vs) Q E s :=
  C _ _ _ _ _ _ _ _ _ _ _ _ _ _ _ _ _ _ _ _ B F X (cb_drop N (mid_in sub)) T XB TB KD hk hd hu (own_mid adr hA ht) h
theorem take_off {as : List Addr} {q1 q2 : Addr × Obj} {rest ow : List (Addr × Obj)} (nd : as.Nodup) (ad : (q1 :: q2 :: rest).map (·.1) = as) (h : OwnOff ow ((q1 :: q2 :: rest).map (·.1))) : OwnOff (rest ++ ow) [q1.1, q2.1] := fun p hp b hb => by
  have hb2 : b = q1.1 ∨ b = q2.1 := by simpa using hb
  rcases List.mem_append.mp hp with h1 | h1
  · rw [← ad] at nd
    simp only [List.map_cons, List.nodup_cons, List.mem_cons, not_or] at nd
    have hm : p.1 ∈ rest.map (·.1) := List.mem_map.mpr ⟨p, h1, rfl⟩
    rcases hb2 with rfl | rfl
    · exact fun e => nd.1.2 (e ▸ hm)
    · exact fun e => nd.2.1 (e ▸ hm)
  · exact h p h1 b (by rcases hb2 with rfl | rfl <;> simp)
theorem take_sl {wide : Int} {tw : Tok} (hw : 0 < wide) (B : Below A₀ base outer h₀) (F : Fr h₀ L s.heap m) (X : (Mine.hd.heap_39 w.params).In h₀) (N : News h₀ L s.heap news) (T : Top Mine.hd.view_39 (looseW Mine.hd.view_39 [Str.ofString "FRAME_TYPES"]) mean mg mb h₀) (hk : cs.kind = .function) (hS : SL w Γ a0 a1 p0 p1 b0 b1 c0 c1 g0 g1 A0 A1 P0 P1 B0 B1 v0 v1 kvs led) (hA : Ap Γ own) (sub : ∀ p ∈ tmp ++ (led ++ own), p ∈ news) (ht : OwnOff tmp Γ.addrs) (hd : dp + 1 < recursionLimit) (hu : un + 8 < cLine)
    (h : ∀ (r : Int) (t' : Tok) (led' : List (Addr × Obj)) (h' : Heap) (tk' : Nat), 0 ≤ r → r < wide → SL w Γ a0 a1 p0 p1 b0 b1 c0 c1 g0 g1 A0 A1 P0 P1 B0 B1 v0 v1 kvs led' → Fr h₀ L h' m → News h₀ L h' (tmp ++ (led' ++ own)) → Q (.int r t') { s with heap := h', toks := tk' }) :
    wpAny (model PySem.Challenge.rw_no0062_01.row.prog w) (ktrTop dp un gd cn cs L a ccd cl outer) (call (.ref 153) [.ref Γ.b, .int wide tw]) Q E s := by
  have ad := hS.adr
  cases hS with
  | mk f1 f2 f3 f11 =>
  refine Ct.use (own := _ :: _ :: _ :: _ :: _ :: _ :: _ :: _ :: _ :: _ :: _ :: _ :: _ :: _ :: (tmp ++ own)) (take_ct w Γ.b Γ.l _ _ _ _ _ wide tw hw f2 f3 f1 (hA.ne 0 1 rfl rfl (by decide))) B F X (cb_drop N (mid_in sub)) T hk hd hu (take_off hA.1 ad (own_mid ad hA ht)) ?_
  rintro v led' h' tk' ⟨r, t', xs', nl', seed', ts', nb', rfl, a1, a2, a3, a4, a5, rfl⟩ F' N'
  exact h r t' _ h' tk' a1 a2 (SL.mk a5 a3 a4 f11) F' (cb_drop N' (mid_out (led := _ :: _ :: _ :: _ :: _ :: _ :: _ :: _ :: _ :: _ :: _ :: _ :: _ :: _ :: _ :: _ :: [])))

theorem take2_sl {tw : Tok} (B : Below A₀ base outer h₀) (F : Fr h₀ L s.heap m) (X : (Mine.hd.heap_39 w.params).In h₀) (N : News h₀ L s.heap news) (T : Top Mine.hd.view_39 (looseW Mine.hd.view_39 [Str.ofString "FRAME_TYPES"]) mean mg mb h₀) (hk : cs.kind = .function) (hS : SL w Γ a0 a1 p0 p1 b0 b1 c0 c1 g0 g1 A0 A1 P0 P1 B0 B1 v0 v1 kvs led) (hA : Ap Γ own) (sub : ∀ p ∈ tmp ++ (led ++ own), p ∈ news) (ht : OwnOff tmp Γ.addrs) (hd : dp + 1 < recursionLimit) (hu : un + 8 < cLine)
    (h : ∀ (u : Bool) (t' : Tok) (led' : List (Addr × Obj)) (h' : Heap) (tk' : Nat), SL w Γ a0 a1 p0 p1 b0 b1 c0 c1 g0 g1 A0 A1 P0 P1 B0 B1 v0 v1 kvs led' → Fr h₀ L h' m → News h₀ L h' (tmp ++ (led' ++ own)) → Q (.int (cond u 1 0) t') { s with heap := h', toks := tk' }) :
    wpAny (model PySem.Challenge.rw_no0062_01.row.prog w) (ktrTop dp un gd cn cs L a ccd cl outer) (call (.ref 153) [.ref Γ.b, .int 2 tw]) Q E s := by
  refine take_sl (by decide) B F X N T hk hS hA sub ht hd hu fun r t' led' h' tk' r0 r1 S' F' N' => ?_
  have hr : r = cond false 1 0 ∨ r = cond true 1 0 := by simp only [cond]; omega
  rcases hr with rfl | rfl
  · exact h false t' led' h' tk' S' F' N'
  · exact h true t' led' h' tk' S' F' N'
theorem take24_sl {tw : Tok} (B : Below A₀ base outer h₀) (F : Fr h₀ L s.heap m) (X : (Mine.hd.heap_39 w.params).In h₀) (N : News h₀ L s.heap news) (T : Top Mine.hd.view_39 (looseW Mine.hd.view_39 [Str.ofString "FRAME_TYPES"]) mean mg mb h₀) (hk : cs.kind = .function) (hS : SL w Γ a0 a1 p0 p1 b0 b1 c0 c1 g0 g1 A0 A1 P0 P1 B0 B1 v0 v1 kvs led) (hA : Ap Γ own) (sub : ∀ p ∈ tmp ++ (led ++ own), p ∈ news) (ht : OwnOff tmp Γ.addrs) (hd : dp + 1 < recursionLimit) (hu : un + 8 < cLine)
    (h : ∀ (r : Int) (o u : Bool) (t' : Tok) (led' : List (Addr × Obj)) (h' : Heap) (tk' : Nat), decide (r.fmod 2 = 1) = o → decide ((r.fdiv 2).fmod 2 = 1) = u → 0 ≤ r → r < 24 → SL w Γ a0 a1 p0 p1 b0 b1 c0 c1 g0 g1 A0 A1 P0 P1 B0 B1 v0 v1 kvs led' → Fr h₀ L h' m → News h₀ L h' (tmp ++ (led' ++ own)) → Q (.int r t') { s with heap := h', toks := tk' }) :
    wpAny (model PySem.Challenge.rw_no0062_01.row.prog w) (ktrTop dp un gd cn cs L a ccd cl outer) (call (.ref 153) [.ref Γ.b, .int 24 tw]) Q E s :=
  take_sl (by decide) B F X N T hk hS hA sub ht hd hu fun r t' led' h' tk' r0 r1 S' F' N' => h r _ _ t' led' h' tk' rfl rfl r0 r1 S' F' N'

theorem take6_sl {tw : Tok} (B : Below A₀ base outer h₀) (F : Fr h₀ L s.heap m) (X : (Mine.hd.heap_39 w.params).In h₀) (N : News h₀ L s.heap news) (T : Top Mine.hd.view_39 (looseW Mine.hd.view_39 [Str.ofString "FRAME_TYPES"]) mean mg mb h₀) (hk : cs.kind = .function) (hS : SL w Γ a0 a1 p0 p1 b0 b1 c0 c1 g0 g1 A0 A1 P0 P1 B0 B1 v0 v1 kvs led) (hA : Ap Γ own) (sub : ∀ p ∈ tmp ++ (led ++ own), p ∈ news) (ht : OwnOff tmp Γ.addrs) (hd : dp + 1 < recursionLimit) (hu : un + 8 < cLine)
    (k0 : ∀ (t' : Tok) (led' : List (Addr × Obj)) (h' : Heap) (tk' : Nat), SL w Γ a0 a1 p0 p1 b0 b1 c0 c1 g0 g1 A0 A1 P0 P1 B0 B1 v0 v1 kvs led' → Fr h₀ L h' m → News h₀ L h' (tmp ++ (led' ++ own)) → Q (.int 0 t') { s with heap := h', toks := tk' })
    (k3 : ∀ (t' : Tok) (led' : List (Addr × Obj)) (h' : Heap) (tk' : Nat), SL w Γ a0 a1 p0 p1 b0 b1 c0 c1 g0 g1 A0 A1 P0 P1 B0 B1 v0 v1 kvs led' → Fr h₀ L h' m → News h₀ L h' (tmp ++ (led' ++ own)) → Q (.int 3 t') { s with heap := h', toks := tk' })
    (k4 : ∀ (t' : Tok) (led' : List (Addr × Obj)) (h' : Heap) (tk' : Nat), 0 < kvs.length → SL w Γ a0 a1 p0 p1 b0 b1 c0 c1 g0 g1 A0 A1 P0 P1 B0 B1 v0 v1 kvs led' → Fr h₀ L h' m → News h₀ L h' (tmp ++ (led' ++ own)) → Q (.int 4 t') { s with heap := h', toks := tk' })
    (k5 : ∀ (t' : Tok) (led' : List (Addr × Obj)) (h' : Heap) (tk' : Nat), SL w Γ a0 a1 p0 p1 b0 b1 c0 c1 g0 g1 A0 A1 P0 P1 B0 B1 v0 v1 kvs led' → Fr h₀ L h' m → News h₀ L h' (tmp ++ (led' ++ own)) → Q (.int 5 t') { s with heap := h', toks := tk' })
    (ke : ∀ (r : Int) (t' : Tok) (led' : List (Addr × Obj)) (h' : Heap) (tk' : Nat), decide (r = 0) = false → decide (r = 3) = false → (r = 4 → kvs.length = 0) → decide (r = 5) = false → SL w Γ a0 a1 p0 p1 b0 b1 c0 c1 g0 g1 A0 A1 P0 P1 B0 B1 v0 v1 kvs led' → Fr h₀ L h' m → News h₀ L h' (tmp ++ (led' ++ own)) → Q (.int r t') { s with heap := h', toks := tk' }) :
    wpAny (model PySem.Challenge.rw_no0062_01.row.prog w) (ktrTop dp un gd cn cs L a ccd cl outer) (call (.ref 153) [.ref Γ.b, .int 6 tw]) Q E s := by
  refine take_sl (by decide) B F X N T hk hS hA sub ht hd hu fun r t' led' h' tk' r0 r1 S' F' N' => ?_
  by_cases e0 : r = 0
  · subst e0; exact k0 t' led' h' tk' S' F' N'
  by_cases e3 : r = 3
  · subst e3; exact k3 t' led' h' tk' S' F' N'
  by_cases e5 : r = 5
  · subst e5; exact k5 t' led' h' tk' S' F' N'
  by_cases e4 : r = 4 ∧ 0 < kvs.length
  · obtain ⟨rfl, hl⟩ := e4; exact k4 t' led' h' tk' hl S' F' N'
  exact ke r t' led' h' tk' (decide_eq_false e0) (decide_eq_false e3) (fun e => Nat.eq_zero_of_not_pos fun hl => e4 ⟨e, hl⟩) (decide_eq_false e5) S' F' N'

theorem SL.ol (hS : SL w Γ a0 a1 p0 p1 b0 b1 c0 c1 g0 g1 A0 A1 P0 P1 B0 B1 v0 v1 kvs led) : ∃ t0 t1 n, led[4]? = some (Γ.ol, L2 a0 a1 t0 t1 n) ∧ ∀ y0 y1 s0 s1 n', SL w Γ (y0) (y1) p0 p1 b0 b1 c0 c1 g0 g1 A0 A1 P0 P1 B0 B1 v0 v1 kvs (led.set 4 (Γ.ol, L2 y0 y1 s0 s1 n')) := by
  cases hS with
  | mk f1 f2 f3 f11 => exact ⟨_, _, _, rfl, fun _ _ _ _ _ => SL.mk f1 f2 f3 f11⟩

theorem SL.pl (hS : SL w Γ a0 a1 p0 p1 b0 b1 c0 c1 g0 g1 A0 A1 P0 P1 B0 B1 v0 v1 kvs led) : ∃ t0 t1 n, led[5]? = some (Γ.pl, L2 p0 p1 t0 t1 n) ∧ ∀ y0 y1 s0 s1 n', SL w Γ a0 a1 (y0) (y1) b0 b1 c0 c1 g0 g1 A0 A1 P0 P1 B0 B1 v0 v1 kvs (led.set 5 (Γ.pl, L2 y0 y1 s0 s1 n')) := by
  cases hS with
  | mk f1 f2 f3 f11 => exact ⟨_, _, _, rfl, fun _ _ _ _ _ => SL.mk f1 f2 f3 f11⟩

theorem SL.om (hS : SL w Γ a0 a1 p0 p1 b0 b1 c0 c1 g0 g1 A0 A1 P0 P1 B0 B1 v0 v1 kvs led) : ∃ t0 t1 n, led[6]? = some (Γ.om, L2 b0 b1 t0 t1 n) ∧ ∀ y0 y1 s0 s1 n', SL w Γ a0 a1 p0 p1 (y0) (y1) c0 c1 g0 g1 A0 A1 P0 P1 B0 B1 v0 v1 kvs (led.set 6 (Γ.om, L2 y0 y1 s0 s1 n')) := by
  cases hS with
  | mk f1 f2 f3 f11 => exact ⟨_, _, _, rfl, fun _ _ _ _ _ => SL.mk f1 f2 f3 f11⟩

theorem SL.pm (hS : SL w Γ a0 a1 p0 p1 b0 b1 c0 c1 g0 g1 A0 A1 P0 P1 B0 B1 v0 v1 kvs led) : ∃ t0 t1 n, led[7]? = some (Γ.pm, L2 c0 c1 t0 t1 n) ∧ ∀ y0 y1 s0 s1 n', SL w Γ a0 a1 p0 p1 b0 b1 (y0) (y1) g0 g1 A0 A1 P0 P1 B0 B1 v0 v1 kvs (led.set 7 (Γ.pm, L2 y0 y1 s0 s1 n')) := by
  cases hS with
  | mk f1 f2 f3 f11 => exact ⟨_, _, _, rfl, fun _ _ _ _ _ => SL.mk f1 f2 f3 f11⟩

theorem SL.gr (hS : SL w Γ a0 a1 p0 p1 b0 b1 c0 c1 g0 g1 A0 A1 P0 P1 B0 B1 v0 v1 kvs led) : ∃ t0 t1 n, led[9]? = some (Γ.gr, L2 g0 g1 t0 t1 n) ∧ ∀ y0 y1 s0 s1 n', SL w Γ a0 a1 p0 p1 b0 b1 c0 c1 (y0) (y1) A0 A1 P0 P1 B0 B1 v0 v1 kvs (led.set 9 (Γ.gr, L2 y0 y1 s0 s1 n')) := by
  cases hS with
  | mk f1 f2 f3 f11 => exact ⟨_, _, _, rfl, fun _ _ _ _ _ => SL.mk f1 f2 f3 f11⟩

theorem SL.le (hS : SL w Γ a0 a1 p0 p1 b0 b1 c0 c1 g0 g1 A0 A1 P0 P1 B0 B1 v0 v1 kvs led) : ∃ t0 t1 n, led[12]? = some (Γ.le, L2 A0 A1 t0 t1 n) ∧ ∀ y0 y1 s0 s1 n', SL w Γ a0 a1 p0 p1 b0 b1 c0 c1 g0 g1 (y0) (y1) P0 P1 B0 B1 v0 v1 kvs (led.set 12 (Γ.le, L2 y0 y1 s0 s1 n')) := by
  cases hS with
  | mk f1 f2 f3 f11 => exact ⟨_, _, _, rfl, fun _ _ _ _ _ => SL.mk f1 f2 f3 f11⟩

theorem SL.ls (hS : SL w Γ a0 a1 p0 p1 b0 b1 c0 c1 g0 g1 A0 A1 P0 P1 B0 B1 v0 v1 kvs led) : ∃ t0 t1 n, led[13]? = some (Γ.ls, L2 P0 P1 t0 t1 n) ∧ ∀ y0 y1 s0 s1 n', SL w Γ a0 a1 p0 p1 b0 b1 c0 c1 g0 g1 A0 A1 (y0) (y1) B0 B1 v0 v1 kvs (led.set 13 (Γ.ls, L2 y0 y1 s0 s1 n')) := by
  cases hS with
  | mk f1 f2 f3 f11 => exact ⟨_, _, _, rfl, fun _ _ _ _ _ => SL.mk f1 f2 f3 f11⟩

theorem SL.mi (hS : SL w Γ a0 a1 p0 p1 b0 b1 c0 c1 g0 g1 A0 A1 P0 P1 B0 B1 v0 v1 kvs led) : ∃ t0 t1 n, led[14]? = some (Γ.mi, L2 B0 B1 t0 t1 n) ∧ ∀ y0 y1 s0 s1 n', SL w Γ a0 a1 p0 p1 b0 b1 c0 c1 g0 g1 A0 A1 P0 P1 (y0) (y1) v0 v1 kvs (led.set 14 (Γ.mi, L2 y0 y1 s0 s1 n')) := by
  cases hS with
  | mk f1 f2 f3 f11 => exact ⟨_, _, _, rfl, fun _ _ _ _ _ => SL.mk f1 f2 f3 f11⟩

theorem SL.cm (hS : SL w Γ a0 a1 p0 p1 b0 b1 c0 c1 g0 g1 A0 A1 P0 P1 B0 B1 v0 v1 kvs led) : ∃ d0 d1 t0 t1 n, led[8]? = some (Γ.cm, L2 d0 d1 t0 t1 n) ∧ ∀ y0 y1 s0 s1 n', SL w Γ a0 a1 p0 p1 b0 b1 c0 c1 g0 g1 A0 A1 P0 P1 B0 B1 v0 v1 kvs (led.set 8 (Γ.cm, L2 y0 y1 s0 s1 n')) := by
  cases hS with
  | mk f1 f2 f3 f11 => exact ⟨_, _, _, _, _, rfl, fun _ _ _ _ _ => SL.mk f1 f2 f3 f11⟩
theorem SL.to (hS : SL w Γ a0 a1 p0 p1 b0 b1 c0 c1 g0 g1 A0 A1 P0 P1 B0 B1 v0 v1 kvs led) : ∃ n, led[15]? = some (Γ.to, listOf #[v0, v1] n) ∧ ∀ y0 y1 n', SL w Γ a0 a1 p0 p1 b0 b1 c0 c1 g0 g1 A0 A1 P0 P1 B0 B1 (y0) (y1) kvs (led.set 15 (Γ.to, listOf #[y0, y1] n')) := by
  cases hS with
  | mk f1 f2 f3 f11 => exact ⟨_, rfl, fun _ _ _ => SL.mk f1 f2 f3 f11⟩
theorem SL.op (hS : SL w Γ a0 a1 p0 p1 b0 b1 c0 c1 g0 g1 A0 A1 P0 P1 B0 B1 v0 v1 kvs led) : ∃ oo : Obj, led[11]? = some (Γ.op, oo) ∧ oo.IsDictOf (PySem.intKind PySem.Challenge.rw_no0062_01.row.prog w) kvs ∧ ∀ o' k', o'.IsDictOf (PySem.intKind PySem.Challenge.rw_no0062_01.row.prog w) k' → SL w Γ a0 a1 p0 p1 b0 b1 c0 c1 g0 g1 A0 A1 P0 P1 B0 B1 v0 v1 (k') (led.set 11 (Γ.op, o')) := by
  cases hS with
  | mk f1 f2 f3 f11 => exact ⟨_, rfl, f11, fun _ _ f => SL.mk f1 f2 f3 f⟩
theorem SL.here (hS : SL w Γ a0 a1 p0 p1 b0 b1 c0 c1 g0 g1 A0 A1 P0 P1 B0 B1 v0 v1 kvs led) : (Γ.hD, Γ.oh) ∈ led := by
  cases hS
  exact List.mem_of_getElem? (i := 10) rfl
theorem SL.inst (hS : SL w Γ a0 a1 p0 p1 b0 b1 c0 c1 g0 g1 A0 A1 P0 P1 B0 B1 v0 v1 kvs led) (N : News h₀ L s.heap news) (sub : ∀ p ∈ led ++ own, p ∈ news) : PySem.W.InstAt s.heap Γ.x (instObj 135 Γ.dx) 135 (some (attrs Γ.hh Γ.kk Γ.r Γ.tr Γ.ol Γ.pl Γ.om Γ.pm Γ.cm Γ.gr Γ.n)) := by
  cases hS
  exact PySem.W.InstAt.of_news N (sub _ (List.mem_append.mpr (.inl (List.mem_of_getElem? (i := 2) rfl)))) (sub _ (List.mem_append.mpr (.inl (List.mem_of_getElem? (i := 3) rfl))))
theorem cond_if (u : Bool) : (if u = true then (1 : Int) else 0) = cond u 1 0 := by cases u <;> rfl
theorem int_cond {b : Bool} (h : Q (.int (cond b 1 0) s.toks) { s with toks := s.toks + 1 }) : wpAny (model PySem.Challenge.rw_no0062_01.row.prog w) A (call (.type "int") [.bool b]) Q E s :=
  call_int_bool (by rw [cond_if]; exact h)
theorem item_L {i : Nat} {l : Addr} {X0 X1 : Int} {P : Prop} {value slice : PySem.Expr} {t : Tok} {u : Bool} (hm : ∃ t0 t1 n, led[i]? = some (l, L2 X0 X1 t0 t1 n) ∧ P) (N : News h₀ L s.heap news) (sub : ∀ p ∈ led ++ own, p ∈ news)
    (hs : ∀ j, subscripted slice false (.ref l) (.int j t) = operate [.ref l, .int j t] (getItem (.ref l) (.int j t))) (hg : ∀ r, letTemporaryGo value (.ref l) r = pure ())
    (h : ∀ t', Q (.int (cond u X1 X0) t') s) : wpAny (model PySem.Challenge.rw_no0062_01.row.prog w) A (subscriptTail value slice (.ref l) (.int (cond u 1 0) t)) Q E s := by
  obtain ⟨t0, t1, n, hm, _⟩ := hm
  exact item_cond N (sub _ (List.mem_append.mpr (.inl (List.mem_of_getElem? hm)))) hs hg (h _)
theorem get_L {i : Nat} {l : Addr} {X0 X1 : Int} {P : Prop} {t : Tok} {u : Bool} (hm : ∃ t0 t1 n, led[i]? = some (l, L2 X0 X1 t0 t1 n) ∧ P) (N : News h₀ L s.heap news) (sub : ∀ p ∈ led ++ own, p ∈ news)
    (h : ∀ t', Q (.int (cond u X1 X0) t') s) : wpAny (model PySem.Challenge.rw_no0062_01.row.prog w) A (getItem (.ref l) (.int (cond u 1 0) t)) Q E s := by
  obtain ⟨t0, t1, n, hm, _⟩ := hm
  have hL : s.heap.IsList l _ := ⟨_, (N _ (sub _ (List.mem_append.mpr (.inl (List.mem_of_getElem? hm))))).1, rfl, n, rfl⟩
  cases u
  · exact getItem_listL (l := [.int X0 t0, .int X1 t1]) hL (by decide) (by decide) rfl (h _)
  · exact getItem_listL (l := [.int X0 t0, .int X1 t1]) hL (by decide) (by decide) rfl (h _)
theorem set_L {i : Nat} {l : Addr} {X0 X1 : Int} {P : Int → Int → List (Addr × Obj) → Prop} {Q : Unit → Shared → Prop} {x : Int} {t tx : Tok} {u : Bool} (hm : ∃ t0 t1 n, led[i]? = some (l, L2 X0 X1 t0 t1 n) ∧ ∀ y0 y1 s0 s1 n', P y0 y1 (led.set i (l, L2 y0 y1 s0 s1 n')))
    (adr : led.map (·.1) = Γ.addrs) (F : Fr h₀ L s.heap m) (hA : Ap Γ own) (N : News h₀ L s.heap news) (sub : ∀ p ∈ led ++ own, p ∈ news)
    (h : ∀ (led' : List (Addr × Obj)) h', P (cond u X0 x) (cond u x X1) led' → Fr h₀ L h' m → News h₀ L h' (led' ++ own) → Q () { s with heap := h' }) :
    wpAny (model PySem.Challenge.rw_no0062_01.row.prog w) A (setItem (.ref l) (.int (cond u 1 0) t) (.int x tx)) Q E s := by
  obtain ⟨t0, t1, n, hm, hP⟩ := hm
  have hl : l ∈ Γ.addrs := adr ▸ List.mem_map.mpr ⟨_, List.mem_of_getElem? hm, rfl⟩
  exact set_cond F (cb_drop N sub) (upd_at (hA.off hl) hm (adr ▸ hA.1)) fun h' F' N' => h _ h' (hP _ _ _ _ _) F' N'

theorem set_ol {Q : Unit → Shared → Prop} {x : Int} {t tx : Tok} {u : Bool} (F : Fr h₀ L s.heap m) (hA : Ap Γ own) (hS : SL w Γ a0 a1 p0 p1 b0 b1 c0 c1 g0 g1 A0 A1 P0 P1 B0 B1 v0 v1 kvs led) (N : News h₀ L s.heap news) (sub : ∀ p ∈ led ++ own, p ∈ news)
    (h : ∀ (led' : List (Addr × Obj)) h', SL w Γ (cond u a0 x) (cond u x a1) p0 p1 b0 b1 c0 c1 g0 g1 A0 A1 P0 P1 B0 B1 v0 v1 kvs led' → Fr h₀ L h' m → News h₀ L h' (led' ++ own) → Q () { s with heap := h' }) :
    wpAny (model PySem.Challenge.rw_no0062_01.row.prog w) A (setItem (.ref Γ.ol) (.int (cond u 1 0) t) (.int x tx)) Q E s :=
  set_L (P := fun y0 y1 led' => SL w Γ (y0) (y1) p0 p1 b0 b1 c0 c1 g0 g1 A0 A1 P0 P1 B0 B1 v0 v1 kvs led') hS.ol hS.adr F hA N sub h

theorem set_pl {Q : Unit → Shared → Prop} {x : Int} {t tx : Tok} {u : Bool} (F : Fr h₀ L s.heap m) (hA : Ap Γ own) (hS : SL w Γ a0 a1 p0 p1 b0 b1 c0 c1 g0 g1 A0 A1 P0 P1 B0 B1 v0 v1 kvs led) (N : News h₀ L s.heap news) (sub : ∀ p ∈ led ++ own, p ∈ news)
    (h : ∀ (led' : List (Addr × Obj)) h', SL w Γ a0 a1 (cond u p0 x) (cond u x p1) b0 b1 c0 c1 g0 g1 A0 A1 P0 P1 B0 B1 v0 v1 kvs led' → Fr h₀ L h' m → News h₀ L h' (led' ++ own) → Q () { s with heap := h' }) :
    wpAny (model PySem.Challenge.rw_no0062_01.row.prog w) A (setItem (.ref Γ.pl) (.int (cond u 1 0) t) (.int x tx)) Q E s :=
  set_L (P := fun y0 y1 led' => SL w Γ a0 a1 (y0) (y1) b0 b1 c0 c1 g0 g1 A0 A1 P0 P1 B0 B1 v0 v1 kvs led') hS.pl hS.adr F hA N sub h

theorem set_om {Q : Unit → Shared → Prop} {x : Int} {t tx : Tok} {u : Bool} (F : Fr h₀ L s.heap m) (hA : Ap Γ own) (hS : SL w Γ a0 a1 p0 p1 b0 b1 c0 c1 g0 g1 A0 A1 P0 P1 B0 B1 v0 v1 kvs led) (N : News h₀ L s.heap news) (sub : ∀ p ∈ led ++ own, p ∈ news)
    (h : ∀ (led' : List (Addr × Obj)) h', SL w Γ a0 a1 p0 p1 (cond u b0 x) (cond u x b1) c0 c1 g0 g1 A0 A1 P0 P1 B0 B1 v0 v1 kvs led' → Fr h₀ L h' m → News h₀ L h' (led' ++ own) → Q () { s with heap := h' }) :
    wpAny (model PySem.Challenge.rw_no0062_01.row.prog w) A (setItem (.ref Γ.om) (.int (cond u 1 0) t) (.int x tx)) Q E s :=
  set_L (P := fun y0 y1 led' => SL w Γ a0 a1 p0 p1 (y0) (y1) c0 c1 g0 g1 A0 A1 P0 P1 B0 B1 v0 v1 kvs led') hS.om hS.adr F hA N sub h

theorem set_pm {Q : Unit → Shared → Prop} {x : Int} {t tx : Tok} {u : Bool} (F : Fr h₀ L s.heap m) (hA : Ap Γ own) (hS : SL w Γ a0 a1 p0 p1 b0 b1 c0 c1 g0 g1 A0 A1 P0 P1 B0 B1 v0 v1 kvs led) (N : News h₀ L s.heap news) (sub : ∀ p ∈ led ++ own, p ∈ news)
    (h : ∀ (led' : List (Addr × Obj)) h', SL w Γ a0 a1 p0 p1 b0 b1 (cond u c0 x) (cond u x c1) g0 g1 A0 A1 P0 P1 B0 B1 v0 v1 kvs led' → Fr h₀ L h' m → News h₀ L h' (led' ++ own) → Q () { s with heap := h' }) :
    wpAny (model PySem.Challenge.rw_no0062_01.row.prog w) A (setItem (.ref Γ.pm) (.int (cond u 1 0) t) (.int x tx)) Q E s :=
  set_L (P := fun y0 y1 led' => SL w Γ a0 a1 p0 p1 b0 b1 (y0) (y1) g0 g1 A0 A1 P0 P1 B0 B1 v0 v1 kvs led') hS.pm hS.adr F hA N sub h

theorem set_gr {Q : Unit → Shared → Prop} {x : Int} {t tx : Tok} {u : Bool} (F : Fr h₀ L s.heap m) (hA : Ap Γ own) (hS : SL w Γ a0 a1 p0 p1 b0 b1 c0 c1 g0 g1 A0 A1 P0 P1 B0 B1 v0 v1 kvs led) (N : News h₀ L s.heap news) (sub : ∀ p ∈ led ++ own, p ∈ news)
    (h : ∀ (led' : List (Addr × Obj)) h', SL w Γ a0 a1 p0 p1 b0 b1 c0 c1 (cond u g0 x) (cond u x g1) A0 A1 P0 P1 B0 B1 v0 v1 kvs led' → Fr h₀ L h' m → News h₀ L h' (led' ++ own) → Q () { s with heap := h' }) :
    wpAny (model PySem.Challenge.rw_no0062_01.row.prog w) A (setItem (.ref Γ.gr) (.int (cond u 1 0) t) (.int x tx)) Q E s :=
  set_L (P := fun y0 y1 led' => SL w Γ a0 a1 p0 p1 b0 b1 c0 c1 (y0) (y1) A0 A1 P0 P1 B0 B1 v0 v1 kvs led') hS.gr hS.adr F hA N sub h

theorem set_le {Q : Unit → Shared → Prop} {x : Int} {t tx : Tok} {u : Bool} (F : Fr h₀ L s.heap m) (hA : Ap Γ own) (hS : SL w Γ a0 a1 p0 p1 b0 b1 c0 c1 g0 g1 A0 A1 P0 P1 B0 B1 v0 v1 kvs led) (N : News h₀ L s.heap news) (sub : ∀ p ∈ led ++ own, p ∈ news)
    (h : ∀ (led' : List (Addr × Obj)) h', SL w Γ a0 a1 p0 p1 b0 b1 c0 c1 g0 g1 (cond u A0 x) (cond u x A1) P0 P1 B0 B1 v0 v1 kvs led' → Fr h₀ L h' m → News h₀ L h' (led' ++ own) → Q () { s with heap := h' }) :
    wpAny (model PySem.Challenge.rw_no0062_01.row.prog w) A (setItem (.ref Γ.le) (.int (cond u 1 0) t) (.int x tx)) Q E s :=
  set_L (P := fun y0 y1 led' => SL w Γ a0 a1 p0 p1 b0 b1 c0 c1 g0 g1 (y0) (y1) P0 P1 B0 B1 v0 v1 kvs led') hS.le hS.adr F hA N sub h

theorem set_ls {Q : Unit → Shared → Prop} {x : Int} {t tx : Tok} {u : Bool} (F : Fr h₀ L s.heap m) (hA : Ap Γ own) (hS : SL w Γ a0 a1 p0 p1 b0 b1 c0 c1 g0 g1 A0 A1 P0 P1 B0 B1 v0 v1 kvs led) (N : News h₀ L s.heap news) (sub : ∀ p ∈ led ++ own, p ∈ news)
    (h : ∀ (led' : List (Addr × Obj)) h', SL w Γ a0 a1 p0 p1 b0 b1 c0 c1 g0 g1 A0 A1 (cond u P0 x) (cond u x P1) B0 B1 v0 v1 kvs led' → Fr h₀ L h' m → News h₀ L h' (led' ++ own) → Q () { s with heap := h' }) :
    wpAny (model PySem.Challenge.rw_no0062_01.row.prog w) A (setItem (.ref Γ.ls) (.int (cond u 1 0) t) (.int x tx)) Q E s :=
  set_L (P := fun y0 y1 led' => SL w Γ a0 a1 p0 p1 b0 b1 c0 c1 g0 g1 A0 A1 (y0) (y1) B0 B1 v0 v1 kvs led') hS.ls hS.adr F hA N sub h

theorem set_mi {Q : Unit → Shared → Prop} {x : Int} {t tx : Tok} {u : Bool} (F : Fr h₀ L s.heap m) (hA : Ap Γ own) (hS : SL w Γ a0 a1 p0 p1 b0 b1 c0 c1 g0 g1 A0 A1 P0 P1 B0 B1 v0 v1 kvs led) (N : News h₀ L s.heap news) (sub : ∀ p ∈ led ++ own, p ∈ news)
    (h : ∀ (led' : List (Addr × Obj)) h', SL w Γ a0 a1 p0 p1 b0 b1 c0 c1 g0 g1 A0 A1 P0 P1 (cond u B0 x) (cond u x B1) v0 v1 kvs led' → Fr h₀ L h' m → News h₀ L h' (led' ++ own) → Q () { s with heap := h' }) :
    wpAny (model PySem.Challenge.rw_no0062_01.row.prog w) A (setItem (.ref Γ.mi) (.int (cond u 1 0) t) (.int x tx)) Q E s :=
  set_L (P := fun y0 y1 led' => SL w Γ a0 a1 p0 p1 b0 b1 c0 c1 g0 g1 A0 A1 P0 P1 (y0) (y1) v0 v1 kvs led') hS.mi hS.adr F hA N sub h

theorem set_pm_tmp {Q : Unit → Shared → Prop} {x : Int} {t tx : Tok} {u : Bool} (F : Fr h₀ L s.heap m) (hA : Ap Γ own) (hS : SL w Γ a0 a1 p0 p1 b0 b1 c0 c1 g0 g1 A0 A1 P0 P1 B0 B1 v0 v1 kvs led) (N : News h₀ L s.heap news) (sub : ∀ p ∈ tmp ++ (led ++ own), p ∈ news) (ht : OwnOff tmp Γ.addrs)
    (h : ∀ (led' : List (Addr × Obj)) h', SL w Γ a0 a1 p0 p1 b0 b1 (cond u c0 x) (cond u x c1) g0 g1 A0 A1 P0 P1 B0 B1 v0 v1 kvs led' → Fr h₀ L h' m → News h₀ L h' (tmp ++ (led' ++ own)) → Q () { s with heap := h' }) :
    wpAny (model PySem.Challenge.rw_no0062_01.row.prog w) A (setItem (.ref Γ.pm) (.int (cond u 1 0) t) (.int x tx)) Q E s :=
  set_pm (own := tmp ++ own) F ⟨hA.1, fun p hp => (List.mem_append.mp hp).elim (ht p) (hA.2 p)⟩ hS N (fun p hp => sub p (mid_in sub_refl p hp)) fun led' h' S' F' N' => h led' h' S' F' (cb_drop N' mid_out)
theorem off_two {L' c d : Nat} {o o' : Obj} (hS : SL w Γ a0 a1 p0 p1 b0 b1 c0 c1 g0 g1 A0 A1 P0 P1 B0 B1 v0 v1 kvs led) (hl : ∀ p ∈ led ++ own, @LT.lt Nat _ p.1 L') (h1 : L' ≤ c := by omega) (h2 : L' ≤ d := by omega) : OwnOff [(c, o), (d, o')] Γ.addrs :=
  off_cons (fun b hb => off_app hS (fun p hp => Nat.lt_of_lt_of_le (hl p hp) h1) (c, o) (.head _) b hb) (off_app hS (fun p hp => Nat.lt_of_lt_of_le (hl p hp) h2))

theorem cell_ne {L' c : Nat} {led9 : List (Addr × Obj)} {x0 x1 x2 x3 x4 x5 x6 x7 x8 x9 y0 y1 y2 y3 y4 y5 : Int} {u0 u1 : Value} {k9 : List (Int × Value)} (hl : ∀ p ∈ led ++ own, @LT.lt Nat _ p.1 L') (hS : SL w Γ a0 a1 p0 p1 b0 b1 c0 c1 g0 g1 A0 A1 P0 P1 B0 B1 v0 v1 kvs led) (hS9 : SL w Γ x0 x1 x2 x3 x4 x5 x6 x7 x8 x9 y0 y1 y2 y3 y4 y5 u0 u1 k9 led9) (h : L' ≤ c) : ∀ p ∈ led9 ++ own, p.1 ≠ c := fun p hp e => by
  rcases List.mem_append.mp hp with h1 | h1
  · have hm : p.1 ∈ led.map (·.1) := by rw [hS.adr, ← hS9.adr]; exact List.mem_map.mpr ⟨p, h1, rfl⟩
    obtain ⟨q, hq, eq⟩ := List.mem_map.mp hm
    have z : @LT.lt Nat _ q.1 L' := hl q (List.mem_append.mpr (.inl hq))
    have z2 : @Eq Nat q.1 c := eq.trans e
    omega
  · have z : @LT.lt Nat _ p.1 L' := hl p (List.mem_append.mpr (.inr h1))
    have z2 : @Eq Nat p.1 c := e
    omega

theorem item_cm {t : Tok} {u : Bool} (hS : SL w Γ a0 a1 p0 p1 b0 b1 c0 c1 g0 g1 A0 A1 P0 P1 B0 B1 v0 v1 kvs led) (N : News h₀ L s.heap news) (sub : ∀ p ∈ led ++ own, p ∈ news)
    (h : ∀ v t', Q (.int v t') s) : wpAny (model PySem.Challenge.rw_no0062_01.row.prog w) A (getItem (.ref Γ.cm) (.int (cond u 1 0) t)) Q E s := by
  obtain ⟨d0, d1, hm⟩ := hS.cm
  exact get_L hm N sub (h _)
theorem set_cm {Q : Unit → Shared → Prop} {x : Int} {t tx : Tok} {u : Bool} (F : Fr h₀ L s.heap m) (hA : Ap Γ own) (hS : SL w Γ a0 a1 p0 p1 b0 b1 c0 c1 g0 g1 A0 A1 P0 P1 B0 B1 v0 v1 kvs led) (N : News h₀ L s.heap news) (sub : ∀ p ∈ led ++ own, p ∈ news)
    (h : ∀ (led' : List (Addr × Obj)) h', SL w Γ a0 a1 p0 p1 b0 b1 c0 c1 g0 g1 A0 A1 P0 P1 B0 B1 v0 v1 kvs led' → Fr h₀ L h' m → News h₀ L h' (led' ++ own) → Q () { s with heap := h' }) :
    wpAny (model PySem.Challenge.rw_no0062_01.row.prog w) A (setItem (.ref Γ.cm) (.int (cond u 1 0) t) (.int x tx)) Q E s := by
  obtain ⟨d0, d1, hm⟩ := hS.cm
  exact set_L (P := fun _ _ led' => SL w Γ a0 a1 p0 p1 b0 b1 c0 c1 g0 g1 A0 A1 P0 P1 B0 B1 v0 v1 kvs led') hm hS.adr F hA N sub h
theorem here_sl {value slice : PySem.Expr} {k : Str} {tk : Tok} {v : Value} (hok : Gok w Γ) (hS : SL w Γ a0 a1 p0 p1 b0 b1 c0 c1 g0 g1 A0 A1 P0 P1 B0 B1 v0 v1 kvs led) (N : News h₀ L s.heap news) (sub : ∀ p ∈ led ++ own, p ∈ news)
    (hl : valueAt (hereP Γ.r Γ.tr2 Γ.le Γ.ls Γ.mi Γ.op Γ.to) k = some v)
    (hs : subscripted slice false (.ref Γ.hD) (.str k tk) = operate [.ref Γ.hD, .str k tk] (getItem (.ref Γ.hD) (.str k tk))) (hg : ∀ r, letTemporaryGo value (.ref Γ.hD) r = pure ())
    (h : Q v { s with toks := s.toks + 1 }) : wpAny (model PySem.Challenge.rw_no0062_01.row.prog w) A (subscriptTail value slice (.ref Γ.hD) (.str k tk)) Q E s :=
  kda_item (knd := PySem.strKind _ _) N (sub _ (List.mem_append.mpr (.inl hS.here))) hok.hdo (strKind_is _ _ _ _) hl h hs hg
theorem item_to {value slice : PySem.Expr} {t : Tok} {u : Bool} {q0 q1 z0 z1 : Int} (hS : SL w Γ a0 a1 p0 p1 b0 b1 c0 c1 g0 g1 A0 A1 P0 P1 B0 B1 v0 v1 kvs led) (N : News h₀ L s.heap news) (sub : ∀ p ∈ led ++ own, p ∈ news) (f0 : Told v0 q0 z0) (f1 : Told v1 q1 z1)
    (hs : ∀ j, subscripted slice false (.ref Γ.to) (.int j t) = operate [.ref Γ.to, .int j t] (getItem (.ref Γ.to) (.int j t))) (hg : ∀ r, letTemporaryGo value (.ref Γ.to) r = pure ())
    (h : ∀ v, Told v (cond u q1 q0) (cond u z1 z0) → Q v s) : wpAny (model PySem.Challenge.rw_no0062_01.row.prog w) A (subscriptTail value slice (.ref Γ.to) (.int (cond u 1 0) t)) Q E s := by
  obtain ⟨n, hm, _⟩ := hS.to
  exact item_told N (sub _ (List.mem_append.mpr (.inl (List.mem_of_getElem? hm)))) f0 f1 hs hg h
theorem set_to {Q : Unit → Shared → Prop} {x : Value} {t : Tok} {u : Bool} (F : Fr h₀ L s.heap m) (hA : Ap Γ own) (hS : SL w Γ a0 a1 p0 p1 b0 b1 c0 c1 g0 g1 A0 A1 P0 P1 B0 B1 v0 v1 kvs led) (N : News h₀ L s.heap news) (sub : ∀ p ∈ led ++ own, p ∈ news)
    (h : ∀ (led' : List (Addr × Obj)) h', SL w Γ a0 a1 p0 p1 b0 b1 c0 c1 g0 g1 A0 A1 P0 P1 B0 B1 (cond u v0 x) (cond u x v1) kvs led' → Fr h₀ L h' m → News h₀ L h' (led' ++ own) → Q () { s with heap := h' }) :
    wpAny (model PySem.Challenge.rw_no0062_01.row.prog w) A (setItem (.ref Γ.to) (.int (cond u 1 0) t) x) Q E s := by
  obtain ⟨n, hm, hP⟩ := hS.to
  exact set_told F (cb_drop N sub) (upd_at (hA.off (by simp)) hm (hS.adr ▸ hA.1)) fun h' F' N' => h _ h' (hP _ _ _) F' N'
theorem ne_empty_sl {D : Addr} {ob : Obj} (hok : Gok w Γ) (hS : SL w Γ a0 a1 p0 p1 b0 b1 c0 c1 g0 g1 A0 A1 P0 P1 B0 B1 v0 v1 kvs led) (N : News h₀ L s.heap news) (sub : ∀ p ∈ led ++ own, p ∈ news) (pb : (D, ob) ∈ news) (db : ob.IsDictOf (PySem.intKind PySem.Challenge.rw_no0062_01.row.prog w) []) (lb : (D == sysModules) = false) (hu : A.units < cLine)
    (h1 : 0 < kvs.length) (k1 : Q (.bool true) s) : wpAny (model PySem.Challenge.rw_no0062_01.row.prog w) A (compareOp .NotEq (.ref Γ.op) (.ref D)) Q E s := by
  obtain ⟨oo, hm, hd, _⟩ := hS.op
  exact ne_empty N (sub _ (List.mem_append.mpr (.inl (List.mem_of_getElem? hm)))) pb hd db hok.hlo lb hu (fun h => absurd h (Nat.ne_of_gt h1)) fun _ => k1
theorem ne_none_sl {D : Addr} {ob : Obj} (hok : Gok w Γ) (hS : SL w Γ a0 a1 p0 p1 b0 b1 c0 c1 g0 g1 A0 A1 P0 P1 B0 B1 v0 v1 kvs led) (N : News h₀ L s.heap news) (sub : ∀ p ∈ led ++ own, p ∈ news) (pb : (D, ob) ∈ news) (db : ob.IsDictOf (PySem.intKind PySem.Challenge.rw_no0062_01.row.prog w) []) (lb : (D == sysModules) = false) (hu : A.units < cLine)
    (h0 : kvs.length = 0) (k0 : Q (.bool false) s) : wpAny (model PySem.Challenge.rw_no0062_01.row.prog w) A (compareOp .NotEq (.ref Γ.op) (.ref D)) Q E s := by
  obtain ⟨oo, hm, hd, _⟩ := hS.op
  exact ne_empty N (sub _ (List.mem_append.mpr (.inl (List.mem_of_getElem? hm)))) pb hd db hok.hlo lb hu (fun _ => k0) fun h => absurd h0 (Nat.ne_of_gt h)
theorem sorted_sl (hh : A.handled = none) (hok : Gok w Γ) (F : Fr h₀ L s.heap m) (hS : SL w Γ a0 a1 p0 p1 b0 b1 c0 c1 g0 g1 A0 A1 P0 P1 B0 B1 v0 v1 kvs led) (N : News h₀ L s.heap news) (sub : ∀ p ∈ led ++ own, p ∈ news) (h64 : kvs.length < 64)
    (h : ∀ D vs ns c h' tk', OwnOff [(D, listOf (List.toArray vs) c)] Γ.addrs → IntsAre vs ns → ns.length = kvs.length → (∀ x ∈ ns, (valueAt kvs x).isSome = true) → Fr h₀ L h' m → News h₀ L h' ((D, listOf (List.toArray vs) c) :: (led ++ own)) → Q (.ref D) { s with heap := h', toks := tk' }) :
    wpAny (model PySem.Challenge.rw_no0062_01.row.prog w) A (call (.builtin "sorted") [.ref Γ.op]) Q E s := by
  obtain ⟨oo, hm, hd, _⟩ := hS.op
  refine sorted_open hh F (cb_drop N sub) (List.mem_append.mpr (.inl (List.mem_of_getElem? hm))) hd hok.hlo h64 fun D vs ns c h' tk' F' N' l1 hI hl hx => ?_
  exact h D vs ns c h' tk' (off_new hS fun p hp => Nat.ne_of_lt (l1 p (List.mem_append.mpr (.inl hp)))) hI hl hx F' N'
theorem len_sl (hok : Gok w Γ) (hS : SL w Γ a0 a1 p0 p1 b0 b1 c0 c1 g0 g1 A0 A1 P0 P1 B0 B1 v0 v1 kvs led) (N : News h₀ L s.heap news) (sub : ∀ p ∈ led ++ own, p ∈ news) (h64 : kvs.length < 64)
    (h : Q (.int kvs.length (s.toks + 1)) { s with toks := s.toks + 1 + 1 }) : wpAny (model PySem.Challenge.rw_no0062_01.row.prog w) A (call (.builtin "len") [.ref Γ.op]) Q E s := by
  obtain ⟨oo, hm, hd, _⟩ := hS.op
  exact kda_len (knd := PySem.intKind _ _) N (sub _ (List.mem_append.mpr (.inl (List.mem_of_getElem? hm)))) hd hok.hlo (by omega) h
theorem item_op {value slice : PySem.Expr} {k : Int} {t : Tok} {v : Value} (hS : SL w Γ a0 a1 p0 p1 b0 b1 c0 c1 g0 g1 A0 A1 P0 P1 B0 B1 v0 v1 kvs led) (N : News h₀ L s.heap news) (sub : ∀ p ∈ led ++ own, p ∈ news) (hl : valueAt kvs k = some v)
    (hs : subscripted slice false (.ref Γ.op) (.int k t) = operate [.ref Γ.op, .int k t] (getItem (.ref Γ.op) (.int k t))) (hg : ∀ r, letTemporaryGo value (.ref Γ.op) r = pure ())
    (h : Q v { s with toks := s.toks + 1 }) : wpAny (model PySem.Challenge.rw_no0062_01.row.prog w) A (subscriptTail value slice (.ref Γ.op) (.int k t)) Q E s := by
  obtain ⟨oo, hm, hd, _⟩ := hS.op
  exact kda_item (knd := PySem.intKind _ _) N (sub _ (List.mem_append.mpr (.inl (List.mem_of_getElem? hm)))) hd (intKind_is _ _ _ _) hl h hs hg
theorem set_op {Q : Unit → Shared → Prop} {k : Int} {t : Tok} {b : Bool} (F : Fr h₀ L s.heap m) (hA : Ap Γ own) (hS : SL w Γ a0 a1 p0 p1 b0 b1 c0 c1 g0 g1 A0 A1 P0 P1 B0 B1 v0 v1 kvs led) (N : News h₀ L s.heap news) (sub : ∀ p ∈ led ++ own, p ∈ news) (hz : kvs.length ≤ sizeLine)
    (h : ∀ (led' : List (Addr × Obj)) h', SL w Γ a0 a1 p0 p1 b0 b1 c0 c1 g0 g1 A0 A1 P0 P1 B0 B1 v0 v1 (stored kvs k (.bool b)) led' → Fr h₀ L h' m → News h₀ L h' (led' ++ own) → Q () { s with heap := h', toks := s.toks + 1 }) :
    wpAny (model PySem.Challenge.rw_no0062_01.row.prog w) A (setItem (.ref Γ.op) (.int k t) (.bool b)) Q E s := by
  obtain ⟨oo, hm, hd, hP⟩ := hS.op
  exact kda_set (knd := PySem.intKind _ _) F (cb_drop N sub) (updF_at (hA.off (by simp)) hm (hS.adr ▸ hA.1)) hd (intKind_is _ _ _ _) hz fun h' o' F' N' hd' => h _ h' (hP _ _ hd') F' N'
theorem notin_op {k : Int} {t : Tok} (hok : Gok w Γ) (hS : SL w Γ a0 a1 p0 p1 b0 b1 c0 c1 g0 g1 A0 A1 P0 P1 B0 B1 v0 v1 kvs led) (N : News h₀ L s.heap news) (sub : ∀ p ∈ led ++ own, p ∈ news)
    (h : ∀ tk', Q (.bool (!(valueAt kvs k).isSome)) { s with toks := tk' }) : wpAny (model PySem.Challenge.rw_no0062_01.row.prog w) A (compareOp .NotIn (.int k t) (.ref Γ.op)) Q E s := by
  obtain ⟨oo, hm, hd, _⟩ := hS.op
  exact kdg_notin (knd := PySem.intKind _ _) N (sub _ (List.mem_append.mpr (.inl (List.mem_of_getElem? hm)))) hd hok.hlo (intKind_is _ _ _ _) _ rfl (h _)

theorem for_sl {env : Env} {q1 q2 q3 q4 q5 q6 q7 : Pos} {Q : Flow → Shared → Prop} {l : Addr} {vs : List Value} {ns : List Int} {nn : Nat} {m₀ : Str → Option Value}
    (hh : A.handled = none) (hok : Gok w Γ) (hA : Ap Γ own) (F : Fr h₀ env.locals s.heap m₀) (hS : SL w Γ a0 a1 p0 p1 b0 b1 c0 c1 g0 g1 A0 A1 P0 P1 B0 B1 v0 v1 kvs led) (N : News h₀ env.locals s.heap news) (sub : ∀ p ∈ (l, listOf vs.toArray nn) :: (led ++ own), p ∈ news) (ht : OwnOff [(l, listOf vs.toArray nn)] Γ.addrs) (hi : IntsAre vs ns)
    (hkf : env.scope.kind = .function) (hlH : env.kindOf (Str.ofString "here") = some .local) (hl1 : env.kindOf (Str.ofString "one") = some .local) (eH : m₀ (Str.ofString "here") = some (.ref Γ.hD))
    (hz : kvs.length + ns.length ≤ 1000)
    (done : ∀ (u : Str → Option Value) (led' : List (Addr × Obj)) (h : Heap) (tk : Nat), SL w Γ a0 a1 p0 p1 b0 b1 c0 c1 g0 g1 A0 A1 P0 P1 B0 B1 v0 v1 (ns.foldl (fun k n => stored k n (.bool true)) kvs) led' → Fr h₀ env.locals h (fun y => if y = Str.ofString "one" then u y else m₀ y) → News h₀ env.locals h (led' ++ own) → Q .next { s with heap := h, toks := tk }) :
    wpAny (model PySem.Challenge.rw_no0062_01.row.prog w) A (pyIter (.ref l)) (fun it s₂ => LoopAtV PySem.Challenge.rw_no0062_01.row.prog w A h₀ env (Str.ofString "one") [Stmt.Assign [Expr.Subscript (Expr.Subscript (Expr.Name (Str.ofString "here") q1) (Expr.Constant (Const.str (Str.ofString "open")) 0 q2) q3) (Expr.Name (Str.ofString "one") q4) q5] (Expr.Constant (Const.bool true) 0 q6) q7] Q E it s₂) E s := by
  have hlo : @Ne Nat l Γ.op := ht _ (.head _) Γ.op (by simp)
  obtain ⟨oo, hm, hd, hP⟩ := hS.op
  refine for_here hh (.head _) hi F (cb_drop N sub) (UpdF.tail hlo (updF_at (hA.off (d := Γ.op) (by simp)) hm (hS.adr ▸ hA.1))) hd (.tail _ (List.mem_append.mpr (.inl (List.mem_of_getElem? hm)))) hlo hkf hlH hl1 eH (.tail _ (List.mem_append.mpr (.inl hS.here))) hok.hdo (hA.ne 10 11 rfl rfl (by decide)) hz fun u oo' h' tk' hd' F' N' => ?_
  exact done u _ h' tk' (hP _ _ hd') F' (cb_drop N' fun p hp => .tail _ hp)
theorem for_nil_sl {env : Env} {x : Str} {body : List Stmt} {Q : Flow → Shared → Prop} {l : Addr} {nn : Nat} {m₀ : Str → Option Value}
    (hh : A.handled = none) (F : Fr h₀ env.locals s.heap m₀) (N : News h₀ env.locals s.heap news) (hl : (l, listOf #[] nn) ∈ news)
    (done : ∀ h tk, Fr h₀ env.locals h m₀ → News h₀ env.locals h news → Q .next { s with heap := h, toks := tk }) :
    wpAny (model PySem.Challenge.rw_no0062_01.row.prog w) A (pyIter (.ref l)) (fun it s₂ => LoopAtV PySem.Challenge.rw_no0062_01.row.prog w A h₀ env x body Q E it s₂) E s :=
  for_nil hh hl F N done
theorem eq_role {a b : Bool} {t u : Tok} (h : Q (.bool (a == b)) s) : wpAny (model PySem.Challenge.rw_no0062_01.row.prog w) A (compareOp .Eq (.str (roleStr a) t) (.str (roleStr b) u)) Q E s := by
  walk1; rw [roleStr_beq]; exact h
theorem ne_role {b : Bool} {t u : Tok} (h : Q (.bool true) s) : wpAny (model PySem.Challenge.rw_no0062_01.row.prog w) A (compareOp .NotEq (.str (roleStr (!b)) t) (.str (roleStr b) u)) Q E s := by
  walk1; rw [show (roleStr (!b) != roleStr b) = true from by rw [bne, roleStr_beq]; cases b <;> rfl]; exact h

theorem attr_role {expr : Bool} (X : (Mine.hd.heap_39 w.params).In h₀) (F : Fr h₀ L s.heap m) (hS : SL w Γ a0 a1 p0 p1 b0 b1 c0 c1 g0 g1 A0 A1 P0 P1 B0 B1 v0 v1 kvs led) (N : News h₀ L s.heap news) (sub : ∀ p ∈ led ++ own, p ∈ news) (h : Q (.str (roleStr Γ.r) Γ.tr) { s with toks := s.toks + 1 }) :
    wpAny (model PySem.Challenge.rw_no0062_01.row.prog w) A (getAttr (.ref Γ.x) (Str.ofString "role") expr) Q E s := by
  revert X hS
  k_fill
  intro X hS
  refine' get_own F X (SL.inst hS N sub) ?k4 ?k5 ?k6 ?k7 ?k8 ?k9 h
  case k4 => k_is
  case k5 => k_is
  case k6 => k_is
  case k7 => k_is
  case k8 => k_get
  case k9 => k_handed

theorem attr_own_limits {expr : Bool} (X : (Mine.hd.heap_39 w.params).In h₀) (F : Fr h₀ L s.heap m) (hS : SL w Γ a0 a1 p0 p1 b0 b1 c0 c1 g0 g1 A0 A1 P0 P1 B0 B1 v0 v1 kvs led) (N : News h₀ L s.heap news) (sub : ∀ p ∈ led ++ own, p ∈ news) (h : Q (.ref Γ.ol) { s with toks := s.toks + 1 }) :
    wpAny (model PySem.Challenge.rw_no0062_01.row.prog w) A (getAttr (.ref Γ.x) (Str.ofString "own_limits") expr) Q E s := by
  revert X hS
  k_fill
  intro X hS
  refine' get_own F X (SL.inst hS N sub) ?k4 ?k5 ?k6 ?k7 ?k8 ?k9 h
  case k4 => k_is
  case k5 => k_is
  case k6 => k_is
  case k7 => k_is
  case k8 => k_get
  case k9 => k_handed

theorem attr_peer_limits {expr : Bool} (X : (Mine.hd.heap_39 w.params).In h₀) (F : Fr h₀ L s.heap m) (hS : SL w Γ a0 a1 p0 p1 b0 b1 c0 c1 g0 g1 A0 A1 P0 P1 B0 B1 v0 v1 kvs led) (N : News h₀ L s.heap news) (sub : ∀ p ∈ led ++ own, p ∈ news) (h : Q (.ref Γ.pl) { s with toks := s.toks + 1 }) :
    wpAny (model PySem.Challenge.rw_no0062_01.row.prog w) A (getAttr (.ref Γ.x) (Str.ofString "peer_limits") expr) Q E s := by
  revert X hS
  k_fill
  intro X hS
  refine' get_own F X (SL.inst hS N sub) ?k4 ?k5 ?k6 ?k7 ?k8 ?k9 h
  case k4 => k_is
  case k5 => k_is
  case k6 => k_is
  case k7 => k_is
  case k8 => k_get
  case k9 => k_handed

theorem attr_own_many {expr : Bool} (X : (Mine.hd.heap_39 w.params).In h₀) (F : Fr h₀ L s.heap m) (hS : SL w Γ a0 a1 p0 p1 b0 b1 c0 c1 g0 g1 A0 A1 P0 P1 B0 B1 v0 v1 kvs led) (N : News h₀ L s.heap news) (sub : ∀ p ∈ led ++ own, p ∈ news) (h : Q (.ref Γ.om) { s with toks := s.toks + 1 }) :
    wpAny (model PySem.Challenge.rw_no0062_01.row.prog w) A (getAttr (.ref Γ.x) (Str.ofString "own_many") expr) Q E s := by
  revert X hS
  k_fill
  intro X hS
  refine' get_own F X (SL.inst hS N sub) ?k4 ?k5 ?k6 ?k7 ?k8 ?k9 h
  case k4 => k_is
  case k5 => k_is
  case k6 => k_is
  case k7 => k_is
  case k8 => k_get
  case k9 => k_handed

theorem attr_peer_many {expr : Bool} (X : (Mine.hd.heap_39 w.params).In h₀) (F : Fr h₀ L s.heap m) (hS : SL w Γ a0 a1 p0 p1 b0 b1 c0 c1 g0 g1 A0 A1 P0 P1 B0 B1 v0 v1 kvs led) (N : News h₀ L s.heap news) (sub : ∀ p ∈ led ++ own, p ∈ news) (h : Q (.ref Γ.pm) { s with toks := s.toks + 1 }) :
    wpAny (model PySem.Challenge.rw_no0062_01.row.prog w) A (getAttr (.ref Γ.x) (Str.ofString "peer_many") expr) Q E s := by
  revert X hS
  k_fill
  intro X hS
  refine' get_own F X (SL.inst hS N sub) ?k4 ?k5 ?k6 ?k7 ?k8 ?k9 h
  case k4 => k_is
  case k5 => k_is
  case k6 => k_is
  case k7 => k_is
  case k8 => k_get
  case k9 => k_handed

theorem attr_closed_many {expr : Bool} (X : (Mine.hd.heap_39 w.params).In h₀) (F : Fr h₀ L s.heap m) (hS : SL w Γ a0 a1 p0 p1 b0 b1 c0 c1 g0 g1 A0 A1 P0 P1 B0 B1 v0 v1 kvs led) (N : News h₀ L s.heap news) (sub : ∀ p ∈ led ++ own, p ∈ news) (h : Q (.ref Γ.cm) { s with toks := s.toks + 1 }) :
    wpAny (model PySem.Challenge.rw_no0062_01.row.prog w) A (getAttr (.ref Γ.x) (Str.ofString "closed_many") expr) Q E s := by
  revert X hS
  k_fill
  intro X hS
  refine' get_own F X (SL.inst hS N sub) ?k4 ?k5 ?k6 ?k7 ?k8 ?k9 h
  case k4 => k_is
  case k5 => k_is
  case k6 => k_is
  case k7 => k_is
  case k8 => k_get
  case k9 => k_handed

theorem attr_granted {expr : Bool} (X : (Mine.hd.heap_39 w.params).In h₀) (F : Fr h₀ L s.heap m) (hS : SL w Γ a0 a1 p0 p1 b0 b1 c0 c1 g0 g1 A0 A1 P0 P1 B0 B1 v0 v1 kvs led) (N : News h₀ L s.heap news) (sub : ∀ p ∈ led ++ own, p ∈ news) (h : Q (.ref Γ.gr) { s with toks := s.toks + 1 }) :
    wpAny (model PySem.Challenge.rw_no0062_01.row.prog w) A (getAttr (.ref Γ.x) (Str.ofString "granted") expr) Q E s := by
  revert X hS
  k_fill
  intro X hS
  refine' get_own F X (SL.inst hS N sub) ?k4 ?k5 ?k6 ?k7 ?k8 ?k9 h
  case k4 => k_is
  case k5 => k_is
  case k6 => k_is
  case k7 => k_is
  case k8 => k_get
  case k9 => k_handed

theorem join_bool {M : Model} {A : Around} {c : Sem Bool} {Q : Bool → Shared → Prop} {E : Value → Shared → Prop} {s : Shared} (b : Bool) (P : Shared → Prop) (h1 : wpAny M A c (fun x s' => x = b ∧ P s') (fun _ _ => False) s) (h2 : ∀ s', P s' → Q b s') : wpAny M A c Q E s :=
  wpAny_mono h1 (fun x s' h => h.1 ▸ h2 s' h.2) (fun _ _ e => e.elim)
def SameAs (h₀ : Heap) (L : Addr) (m : Str → Option Value) (news : List (Addr × Obj)) (s s' : Shared) : Prop := ∃ h' tk', s' = { s with heap := h', toks := tk' } ∧ Fr h₀ L h' m ∧ News h₀ L h' news
theorem join_same {M : Model} {A : Around} {c : Sem Bool} {Q : Bool → Shared → Prop} {E : Value → Shared → Prop} {s : Shared} {h₀ : Heap} {L : Addr} {m : Str → Option Value} {news : List (Addr × Obj)} (b : Bool) (_F : Fr h₀ L s.heap m) (_N : News h₀ L s.heap news) (h1 : wpAny M A c (fun x s' => x = b ∧ SameAs h₀ L m news s s') (fun _ _ => False) s)
    (h2 : ∀ h' tk', Fr h₀ L h' m → News h₀ L h' news → Q b { s with heap := h', toks := tk' }) : wpAny M A c Q E s :=
  join_bool b _ h1 fun s' h => by obtain ⟨h', tk', rfl, F, N⟩ := h; exact h2 h' tk' F N

def SealN (M : Model) (A : Around) (rest : List Stmt) (env : Env) (Q : Flow → Shared → Prop) (E : Value → Shared → Prop) (Q' : Flow → Shared → Prop) : Prop := ∀ s', wpAny M A (execs rest env) Q E s' → Q' .next s'
def SealR (Q Q' : Flow → Shared → Prop) : Prop := ∀ v s', Q (.ret v) s' → Q' (.ret v) s'
def SealE (E E' : Value → Shared → Prop) : Prop := ∀ e s', E e s' → E' e s'
theorem SealN.use {M : Model} {A : Around} {rest : List Stmt} {env : Env} {Q Q' : Flow → Shared → Prop} {E : Value → Shared → Prop} {s' : Shared} (h : SealN M A rest env Q E Q') (g : wpAny M A (execs rest env) Q E s') : Q' .next s' := h s' g
theorem SealR.use {Q Q' : Flow → Shared → Prop} {v : Value} {s' : Shared} (h : SealR Q Q') (g : Q (.ret v) s') : Q' (.ret v) s' := h v s' g
theorem SealE.use {E E' : Value → Shared → Prop} {e : Value} {s' : Shared} (h : SealE E E') (g : E e s') : E' e s' := h e s' g
theorem seal_q {M : Model} {A : Around} {st : Stmt} {rest : List Stmt} {env : Env} {Q : Flow → Shared → Prop} {E : Value → Shared → Prop} {s : Shared}
    (h : ∀ (Q' : Flow → Shared → Prop), SealN M A rest env Q E Q' → SealR Q Q' → wpAny M A (exec st env) Q' E s) :
    wpAny M A (execs (st :: rest) env) Q E s :=
  wpAny_execs_cons (h _ (fun _ h => h) (fun _ _ h => h))
theorem seal_stmt {M : Model} {A : Around} {st : Stmt} {rest : List Stmt} {env : Env} {Q : Flow → Shared → Prop} {E : Value → Shared → Prop} {s : Shared}
    (h : ∀ (Q' : Flow → Shared → Prop) (E' : Value → Shared → Prop), SealN M A rest env Q E Q' → SealR Q Q' → SealE E E' → wpAny M A (exec st env) Q' E' s) :
    wpAny M A (execs (st :: rest) env) Q E s :=
  wpAny_execs_cons (h _ _ (fun _ h => h) (fun _ _ h => h) (fun _ _ h => h))

end
end Mine
end

section
open PySem PySem.W PyProof.Rows
open PySem.Calls
set_option maxRecDepth 100000
set_option maxHeartbeats 60000000
namespace Mine
open PySem.Challenge

section
variable {w : World} {s : Shared} {led own : List (Addr × Obj)}
    {Γ : Gm} {a0 a1 p0 p1 b0 b1 c0 c1 g0 g1 A0 A1 P0 P1 B0 B1 : Int} {v0 v1 : Value} {kvs : List (Int × Value)}

theorem open_ct (u : Bool) (hS : SL w Γ a0 a1 p0 p1 b0 b1 c0 c1 g0 g1 A0 A1 P0 P1 B0 B1 v0 v1 kvs led) (nd : Γ.addrs.Nodup) : Ct w 2 99 [.ref Γ.x, .bool u] led (fun v led' => (cond u a1 a0 ≤ cond u b1 b0 ∧ v = .none ∧ SL w Γ a0 a1 p0 p1 b0 b1 c0 c1 g0 g1 A0 A1 P0 P1 B0 B1 v0 v1 kvs led') ∨ (cond u b1 b0 < cond u a1 a0 ∧ (∃ t', v = .int (4 * cond u b1 b0 + (if Γ.r then 1 else 0) + (if u then 2 else 0)) t') ∧ SL w Γ a0 a1 p0 p1 (cond u b0 (cond u b1 b0 + 1)) (cond u (cond u b1 b0 + 1) b1) c0 c1 g0 g1 A0 A1 P0 P1 B0 B1 v0 v1 kvs led')) := by
  k_with_none
  k_with "execs cons" => (k_here; (try k_gentoks); refine seal_stmt ?_; intro Q9 E9 hN9 hR9 hE9; k_dflt (k_steps; all_goals (first | (refine SealN.use (by with_reducible assumption) ?_) | (refine SealR.use (by with_reducible assumption) ?_) | (refine SealE.use (by with_reducible assumption) ?_) | skip); all_goals (try dsimp only)))
  k_with "getAttr ref" => (k_here; (with_reducible show wpAny _ _ (getAttr (Value.ref (Gm.x _)) (PySem.Str.ofString "role") _) _ _ _); k_dflt (refine' attr_role (by k_asm) (by k_asm) (by with_reducible assumption) (by k_asm) (by repeat' first | exact sub_refl | refine sub_keep ?_ | refine sub_skip ?_) ?_))
  k_with "getAttr ref" => (k_here; (with_reducible show wpAny _ _ (getAttr (Value.ref (Gm.x _)) (PySem.Str.ofString "own_limits") _) _ _ _); k_dflt (refine' attr_own_limits (by k_asm) (by k_asm) (by with_reducible assumption) (by k_asm) (by repeat' first | exact sub_refl | refine sub_keep ?_ | refine sub_skip ?_) ?_))
  k_with "getAttr ref" => (k_here; (with_reducible show wpAny _ _ (getAttr (Value.ref (Gm.x _)) (PySem.Str.ofString "peer_limits") _) _ _ _); k_dflt (refine' attr_peer_limits (by k_asm) (by k_asm) (by with_reducible assumption) (by k_asm) (by repeat' first | exact sub_refl | refine sub_keep ?_ | refine sub_skip ?_) ?_))
  k_with "getAttr ref" => (k_here; (with_reducible show wpAny _ _ (getAttr (Value.ref (Gm.x _)) (PySem.Str.ofString "own_many") _) _ _ _); k_dflt (refine' attr_own_many (by k_asm) (by k_asm) (by with_reducible assumption) (by k_asm) (by repeat' first | exact sub_refl | refine sub_keep ?_ | refine sub_skip ?_) ?_))
  k_with "getAttr ref" => (k_here; (with_reducible show wpAny _ _ (getAttr (Value.ref (Gm.x _)) (PySem.Str.ofString "peer_many") _) _ _ _); k_dflt (refine' attr_peer_many (by k_asm) (by k_asm) (by with_reducible assumption) (by k_asm) (by repeat' first | exact sub_refl | refine sub_keep ?_ | refine sub_skip ?_) ?_))
  k_with "getAttr ref" => (k_here; (with_reducible show wpAny _ _ (getAttr (Value.ref (Gm.x _)) (PySem.Str.ofString "closed_many") _) _ _ _); k_dflt (refine' attr_closed_many (by k_asm) (by k_asm) (by with_reducible assumption) (by k_asm) (by repeat' first | exact sub_refl | refine sub_keep ?_ | refine sub_skip ?_) ?_))
  k_with "getAttr ref" => (k_here; (with_reducible show wpAny _ _ (getAttr (Value.ref (Gm.x _)) (PySem.Str.ofString "granted") _) _ _ _); k_dflt (refine' attr_granted (by k_asm) (by k_asm) (by with_reducible assumption) (by k_asm) (by repeat' first | exact sub_refl | refine sub_keep ?_ | refine sub_skip ?_) ?_))
  k_with "call type:int" => (k_here; (with_reducible show wpAny _ _ (call (Value.type "int") [Value.bool _]) _ _ _); k_dflt (refine' int_cond ?_))
  k_with "subscriptTail Attribute" => (k_here; k_dflt (refine kba_turn (value' := PySem.Expr.Name (PySem.Str.ofString "_") ⟨0, 0, 0, 0⟩) (fun _ => rfl) ?_))
  k_with "subscriptTail" => (k_here; (with_reducible show wpAny _ _ (subscriptTail _ _ (Value.ref (Gm.om _)) (Value.int (cond _ 1 0) _)) _ _ _); k_dflt (refine' item_L (SL.om (by with_reducible assumption)) (by k_asm) (by repeat' first | exact sub_refl | refine sub_keep ?_ | refine sub_skip ?_) (by intro _; with_unfolding_all rfl) (by intro _; with_unfolding_all rfl) ?_); intro t9)
  k_with "subscriptTail" => (k_here; (with_reducible show wpAny _ _ (subscriptTail _ _ (Value.ref (Gm.ol _)) (Value.int (cond _ 1 0) _)) _ _ _); k_dflt (refine' item_L (SL.ol (by with_reducible assumption)) (by k_asm) (by repeat' first | exact sub_refl | refine sub_keep ?_ | refine sub_skip ?_) (by intro _; with_unfolding_all rfl) (by intro _; with_unfolding_all rfl) ?_); intro t9)
  k_with "getItem ref int" => (k_here; (with_reducible show wpAny _ _ (PySem.getItem (Value.ref (Gm.om _)) (Value.int (cond _ 1 0) _)) _ _ _); k_dflt (refine' get_L (SL.om (by with_reducible assumption)) (by k_asm) (by repeat' first | exact sub_refl | refine sub_keep ?_ | refine sub_skip ?_) ?_); intro t9)
  k_with "setItem ref int" => (k_here; (with_reducible show wpAny _ _ (PySem.setItem (Value.ref (Gm.om _)) (Value.int (cond _ 1 0) _) (Value.int _ _)) _ _ _); k_dflt (refine' set_om (by k_asm) (by with_reducible assumption) (by with_reducible assumption) (by k_asm) (by repeat' first | exact sub_refl | refine sub_keep ?_ | refine sub_skip ?_) ?_); intro led9 h9 S9 F9 N9; (try dsimp only))
  k_with "call ref" => (k_here; (with_reducible show wpAny _ _ (call (Value.ref 43) _) _ _ _); k_dflt (refine' Pure.use (stream_id_ct _ _ _ _ _ _) (by k_asm) (by k_asm) (by k_asm) (by k_asm) (by k_asm) (by first | exact rfl | assumption) (by ktr_room) (by ktr_units) ?_); intro t9 h9 tk9 F9 N9; (try dsimp only); (try k_fold))
  dsimp only [Ct]
  revert hS
  k_fill
  intro hS dp un gd cn cs a ccd cl outer A₀ base h₀ L m s own Q E mean mg mb B F X N T hk hd hu hoff hret
  have hA : Ap Γ own := ⟨nd, hS.adr ▸ hoff⟩
  refine wpAny_call ?_
  k_dflt cell_enter
  k_steps
  all_goals first
    | exact hret _ _ _ _ (.inl ⟨by assumption, rfl, by with_reducible assumption⟩) (by assumption) (cb_drop (by assumption) (by repeat' first | exact sub_refl | refine sub_keep ?_ | refine sub_skip ?_))
    | (refine fin_int (hret _ _ _ _ (.inr ⟨by omega, ⟨_, rfl⟩, by with_reducible assumption⟩) (by assumption) (cb_drop (by assumption) (by repeat' first | exact sub_refl | refine sub_keep ?_ | refine sub_skip ?_))) ?_; (cases u <;> simp; done))

theorem raise_ct (u : Bool) (lim : Int) (tl : Tok) (hS : SL w Γ a0 a1 p0 p1 b0 b1 c0 c1 g0 g1 A0 A1 P0 P1 B0 B1 v0 v1 kvs led) (nd : Γ.addrs.Nodup) : Ct w 1 106 [.ref Γ.x, .bool u, .int lim tl] led (fun v led' => v = .none ∧ SL w Γ (cond u a0 (if lim > cond u a1 a0 then lim else cond u a1 a0)) (cond u (if lim > cond u a1 a0 then lim else cond u a1 a0) a1) p0 p1 b0 b1 c0 c1 g0 g1 A0 A1 P0 P1 B0 B1 v0 v1 kvs led') := by
  k_with_none
  k_with "execs cons" => (k_here; (try k_gentoks); refine seal_stmt ?_; intro Q9 E9 hN9 hR9 hE9; k_dflt (k_steps; all_goals (first | (refine SealN.use (by with_reducible assumption) ?_) | (refine SealR.use (by with_reducible assumption) ?_) | (refine SealE.use (by with_reducible assumption) ?_) | skip); all_goals (try dsimp only)))
  k_with "getAttr ref" => (k_here; (with_reducible show wpAny _ _ (getAttr (Value.ref (Gm.x _)) (PySem.Str.ofString "role") _) _ _ _); k_dflt (refine' attr_role (by k_asm) (by k_asm) (by with_reducible assumption) (by k_asm) (by repeat' first | exact sub_refl | refine sub_keep ?_ | refine sub_skip ?_) ?_))
  k_with "getAttr ref" => (k_here; (with_reducible show wpAny _ _ (getAttr (Value.ref (Gm.x _)) (PySem.Str.ofString "own_limits") _) _ _ _); k_dflt (refine' attr_own_limits (by k_asm) (by k_asm) (by with_reducible assumption) (by k_asm) (by repeat' first | exact sub_refl | refine sub_keep ?_ | refine sub_skip ?_) ?_))
  k_with "getAttr ref" => (k_here; (with_reducible show wpAny _ _ (getAttr (Value.ref (Gm.x _)) (PySem.Str.ofString "peer_limits") _) _ _ _); k_dflt (refine' attr_peer_limits (by k_asm) (by k_asm) (by with_reducible assumption) (by k_asm) (by repeat' first | exact sub_refl | refine sub_keep ?_ | refine sub_skip ?_) ?_))
  k_with "getAttr ref" => (k_here; (with_reducible show wpAny _ _ (getAttr (Value.ref (Gm.x _)) (PySem.Str.ofString "own_many") _) _ _ _); k_dflt (refine' attr_own_many (by k_asm) (by k_asm) (by with_reducible assumption) (by k_asm) (by repeat' first | exact sub_refl | refine sub_keep ?_ | refine sub_skip ?_) ?_))
  k_with "getAttr ref" => (k_here; (with_reducible show wpAny _ _ (getAttr (Value.ref (Gm.x _)) (PySem.Str.ofString "peer_many") _) _ _ _); k_dflt (refine' attr_peer_many (by k_asm) (by k_asm) (by with_reducible assumption) (by k_asm) (by repeat' first | exact sub_refl | refine sub_keep ?_ | refine sub_skip ?_) ?_))
  k_with "getAttr ref" => (k_here; (with_reducible show wpAny _ _ (getAttr (Value.ref (Gm.x _)) (PySem.Str.ofString "closed_many") _) _ _ _); k_dflt (refine' attr_closed_many (by k_asm) (by k_asm) (by with_reducible assumption) (by k_asm) (by repeat' first | exact sub_refl | refine sub_keep ?_ | refine sub_skip ?_) ?_))
  k_with "getAttr ref" => (k_here; (with_reducible show wpAny _ _ (getAttr (Value.ref (Gm.x _)) (PySem.Str.ofString "granted") _) _ _ _); k_dflt (refine' attr_granted (by k_asm) (by k_asm) (by with_reducible assumption) (by k_asm) (by repeat' first | exact sub_refl | refine sub_keep ?_ | refine sub_skip ?_) ?_))
  k_with "call type:int" => (k_here; (with_reducible show wpAny _ _ (call (Value.type "int") [Value.bool _]) _ _ _); k_dflt (refine' int_cond ?_))
  k_with "subscriptTail Attribute" => (k_here; k_dflt (refine kba_turn (value' := PySem.Expr.Name (PySem.Str.ofString "_") ⟨0, 0, 0, 0⟩) (fun _ => rfl) ?_))
  k_with "subscriptTail" => (k_here; (with_reducible show wpAny _ _ (subscriptTail _ _ (Value.ref (Gm.ol _)) (Value.int (cond _ 1 0) _)) _ _ _); k_dflt (refine' item_L (SL.ol (by with_reducible assumption)) (by k_asm) (by repeat' first | exact sub_refl | refine sub_keep ?_ | refine sub_skip ?_) (by intro _; with_unfolding_all rfl) (by intro _; with_unfolding_all rfl) ?_); intro t9)
  k_with "getItem ref int" => (k_here; (with_reducible show wpAny _ _ (PySem.getItem (Value.ref (Gm.ol _)) (Value.int (cond _ 1 0) _)) _ _ _); k_dflt (refine' get_L (SL.ol (by with_reducible assumption)) (by k_asm) (by repeat' first | exact sub_refl | refine sub_keep ?_ | refine sub_skip ?_) ?_); intro t9)
  k_with "setItem ref int" => (k_here; (with_reducible show wpAny _ _ (PySem.setItem (Value.ref (Gm.ol _)) (Value.int (cond _ 1 0) _) (Value.int _ _)) _ _ _); k_dflt (refine' set_ol (by k_asm) (by with_reducible assumption) (by with_reducible assumption) (by k_asm) (by repeat' first | exact sub_refl | refine sub_keep ?_ | refine sub_skip ?_) ?_); intro led9 h9 S9 F9 N9; (try dsimp only))
  dsimp only [Ct]
  revert hS
  k_fill
  intro hS dp un gd cn cs a ccd cl outer A₀ base h₀ L m s own Q E mean mg mb B F X N T hk hd hu hoff hret
  have hA : Ap Γ own := ⟨nd, hS.adr ▸ hoff⟩
  refine wpAny_call ?_
  k_dflt cell_enter
  k_steps
  all_goals first
    | exact hret _ _ _ _ ⟨rfl, by with_reducible assumption⟩ (by assumption) (cb_drop (by assumption) (by repeat' first | exact sub_refl | refine sub_keep ?_ | refine sub_skip ?_))

theorem closed_ct (u : Bool) (sid : Int) (ts : Tok) (hS : SL w Γ a0 a1 p0 p1 b0 b1 c0 c1 g0 g1 A0 A1 P0 P1 B0 B1 v0 v1 kvs led) (nd : Γ.addrs.Nodup) (hs : decide (sid.fmod 2 = 1) = !Γ.r) (hu : decide ((sid.fdiv 2).fmod 2 = 1) = u) : Ct w 2 118 [.ref Γ.x, .int sid ts] led (fun v led' => v = .none ∧ SL w Γ a0 a1 (cond u p0 (cond u p1 p0 + 1)) (cond u (cond u p1 p0 + 1) p1) b0 b1 c0 c1 g0 g1 A0 A1 P0 P1 B0 B1 v0 v1 kvs led') := by
  k_with_none
  k_with "execs cons" => (k_here; (try k_gentoks); refine seal_stmt ?_; intro Q9 E9 hN9 hR9 hE9; k_dflt (k_steps; all_goals (first | (refine SealN.use (by with_reducible assumption) ?_) | (refine SealR.use (by with_reducible assumption) ?_) | (refine SealE.use (by with_reducible assumption) ?_) | skip); all_goals (try dsimp only)))
  k_with "getAttr ref" => (k_here; (with_reducible show wpAny _ _ (getAttr (Value.ref (Gm.x _)) (PySem.Str.ofString "role") _) _ _ _); k_dflt (refine' attr_role (by k_asm) (by k_asm) (by with_reducible assumption) (by k_asm) (by repeat' first | exact sub_refl | refine sub_keep ?_ | refine sub_skip ?_) ?_))
  k_with "getAttr ref" => (k_here; (with_reducible show wpAny _ _ (getAttr (Value.ref (Gm.x _)) (PySem.Str.ofString "own_limits") _) _ _ _); k_dflt (refine' attr_own_limits (by k_asm) (by k_asm) (by with_reducible assumption) (by k_asm) (by repeat' first | exact sub_refl | refine sub_keep ?_ | refine sub_skip ?_) ?_))
  k_with "getAttr ref" => (k_here; (with_reducible show wpAny _ _ (getAttr (Value.ref (Gm.x _)) (PySem.Str.ofString "peer_limits") _) _ _ _); k_dflt (refine' attr_peer_limits (by k_asm) (by k_asm) (by with_reducible assumption) (by k_asm) (by repeat' first | exact sub_refl | refine sub_keep ?_ | refine sub_skip ?_) ?_))
  k_with "getAttr ref" => (k_here; (with_reducible show wpAny _ _ (getAttr (Value.ref (Gm.x _)) (PySem.Str.ofString "own_many") _) _ _ _); k_dflt (refine' attr_own_many (by k_asm) (by k_asm) (by with_reducible assumption) (by k_asm) (by repeat' first | exact sub_refl | refine sub_keep ?_ | refine sub_skip ?_) ?_))
  k_with "getAttr ref" => (k_here; (with_reducible show wpAny _ _ (getAttr (Value.ref (Gm.x _)) (PySem.Str.ofString "peer_many") _) _ _ _); k_dflt (refine' attr_peer_many (by k_asm) (by k_asm) (by with_reducible assumption) (by k_asm) (by repeat' first | exact sub_refl | refine sub_keep ?_ | refine sub_skip ?_) ?_))
  k_with "getAttr ref" => (k_here; (with_reducible show wpAny _ _ (getAttr (Value.ref (Gm.x _)) (PySem.Str.ofString "closed_many") _) _ _ _); k_dflt (refine' attr_closed_many (by k_asm) (by k_asm) (by with_reducible assumption) (by k_asm) (by repeat' first | exact sub_refl | refine sub_keep ?_ | refine sub_skip ?_) ?_))
  k_with "getAttr ref" => (k_here; (with_reducible show wpAny _ _ (getAttr (Value.ref (Gm.x _)) (PySem.Str.ofString "granted") _) _ _ _); k_dflt (refine' attr_granted (by k_asm) (by k_asm) (by with_reducible assumption) (by k_asm) (by repeat' first | exact sub_refl | refine sub_keep ?_ | refine sub_skip ?_) ?_))
  k_with "call type:int" => (k_here; (with_reducible show wpAny _ _ (call (Value.type "int") [Value.bool _]) _ _ _); k_dflt (refine' int_cond ?_))
  k_with "subscriptTail Attribute" => (k_here; k_dflt (refine kba_turn (value' := PySem.Expr.Name (PySem.Str.ofString "_") ⟨0, 0, 0, 0⟩) (fun _ => rfl) ?_))
  k_with "getItem ref int" => (k_here; (with_reducible show wpAny _ _ (PySem.getItem (Value.ref (Gm.pl _)) (Value.int (cond _ 1 0) _)) _ _ _); k_dflt (refine' get_L (SL.pl (by with_reducible assumption)) (by k_asm) (by repeat' first | exact sub_refl | refine sub_keep ?_ | refine sub_skip ?_) ?_); intro t9)
  k_with "setItem ref int" => (k_here; (with_reducible show wpAny _ _ (PySem.setItem (Value.ref (Gm.pl _)) (Value.int (cond _ 1 0) _) (Value.int _ _)) _ _ _); k_dflt (refine' set_pl (by k_asm) (by with_reducible assumption) (by with_reducible assumption) (by k_asm) (by repeat' first | exact sub_refl | refine sub_keep ?_ | refine sub_skip ?_) ?_); intro led9 h9 S9 F9 N9; (try dsimp only))
  k_with "getItem ref int" => (k_here; (with_reducible show wpAny _ _ (PySem.getItem (Value.ref (Gm.cm _)) (Value.int (cond _ 1 0) _)) _ _ _); k_dflt (refine' item_cm (by with_reducible assumption) (by k_asm) (by repeat' first | exact sub_refl | refine sub_keep ?_ | refine sub_skip ?_) ?_); intro v9 t9)
  k_with "setItem ref int" => (k_here; (with_reducible show wpAny _ _ (PySem.setItem (Value.ref (Gm.cm _)) (Value.int (cond _ 1 0) _) (Value.int _ _)) _ _ _); k_dflt (refine' set_cm (by k_asm) (by with_reducible assumption) (by with_reducible assumption) (by k_asm) (by repeat' first | exact sub_refl | refine sub_keep ?_ | refine sub_skip ?_) ?_); intro led9 h9 S9 F9 N9; (try dsimp only))
  k_with "call ref" => (k_here; (with_reducible show wpAny _ _ (call (Value.ref 57) _) _ _ _); k_dflt (refine' Pure.use (opener_at _ _ _ _ (by with_reducible assumption)) (by k_asm) (by k_asm) (by k_asm) (by k_asm) (by k_asm) (by first | exact rfl | assumption) (by ktr_room) (by ktr_units) ?_); intro t9 h9 tk9 F9 N9; (try dsimp only); (try k_fold))
  k_with "call ref" => (k_here; (with_reducible show wpAny _ _ (call (Value.ref 64) _) _ _ _); k_dflt (refine' Pure.use (one_way_at _ _ _ _ (by with_reducible assumption)) (by k_asm) (by k_asm) (by k_asm) (by k_asm) (by k_asm) (by first | exact rfl | assumption) (by ktr_room) (by ktr_units) ?_); intro t9 h9 tk9 F9 N9; (try dsimp only); (try k_fold))
  k_with "compareOp NotEq str str" => (k_here; (with_reducible show wpAny _ _ (compareOp _ (Value.str (roleStr (!_)) _) (Value.str (roleStr _) _)) _ _ _); k_dflt (refine ne_role ?_))
  dsimp only [Ct]
  revert hS
  k_fill
  intro hS dp un gd cn cs a ccd cl outer A₀ base h₀ L m s own Q E mean mg mb B F X N T hk hd hu hoff hret
  have hA : Ap Γ own := ⟨nd, hS.adr ▸ hoff⟩
  refine wpAny_call ?_
  k_dflt cell_enter
  k_steps
  all_goals first
    | exact hret _ _ _ _ ⟨rfl, by with_reducible assumption⟩ (by assumption) (cb_drop (by assumption) (by repeat' first | exact sub_refl | refine sub_keep ?_ | refine sub_skip ?_))

theorem grant_ct (u : Bool) (hS : SL w Γ a0 a1 p0 p1 b0 b1 c0 c1 g0 g1 A0 A1 P0 P1 B0 B1 v0 v1 kvs led) (nd : Γ.addrs.Nodup) : Ct w 1 125 [.ref Γ.x, .bool u] led (fun v led' => (cond u g1 g0 = cond u p1 p0 ∧ v = .none ∧ SL w Γ a0 a1 p0 p1 b0 b1 c0 c1 g0 g1 A0 A1 P0 P1 B0 B1 v0 v1 kvs led') ∨ (cond u g1 g0 ≠ cond u p1 p0 ∧ (∃ t', v = .int (cond u p1 p0) t') ∧ SL w Γ a0 a1 p0 p1 b0 b1 c0 c1 (cond u g0 (cond u p1 p0)) (cond u (cond u p1 p0) g1) A0 A1 P0 P1 B0 B1 v0 v1 kvs led')) := by
  k_with_none
  k_with "execs cons" => (k_here; (try k_gentoks); refine seal_stmt ?_; intro Q9 E9 hN9 hR9 hE9; k_dflt (k_steps; all_goals (first | (refine SealN.use (by with_reducible assumption) ?_) | (refine SealR.use (by with_reducible assumption) ?_) | (refine SealE.use (by with_reducible assumption) ?_) | skip); all_goals (try dsimp only)))
  k_with "getAttr ref" => (k_here; (with_reducible show wpAny _ _ (getAttr (Value.ref (Gm.x _)) (PySem.Str.ofString "role") _) _ _ _); k_dflt (refine' attr_role (by k_asm) (by k_asm) (by with_reducible assumption) (by k_asm) (by repeat' first | exact sub_refl | refine sub_keep ?_ | refine sub_skip ?_) ?_))
  k_with "getAttr ref" => (k_here; (with_reducible show wpAny _ _ (getAttr (Value.ref (Gm.x _)) (PySem.Str.ofString "own_limits") _) _ _ _); k_dflt (refine' attr_own_limits (by k_asm) (by k_asm) (by with_reducible assumption) (by k_asm) (by repeat' first | exact sub_refl | refine sub_keep ?_ | refine sub_skip ?_) ?_))
  k_with "getAttr ref" => (k_here; (with_reducible show wpAny _ _ (getAttr (Value.ref (Gm.x _)) (PySem.Str.ofString "peer_limits") _) _ _ _); k_dflt (refine' attr_peer_limits (by k_asm) (by k_asm) (by with_reducible assumption) (by k_asm) (by repeat' first | exact sub_refl | refine sub_keep ?_ | refine sub_skip ?_) ?_))
  k_with "getAttr ref" => (k_here; (with_reducible show wpAny _ _ (getAttr (Value.ref (Gm.x _)) (PySem.Str.ofString "own_many") _) _ _ _); k_dflt (refine' attr_own_many (by k_asm) (by k_asm) (by with_reducible assumption) (by k_asm) (by repeat' first | exact sub_refl | refine sub_keep ?_ | refine sub_skip ?_) ?_))
  k_with "getAttr ref" => (k_here; (with_reducible show wpAny _ _ (getAttr (Value.ref (Gm.x _)) (PySem.Str.ofString "peer_many") _) _ _ _); k_dflt (refine' attr_peer_many (by k_asm) (by k_asm) (by with_reducible assumption) (by k_asm) (by repeat' first | exact sub_refl | refine sub_keep ?_ | refine sub_skip ?_) ?_))
  k_with "getAttr ref" => (k_here; (with_reducible show wpAny _ _ (getAttr (Value.ref (Gm.x _)) (PySem.Str.ofString "closed_many") _) _ _ _); k_dflt (refine' attr_closed_many (by k_asm) (by k_asm) (by with_reducible assumption) (by k_asm) (by repeat' first | exact sub_refl | refine sub_keep ?_ | refine sub_skip ?_) ?_))
  k_with "getAttr ref" => (k_here; (with_reducible show wpAny _ _ (getAttr (Value.ref (Gm.x _)) (PySem.Str.ofString "granted") _) _ _ _); k_dflt (refine' attr_granted (by k_asm) (by k_asm) (by with_reducible assumption) (by k_asm) (by repeat' first | exact sub_refl | refine sub_keep ?_ | refine sub_skip ?_) ?_))
  k_with "call type:int" => (k_here; (with_reducible show wpAny _ _ (call (Value.type "int") [Value.bool _]) _ _ _); k_dflt (refine' int_cond ?_))
  k_with "subscriptTail Attribute" => (k_here; k_dflt (refine kba_turn (value' := PySem.Expr.Name (PySem.Str.ofString "_") ⟨0, 0, 0, 0⟩) (fun _ => rfl) ?_))
  k_with "subscriptTail" => (k_here; (with_reducible show wpAny _ _ (subscriptTail _ _ (Value.ref (Gm.gr _)) (Value.int (cond _ 1 0) _)) _ _ _); k_dflt (refine' item_L (SL.gr (by with_reducible assumption)) (by k_asm) (by repeat' first | exact sub_refl | refine sub_keep ?_ | refine sub_skip ?_) (by intro _; with_unfolding_all rfl) (by intro _; with_unfolding_all rfl) ?_); intro t9)
  k_with "subscriptTail" => (k_here; (with_reducible show wpAny _ _ (subscriptTail _ _ (Value.ref (Gm.pl _)) (Value.int (cond _ 1 0) _)) _ _ _); k_dflt (refine' item_L (SL.pl (by with_reducible assumption)) (by k_asm) (by repeat' first | exact sub_refl | refine sub_keep ?_ | refine sub_skip ?_) (by intro _; with_unfolding_all rfl) (by intro _; with_unfolding_all rfl) ?_); intro t9)
  k_with "setItem ref int" => (k_here; (with_reducible show wpAny _ _ (PySem.setItem (Value.ref (Gm.gr _)) (Value.int (cond _ 1 0) _) (Value.int _ _)) _ _ _); k_dflt (refine' set_gr (by k_asm) (by with_reducible assumption) (by with_reducible assumption) (by k_asm) (by repeat' first | exact sub_refl | refine sub_keep ?_ | refine sub_skip ?_) ?_); intro led9 h9 S9 F9 N9; (try dsimp only))
  dsimp only [Ct]
  revert hS
  k_fill
  intro hS dp un gd cn cs a ccd cl outer A₀ base h₀ L m s own Q E mean mg mb B F X N T hk hd hu hoff hret
  have hA : Ap Γ own := ⟨nd, hS.adr ▸ hoff⟩
  refine wpAny_call ?_
  k_dflt cell_enter
  k_steps
  all_goals first
    | exact hret _ _ _ _ (.inl ⟨by assumption, rfl, by with_reducible assumption⟩) (by assumption) (cb_drop (by assumption) (by repeat' first | exact sub_refl | refine sub_keep ?_ | refine sub_skip ?_))
    | (refine fin_int (hret _ _ _ _ (.inr ⟨by assumption, ⟨_, rfl⟩, by with_reducible assumption⟩) (by assumption) (cb_drop (by assumption) (by repeat' first | exact sub_refl | refine sub_keep ?_ | refine sub_skip ?_))) ?_; (cases u <;> rfl; done))

theorem lost_ct (u : Bool) (lim : Int) (tl : Tok) (hS : SL w Γ a0 a1 p0 p1 b0 b1 c0 c1 g0 g1 A0 A1 P0 P1 B0 B1 v0 v1 kvs led) (nd : Γ.addrs.Nodup) : Ct w 1 132 [.ref Γ.x, .bool u, .int lim tl] led (fun v led' => v = .none ∧ ((cond u g1 g0 ≠ lim ∧ SL w Γ a0 a1 p0 p1 b0 b1 c0 c1 g0 g1 A0 A1 P0 P1 B0 B1 v0 v1 kvs led') ∨ (cond u g1 g0 = lim ∧ SL w Γ a0 a1 p0 p1 b0 b1 c0 c1 (cond u g0 (lim - 1)) (cond u (lim - 1) g1) A0 A1 P0 P1 B0 B1 v0 v1 kvs led'))) := by
  k_with_none
  k_with "execs cons" => (k_here; (try k_gentoks); refine seal_stmt ?_; intro Q9 E9 hN9 hR9 hE9; k_dflt (k_steps; all_goals (first | (refine SealN.use (by with_reducible assumption) ?_) | (refine SealR.use (by with_reducible assumption) ?_) | (refine SealE.use (by with_reducible assumption) ?_) | skip); all_goals (try dsimp only)))
  k_with "getAttr ref" => (k_here; (with_reducible show wpAny _ _ (getAttr (Value.ref (Gm.x _)) (PySem.Str.ofString "role") _) _ _ _); k_dflt (refine' attr_role (by k_asm) (by k_asm) (by with_reducible assumption) (by k_asm) (by repeat' first | exact sub_refl | refine sub_keep ?_ | refine sub_skip ?_) ?_))
  k_with "getAttr ref" => (k_here; (with_reducible show wpAny _ _ (getAttr (Value.ref (Gm.x _)) (PySem.Str.ofString "own_limits") _) _ _ _); k_dflt (refine' attr_own_limits (by k_asm) (by k_asm) (by with_reducible assumption) (by k_asm) (by repeat' first | exact sub_refl | refine sub_keep ?_ | refine sub_skip ?_) ?_))
  k_with "getAttr ref" => (k_here; (with_reducible show wpAny _ _ (getAttr (Value.ref (Gm.x _)) (PySem.Str.ofString "peer_limits") _) _ _ _); k_dflt (refine' attr_peer_limits (by k_asm) (by k_asm) (by with_reducible assumption) (by k_asm) (by repeat' first | exact sub_refl | refine sub_keep ?_ | refine sub_skip ?_) ?_))
  k_with "getAttr ref" => (k_here; (with_reducible show wpAny _ _ (getAttr (Value.ref (Gm.x _)) (PySem.Str.ofString "own_many") _) _ _ _); k_dflt (refine' attr_own_many (by k_asm) (by k_asm) (by with_reducible assumption) (by k_asm) (by repeat' first | exact sub_refl | refine sub_keep ?_ | refine sub_skip ?_) ?_))
  k_with "getAttr ref" => (k_here; (with_reducible show wpAny _ _ (getAttr (Value.ref (Gm.x _)) (PySem.Str.ofString "peer_many") _) _ _ _); k_dflt (refine' attr_peer_many (by k_asm) (by k_asm) (by with_reducible assumption) (by k_asm) (by repeat' first | exact sub_refl | refine sub_keep ?_ | refine sub_skip ?_) ?_))
  k_with "getAttr ref" => (k_here; (with_reducible show wpAny _ _ (getAttr (Value.ref (Gm.x _)) (PySem.Str.ofString "closed_many") _) _ _ _); k_dflt (refine' attr_closed_many (by k_asm) (by k_asm) (by with_reducible assumption) (by k_asm) (by repeat' first | exact sub_refl | refine sub_keep ?_ | refine sub_skip ?_) ?_))
  k_with "getAttr ref" => (k_here; (with_reducible show wpAny _ _ (getAttr (Value.ref (Gm.x _)) (PySem.Str.ofString "granted") _) _ _ _); k_dflt (refine' attr_granted (by k_asm) (by k_asm) (by with_reducible assumption) (by k_asm) (by repeat' first | exact sub_refl | refine sub_keep ?_ | refine sub_skip ?_) ?_))
  k_with "call type:int" => (k_here; (with_reducible show wpAny _ _ (call (Value.type "int") [Value.bool _]) _ _ _); k_dflt (refine' int_cond ?_))
  k_with "subscriptTail Attribute" => (k_here; k_dflt (refine kba_turn (value' := PySem.Expr.Name (PySem.Str.ofString "_") ⟨0, 0, 0, 0⟩) (fun _ => rfl) ?_))
  k_with "subscriptTail" => (k_here; (with_reducible show wpAny _ _ (subscriptTail _ _ (Value.ref (Gm.gr _)) (Value.int (cond _ 1 0) _)) _ _ _); k_dflt (refine' item_L (SL.gr (by with_reducible assumption)) (by k_asm) (by repeat' first | exact sub_refl | refine sub_keep ?_ | refine sub_skip ?_) (by intro _; with_unfolding_all rfl) (by intro _; with_unfolding_all rfl) ?_); intro t9)
  k_with "setItem ref int" => (k_here; (with_reducible show wpAny _ _ (PySem.setItem (Value.ref (Gm.gr _)) (Value.int (cond _ 1 0) _) (Value.int _ _)) _ _ _); k_dflt (refine' set_gr (by k_asm) (by with_reducible assumption) (by with_reducible assumption) (by k_asm) (by repeat' first | exact sub_refl | refine sub_keep ?_ | refine sub_skip ?_) ?_); intro led9 h9 S9 F9 N9; (try dsimp only))
  dsimp only [Ct]
  revert hS
  k_fill
  intro hS dp un gd cn cs a ccd cl outer A₀ base h₀ L m s own Q E mean mg mb B F X N T hk hd hu hoff hret
  have hA : Ap Γ own := ⟨nd, hS.adr ▸ hoff⟩
  refine wpAny_call ?_
  k_dflt cell_enter
  k_steps
  all_goals first
    | exact hret _ _ _ _ ⟨rfl, .inl ⟨by assumption, by with_reducible assumption⟩⟩ (by assumption) (cb_drop (by assumption) (by repeat' first | exact sub_refl | refine sub_keep ?_ | refine sub_skip ?_))
    | exact hret _ _ _ _ ⟨rfl, .inr ⟨by assumption, by with_reducible assumption⟩⟩ (by assumption) (cb_drop (by assumption) (by repeat' first | exact sub_refl | refine sub_keep ?_ | refine sub_skip ?_))

local macro_rules | `(tactic| k_all) => `(tactic| exact cell_ne (by assumption) (by with_reducible assumption) (by with_reducible assumption) (by omega))

theorem given_ct (u : Bool) (sid : Int) (ts : Tok) (o : Bool) (ho : decide (sid.fmod 2 = 1) = o) (hu : decide ((sid.fdiv 2).fmod 2 = 1) = u) (h0 : 0 ≤ sid) (h24 : sid < 24) (kd : Tok) (kind : Str) (fs : Bool) (hkd : KindOk kind fs) (z0 : 0 ≤ c0) (z1 : c0 ≤ 6) (z2 : 0 ≤ c1) (z3 : c1 ≤ 6) (hS : SL w Γ a0 a1 p0 p1 b0 b1 c0 c1 g0 g1 A0 A1 P0 P1 B0 B1 v0 v1 kvs led) (nd : Γ.addrs.Nodup) :
    CtT w 5 167 [.ref Γ.x, .str kind kd, .int sid ts] led (fun v res _ =>
      (∃ c t, v = .int c t ∧ refused (!(u && ((o == Γ.r) != fs))) (o == Γ.r) (sid.fdiv 4) (cond u b1 b0) (cond u p1 p0) = some c ∧ SL w Γ a0 a1 p0 p1 b0 b1 c0 c1 g0 g1 A0 A1 P0 P1 B0 B1 v0 v1 kvs res) ∨
      (∃ D n' led2, v = .ref D ∧ refused (!(u && ((o == Γ.r) != fs))) (o == Γ.r) (sid.fdiv 4) (cond u b1 b0) (cond u p1 p0) = none ∧ (o == Γ.r) = true ∧ res = (D, listOf #[] n') :: led2 ∧ SL w Γ a0 a1 p0 p1 b0 b1 c0 c1 g0 g1 A0 A1 P0 P1 B0 B1 v0 v1 kvs led2 ∧ OwnOff [(D, listOf #[] n')] Γ.addrs) ∨
      (∃ D ys n' led2, v = .ref D ∧ refused (!(u && ((o == Γ.r) != fs))) (o == Γ.r) (sid.fdiv 4) (cond u b1 b0) (cond u p1 p0) = none ∧ (o == Γ.r) = false ∧ IntsAre ys ((rangeKs (cond u c1 c0) (sid.fdiv 4 + 1 - cond u c1 c0).toNat).map fun k' => 4 * k' + (if o = true then 1 else 0) + (if u = true then 2 else 0)) ∧ res = (D, listOf (List.toArray ys) n') :: led2 ∧ SL w Γ a0 a1 p0 p1 b0 b1 (cond u c0 (if sid.fdiv 4 + 1 > cond u c1 c0 then sid.fdiv 4 + 1 else cond u c1 c0)) (cond u (if sid.fdiv 4 + 1 > cond u c1 c0 then sid.fdiv 4 + 1 else cond u c1 c0) c1) g0 g1 A0 A1 P0 P1 B0 B1 v0 v1 kvs led2 ∧ OwnOff [(D, listOf (List.toArray ys) n')] Γ.addrs)) := by
  k_with_none
  k_with "execs cons" => (k_here; (try k_gentoks); refine seal_stmt ?_; intro Q9 E9 hN9 hR9 hE9; k_dflt (k_steps; all_goals (first | (refine SealN.use (by with_reducible assumption) ?_) | (refine SealR.use (by with_reducible assumption) ?_) | (refine SealE.use (by with_reducible assumption) ?_) | skip); all_goals (try dsimp only)))
  k_with "getAttr ref" => (k_here; (with_reducible show wpAny _ _ (getAttr (Value.ref (Gm.x _)) (PySem.Str.ofString "role") _) _ _ _); k_dflt (refine' attr_role (by k_asm) (by k_asm) (by with_reducible assumption) (by k_asm) (by repeat' first | exact sub_refl | refine sub_keep ?_ | refine sub_skip ?_) ?_))
  k_with "getAttr ref" => (k_here; (with_reducible show wpAny _ _ (getAttr (Value.ref (Gm.x _)) (PySem.Str.ofString "own_limits") _) _ _ _); k_dflt (refine' attr_own_limits (by k_asm) (by k_asm) (by with_reducible assumption) (by k_asm) (by repeat' first | exact sub_refl | refine sub_keep ?_ | refine sub_skip ?_) ?_))
  k_with "getAttr ref" => (k_here; (with_reducible show wpAny _ _ (getAttr (Value.ref (Gm.x _)) (PySem.Str.ofString "peer_limits") _) _ _ _); k_dflt (refine' attr_peer_limits (by k_asm) (by k_asm) (by with_reducible assumption) (by k_asm) (by repeat' first | exact sub_refl | refine sub_keep ?_ | refine sub_skip ?_) ?_))
  k_with "getAttr ref" => (k_here; (with_reducible show wpAny _ _ (getAttr (Value.ref (Gm.x _)) (PySem.Str.ofString "own_many") _) _ _ _); k_dflt (refine' attr_own_many (by k_asm) (by k_asm) (by with_reducible assumption) (by k_asm) (by repeat' first | exact sub_refl | refine sub_keep ?_ | refine sub_skip ?_) ?_))
  k_with "getAttr ref" => (k_here; (with_reducible show wpAny _ _ (getAttr (Value.ref (Gm.x _)) (PySem.Str.ofString "peer_many") _) _ _ _); k_dflt (refine' attr_peer_many (by k_asm) (by k_asm) (by with_reducible assumption) (by k_asm) (by repeat' first | exact sub_refl | refine sub_keep ?_ | refine sub_skip ?_) ?_))
  k_with "getAttr ref" => (k_here; (with_reducible show wpAny _ _ (getAttr (Value.ref (Gm.x _)) (PySem.Str.ofString "closed_many") _) _ _ _); k_dflt (refine' attr_closed_many (by k_asm) (by k_asm) (by with_reducible assumption) (by k_asm) (by repeat' first | exact sub_refl | refine sub_keep ?_ | refine sub_skip ?_) ?_))
  k_with "getAttr ref" => (k_here; (with_reducible show wpAny _ _ (getAttr (Value.ref (Gm.x _)) (PySem.Str.ofString "granted") _) _ _ _); k_dflt (refine' attr_granted (by k_asm) (by k_asm) (by with_reducible assumption) (by k_asm) (by repeat' first | exact sub_refl | refine sub_keep ?_ | refine sub_skip ?_) ?_))
  k_with "call type:int" => (k_here; (with_reducible show wpAny _ _ (call (Value.type "int") [Value.bool _]) _ _ _); k_dflt (refine' int_cond ?_))
  k_with "subscriptTail Attribute" => (k_here; k_dflt (refine kba_turn (value' := PySem.Expr.Name (PySem.Str.ofString "_") ⟨0, 0, 0, 0⟩) (fun _ => rfl) ?_))
  k_with "subscriptTail" => (k_here; (with_reducible show wpAny _ _ (subscriptTail _ _ (Value.ref (Gm.om _)) (Value.int (cond _ 1 0) _)) _ _ _); k_dflt (refine' item_L (SL.om (by with_reducible assumption)) (by k_asm) (by repeat' first | exact sub_refl | refine sub_keep ?_ | refine sub_skip ?_) (by intro _; with_unfolding_all rfl) (by intro _; with_unfolding_all rfl) ?_); intro t9)
  k_with "subscriptTail" => (k_here; (with_reducible show wpAny _ _ (subscriptTail _ _ (Value.ref (Gm.pl _)) (Value.int (cond _ 1 0) _)) _ _ _); k_dflt (refine' item_L (SL.pl (by with_reducible assumption)) (by k_asm) (by repeat' first | exact sub_refl | refine sub_keep ?_ | refine sub_skip ?_) (by intro _; with_unfolding_all rfl) (by intro _; with_unfolding_all rfl) ?_); intro t9)
  k_with "subscriptTail" => (k_here; (with_reducible show wpAny _ _ (subscriptTail _ _ (Value.ref (Gm.pm _)) (Value.int (cond _ 1 0) _)) _ _ _); k_dflt (refine' item_L (SL.pm (by with_reducible assumption)) (by k_asm) (by repeat' first | exact sub_refl | refine sub_keep ?_ | refine sub_skip ?_) (by intro _; with_unfolding_all rfl) (by intro _; with_unfolding_all rfl) ?_); intro t9)
  k_with "setItem ref int" => (k_here; (with_reducible show wpAny _ _ (PySem.setItem (Value.ref (Gm.pm _)) (Value.int (cond _ 1 0) _) (Value.int _ _)) _ _ _); k_dflt (refine' set_pm_tmp (tmp := [(L' + 1 + 1, _), (L' + 1, _)]) (by k_asm) (by with_reducible assumption) (by with_reducible assumption) (by k_asm) (by repeat' first | exact sub_refl | refine sub_keep ?_ | refine sub_skip ?_) (by exact off_two (by with_reducible assumption) (by assumption)) ?_); intro led9 h9 S9 F9 N9; (try simp only [List.cons_append, List.nil_append] at N9); (try dsimp only))
  k_with "call ref" => (k_here; (with_reducible show wpAny _ _ (call (Value.ref 50) _) _ _ _); k_dflt (refine' Pure.use (number_of_ct _ _ _) (by k_asm) (by k_asm) (by k_asm) (by k_asm) (by k_asm) (by first | exact rfl | assumption) (by ktr_room) (by ktr_units) ?_); intro t9 h9 tk9 F9 N9; (try dsimp only); (try k_fold))
  k_with "call ref" => (k_here; (with_reducible show wpAny _ _ (call (Value.ref 57) _) _ _ _); k_dflt (refine' Pure.use (opener_of_ct _ _ _) (by k_asm) (by k_asm) (by k_asm) (by k_asm) (by k_asm) (by first | exact rfl | assumption) (by ktr_room) (by ktr_units) ?_); intro t9 h9 tk9 F9 N9; (try dsimp only); (try k_fold))
  k_with "call ref" => (k_here; (with_reducible show wpAny _ _ (call (Value.ref 64) _) _ _ _); k_dflt (refine' Pure.use (is_one_way_ct _ _ _) (by k_asm) (by k_asm) (by k_asm) (by k_asm) (by k_asm) (by first | exact rfl | assumption) (by ktr_room) (by ktr_units) ?_); intro t9 h9 tk9 F9 N9; (try dsimp only); (try k_fold))
  k_with "call ref" => (k_here; (with_reducible show wpAny _ _ (call (Value.ref 57) _) _ _ _); k_dflt (refine' Pure.use (opener_at _ _ _ _ (by with_reducible assumption)) (by k_asm) (by k_asm) (by k_asm) (by k_asm) (by k_asm) (by first | exact rfl | assumption) (by ktr_room) (by ktr_units) ?_); intro t9 h9 tk9 F9 N9; (try dsimp only); (try k_fold))
  k_with "call ref" => (k_here; (with_reducible show wpAny _ _ (call (Value.ref 64) _) _ _ _); k_dflt (refine' Pure.use (one_way_at _ _ _ _ (by with_reducible assumption)) (by k_asm) (by k_asm) (by k_asm) (by k_asm) (by k_asm) (by first | exact rfl | assumption) (by ktr_room) (by ktr_units) ?_); intro t9 h9 tk9 F9 N9; (try dsimp only); (try k_fold))
  k_with "call ref" => (k_here; (with_reducible show wpAny _ _ (call (Value.ref 43) _) _ _ _); k_dflt (refine' Pure.use (stream_id_ct _ _ _ _ _ _) (by k_asm) (by k_asm) (by k_asm) (by k_asm) (by k_asm) (by first | exact rfl | assumption) (by ktr_room) (by ktr_units) ?_); intro t9 h9 tk9 F9 N9; (try dsimp only); (try k_fold))
  k_with "call ref" => (k_here; (with_reducible show wpAny _ _ (call (Value.ref 71) _) _ _ _); k_dflt (refine' Pure.use (send_at _ _ _ _ _ _ _ (by with_reducible assumption) (by with_reducible assumption)) (by k_asm) (by k_asm) (by k_asm) (by k_asm) (by k_asm) (by first | exact rfl | assumption) (by ktr_room) (by ktr_units) ?_); intro t9 h9 tk9 F9 N9; (try dsimp only); (try k_fold))
  k_with "call ref" => (k_here; (with_reducible show wpAny _ _ (call (Value.ref 78) _) _ _ _); k_dflt (refine' Pure.use (recv_at _ _ _ _ _ _ _ (by with_reducible assumption) (by with_reducible assumption)) (by k_asm) (by k_asm) (by k_asm) (by k_asm) (by k_asm) (by first | exact rfl | assumption) (by ktr_room) (by ktr_units) ?_); intro t9 h9 tk9 F9 N9; (try dsimp only); (try k_fold))
  k_with "getMethod ref" => (k_here; (with_reducible show wpAny _ _ (getMethod (Value.ref (Gm.x _)) _ _) _ _ _); k_dflt (refine' method_inst (by k_asm) (by k_asm) (SL.inst (by with_reducible assumption) (by k_asm) (by repeat' first | exact sub_refl | refine sub_keep ?_ | refine sub_skip ?_)) (by k_is) (by k_is) (by k_is) (by k_get) ?_; k_whole))
  k_with "call ref" => (k_here; (with_reducible show wpAny _ _ (call (Value.ref 111) _) _ _ _); refine wpAny_call ?_; k_dflt (refine' code_defC (by k_asm) (by k_asm) (by k_asm) (by k_asm) (by k_asm) (by exact rfl) (by exact rfl) (by first | exact rfl | assumption) (by k_is) (by k_is) (by ktr_room) (by exact BindsTo.of_eq rfl) (by exact rfl) (by decide +kernel) ?_ (by exact rfl) (by exact rfl) (by exact rfl); k_whole; intro g' L' h' tk' cells' FG' F' N' Y' B' X' T' l1; (try k_lt l1); k_cells Y'; (try simp only [List.cons_append, List.nil_append] at N'); (try dsimp only); (try k_lift B'); (try k_fold)))
  k_with "call ref" => (k_here; (with_reducible show wpAny _ _ (call (Value.ref 31) _) _ _ _); k_dflt (refine' make_quic (by first | exact .inl rfl | exact .inr rfl) (by decide +kernel) (by k_asm) (by k_asm) (by k_asm) (by k_asm) (by k_asm) (by first | exact rfl | assumption) (by ktr_room) (by ktr_units) ?_); intro e9 t9 o9 d9 od9 mA9 h9 tk9 F9 N9 ne9 ns9 co9; (try dsimp only); (try k_fold))
  k_with "isTrue IfExp" => (k_here; (fail_if_success (with_reducible show wpAny _ _ _ (fun x s' => x = _ ∧ SameAs _ _ _ _ _ s') _ _)); k_dflt (refine' join_same (!(u && ((o == Γ.r) != fs))) (by k_asm) (by k_asm) ?_ ?_); rotate_left; (focus (intro h9 tk9 F9 N9; (try dsimp only); (try k_fold))); rotate_left)
  k_with "compareOp NotIn str ref" => (k_here; k_dflt (refine' notin_sending (by k_asm) (by k_asm) (by with_reducible assumption) ?_))
  k_with "compareOp Eq str str" => (k_here; (with_reducible show wpAny _ _ (compareOp _ (Value.str (roleStr _) _) (Value.str (roleStr _) _)) _ _ _); k_dflt (refine eq_role ?_))
  k_with "subscriptTail" => (k_here; (with_reducible show wpAny _ _ (subscriptTail _ _ (Value.ref 36) (Value.str _ _)) _ _ _); k_dflt (refine' ftypes (by k_asm) (by k_asm) (by with_reducible assumption) ?_ (by with_unfolding_all rfl)); intro vf tf)
  k_with "exec Raise some none" => (k_here; k_dflt (refine raise_q (by exact rfl) ?_))
  k_with "RaiseBack" => (k_here; k_dflt (refine ⟨_, _, _, rfl, (by rename News _ _ _ _ => NN; exact (NN _ (.head _)).1), qc_of (by k_in), ?_⟩); (try dsimp only))
  k_with "leaving ref" => (k_here; k_dflt (refine' leave_qB (by k_asm) (by k_asm) (by k_asm) (by assumption) (by exact rfl) (by exact rfl) (by intro hz; cases hz) ?_); intro h8 R8 U8)
  k_with "noteFrame ref" => (k_here; k_dflt (refine' caught_q (by assumption) (by assumption) (by assumption) (by assumption) (by assumption) (by assumption) (by assumption) KtsTurn.refl (by k_is) (by exact qc_of (by assumption)) ?_); intro h7 g7 oe7 ws7 tk7 T7 F7 N7 c7 w7 d7 B7 X7 P7 D7; (try dsimp only); (try k_fold))
  k_with "getAttr ref" => (k_here; (with_reducible show wpAny _ _ (getAttr (Value.ref _) (PySem.Str.ofString "code") _) _ _ _); k_dflt (refine' code_attr (by exact qc_of (by k_in)) (by rename News _ _ _ _ => NN; exact (NN _ (.head _)).1) (by assumption) (by assumption) (by assumption) (by rename News _ _ _ _ => NN; exact (NN _ (.tail _ (.head _))).1) (by assumption) (by assumption) (by exact rfl) ?_))
  dsimp only [CtT]
  revert hS
  k_fill
  intro hS dp un gd cn cs a ccd outer A₀ base h₀ L m s own Q E mean mg mb B F X N T XB TB D hk hd hu' hoff hret
  have hA : Ap Γ own := ⟨nd, hS.adr ▸ hoff⟩
  have n0 : 0 ≤ sid.fdiv 4 := Int.fdiv_nonneg h0 (by decide)
  have n1 : sid.fdiv 4 < 6 := by rw [Int.fdiv_eq_ediv_of_nonneg _ (by decide)]; omega
  have m0 : 0 ≤ cond u c1 c0 := by cases u <;> assumption
  have m1 : cond u c1 c0 ≤ 6 := by cases u <;> assumption
  refine wpAny_call ?_
  k_dflt (refine' code_defS ?k1 ?k2 ?k3 ?k4 ?k5 ?XB ?TB ?D ?T0 ?kA ?k6 ?k7 ?k8 ?k9 ?kB ?_ ?cK ?c2 ?c3 ?c4 ?c5; (case kA => exact rfl); (case k2 => k_asm); (case k1 => k_asm); (case XB => assumption); (case TB => assumption); (case D => assumption); (case T0 => exact KtsTurn.refl); (case k3 => k_asm); (case k4 => k_asm); (case k5 => k_asm); (case k6 => k_is); (case k7 => k_is); (case k8 => ktr_room); (case k9 => exact BindsTo.of_eq rfl); (case kB => exact locs rfl); (case cK => assumption); (case c2 => exact rfl); (case c3 => exact rfl); (case c4 => exact rfl); (case c5 => decide); k_whole)
  intro g' L' h' FG' F' N' B' X' T' D'; (try dsimp only); (try k_lift B'); (try k_fold)
  k_steps
  all_goals try (first | exact (ok_t (by assumption) rfl).symm | exact (ok_f (by assumption) rfl).symm | exact ⟨_, _, rfl, by assumption, by assumption⟩)
  all_goals first
    | exact hret _ _ _ _ _ (.inl ⟨_, _, rfl, (by first | exact ref_5 (by first | exact not_t (by assumption) | exact not_f (by assumption)) | exact ref_5m (by first | exact not_t (by assumption) | exact not_f (by assumption)) (by assumption) (by assumption) | exact ref_4 (by first | exact not_t (by assumption) | exact not_f (by assumption)) (by assumption) (by assumption)), by with_reducible assumption⟩) (by assumption) (by assumption) (cb_drop (by assumption) (by repeat' first | exact sub_refl | refine sub_keep ?_ | refine sub_skip ?_)) (by assumption) (by assumption) (by assumption) (by assumption)
    | exact hret _ (_ :: _) _ _ _ (.inr (.inl ⟨_, _, _, rfl, (by exact ref_0m (by first | exact not_t (by assumption) | exact not_f (by assumption)) (by assumption) (by assumption)), (by assumption), rfl, by with_reducible assumption, (by first | exact off_app (by with_reducible assumption) (by assumption) | exact off_lt (by with_reducible assumption) (by assumption) | exact off_lt (by with_reducible assumption) (And.right (by assumption)) | exact off_lt (by with_reducible assumption) (And.right (And.right (by assumption))) | exact off_lt (by with_reducible assumption) (And.right (And.right (And.right (by assumption)))) | exact off_lt (by with_reducible assumption) (And.right (And.right (And.right (And.right (by assumption))))) | exact off_o1 (by with_reducible assumption) (by assumption) | exact off_o1 (by with_reducible assumption) (And.right (by assumption)) | exact off_o1 (by with_reducible assumption) (And.right (And.right (by assumption))) | exact off_o1 (by with_reducible assumption) (And.right (And.right (And.right (by assumption)))) | exact off_o1 (by with_reducible assumption) (And.right (And.right (And.right (And.right (by assumption))))))⟩)) KtsTurn.refl (by assumption) (cb_drop (by assumption) (by repeat' first | exact sub_refl | refine sub_keep ?_ | refine sub_skip ?_)) B X T D
    | (refine' hret _ ((_, listOf _ _) :: _) _ _ _ (.inr (.inr ⟨_, _, _, _, rfl, ?g1, ?g2, ?g3, rfl, ?g4, ?g5⟩)) KtsTurn.refl ?g6 ?g7 B X T D; (case g3 => with_reducible assumption); (case g4 => with_reducible assumption); (case g2 => with_reducible assumption); (case g6 => with_reducible assumption); (case g7 => exact (cb_drop (by assumption) (by repeat' first | exact sub_refl | refine sub_keep ?_ | refine sub_skip ?_))); (case g1 => exact ref_0 (by first | exact not_t (by assumption) | exact not_f (by assumption)) (by assumption) (by assumption)); (case g5 => exact (by first | exact off_app (by with_reducible assumption) (by assumption) | exact off_lt (by with_reducible assumption) (by assumption) | exact off_lt (by with_reducible assumption) (And.right (by assumption)) | exact off_lt (by with_reducible assumption) (And.right (And.right (by assumption))) | exact off_lt (by with_reducible assumption) (And.right (And.right (And.right (by assumption)))) | exact off_lt (by with_reducible assumption) (And.right (And.right (And.right (And.right (by assumption))))) | exact off_o1 (by with_reducible assumption) (by assumption) | exact off_o1 (by with_reducible assumption) (And.right (by assumption)) | exact off_o1 (by with_reducible assumption) (And.right (And.right (by assumption))) | exact off_o1 (by with_reducible assumption) (And.right (And.right (And.right (by assumption)))) | exact off_o1 (by with_reducible assumption) (And.right (And.right (And.right (And.right (by assumption))))))))

theorem due_ct (u : Bool) (sid : Int) (ts : Tok) (o : Bool) (ho : decide (sid.fmod 2 = 1) = o) (hu : decide ((sid.fdiv 2).fmod 2 = 1) = u) (h0 : 0 ≤ sid) (h24 : sid < 24) (kd : Tok) (kind : Str) (fs : Bool) (hkd : KindOk kind fs) (hS : SL w Γ a0 a1 p0 p1 b0 b1 c0 c1 g0 g1 A0 A1 P0 P1 B0 B1 v0 v1 kvs led) (hok : Gok w Γ) :
    Ct w 2 172 [.ref Γ.hD, .str kind kd, .int sid ts] led (fun v res =>
      (∃ c t, v = .int c t ∧ refused (!(u && ((o == Γ.r) != fs))) (o == Γ.r) (sid.fdiv 4) (cond u B1 B0) (cond u P1 P0) = some c ∧ res = led) ∨
      (∃ D n', v = .ref D ∧ refused (!(u && ((o == Γ.r) != fs))) (o == Γ.r) (sid.fdiv 4) (cond u B1 B0) (cond u P1 P0) = none ∧ (o == Γ.r) = true ∧ res = (D, listOf #[] n') :: led ∧ OwnOff [(D, listOf #[] n')] Γ.addrs) ∨
      (∃ D ys n', v = .ref D ∧ refused (!(u && ((o == Γ.r) != fs))) (o == Γ.r) (sid.fdiv 4) (cond u B1 B0) (cond u P1 P0) = none ∧ (o == Γ.r) = false ∧ IntsAre ys (((rangeKs 0 (sid.fdiv 4 + 1 - 0).toNat).map fun k' => 4 * k' + Builtin.bitAnd sid 3).filter fun k => !(valueAt kvs k).isSome) ∧ res = (D, listOf (List.toArray ys) n') :: led ∧ OwnOff [(D, listOf (List.toArray ys) n')] Γ.addrs)) := by
  k_with_none
  k_with "execs cons" => (k_here; (try k_gentoks); refine seal_stmt ?_; intro Q9 E9 hN9 hR9 hE9; k_dflt (k_steps; all_goals (first | (refine SealN.use (by with_reducible assumption) ?_) | (refine SealR.use (by with_reducible assumption) ?_) | (refine SealE.use (by with_reducible assumption) ?_) | skip); all_goals (try dsimp only)))
  k_with "call type:int" => (k_here; (with_reducible show wpAny _ _ (call (Value.type "int") [Value.bool _]) _ _ _); k_dflt (refine' int_cond ?_))
  k_with "subscriptTail Attribute" => (k_here; k_dflt (refine kba_turn (value' := PySem.Expr.Name (PySem.Str.ofString "_") ⟨0, 0, 0, 0⟩) (fun _ => rfl) ?_))
  k_with "subscriptTail" => (k_here; (with_reducible show wpAny _ _ (subscriptTail _ _ (Value.ref (Gm.mi _)) (Value.int (cond _ 1 0) _)) _ _ _); k_dflt (refine' item_L (SL.mi (by with_reducible assumption)) (by k_asm) (by repeat' first | exact sub_refl | refine sub_keep ?_ | refine sub_skip ?_) (by intro _; with_unfolding_all rfl) (by intro _; with_unfolding_all rfl) ?_); intro t9)
  k_with "subscriptTail" => (k_here; (with_reducible show wpAny _ _ (subscriptTail _ _ (Value.ref (Gm.ls _)) (Value.int (cond _ 1 0) _)) _ _ _); k_dflt (refine' item_L (SL.ls (by with_reducible assumption)) (by k_asm) (by repeat' first | exact sub_refl | refine sub_keep ?_ | refine sub_skip ?_) (by intro _; with_unfolding_all rfl) (by intro _; with_unfolding_all rfl) ?_); intro t9)
  k_with "subscriptTail Subscript" => (k_here; k_dflt (refine kba_turn (value' := PySem.Expr.Name (PySem.Str.ofString "_") ⟨0, 0, 0, 0⟩) (fun _ => rfl) ?_))
  k_with "subscriptTail" => (k_here; (with_reducible show wpAny _ _ (subscriptTail _ _ (Value.ref (Gm.hD _)) (Value.str _ _)) _ _ _); k_dflt (refine' here_sl (by with_reducible assumption) (by with_reducible assumption) (by k_asm) (by repeat' first | exact sub_refl | refine sub_keep ?_ | refine sub_skip ?_) (by rfl) (by with_unfolding_all rfl) (by intro _; with_unfolding_all rfl) ?_))
  k_with "call ref" => (k_here; (with_reducible show wpAny _ _ (call (Value.ref 160) _) _ _ _); k_dflt (refine' parts_use (by with_reducible assumption) (by with_reducible assumption) (by with_reducible assumption) (by omega) (by k_asm) (by k_asm) (by k_asm) (by k_asm) (by k_asm) (by first | exact rfl | assumption) (by ktr_room) (by ktr_units) ?_); intro T9 t19 t29 h9 tk9 F9 N9; (try dsimp only); (try k_fold))
  k_with "compareOp NotIn int ref" => (k_here; k_dflt (refine' notin_op (by with_reducible assumption) (by with_reducible assumption) (by k_asm) (by repeat' first | exact sub_refl | refine sub_keep ?_ | refine sub_skip ?_) ?_); intro tk9)
  k_with "compareOp In str ref" => (k_here; k_dflt (refine' in_kinds (by k_asm) (by k_mem) (by with_reducible assumption) ?_))
  k_with "compareOp Eq str str" => (k_here; (with_reducible show wpAny _ _ (compareOp _ (Value.str (roleStr _) _) (Value.str (roleStr _) _)) _ _ _); k_dflt (refine eq_role ?_))
  k_with "isTrue BoolOp" => (k_here; (fail_if_success (with_reducible show wpAny _ _ _ (fun x s' => x = _ ∧ SameAs _ _ _ _ _ s') _ _)); k_dflt (refine' join_same (u && ((o == Γ.r) != fs)) (by k_asm) (by k_asm) ?_ ?_); rotate_left; (focus (intro h9 tk9 F9 N9; (try dsimp only); (try k_fold))); rotate_left)
  k_with "eval ListComp" => (k_here; lct_look; k_dflt (refine LCt.ListComp_T (F₀ := by k_asm) (by with_unfolding_all rfl) (by decide) (by rfl) (by decide) (by rfl) ?_))
  dsimp only [Ct]
  revert hS hok
  k_fill
  intro hS hok dp un gd cn cs a ccd cl outer A₀ base h₀ L m s own Q E mean mg mb B F X N T hk hd hu' hoff hret
  have hA : Ap Γ own := ⟨hok.nd, hS.adr ▸ hoff⟩
  have n0 : 0 ≤ sid.fdiv 4 := Int.fdiv_nonneg h0 (by decide)
  have n1 : sid.fdiv 4 < 6 := by rw [Int.fdiv_eq_ediv_of_nonneg _ (by decide)]; omega
  refine wpAny_call ?_
  k_dflt (refine' code_defC (by k_asm) (by k_asm) (by k_asm) (by k_asm) (by k_asm) (by exact rfl) (by exact rfl) (by first | exact rfl | assumption) (by k_is) (by k_is) (by ktr_room) (by exact BindsTo.of_eq rfl) (by exact rfl) (by decide +kernel) ?_ (by exact rfl) (by exact rfl) (by exact rfl); k_whole)
  intro g' L' h' tk' cells' FG' F' N' Y' B' X' T' l1; (try k_lt l1); k_cells Y'; (try simp only [List.cons_append, List.nil_append] at N'); (try dsimp only); (try k_lift B'); (try k_fold)
  k_steps
  all_goals try (first | exact and_f (by assumption) | exact and_tt (by assumption) (by assumption) | exact and_tf (by assumption) (by assumption) | exact and_t (by assumption) | exact ⟨_, _, rfl, by assumption, by assumption⟩)
  all_goals try (refine LCt.CompSrcT.ledger (by rfl) (by k_asm) (by k_asm) (by k_mem) (rk_size (by assumption) (by omega)) fun g' => ?_; refine rest_ind (fun k => !(valueAt kvs k).isSome) (by assumption) (rk_len (by assumption)) ?_ ?_; focus (intro i' k' t' ys' I' oI' C' oC' D' m' h' tk' E' hi' hC' hx' F' N' off' ne'; have off0 := off'; (try simp only [LCg.Off3, and_true] at off'); k_steps; all_goals first
       | exact ⟨_, _, _, rfl, F', N', off0, .inr ⟨_, .head _, rfl, _, rfl⟩, rfl, ⟨_, rfl⟩, by assumption⟩
       | exact ⟨_, _, _, rfl, F', N', off0, .inr ⟨_, .head _, rfl, _, rfl⟩, rfl, by assumption⟩
       | exact ⟨_, _, _, rfl, F', N', off0, .inr ⟨_, .head _, rfl, _, rfl⟩, rfl, ⟨_, rfl⟩, by simp [*]⟩
       | exact ⟨_, _, _, rfl, F', N', off0, .inr ⟨_, .head _, rfl, _, rfl⟩, rfl, by simp [*]⟩))
  all_goals try (intro ysF hF D' hF' tk' F' N' o1'; dsimp only; k_steps)
  all_goals try (first | (refine SealN.use (by with_reducible assumption) ?_) | (refine SealR.use (by with_reducible assumption) ?_))
  all_goals (try dsimp only)
  all_goals try k_steps
  all_goals first
    | exact hret _ _ _ _ (.inl ⟨_, _, rfl, (by first | exact ref_5 (by first | exact not_t (by assumption) | exact not_f (by assumption)) | exact dref_5m (by first | exact not_t (by assumption) | exact not_f (by assumption)) (by assumption) (by assumption) | exact ref_4 (by first | exact not_t (by assumption) | exact not_f (by assumption)) (by assumption) (by assumption)), rfl⟩) (by assumption) (cb_drop (by assumption) (by repeat' first | exact sub_refl | refine sub_keep ?_ | refine sub_skip ?_))
    | exact hret _ ((_, listOf #[] _) :: _) _ _ (.inr (.inl ⟨_, _, rfl, (by exact dref_0m (by first | exact not_t (by assumption) | exact not_f (by assumption)) (by assumption) (by assumption)), (by assumption), rfl, (by first | exact off_app (by with_reducible assumption) (by assumption) | exact off_lt (by with_reducible assumption) (by assumption) | exact off_lt (by with_reducible assumption) (And.right (by assumption)) | exact off_lt (by with_reducible assumption) (And.right (And.right (by assumption))) | exact off_lt (by with_reducible assumption) (And.right (And.right (And.right (by assumption)))) | exact off_lt (by with_reducible assumption) (And.right (And.right (And.right (And.right (by assumption))))) | exact off_lt (by with_reducible assumption) (And.right (And.right (And.right (And.right (And.right (by assumption)))))) | exact off_o1 (by with_reducible assumption) (by assumption) | exact off_o1 (by with_reducible assumption) (And.right (by assumption)) | exact off_o1 (by with_reducible assumption) (And.right (And.right (by assumption))) | exact off_o1 (by with_reducible assumption) (And.right (And.right (And.right (by assumption)))) | exact off_o1 (by with_reducible assumption) (And.right (And.right (And.right (And.right (by assumption))))) | exact off_o1 (by with_reducible assumption) (And.right (And.right (And.right (And.right (And.right (by assumption)))))))⟩)) (by assumption) (cb_drop (by assumption) (by repeat' first | exact sub_refl | refine sub_keep ?_ | refine sub_skip ?_))
    | (refine' hret _ ((_, listOf _ _) :: _) _ _ (.inr (.inr ⟨_, _, _, rfl, ?g1, ?g2, ?g3, rfl, ?g5⟩)) ?g6 ?g7; (case g3 => with_reducible assumption); (case g2 => with_reducible assumption); (case g6 => with_reducible assumption); (case g7 => exact (cb_drop (by assumption) (by repeat' first | exact sub_refl | refine sub_keep ?_ | refine sub_skip ?_))); (case g1 => exact ref_0 (by first | exact not_t (by assumption) | exact not_f (by assumption)) (by assumption) (by assumption)); (case g5 => exact (by first | exact off_app (by with_reducible assumption) (by assumption) | exact off_lt (by with_reducible assumption) (by assumption) | exact off_lt (by with_reducible assumption) (And.right (by assumption)) | exact off_lt (by with_reducible assumption) (And.right (And.right (by assumption))) | exact off_lt (by with_reducible assumption) (And.right (And.right (And.right (by assumption)))) | exact off_lt (by with_reducible assumption) (And.right (And.right (And.right (And.right (by assumption))))) | exact off_lt (by with_reducible assumption) (And.right (And.right (And.right (And.right (And.right (by assumption)))))) | exact off_o1 (by with_reducible assumption) (by assumption) | exact off_o1 (by with_reducible assumption) (And.right (by assumption)) | exact off_o1 (by with_reducible assumption) (And.right (And.right (by assumption))) | exact off_o1 (by with_reducible assumption) (And.right (And.right (And.right (by assumption)))) | exact off_o1 (by with_reducible assumption) (And.right (And.right (And.right (And.right (by assumption))))) | exact off_o1 (by with_reducible assumption) (And.right (And.right (And.right (And.right (And.right (by assumption)))))))))

end
end Mine
end

section
open PySem PySem.W PyProof.Rows
open PySem.Calls
set_option maxRecDepth 100000
set_option maxHeartbeats 60000000
namespace Mine
open PySem.Challenge

section
variable {w : World} {dp un : Nat} {gd : Option (List Code)} {cn : Str} {cs : Scope} {a : Addr} {ccd : Value} {cl : List (Str × Addr)} {outer : List Env} {A₀ : Around} {base h₀ : Heap} {L : Addr} {m : Str → Option Value} {s : Shared} {news tmp led own : List (Addr × Obj)} {Q E : Value → Shared → Prop}
    {mean : ExcName → Option Value} {mg mb : Str → Option Value} {Γ : Gm} {a0 a1 p0 p1 b0 b1 c0 c1 g0 g1 A0 A1 P0 P1 B0 B1 : Int} {v0 v1 : Value} {kvs : List (Int × Value)}

theorem open1_sl (u : Bool) (B : Below A₀ base outer h₀) (F : Fr h₀ L s.heap m) (X : (Mine.hd.heap_39 w.params).In h₀) (N : News h₀ L s.heap news) (T : Top Mine.hd.view_39 (looseW Mine.hd.view_39 [Str.ofString "FRAME_TYPES"]) mean mg mb h₀) (hk : cs.kind = .function) (hS : SL w Γ a0 a1 p0 p1 b0 b1 c0 c1 g0 g1 A0 A1 P0 P1 B0 B1 v0 v1 kvs led) (hA : Ap Γ own) (sub : ∀ p ∈ tmp ++ (led ++ own), p ∈ news) (ht : OwnOff tmp Γ.addrs) (hd : dp + 2 < recursionLimit) (hu : un + 16 < cLine) (hle : cond u a1 a0 ≤ cond u b1 b0)
    (h : ∀ (led' : List (Addr × Obj)) (h' : Heap) (tk' : Nat), SL w Γ a0 a1 p0 p1 b0 b1 c0 c1 g0 g1 A0 A1 P0 P1 B0 B1 v0 v1 kvs led' → Fr h₀ L h' m → News h₀ L h' (tmp ++ (led' ++ own)) → Q .none { s with heap := h', toks := tk' }) :
    wpAny (model PySem.Challenge.rw_no0062_01.row.prog w) (ktrTop dp un gd cn cs L a ccd cl outer) (call (.ref 99) [.ref Γ.x, .bool u]) Q E s :=
  Ct.useT (open_ct u hS hA.1) B F X N T hk hd hu hS.adr hA sub ht fun v led' h' tk' P F' N' => by
    rcases P with ⟨_, rfl, S⟩ | ⟨hlt, _⟩
    · exact h led' h' tk' S F' (cb_drop N' mid_out)
    · exact absurd hle (Int.not_le.mpr hlt)
theorem open2_sl (u : Bool) (B : Below A₀ base outer h₀) (F : Fr h₀ L s.heap m) (X : (Mine.hd.heap_39 w.params).In h₀) (N : News h₀ L s.heap news) (T : Top Mine.hd.view_39 (looseW Mine.hd.view_39 [Str.ofString "FRAME_TYPES"]) mean mg mb h₀) (hk : cs.kind = .function) (hS : SL w Γ a0 a1 p0 p1 b0 b1 c0 c1 g0 g1 A0 A1 P0 P1 B0 B1 v0 v1 kvs led) (hA : Ap Γ own) (sub : ∀ p ∈ tmp ++ (led ++ own), p ∈ news) (ht : OwnOff tmp Γ.addrs) (hd : dp + 2 < recursionLimit) (hu : un + 16 < cLine) (hlt : cond u b1 b0 < cond u a1 a0)
    (h : ∀ (t' : Tok) (led' : List (Addr × Obj)) (h' : Heap) (tk' : Nat), SL w Γ a0 a1 p0 p1 (cond u b0 (cond u b1 b0 + 1)) (cond u (cond u b1 b0 + 1) b1) c0 c1 g0 g1 A0 A1 P0 P1 B0 B1 v0 v1 kvs led' → Fr h₀ L h' m → News h₀ L h' (tmp ++ (led' ++ own)) → Q (.int (4 * cond u b1 b0 + (if Γ.r then 1 else 0) + (if u then 2 else 0)) t') { s with heap := h', toks := tk' }) :
    wpAny (model PySem.Challenge.rw_no0062_01.row.prog w) (ktrTop dp un gd cn cs L a ccd cl outer) (call (.ref 99) [.ref Γ.x, .bool u]) Q E s :=
  Ct.useT (open_ct u hS hA.1) B F X N T hk hd hu hS.adr hA sub ht fun v led' h' tk' P F' N' => by
    rcases P with ⟨hle, _⟩ | ⟨_, ⟨t', rfl⟩, S⟩
    · exact absurd hle (Int.not_le.mpr hlt)
    · exact h t' led' h' tk' S F' (cb_drop N' mid_out)
theorem raise_sl (u : Bool) {lim : Int} {tl : Tok} (B : Below A₀ base outer h₀) (F : Fr h₀ L s.heap m) (X : (Mine.hd.heap_39 w.params).In h₀) (N : News h₀ L s.heap news) (T : Top Mine.hd.view_39 (looseW Mine.hd.view_39 [Str.ofString "FRAME_TYPES"]) mean mg mb h₀) (hk : cs.kind = .function) (hS : SL w Γ a0 a1 p0 p1 b0 b1 c0 c1 g0 g1 A0 A1 P0 P1 B0 B1 v0 v1 kvs led) (hA : Ap Γ own) (sub : ∀ p ∈ tmp ++ (led ++ own), p ∈ news) (ht : OwnOff tmp Γ.addrs) (hd : dp + 1 < recursionLimit) (hu : un + 8 < cLine)
    (h : ∀ (led' : List (Addr × Obj)) (h' : Heap) (tk' : Nat), SL w Γ (cond u a0 (if lim > cond u a1 a0 then lim else cond u a1 a0)) (cond u (if lim > cond u a1 a0 then lim else cond u a1 a0) a1) p0 p1 b0 b1 c0 c1 g0 g1 A0 A1 P0 P1 B0 B1 v0 v1 kvs led' → Fr h₀ L h' m → News h₀ L h' (tmp ++ (led' ++ own)) → Q .none { s with heap := h', toks := tk' }) :
    wpAny (model PySem.Challenge.rw_no0062_01.row.prog w) (ktrTop dp un gd cn cs L a ccd cl outer) (call (.ref 106) [.ref Γ.x, .bool u, .int lim tl]) Q E s :=
  Ct.useT (raise_ct u lim tl hS hA.1) B F X N T hk hd hu hS.adr hA sub ht fun v led' h' tk' P F' N' => P.1 ▸ h led' h' tk' P.2 F' (cb_drop N' mid_out)
theorem closed_sl {u : Bool} {sid : Int} {tsd : Tok} (B : Below A₀ base outer h₀) (F : Fr h₀ L s.heap m) (X : (Mine.hd.heap_39 w.params).In h₀) (N : News h₀ L s.heap news) (T : Top Mine.hd.view_39 (looseW Mine.hd.view_39 [Str.ofString "FRAME_TYPES"]) mean mg mb h₀) (hk : cs.kind = .function) (hS : SL w Γ a0 a1 p0 p1 b0 b1 c0 c1 g0 g1 A0 A1 P0 P1 B0 B1 v0 v1 kvs led) (hA : Ap Γ own) (sub : ∀ p ∈ tmp ++ (led ++ own), p ∈ news) (ht : OwnOff tmp Γ.addrs) (hd : dp + 2 < recursionLimit) (hu : un + 16 < cLine) (hs : decide (sid.fmod 2 = 1) = !Γ.r) (hus : decide ((sid.fdiv 2).fmod 2 = 1) = u)
    (h : ∀ (led' : List (Addr × Obj)) (h' : Heap) (tk' : Nat), SL w Γ a0 a1 (cond u p0 (cond u p1 p0 + 1)) (cond u (cond u p1 p0 + 1) p1) b0 b1 c0 c1 g0 g1 A0 A1 P0 P1 B0 B1 v0 v1 kvs led' → Fr h₀ L h' m → News h₀ L h' (tmp ++ (led' ++ own)) → Q .none { s with heap := h', toks := tk' }) :
    wpAny (model PySem.Challenge.rw_no0062_01.row.prog w) (ktrTop dp un gd cn cs L a ccd cl outer) (call (.ref 118) [.ref Γ.x, .int sid tsd]) Q E s :=
  Ct.useT (closed_ct u sid tsd hS hA.1 hs hus) B F X N T hk hd hu hS.adr hA sub ht fun v led' h' tk' P F' N' => P.1 ▸ h led' h' tk' P.2 F' (cb_drop N' mid_out)
theorem grant1_sl (u : Bool) (B : Below A₀ base outer h₀) (F : Fr h₀ L s.heap m) (X : (Mine.hd.heap_39 w.params).In h₀) (N : News h₀ L s.heap news) (T : Top Mine.hd.view_39 (looseW Mine.hd.view_39 [Str.ofString "FRAME_TYPES"]) mean mg mb h₀) (hk : cs.kind = .function) (hS : SL w Γ a0 a1 p0 p1 b0 b1 c0 c1 g0 g1 A0 A1 P0 P1 B0 B1 v0 v1 kvs led) (hA : Ap Γ own) (sub : ∀ p ∈ tmp ++ (led ++ own), p ∈ news) (ht : OwnOff tmp Γ.addrs) (hd : dp + 1 < recursionLimit) (hu : un + 8 < cLine) (he : cond u g1 g0 = cond u p1 p0)
    (h : ∀ (led' : List (Addr × Obj)) (h' : Heap) (tk' : Nat), SL w Γ a0 a1 p0 p1 b0 b1 c0 c1 g0 g1 A0 A1 P0 P1 B0 B1 v0 v1 kvs led' → Fr h₀ L h' m → News h₀ L h' (tmp ++ (led' ++ own)) → Q .none { s with heap := h', toks := tk' }) :
    wpAny (model PySem.Challenge.rw_no0062_01.row.prog w) (ktrTop dp un gd cn cs L a ccd cl outer) (call (.ref 125) [.ref Γ.x, .bool u]) Q E s :=
  Ct.useT (grant_ct u hS hA.1) B F X N T hk hd hu hS.adr hA sub ht fun v led' h' tk' P F' N' => by
    rcases P with ⟨_, rfl, S⟩ | ⟨hn, _⟩
    · exact h led' h' tk' S F' (cb_drop N' mid_out)
    · exact absurd he hn
theorem grant2_sl (u : Bool) (B : Below A₀ base outer h₀) (F : Fr h₀ L s.heap m) (X : (Mine.hd.heap_39 w.params).In h₀) (N : News h₀ L s.heap news) (T : Top Mine.hd.view_39 (looseW Mine.hd.view_39 [Str.ofString "FRAME_TYPES"]) mean mg mb h₀) (hk : cs.kind = .function) (hS : SL w Γ a0 a1 p0 p1 b0 b1 c0 c1 g0 g1 A0 A1 P0 P1 B0 B1 v0 v1 kvs led) (hA : Ap Γ own) (sub : ∀ p ∈ tmp ++ (led ++ own), p ∈ news) (ht : OwnOff tmp Γ.addrs) (hd : dp + 1 < recursionLimit) (hu : un + 8 < cLine) (hn : cond u g1 g0 ≠ cond u p1 p0)
    (h : ∀ (t' : Tok) (led' : List (Addr × Obj)) (h' : Heap) (tk' : Nat), SL w Γ a0 a1 p0 p1 b0 b1 c0 c1 (cond u g0 (cond u p1 p0)) (cond u (cond u p1 p0) g1) A0 A1 P0 P1 B0 B1 v0 v1 kvs led' → Fr h₀ L h' m → News h₀ L h' (tmp ++ (led' ++ own)) → Q (.int (cond u p1 p0) t') { s with heap := h', toks := tk' }) :
    wpAny (model PySem.Challenge.rw_no0062_01.row.prog w) (ktrTop dp un gd cn cs L a ccd cl outer) (call (.ref 125) [.ref Γ.x, .bool u]) Q E s :=
  Ct.useT (grant_ct u hS hA.1) B F X N T hk hd hu hS.adr hA sub ht fun v led' h' tk' P F' N' => by
    rcases P with ⟨he, _⟩ | ⟨_, ⟨t', rfl⟩, S⟩
    · exact absurd he hn
    · exact h t' led' h' tk' S F' (cb_drop N' mid_out)
theorem lost_sl (u : Bool) {lim : Int} {tl : Tok} (B : Below A₀ base outer h₀) (F : Fr h₀ L s.heap m) (X : (Mine.hd.heap_39 w.params).In h₀) (N : News h₀ L s.heap news) (T : Top Mine.hd.view_39 (looseW Mine.hd.view_39 [Str.ofString "FRAME_TYPES"]) mean mg mb h₀) (hk : cs.kind = .function) (hS : SL w Γ a0 a1 p0 p1 b0 b1 c0 c1 g0 g1 A0 A1 P0 P1 B0 B1 v0 v1 kvs led) (hA : Ap Γ own) (sub : ∀ p ∈ tmp ++ (led ++ own), p ∈ news) (ht : OwnOff tmp Γ.addrs) (hd : dp + 1 < recursionLimit) (hu : un + 8 < cLine) (he : cond u g1 g0 = lim)
    (h : ∀ (led' : List (Addr × Obj)) (h' : Heap) (tk' : Nat), SL w Γ a0 a1 p0 p1 b0 b1 c0 c1 (cond u g0 (lim - 1)) (cond u (lim - 1) g1) A0 A1 P0 P1 B0 B1 v0 v1 kvs led' → Fr h₀ L h' m → News h₀ L h' (tmp ++ (led' ++ own)) → Q .none { s with heap := h', toks := tk' }) :
    wpAny (model PySem.Challenge.rw_no0062_01.row.prog w) (ktrTop dp un gd cn cs L a ccd cl outer) (call (.ref 132) [.ref Γ.x, .bool u, .int lim tl]) Q E s :=
  Ct.useT (lost_ct u lim tl hS hA.1) B F X N T hk hd hu hS.adr hA sub ht fun v led' h' tk' P F' N' => by
    rcases P with ⟨rfl, ⟨hn, _⟩ | ⟨_, S⟩⟩
    · exact absurd he hn
    · exact h led' h' tk' S F' (cb_drop N' mid_out)

variable {sid : Int} {tsd : Tok} {o u : Bool} {kd : Tok} {kind : Str} {fs : Bool}
theorem due_sl (B : Below A₀ base outer h₀) (F : Fr h₀ L s.heap m) (X : (Mine.hd.heap_39 w.params).In h₀) (N : News h₀ L s.heap news) (T : Top Mine.hd.view_39 (looseW Mine.hd.view_39 [Str.ofString "FRAME_TYPES"]) mean mg mb h₀) (hk : cs.kind = .function) (hS : SL w Γ a0 a1 p0 p1 b0 b1 c0 c1 g0 g1 A0 A1 P0 P1 B0 B1 v0 v1 kvs led) (hA : Ap Γ own) (hok : Gok w Γ) (sub : ∀ p ∈ led ++ own, p ∈ news) (hd : dp + 2 < recursionLimit) (hu : un + 16 < cLine)
    (ho' : decide (sid.fmod 2 = 1) = o) (hus : decide ((sid.fdiv 2).fmod 2 = 1) = u) (h0 : 0 ≤ sid) (h24 : sid < 24) (hkd : KindOk kind fs)
    (k1 : ∀ c t (h' : Heap) (tk' : Nat), refused (!(u && ((o == Γ.r) != fs))) (o == Γ.r) (sid.fdiv 4) (cond u B1 B0) (cond u P1 P0) = some c → Fr h₀ L h' m → News h₀ L h' (led ++ own) → Q (.int c t) { s with heap := h', toks := tk' })
    (k2 : ∀ D n' (h' : Heap) (tk' : Nat), OwnOff [(D, listOf #[] n')] Γ.addrs → refused (!(u && ((o == Γ.r) != fs))) (o == Γ.r) (sid.fdiv 4) (cond u B1 B0) (cond u P1 P0) = none → (o == Γ.r) = true → Fr h₀ L h' m → News h₀ L h' ((D, listOf #[] n') :: (led ++ own)) → Q (.ref D) { s with heap := h', toks := tk' })
    (k3 : ∀ D ys n' (h' : Heap) (tk' : Nat), OwnOff [(D, listOf (List.toArray ys) n')] Γ.addrs → refused (!(u && ((o == Γ.r) != fs))) (o == Γ.r) (sid.fdiv 4) (cond u B1 B0) (cond u P1 P0) = none → (o == Γ.r) = false → IntsAre ys (((rangeKs 0 (sid.fdiv 4 + 1 - 0).toNat).map fun k' => 4 * k' + Builtin.bitAnd sid 3).filter fun k => !(valueAt kvs k).isSome) → Fr h₀ L h' m → News h₀ L h' ((D, listOf (List.toArray ys) n') :: (led ++ own)) → Q (.ref D) { s with heap := h', toks := tk' }) :
    wpAny (model PySem.Challenge.rw_no0062_01.row.prog w) (ktrTop dp un gd cn cs L a ccd cl outer) (call (.ref 172) [.ref Γ.hD, .str kind kd, .int sid tsd]) Q E s :=
  Ct.use (due_ct u sid tsd o ho' hus h0 h24 kd kind fs hkd hS hok) B F X (cb_drop N sub) T hk hd hu (own_mid (tmp := []) hS.adr hA off_nl) fun v res h' tk' P F' N' => by
    rcases P with ⟨c, t, rfl, hr, rfl⟩ | ⟨D, n', rfl, hr, hm, rfl, hf⟩ | ⟨D, ys, n', rfl, hr, hm, hI, rfl, hf⟩
    · exact k1 c t h' tk' hr F' N'
    · exact k2 D n' h' tk' hf hr hm F' N'
    · exact k3 D ys n' h' tk' hf hr hm hI F' N'

theorem given1_sl {c : Int} (B : Below A₀ base outer h₀) (F : Fr h₀ L s.heap m) (X : (Mine.hd.heap_39 w.params).In h₀) (N : News h₀ L s.heap news) (T : Top Mine.hd.view_39 (looseW Mine.hd.view_39 [Str.ofString "FRAME_TYPES"]) mean mg mb h₀) (XB : (Mine.hd.heap_39 w.params).In base) (TB : Top Mine.hd.view_39 (looseW Mine.hd.view_39 [Str.ofString "FRAME_TYPES"]) mean mg mb base) (KD : KtsDicts (outer.filterMap (·.frame)) h₀) (hk : cs.kind = .function) (hS : SL w Γ a0 a1 p0 p1 b0 b1 c0 c1 g0 g1 A0 A1 P0 P1 B0 B1 v0 v1 kvs led) (hA : Ap Γ own) (sub : ∀ p ∈ tmp ++ (led ++ own), p ∈ news) (ht : OwnOff tmp Γ.addrs) (hd : dp + 5 < recursionLimit) (hu : un + 40 < cLine) (ho' : decide (sid.fmod 2 = 1) = o) (hus : decide ((sid.fdiv 2).fmod 2 = 1) = u) (h0 : 0 ≤ sid) (h24 : sid < 24) (hkd : KindOk kind fs) (z0 : 0 ≤ c0) (z1 : c0 ≤ 6) (z2 : 0 ≤ c1) (z3 : c1 ≤ 6) (hrf : refused (!(u && ((o == Γ.r) != fs))) (o == Γ.r) (sid.fdiv 4) (cond u b1 b0) (cond u p1 p0) = some c)
    (k : ∀ t (led' : List (Addr × Obj)) (h' : Heap) (tk' : Nat) (h₁ : Heap), SL w Γ a0 a1 p0 p1 b0 b1 c0 c1 g0 g1 A0 A1 P0 P1 B0 B1 v0 v1 kvs led' → KtsTurn (outer.filterMap (·.frame)) h₀ h₁ → Below A₀ base outer h₁ → (Mine.hd.heap_39 w.params).In h₁ → Top Mine.hd.view_39 (looseW Mine.hd.view_39 [Str.ofString "FRAME_TYPES"]) mean mg mb h₁ → KtsDicts (outer.filterMap (·.frame)) h₁ → Fr h₁ L h' m → News h₁ L h' (tmp ++ (led' ++ own)) → Q (.int c t) { s with heap := h', toks := tk' }) :
    wpAny (model PySem.Challenge.rw_no0062_01.row.prog w) (ktrTop dp un gd cn cs L a ccd [] outer) (call (.ref 167) [.ref Γ.x, .str kind kd, .int sid tsd]) Q E s :=
  CtT.useT (given_ct u sid tsd o ho' hus h0 h24 kd kind fs hkd z0 z1 z2 z3 hS hA.1) B F X N T hk XB TB KD hd hu hS.adr hA sub ht fun v res h' tk' h₁ P KT F' N' B' X' T' D' => by
    rcases P with ⟨c', t, rfl, hr, S⟩ | ⟨_, _, _, _, hr, _⟩ | ⟨_, _, _, _, _, hr, _⟩
    · cases hr.symm.trans hrf; exact k t res h' tk' h₁ S KT B' X' T' D' F' (cb_drop N' mid_out)
    · cases hr.symm.trans hrf
    · cases hr.symm.trans hrf
theorem given2_sl (B : Below A₀ base outer h₀) (F : Fr h₀ L s.heap m) (X : (Mine.hd.heap_39 w.params).In h₀) (N : News h₀ L s.heap news) (T : Top Mine.hd.view_39 (looseW Mine.hd.view_39 [Str.ofString "FRAME_TYPES"]) mean mg mb h₀) (XB : (Mine.hd.heap_39 w.params).In base) (TB : Top Mine.hd.view_39 (looseW Mine.hd.view_39 [Str.ofString "FRAME_TYPES"]) mean mg mb base) (KD : KtsDicts (outer.filterMap (·.frame)) h₀) (hk : cs.kind = .function) (hS : SL w Γ a0 a1 p0 p1 b0 b1 c0 c1 g0 g1 A0 A1 P0 P1 B0 B1 v0 v1 kvs led) (hA : Ap Γ own) (sub : ∀ p ∈ tmp ++ (led ++ own), p ∈ news) (ht : OwnOff tmp Γ.addrs) (hd : dp + 5 < recursionLimit) (hu : un + 40 < cLine) (ho' : decide (sid.fmod 2 = 1) = o) (hus : decide ((sid.fdiv 2).fmod 2 = 1) = u) (h0 : 0 ≤ sid) (h24 : sid < 24) (hkd : KindOk kind fs) (z0 : 0 ≤ c0) (z1 : c0 ≤ 6) (z2 : 0 ≤ c1) (z3 : c1 ≤ 6) (hrf : refused (!(u && ((o == Γ.r) != fs))) (o == Γ.r) (sid.fdiv 4) (cond u b1 b0) (cond u p1 p0) = none) (hm' : (o == Γ.r) = true)
    (k : ∀ D n' (led' : List (Addr × Obj)) (h' : Heap) (tk' : Nat) (h₁ : Heap), SL w Γ a0 a1 p0 p1 b0 b1 c0 c1 g0 g1 A0 A1 P0 P1 B0 B1 v0 v1 kvs led' → KtsTurn (outer.filterMap (·.frame)) h₀ h₁ → Below A₀ base outer h₁ → (Mine.hd.heap_39 w.params).In h₁ → Top Mine.hd.view_39 (looseW Mine.hd.view_39 [Str.ofString "FRAME_TYPES"]) mean mg mb h₁ → KtsDicts (outer.filterMap (·.frame)) h₁ → Fr h₁ L h' m → News h₁ L h' ((D, listOf #[] n') :: (tmp ++ (led' ++ own))) → Q (.ref D) { s with heap := h', toks := tk' }) :
    wpAny (model PySem.Challenge.rw_no0062_01.row.prog w) (ktrTop dp un gd cn cs L a ccd [] outer) (call (.ref 167) [.ref Γ.x, .str kind kd, .int sid tsd]) Q E s :=
  CtT.useT (given_ct u sid tsd o ho' hus h0 h24 kd kind fs hkd z0 z1 z2 z3 hS hA.1) B F X N T hk XB TB KD hd hu hS.adr hA sub ht fun v res h' tk' h₁ P KT F' N' B' X' T' D' => by
    rcases P with ⟨_, _, _, hr, _⟩ | ⟨D, n', led2, rfl, _, _, rfl, S, _⟩ | ⟨_, _, _, _, _, _, hm, _⟩
    · cases hr.symm.trans hrf
    · exact k D n' led2 h' tk' h₁ S KT B' X' T' D' F' (cb_drop N' (sub_in (.head _) fun p hp => .tail _ (mid_out p hp)))
    · cases hm.symm.trans hm'
theorem given3_sl (B : Below A₀ base outer h₀) (F : Fr h₀ L s.heap m) (X : (Mine.hd.heap_39 w.params).In h₀) (N : News h₀ L s.heap news) (T : Top Mine.hd.view_39 (looseW Mine.hd.view_39 [Str.ofString "FRAME_TYPES"]) mean mg mb h₀) (XB : (Mine.hd.heap_39 w.params).In base) (TB : Top Mine.hd.view_39 (looseW Mine.hd.view_39 [Str.ofString "FRAME_TYPES"]) mean mg mb base) (KD : KtsDicts (outer.filterMap (·.frame)) h₀) (hk : cs.kind = .function) (hS : SL w Γ a0 a1 p0 p1 b0 b1 c0 c1 g0 g1 A0 A1 P0 P1 B0 B1 v0 v1 kvs led) (hA : Ap Γ own) (sub : ∀ p ∈ tmp ++ (led ++ own), p ∈ news) (ht : OwnOff tmp Γ.addrs) (hd : dp + 5 < recursionLimit) (hu : un + 40 < cLine) (ho' : decide (sid.fmod 2 = 1) = o) (hus : decide ((sid.fdiv 2).fmod 2 = 1) = u) (h0 : 0 ≤ sid) (h24 : sid < 24) (hkd : KindOk kind fs) (z0 : 0 ≤ c0) (z1 : c0 ≤ 6) (z2 : 0 ≤ c1) (z3 : c1 ≤ 6) (hrf : refused (!(u && ((o == Γ.r) != fs))) (o == Γ.r) (sid.fdiv 4) (cond u b1 b0) (cond u p1 p0) = none) (hm' : (o == Γ.r) = false)
    (k : ∀ D ys n' (led' : List (Addr × Obj)) (h' : Heap) (tk' : Nat) (h₁ : Heap), IntsAre ys ((rangeKs (cond u c1 c0) (sid.fdiv 4 + 1 - cond u c1 c0).toNat).map fun k' => 4 * k' + (if o = true then 1 else 0) + (if u = true then 2 else 0)) → SL w Γ a0 a1 p0 p1 b0 b1 (cond u c0 (if sid.fdiv 4 + 1 > cond u c1 c0 then sid.fdiv 4 + 1 else cond u c1 c0)) (cond u (if sid.fdiv 4 + 1 > cond u c1 c0 then sid.fdiv 4 + 1 else cond u c1 c0) c1) g0 g1 A0 A1 P0 P1 B0 B1 v0 v1 kvs led' → KtsTurn (outer.filterMap (·.frame)) h₀ h₁ → Below A₀ base outer h₁ → (Mine.hd.heap_39 w.params).In h₁ → Top Mine.hd.view_39 (looseW Mine.hd.view_39 [Str.ofString "FRAME_TYPES"]) mean mg mb h₁ → KtsDicts (outer.filterMap (·.frame)) h₁ → Fr h₁ L h' m → News h₁ L h' ((D, listOf (List.toArray ys) n') :: (tmp ++ (led' ++ own))) → Q (.ref D) { s with heap := h', toks := tk' }) :
    wpAny (model PySem.Challenge.rw_no0062_01.row.prog w) (ktrTop dp un gd cn cs L a ccd [] outer) (call (.ref 167) [.ref Γ.x, .str kind kd, .int sid tsd]) Q E s :=
  CtT.useT (given_ct u sid tsd o ho' hus h0 h24 kd kind fs hkd z0 z1 z2 z3 hS hA.1) B F X N T hk XB TB KD hd hu hS.adr hA sub ht fun v res h' tk' h₁ P KT F' N' B' X' T' D' => by
    rcases P with ⟨_, _, _, hr, _⟩ | ⟨_, _, _, _, _, hm, _⟩ | ⟨D, ys, n', led2, rfl, _, _, hI, rfl, S, _⟩
    · cases hr.symm.trans hrf
    · cases hm.symm.trans hm'
    · exact k D ys n' led2 h' tk' h₁ hI S KT B' X' T' D' F' (cb_drop N' (sub_in (.head _) fun p hp => .tail _ (mid_out p hp)))
end

inductive SLs (w : World) (Γ : Gm) (led : List (Addr × Obj)) : Prop
  | mk {a0 a1 p0 p1 b0 b1 c0 c1 g0 g1 A0 A1 P0 P1 B0 B1 : Int} {v0 v1 : Value} {kvs : List (Int × Value)} (S : SL w Γ a0 a1 p0 p1 b0 b1 c0 c1 g0 g1 A0 A1 P0 P1 B0 B1 v0 v1 kvs led)
    (e1 : A0 = a0) (e2 : A1 = a1) (e3 : P0 = p0) (e4 : P1 = p1) (e5 : B0 = b0) (e6 : B1 = b1)
    (f4 : 0 ≤ c0) (f5 : c0 ≤ 6) (f6 : 0 ≤ c1) (f7 : c1 ≤ 6) (f8 : Told v0 g0 p0) (f9 : Told v1 g1 p1) (f10 : OpenOk Γ.r c0 c1 kvs) : SLs w Γ led

theorem cc {α : Type} {u : Bool} {a b c d : α} : cond u (cond u a b) (cond u c d) = cond u a d := by cases u <;> rfl

theorem ks_fit2 {kvs : List (Int × Value)} {sid : Int} {f : Int → Int} {p : Int → Bool} (h1 : kvs.length ≤ 12) (h2 : 0 ≤ sid) (h3 : sid < 24) : kvs.length + (((rangeKs 0 (sid.fdiv 4 + 1 - 0).toNat).map f).filter p).length ≤ 1000 := by
  have e := List.length_filter_le p ((rangeKs 0 (sid.fdiv 4 + 1 - 0).toNat).map f)
  rw [List.length_map, rangeKs_length] at e
  have : sid.fdiv 4 < 6 := by rw [Int.fdiv_eq_ediv_of_nonneg _ (by decide)]; omega
  omega

theorem isi_list {prog : Program} {w : World} {A : Around} {E : Value → Shared → Prop} {s : Shared} {h₀ : Heap} {L : Addr} {news : List (Addr × Obj)} {Q : Value → Shared → Prop} {D : Addr} {vs : List Value} {c : Nat} (N : News h₀ L s.heap news) (hm : (D, listOf vs.toArray c) ∈ news) (h : Q (.bool true) s) : wpAny (model prog w) A (call (.builtin "isinstance") [.ref D, .type "list"]) Q E s :=
  PySem.IsiPair.isList_list (h₀ := s.heap) ⟨_, (N _ hm).1, rfl, c, rfl⟩ (fun _ _ e => e) h

theorem srv (r : Bool) : (roleStr r == Str.ofString "server") = r := by
  rw [show Str.ofString "server" = roleStr true from rfl, roleStr_beq]; cases r <;> rfl

theorem fin_true {Q : Value → Shared → Prop} {s : Shared} {b : Bool} (h : Q (.bool true) s) (e : b = true) : Q (.bool b) s := e ▸ h

theorem told_same {g p : Int} {t : Tok} (e : g = p) : Told (.int p t) g p := .inl ⟨t, by rw [e]⟩

theorem told_lost {g p : Int} (e : g = p - 1) : Told .none g p := .inr ⟨rfl, by omega⟩

theorem open_after {r o u : Bool} {c0 c1 sid : Int} {kvs : List (Int × Value)} (h : OpenOk r c0 c1 kvs) (ho : decide (sid.fmod 2 = 1) = o) (hu : decide ((sid.fdiv 2).fmod 2 = 1) = u) (hor : (o == r) = false) (hs0 : 0 ≤ sid) (hs1 : sid < 24) (g0 : 0 ≤ c0) (g1 : c0 ≤ 6) (g2 : 0 ≤ c1) (g3 : c1 ≤ 6) :
    0 ≤ cond u c0 (if sid.fdiv 4 + 1 > cond u c1 c0 then sid.fdiv 4 + 1 else cond u c1 c0) ∧ cond u c0 (if sid.fdiv 4 + 1 > cond u c1 c0 then sid.fdiv 4 + 1 else cond u c1 c0) ≤ 6 ∧
    0 ≤ cond u (if sid.fdiv 4 + 1 > cond u c1 c0 then sid.fdiv 4 + 1 else cond u c1 c0) c1 ∧ cond u (if sid.fdiv 4 + 1 > cond u c1 c0 then sid.fdiv 4 + 1 else cond u c1 c0) c1 ≤ 6 ∧
    OpenOk r (cond u c0 (if sid.fdiv 4 + 1 > cond u c1 c0 then sid.fdiv 4 + 1 else cond u c1 c0)) (cond u (if sid.fdiv 4 + 1 > cond u c1 c0 then sid.fdiv 4 + 1 else cond u c1 c0) c1)
      ((((rangeKs 0 (sid.fdiv 4 + 1 - 0).toNat).map fun k' => 4 * k' + Builtin.bitAnd sid 3).filter fun k => !(valueAt kvs k).isSome).foldl (fun k n => stored k n (.bool true)) kvs) := by
  have ho' : o = !r := by cases o <;> cases r <;> simp_all
  have n0 : 0 ≤ sid.fdiv 4 := Int.fdiv_nonneg hs0 (by decide)
  have n1 : sid.fdiv 4 < 6 := by rw [Int.fdiv_eq_ediv_of_nonneg _ (by decide)]; omega
  have key := OpenOk.adds (u := u) (sid.fdiv 4 + 1 - cond u c1 c0).toNat h g0 g2
  rw [← ho', ks_eq h ho hu hor hs0 hs1 g0 g1 g2 g3] at key
  generalize sid.fdiv 4 = n at n0 n1 key ⊢
  cases u <;> simp only [cond] at key ⊢
  · have e : c0 + ((n + 1 - c0).toNat : Int) = if n + 1 > c0 then n + 1 else c0 := by split <;> omega
    rw [e] at key
    refine ⟨?_, ?_, g2, g3, key⟩ <;> split <;> omega
  · have e : c1 + ((n + 1 - c1).toNat : Int) = if n + 1 > c1 then n + 1 else c1 := by split <;> omega
    rw [e] at key
    refine ⟨g0, g1, ?_, ?_, key⟩ <;> split <;> omega

theorem eqU (r u : Bool) (b0 b1 : Int) : (((4 * cond u b1 b0 + if r = true then 1 else 0) + if u = true then 2 else 0) == (4 * cond u b1 b0 + cond (roleStr r == Str.ofString "server") 1 0) + 2 * cond u 1 0) = true := by
  rw [srv]; cases r <;> cases u <;> simp

theorem cx {u : Bool} {x : Int} : cond u x x = x := by cases u <;> rfl
theorem cfin0 {u : Bool} {b0 b1 : Int} : cond u b0 (cond u b1 b0 + cond false 1 0) = b0 := by cases u <;> simp
theorem cfin1 {u : Bool} {b0 b1 : Int} : cond u (cond u b1 b0 + cond false 1 0) b1 = b1 := by cases u <;> simp
theorem told_c0 {u : Bool} {v : Value} {g p0 p1 : Int} (h : Told v g p0) : Told v g (cond u p0 (cond u p1 p0 + 1)) := by
  cases u
  · exact h.up
  · exact h
theorem told_c1 {u : Bool} {v : Value} {g p0 p1 : Int} (h : Told v g p1) : Told v g (cond u (cond u p1 p0 + 1) p1) := by
  cases u
  · exact h
  · exact h.up
/-- told at the side: the same limit was told -/
theorem told_s0 {u : Bool} {v0 : Value} {g0 g1 p0 p1 : Int} {t : Tok} (h : Told v0 g0 p0) (e : cond u g1 g0 = cond u p1 p0) : Told (cond u v0 (.int (cond u p1 p0) t)) g0 p0 := by
  cases u
  · exact told_same e
  · exact h
theorem told_s1 {u : Bool} {v1 : Value} {g0 g1 p0 p1 : Int} {t : Tok} (h : Told v1 g1 p1) (e : cond u g1 g0 = cond u p1 p0) : Told (cond u (.int (cond u p1 p0) t) v1) g1 p1 := by
  cases u
  · exact h
  · exact told_same e
/-- told at the side, and lost -/
theorem told_l0 {u : Bool} {v0 v : Value} {g0 g1 p0 p1 : Int} (h : Told v0 g0 p0) (_e : cond u g1 g0 = cond u p1 p0) : Told (cond u (cond u v0 v) .none) (cond u g0 (cond u p1 p0 - 1)) p0 := by
  cases u
  · exact told_lost rfl
  · exact h
theorem told_l1 {u : Bool} {v1 v : Value} {g0 g1 p0 p1 : Int} (h : Told v1 g1 p1) (_e : cond u g1 g0 = cond u p1 p0) : Told (cond u .none (cond u v v1)) (cond u (cond u p1 p0 - 1) g1) p1 := by
  cases u
  · exact h
  · exact told_lost rfl
/-- a new limit told -/
theorem told_n0 {u : Bool} {v0 : Value} {g0 p0 p1 : Int} {t : Tok} (h : Told v0 g0 p0) : Told (cond u v0 (.int (cond u p1 p0) t)) (cond u g0 (cond u p1 p0)) p0 := by
  cases u
  · exact told_same rfl
  · exact h
theorem told_n1 {u : Bool} {v1 : Value} {g1 p0 p1 : Int} {t : Tok} (h : Told v1 g1 p1) : Told (cond u (.int (cond u p1 p0) t) v1) (cond u (cond u p1 p0) g1) p1 := by
  cases u
  · exact h
  · exact told_same rfl
/-- a new limit told, and lost -/
theorem told_m0 {u : Bool} {v0 v : Value} {g0 p0 p1 q : Int} (h : Told v0 g0 p0) : Told (cond u (cond u v0 v) .none) (cond u (cond u g0 q) (cond u p1 p0 - 1)) p0 := by
  cases u
  · exact told_lost rfl
  · exact h
theorem told_m1 {u : Bool} {v1 v : Value} {g1 p0 p1 q : Int} (h : Told v1 g1 p1) : Told (cond u .none (cond u v v1)) (cond u (cond u p1 p0 - 1) (cond u q g1)) p1 := by
  cases u
  · exact h
  · exact told_lost rfl

end Mine
end

section
open PySem PySem.W PyProof.Rows
open PySem.Calls
set_option maxRecDepth 100000
set_option maxHeartbeats 60000000
namespace Mine
open PySem.Challenge

theorem step_ct (w : World) {Γ : Gm} {a0 a1 p0 p1 b0 b1 c0 c1 g0 g1 : Int} {v0 v1 : Value} {kvs : List (Int × Value)} {led : List (Addr × Obj)} (hok : Gok w Γ) (f4 : 0 ≤ c0) (f5 : c0 ≤ 6) (f6 : 0 ≤ c1) (f7 : c1 ≤ 6) (f8 : Told v0 g0 p0) (f9 : Told v1 g1 p1) (f10 : OpenOk Γ.r c0 c1 kvs)
    (hS : SL w Γ a0 a1 p0 p1 b0 b1 c0 c1 g0 g1 a0 a1 p0 p1 b0 b1 v0 v1 kvs led) :
    CtT w 12 179 [.ref Γ.b, .ref Γ.x, .ref Γ.hD] led (fun v led' _ => v = .bool true ∧ SLs w Γ led') := by
  k_with_none
  k_with "execs cons" => (k_here; (try k_gentoks); refine seal_q ?_; intro Q9 hN9 hR9; k_dflt (k_steps; all_goals (first | (refine SealN.use (by with_reducible assumption) ?_) | (refine SealR.use (by with_reducible assumption) ?_) | skip); all_goals (try dsimp only)))
  k_with "call ref" => (k_here; (with_reducible show wpAny _ _ (call (Value.ref 153) _) _ _ _); k_dflt (refine' take_sl (tmp := [(_, _)]) (by first | decide | omega) (by k_asm) (by k_asm) (by k_asm) (by k_asm) (by k_asm) (by first | exact rfl | assumption) (by with_reducible assumption) (by with_reducible assumption) (by repeat' first | exact sub_refl | refine sub_keep ?_ | refine sub_skip ?_) (by first | assumption | exact off_app (by with_reducible assumption) (by assumption) | exact off_lt (by with_reducible assumption) (by assumption) | exact off_lt (by with_reducible assumption) (And.right (by assumption)) | exact off_lt (by with_reducible assumption) (And.right (And.right (by assumption)))) (by ktr_room) (by ktr_units)  ?_); intro r9 t9 led9 h9 tk9 p9 q9 S9 F9 N9; (try dsimp only [List.nil_append, List.cons_append] at N9); (try dsimp only); (try k_fold))
  k_with "call ref" => (k_here; (with_reducible show wpAny _ _ (call (Value.ref 153) [_, Value.int 7 _]) _ _ _); k_dflt (refine' take_sl (tmp := []) (by decide) (by k_asm) (by k_asm) (by k_asm) (by k_asm) (by k_asm) (by first | exact rfl | assumption) (by with_reducible assumption) (by with_reducible assumption) (by repeat' first | exact sub_refl | refine sub_keep ?_ | refine sub_skip ?_) off_nl (by ktr_room) (by ktr_units)  ?_); intro r9 t9 led9 h9 tk9 p9 q9 S9 F9 N9; (try dsimp only [List.nil_append, List.cons_append] at N9); (try dsimp only); (try k_fold))
  k_with "call ref" => (k_here; (with_reducible show wpAny _ _ (call (Value.ref 153) [_, Value.int 3 _]) _ _ _); k_dflt (refine' take_sl (tmp := []) (by decide) (by k_asm) (by k_asm) (by k_asm) (by k_asm) (by k_asm) (by first | exact rfl | assumption) (by with_reducible assumption) (by with_reducible assumption) (by repeat' first | exact sub_refl | refine sub_keep ?_ | refine sub_skip ?_) off_nl (by ktr_room) (by ktr_units)  ?_); intro r9 t9 led9 h9 tk9 p9 q9 S9 F9 N9; (try dsimp only [List.nil_append, List.cons_append] at N9); (try dsimp only); (try k_fold))
  k_with "call ref" => (k_here; (with_reducible show wpAny _ _ (call (Value.ref 153) [_, Value.int 2 _]) _ _ _); k_dflt (refine' take2_sl (tmp := [])  (by k_asm) (by k_asm) (by k_asm) (by k_asm) (by k_asm) (by first | exact rfl | assumption) (by with_reducible assumption) (by with_reducible assumption) (by repeat' first | exact sub_refl | refine sub_keep ?_ | refine sub_skip ?_) off_nl (by ktr_room) (by ktr_units)  ?_); intro u9 t9 led9 h9 tk9 S9 F9 N9; (try dsimp only [List.nil_append, List.cons_append] at N9); (try dsimp only); (try k_fold))
  k_with "call ref" => (k_here; (with_reducible show wpAny _ _ (call (Value.ref 153) [_, Value.int 24 _]) _ _ _); k_dflt (refine' take24_sl (tmp := [])  (by k_asm) (by k_asm) (by k_asm) (by k_asm) (by k_asm) (by first | exact rfl | assumption) (by with_reducible assumption) (by with_reducible assumption) (by repeat' first | exact sub_refl | refine sub_keep ?_ | refine sub_skip ?_) off_nl (by ktr_room) (by ktr_units)  ?_); intro r9 o9 u9 t9 led9 h9 tk9 ho9 hu9 p9 q9 S9 F9 N9; (try dsimp only [List.nil_append, List.cons_append] at N9); (try dsimp only); (try k_fold))
  k_with "call ref" => (k_here; (with_reducible show wpAny _ _ (call (Value.ref 153) [_, Value.int 6 _]) _ _ _); k_dflt (refine' take6_sl (tmp := [])  (by k_asm) (by k_asm) (by k_asm) (by k_asm) (by k_asm) (by first | exact rfl | assumption) (by with_reducible assumption) (by with_reducible assumption) (by repeat' first | exact sub_refl | refine sub_keep ?_ | refine sub_skip ?_) off_nl (by ktr_room) (by ktr_units)  ?_ ?_ ?_ ?_ ?_); (focus (intro t9 led9 h9 tk9 S9 F9 N9; (try dsimp only [List.nil_append, List.cons_append] at N9); (try dsimp only); (try k_fold))); rotate_left; (focus (intro t9 led9 h9 tk9 S9 F9 N9; (try dsimp only [List.nil_append, List.cons_append] at N9); (try dsimp only); (try k_fold))); rotate_left; (focus (intro t9 led9 h9 tk9 hl9 S9 F9 N9; (try dsimp only [List.nil_append, List.cons_append] at N9); (try dsimp only); (try k_fold))); rotate_left; (focus (intro t9 led9 h9 tk9 S9 F9 N9; (try dsimp only [List.nil_append, List.cons_append] at N9); (try dsimp only); (try k_fold))); rotate_left; (focus (intro r9 t9 led9 h9 tk9 e09 e39 e49 e59 S9 F9 N9; (try dsimp only [List.nil_append, List.cons_append] at N9); (try dsimp only); (try k_fold))); rotate_left)
  k_with "call ref" => (k_here; (with_reducible show wpAny _ _ (call (Value.ref 99) _) _ _ _); k_dflt (refine' open1_sl (tmp := []) _ (by k_asm) (by k_asm) (by k_asm) (by k_asm) (by k_asm) (by first | exact rfl | assumption) (by with_reducible assumption) (by with_reducible assumption) (by repeat' first | exact sub_refl | refine sub_keep ?_ | refine sub_skip ?_) off_nl (by ktr_room) (by ktr_units) (by first | omega | (simp only [cc, cx]; done) | (simp only [cc, cx]; omega)) ?_); intro led9 h9 tk9 S9 F9 N9; (try dsimp only [List.nil_append, List.cons_append] at N9); (try dsimp only); (try k_fold))
  k_with "call ref" => (k_here; (with_reducible show wpAny _ _ (call (Value.ref 99) _) _ _ _); k_dflt (refine' open2_sl (tmp := []) _ (by k_asm) (by k_asm) (by k_asm) (by k_asm) (by k_asm) (by first | exact rfl | assumption) (by with_reducible assumption) (by with_reducible assumption) (by repeat' first | exact sub_refl | refine sub_keep ?_ | refine sub_skip ?_) off_nl (by ktr_room) (by ktr_units) (by first | omega | (simp only [cc, cx]; done) | (simp only [cc, cx]; omega)) ?_); intro t9 led9 h9 tk9 S9 F9 N9; (try dsimp only [List.nil_append, List.cons_append] at N9); (try dsimp only); (try k_fold))
  k_with "call ref" => (k_here; (with_reducible show wpAny _ _ (call (Value.ref 106) _) _ _ _); k_dflt (refine' raise_sl (tmp := []) _ (by k_asm) (by k_asm) (by k_asm) (by k_asm) (by k_asm) (by first | exact rfl | assumption) (by with_reducible assumption) (by with_reducible assumption) (by repeat' first | exact sub_refl | refine sub_keep ?_ | refine sub_skip ?_) off_nl (by ktr_room) (by ktr_units)  ?_); intro led9 h9 tk9 S9 F9 N9; (try dsimp only [List.nil_append, List.cons_append] at N9); (try dsimp only); (try k_fold))
  k_with "call ref" => (k_here; (with_reducible show wpAny _ _ (call (Value.ref 118) _) _ _ _); k_dflt (refine' closed_sl (tmp := [])  (by k_asm) (by k_asm) (by k_asm) (by k_asm) (by k_asm) (by first | exact rfl | assumption) (by with_reducible assumption) (by with_reducible assumption) (by repeat' first | exact sub_refl | refine sub_keep ?_ | refine sub_skip ?_) off_nl (by ktr_room) (by ktr_units) (by with_reducible assumption) (by with_reducible assumption) ?_); intro led9 h9 tk9 S9 F9 N9; (try dsimp only [List.nil_append, List.cons_append] at N9); (try dsimp only); (try k_fold))
  k_with "call ref" => (k_here; (with_reducible show wpAny _ _ (call (Value.ref 125) _) _ _ _); k_dflt (refine' grant1_sl (tmp := []) _ (by k_asm) (by k_asm) (by k_asm) (by k_asm) (by k_asm) (by first | exact rfl | assumption) (by with_reducible assumption) (by with_reducible assumption) (by repeat' first | exact sub_refl | refine sub_keep ?_ | refine sub_skip ?_) off_nl (by ktr_room) (by ktr_units) (by first | omega | (simp only [cc, cx]; done) | (simp only [cc, cx]; omega)) ?_); intro led9 h9 tk9 S9 F9 N9; (try dsimp only [List.nil_append, List.cons_append] at N9); (try dsimp only); (try k_fold))
  k_with "call ref" => (k_here; (with_reducible show wpAny _ _ (call (Value.ref 125) _) _ _ _); k_dflt (refine' grant2_sl (tmp := []) _ (by k_asm) (by k_asm) (by k_asm) (by k_asm) (by k_asm) (by first | exact rfl | assumption) (by with_reducible assumption) (by with_reducible assumption) (by repeat' first | exact sub_refl | refine sub_keep ?_ | refine sub_skip ?_) off_nl (by ktr_room) (by ktr_units) (by first | omega | (simp only [cc, cx]; done) | (simp only [cc, cx]; omega)) ?_); intro t9 led9 h9 tk9 S9 F9 N9; (try dsimp only [List.nil_append, List.cons_append] at N9); (try dsimp only); (try k_fold))
  k_with "call ref" => (k_here; (with_reducible show wpAny _ _ (call (Value.ref 132) _) _ _ _); k_dflt (refine' lost_sl (tmp := []) _ (by k_asm) (by k_asm) (by k_asm) (by k_asm) (by k_asm) (by first | exact rfl | assumption) (by with_reducible assumption) (by with_reducible assumption) (by repeat' first | exact sub_refl | refine sub_keep ?_ | refine sub_skip ?_) off_nl (by ktr_room) (by ktr_units) (by first | omega | (simp only [cc, cx]; done) | (simp only [cc, cx]; omega)) ?_); intro led9 h9 tk9 S9 F9 N9; (try dsimp only [List.nil_append, List.cons_append] at N9); (try dsimp only); (try k_fold))
  k_with "call ref" => (k_here; (with_reducible show wpAny _ _ (call (Value.ref 172) _) _ _ _); k_dflt (refine' due_sl (by k_asm) (by k_asm) (by k_asm) (by k_asm) (by k_asm) (by first | exact rfl | assumption) (by with_reducible assumption) (by with_reducible assumption) (by with_reducible assumption) (by repeat' first | exact sub_refl | refine sub_keep ?_ | refine sub_skip ?_) (by ktr_room) (by ktr_units) (by with_reducible assumption) (by with_reducible assumption) (by with_reducible assumption) (by with_reducible assumption) (by with_reducible assumption) ?_ ?_ ?_); (focus (intro c9 t9 h9 tk9 hr9 F9 N9; (try dsimp only [List.nil_append, List.cons_append] at N9); (try dsimp only); (try k_fold))); rotate_left; (focus (intro D9 n9 h9 tk9 ht9 hr9 hm9 F9 N9; (try dsimp only [List.nil_append, List.cons_append] at N9); (try dsimp only); (try k_fold))); rotate_left; (focus (intro D9 ys9 n9 h9 tk9 ht9 hr9 hm9 hI9 F9 N9; (try dsimp only [List.nil_append, List.cons_append] at N9); (try dsimp only); (try k_fold))); rotate_left)
  k_with "call ref" => (k_here; (with_reducible show wpAny _ _ (call (Value.ref 167) _) _ _ _); k_dflt (refine' given1_sl (tmp := [])  (by k_asm) (by k_asm) (by k_asm) (by k_asm) (by k_asm) (by assumption) (by assumption) (by assumption) (by first | exact rfl | assumption) (by with_reducible assumption) (by with_reducible assumption) (by repeat' first | exact sub_refl | refine sub_keep ?_ | refine sub_skip ?_) off_nl (by ktr_room) (by ktr_units) (by with_reducible assumption) (by with_reducible assumption) (by with_reducible assumption) (by with_reducible assumption) (by with_reducible assumption) (by with_reducible assumption) (by with_reducible assumption) (by with_reducible assumption) (by with_reducible assumption) (by with_reducible assumption) ?_); intro t9 led9 h9 tk9 g9 S9 KT9 B9 X9 T9 Kd9 F9 N9; (try dsimp only [List.nil_append, List.cons_append] at N9); (try dsimp only); (try k_fold))
  k_with "call ref" => (k_here; (with_reducible show wpAny _ _ (call (Value.ref 167) _) _ _ _); k_dflt (refine' given2_sl (tmp := [(_, _)])  (by k_asm) (by k_asm) (by k_asm) (by k_asm) (by k_asm) (by assumption) (by assumption) (by assumption) (by first | exact rfl | assumption) (by with_reducible assumption) (by with_reducible assumption) (by repeat' first | exact sub_refl | refine sub_keep ?_ | refine sub_skip ?_) (by first | assumption | exact off_app (by with_reducible assumption) (by assumption) | exact off_lt (by with_reducible assumption) (by assumption) | exact off_lt (by with_reducible assumption) (And.right (by assumption)) | exact off_lt (by with_reducible assumption) (And.right (And.right (by assumption)))) (by ktr_room) (by ktr_units) (by with_reducible assumption) (by with_reducible assumption) (by with_reducible assumption) (by with_reducible assumption) (by with_reducible assumption) (by with_reducible assumption) (by with_reducible assumption) (by with_reducible assumption) (by with_reducible assumption) (by with_reducible assumption) (by with_reducible assumption) ?_); intro D9 n9 led9 h9 tk9 g9 S9 KT9 B9 X9 T9 Kd9 F9 N9; (try dsimp only [List.nil_append, List.cons_append] at N9); (try dsimp only); (try k_fold))
  k_with "call ref" => (k_here; (with_reducible show wpAny _ _ (call (Value.ref 167) _) _ _ _); k_dflt (refine' given3_sl (tmp := [(_, _)])  (by k_asm) (by k_asm) (by k_asm) (by k_asm) (by k_asm) (by assumption) (by assumption) (by assumption) (by first | exact rfl | assumption) (by with_reducible assumption) (by with_reducible assumption) (by repeat' first | exact sub_refl | refine sub_keep ?_ | refine sub_skip ?_) (by first | assumption | exact off_app (by with_reducible assumption) (by assumption) | exact off_lt (by with_reducible assumption) (by assumption) | exact off_lt (by with_reducible assumption) (And.right (by assumption)) | exact off_lt (by with_reducible assumption) (And.right (And.right (by assumption)))) (by ktr_room) (by ktr_units) (by with_reducible assumption) (by with_reducible assumption) (by with_reducible assumption) (by with_reducible assumption) (by with_reducible assumption) (by with_reducible assumption) (by with_reducible assumption) (by with_reducible assumption) (by with_reducible assumption) (by with_reducible assumption) (by with_reducible assumption) ?_); intro D9 ys9 n9 led9 h9 tk9 g9 hI9 S9 KT9 B9 X9 T9 Kd9 F9 N9; (try dsimp only [List.nil_append, List.cons_append] at N9); (try dsimp only); (try k_fold))
  k_with "getMethod ref" => (k_here; (with_reducible show wpAny _ _ (getMethod (Value.ref (Gm.x _)) _ _) _ _ _); k_dflt (refine' method_inst (by k_asm) (by k_asm) (SL.inst (by with_reducible assumption) (by k_asm) (by repeat' first | exact sub_refl | refine sub_keep ?_ | refine sub_skip ?_)) (by k_is) (by k_is) (by k_is) (by k_get) ?_; k_whole))
  k_with "subscriptTail Subscript" => (k_here; k_dflt (refine kba_turn (value' := PySem.Expr.Name (PySem.Str.ofString "_") ⟨0, 0, 0, 0⟩) (fun _ => rfl) ?_))
  k_with "subscriptTail Call" => (k_here; k_dflt (refine kba_turn (value' := PySem.Expr.Name (PySem.Str.ofString "_") ⟨0, 0, 0, 0⟩) (fun _ => rfl) ?_))
  k_with "subscriptTail" => (k_here; (with_reducible show wpAny _ _ (subscriptTail _ _ (Value.ref (Gm.hD _)) (Value.str _ _)) _ _ _); k_dflt (refine' here_sl (by with_reducible assumption) (by with_reducible assumption) (by k_asm) (by repeat' first | exact sub_refl | refine sub_keep ?_ | refine sub_skip ?_) (by rfl) (by with_unfolding_all rfl) (by intro _; with_unfolding_all rfl) ?_))
  k_with "subscriptTail" => (k_here; (with_reducible show wpAny _ _ (subscriptTail _ _ (Value.ref (Gm.le _)) (Value.int (cond _ 1 0) _)) _ _ _); k_dflt (refine' item_L (SL.le (by with_reducible assumption)) (by k_asm) (by repeat' first | exact sub_refl | refine sub_keep ?_ | refine sub_skip ?_) (by intro _; with_unfolding_all rfl) (by intro _; with_unfolding_all rfl) ?_); intro t9)
  k_with "setItem ref int" => (k_here; (with_reducible show wpAny _ _ (PySem.setItem (Value.ref (Gm.le _)) (Value.int (cond _ 1 0) _) (Value.int _ _)) _ _ _); k_dflt (refine' set_le (by k_asm) (by with_reducible assumption) (by with_reducible assumption) (by k_asm) (by repeat' first | exact sub_refl | refine sub_keep ?_ | refine sub_skip ?_) ?_); intro led9 h9 S9 F9 N9; (try dsimp only))
  k_with "subscriptTail" => (k_here; (with_reducible show wpAny _ _ (subscriptTail _ _ (Value.ref (Gm.ls _)) (Value.int (cond _ 1 0) _)) _ _ _); k_dflt (refine' item_L (SL.ls (by with_reducible assumption)) (by k_asm) (by repeat' first | exact sub_refl | refine sub_keep ?_ | refine sub_skip ?_) (by intro _; with_unfolding_all rfl) (by intro _; with_unfolding_all rfl) ?_); intro t9)
  k_with "setItem ref int" => (k_here; (with_reducible show wpAny _ _ (PySem.setItem (Value.ref (Gm.ls _)) (Value.int (cond _ 1 0) _) (Value.int _ _)) _ _ _); k_dflt (refine' set_ls (by k_asm) (by with_reducible assumption) (by with_reducible assumption) (by k_asm) (by repeat' first | exact sub_refl | refine sub_keep ?_ | refine sub_skip ?_) ?_); intro led9 h9 S9 F9 N9; (try dsimp only))
  k_with "subscriptTail" => (k_here; (with_reducible show wpAny _ _ (subscriptTail _ _ (Value.ref (Gm.mi _)) (Value.int (cond _ 1 0) _)) _ _ _); k_dflt (refine' item_L (SL.mi (by with_reducible assumption)) (by k_asm) (by repeat' first | exact sub_refl | refine sub_keep ?_ | refine sub_skip ?_) (by intro _; with_unfolding_all rfl) (by intro _; with_unfolding_all rfl) ?_); intro t9)
  k_with "setItem ref int" => (k_here; (with_reducible show wpAny _ _ (PySem.setItem (Value.ref (Gm.mi _)) (Value.int (cond _ 1 0) _) (Value.int _ _)) _ _ _); k_dflt (refine' set_mi (by k_asm) (by with_reducible assumption) (by with_reducible assumption) (by k_asm) (by repeat' first | exact sub_refl | refine sub_keep ?_ | refine sub_skip ?_) ?_); intro led9 h9 S9 F9 N9; (try dsimp only))
  k_with "getItem ref int" => (k_here; (with_reducible show wpAny _ _ (PySem.getItem (Value.ref (Gm.ls _)) (Value.int (cond _ 1 0) _)) _ _ _); k_dflt (refine' get_L (SL.ls (by with_reducible assumption)) (by k_asm) (by repeat' first | exact sub_refl | refine sub_keep ?_ | refine sub_skip ?_) ?_); intro t9)
  k_with "call type:int" => (k_here; (with_reducible show wpAny _ _ (call (Value.type "int") [Value.bool _]) _ _ _); k_dflt (refine' int_cond ?_))
  k_with "subscriptTail List" => (k_here; k_dflt (refine kba_turn (value' := PySem.Expr.Name (PySem.Str.ofString "_") ⟨0, 0, 0, 0⟩) (fun _ => rfl) ?_))
  k_with "isTrue BoolOp" => (k_here; (fail_if_success (with_reducible show wpAny _ _ _ (fun x s' => x = _ ∧ SameAs _ _ _ _ _ s') _ _)); (have e49' := e49); k_dflt (refine' join_same false (by k_asm) (by k_asm) ?_ ?_); rotate_left; (focus (intro h9 tk9 F9 N9; (try dsimp only [List.nil_append, List.cons_append] at N9); (try dsimp only); (try k_fold))); rotate_left)
  k_with "subscriptTail Name Name ref int" => (k_here; (with_reducible show wpAny _ _ (subscriptTail _ _ (Value.ref (Gm.to _)) (Value.int (cond _ 1 0) _)) _ _ _); k_dflt (refine' item_to (by with_reducible assumption) (by k_asm) (by repeat' first | exact sub_refl | refine sub_keep ?_ | refine sub_skip ?_) (by with_reducible assumption) (by with_reducible assumption) (by intro _; with_unfolding_all rfl) (by intro _; with_unfolding_all rfl) ?_); intro v9 hv9)
  k_with "setItem ref int" => (k_here; (with_reducible show wpAny _ _ (PySem.setItem (Value.ref (Gm.to _)) (Value.int (cond _ 1 0) _) _) _ _ _); k_dflt (refine' set_to (by k_asm) (by with_reducible assumption) (by with_reducible assumption) (by k_asm) (by repeat' first | exact sub_refl | refine sub_keep ?_ | refine sub_skip ?_) ?_); intro led9 h9 S9 F9 N9; (try dsimp only))
  k_with "compareOp NotEq ref ref" => (k_here; (with_reducible show wpAny _ _ (compareOp CmpOp.NotEq (Value.ref (Gm.op _)) (Value.ref _)) _ _ _); k_dflt (first | refine' ne_empty_sl (by with_reducible assumption) (by with_reducible assumption) (by k_asm) (by repeat' first | exact sub_refl | refine sub_keep ?_ | refine sub_skip ?_) (by k_mem) (by with_reducible assumption) (by with_reducible assumption) (by first | k_units | units_room | ktr_units) (by with_reducible assumption) ?_ | refine' ne_none_sl (by with_reducible assumption) (by with_reducible assumption) (by k_asm) (by repeat' first | exact sub_refl | refine sub_keep ?_ | refine sub_skip ?_) (by k_mem) (by with_reducible assumption) (by with_reducible assumption) (by first | k_units | units_room | ktr_units) (by exact e49 (by first | assumption | omega)) ?_))
  k_with "call builtin:sorted" => (k_here; (with_reducible show wpAny _ _ (call (Value.builtin "sorted") [Value.ref (Gm.op _)]) _ _ _); k_dflt (refine' sorted_sl (by exact rfl) (by with_reducible assumption) (by k_asm) (by with_reducible assumption) (by k_asm) (by repeat' first | exact sub_refl | refine sub_keep ?_ | refine sub_skip ?_) (by omega) ?_); intro D9 vs9 ns9 c9 h9 tk9 ht9 hi9 hl9 hx9 F9 N9; (try dsimp only))
  k_with "call builtin:len" => (k_here; (with_reducible show wpAny _ _ (call (Value.builtin "len") [Value.ref (Gm.op _)]) _ _ _); k_dflt (refine' len_sl (by with_reducible assumption) (by with_reducible assumption) (by k_asm) (by repeat' first | exact sub_refl | refine sub_keep ?_ | refine sub_skip ?_) (by omega) ?_))
  k_with "subscriptTail Name Name ref int" => (k_here; (with_reducible show wpAny _ _ (subscriptTail _ _ (Value.ref (Gm.op _)) (Value.int _ _)) _ _ _); k_dflt (refine' item_op (by with_reducible assumption) (by k_asm) (by repeat' first | exact sub_refl | refine sub_keep ?_ | refine sub_skip ?_) (by with_reducible assumption) (by with_unfolding_all rfl) (by intro _; with_unfolding_all rfl) ?_))
  k_with "setItem ref int" => (k_here; (with_reducible show wpAny _ _ (PySem.setItem (Value.ref (Gm.op _)) (Value.int _ _) (Value.bool _)) _ _ _); k_dflt (refine' set_op (by k_asm) (by with_reducible assumption) (by with_reducible assumption) (by k_asm) (by repeat' first | exact sub_refl | refine sub_keep ?_ | refine sub_skip ?_) (by rw [sizeLine_eq]; omega) ?_); intro led9 h9 S9 F9 N9; (try dsimp only))
  k_with "subscriptTail Name Call ref int" => (k_here; (with_reducible show wpAny _ _ (subscriptTail _ _ (Value.ref _) (Value.int _ _)) _ _ _); k_dflt (refine' item_menu (by k_asm) (by k_mem) (by with_reducible assumption) (by with_reducible assumption) ?_ (by intro _ _; with_unfolding_all rfl) (by intro _; with_unfolding_all rfl)); intro kind9 t9 fs9 hkd9)
  k_with "subscriptTail Name Call ref int" => (k_here; (with_reducible show wpAny _ _ (subscriptTail _ _ (Value.ref _) (Value.int _ _)) _ _ _); k_dflt (refine' item_open (by k_asm) (by k_mem) (by with_reducible assumption) (by with_reducible assumption) (by with_reducible assumption) (by with_reducible assumption) (by with_reducible assumption) (by with_reducible assumption) (by with_reducible assumption) (by with_reducible assumption) ?_ (by with_unfolding_all rfl) (by intro _; with_unfolding_all rfl)); intro x9 t9 b9 u9 hv9 ho9 hu9 hb9 z9 y9)
  k_with "compareOp NotEq ref ref" => (k_here; (with_reducible show wpAny _ _ (compareOp CmpOp.NotEq (Value.ref _) (Value.ref _)) _ _ _); k_dflt (refine' ne_lists (by k_asm) (by k_mem) (by k_mem) (by first | exact IntsAre.nil | with_reducible assumption) (by first | exact IntsAre.nil | with_reducible assumption) (by units_room) (by first | exact rfl | exact ks_eq (by assumption) (by assumption) (by assumption) (by assumption) (by assumption) (by assumption) (by assumption) (by assumption) (by assumption) (by assumption)) ?_))
  k_with "compareOp Eq int" => (k_here; (with_reducible show wpAny _ _ (compareOp CmpOp.Eq _ (Value.int _ _)) _ _ _); k_dflt (refine' told_eq (by with_reducible assumption) ?_ ?_); all_goals (intro hz9))
  k_with "compareOp Eq int int" => (k_here; (with_reducible show wpAny _ _ (compareOp CmpOp.Eq (Value.int _ _) (Value.int _ _)) _ _ _); k_dflt (refine' eq_lit (by with_reducible assumption) ?_))
  k_with "compareOp Eq int int" => (k_here; (with_reducible show wpAny _ _ (compareOp CmpOp.Eq (Value.int (cond _ 1 0) _) (Value.int 1 _)) _ _ _); k_dflt (refine at_eq ?_))
  k_with "compareOp Eq int int" => (k_here; (with_reducible show wpAny _ _ (compareOp CmpOp.Eq (Value.int (Builtin.bitAnd _ _) _) (Value.int _ _)) _ _ _); k_dflt (refine' bit2_eq (by with_reducible assumption) ?_))
  k_with "call builtin:isinstance" => (k_here; (with_reducible show wpAny _ _ (call _ [Value.ref _, Value.type _]) _ _ _); k_dflt (refine' isi_list (by k_asm) (by k_mem) ?_))
  k_with "exec For Name IfExp cons nil" => (k_here; (rename Fr _ _ _ _ => lF'); (with_unfolding_all refine' For_invVF lF' (by exact rfl) (by exact rfl) ?_; k_whole))
  k_with "pyIter ref" => (k_here; (k_dflt (refine' for_sl (by exact rfl) (by with_reducible assumption) (by with_reducible assumption) (by k_asm) (by with_reducible assumption) (by k_asm) (by repeat' first | exact sub_refl | refine sub_keep ?_ | refine sub_skip ?_) (by first | assumption | exact off_app (by with_reducible assumption) (by assumption) | exact off_lt (by with_reducible assumption) (by assumption) | exact off_lt (by with_reducible assumption) (And.right (by assumption)) | exact off_lt (by with_reducible assumption) (And.right (And.right (by assumption)))) (by with_reducible assumption) (by first | exact rfl | assumption) (by exact rfl) (by exact rfl) (by exact rfl) (by exact ks_fit2 (by with_reducible assumption) (by with_reducible assumption) (by with_reducible assumption)) ?_)); intro u9 led9 h9 tk9 S9 F9 N9; (try dsimp only))
  k_with "pyIter ref" => (k_here; (k_dflt (refine' for_nil_sl (by exact rfl) (by k_asm) (by k_asm) (by k_mem) ?_)); intro h9 tk9 F9 N9; (try dsimp only))
  dsimp only [CtT]
  revert hS hok
  k_fill
  intro hok hS dp un gd cn cs a ccd outer A₀ base h₀ L m s own Q E mean mg mb B F X N T XB TB D hk hd hu' hoff hret
  have hA : Ap Γ own := ⟨hok.nd, hS.adr ▸ hoff⟩
  have hlen : kvs.length ≤ 12 := by have := f10.len; omega
  refine wpAny_call ?_
  k_dflt (refine' code_defS ?k1 ?k2 ?k3 ?k4 ?k5 ?XB ?TB ?D ?T0 ?kA ?k6 ?k7 ?k8 ?k9 ?kB ?_ ?cK ?c2 ?c3 ?c4 ?c5; (case kA => exact rfl); (case k2 => k_asm); (case k1 => k_asm); (case XB => assumption); (case TB => assumption); (case D => assumption); (case T0 => exact KtsTurn.refl); (case k3 => k_asm); (case k4 => k_asm); (case k5 => k_asm); (case k6 => k_is); (case k7 => k_is); (case k8 => ktr_room); (case k9 => exact BindsTo.of_eq rfl); (case kB => exact locs rfl); (case cK => assumption); (case c2 => exact rfl); (case c3 => exact rfl); (case c4 => exact rfl); (case c5 => decide); k_whole)
  intro g' L' h' FG' F' N' B' X' T' D'; (try dsimp only); (try k_lift B'); (try k_fold)
  k_steps
  all_goals try contradiction
  all_goals try (first | exact rfl | exact ⟨_, _, rfl, by assumption, by assumption⟩ | exact ⟨_, _, rfl, by assumption, cb_drop (by assumption) (by repeat' first | exact sub_refl | refine sub_keep ?_ | refine sub_skip ?_)⟩)
  all_goals try (with_reducible exact ⟨rfl, _, _, _, rfl, by assumption, by assumption, by assumption⟩)
  all_goals (try (refine fin_true ?_ (eqU _ _ _ _)))
  all_goals first
    | exact hret _ _ _ _ _ ⟨rfl, SLs.mk (by with_reducible assumption) (by first | rfl | exact cfin0 | exact cfin1) (by first | rfl | exact cfin0 | exact cfin1) (by first | rfl | exact cfin0 | exact cfin1) (by first | rfl | exact cfin0 | exact cfin1) (by first | rfl | exact cfin0 | exact cfin1) (by first | rfl | exact cfin0 | exact cfin1) (by first | assumption | exact (open_after (by assumption) (by assumption) (by assumption) (by assumption) (by assumption) (by assumption) (by assumption) (by assumption) (by assumption) (by assumption)).1) (by first | assumption | exact (open_after (by assumption) (by assumption) (by assumption) (by assumption) (by assumption) (by assumption) (by assumption) (by assumption) (by assumption) (by assumption)).2.1) (by first | assumption | exact (open_after (by assumption) (by assumption) (by assumption) (by assumption) (by assumption) (by assumption) (by assumption) (by assumption) (by assumption) (by assumption)).2.2.1) (by first | assumption | exact (open_after (by assumption) (by assumption) (by assumption) (by assumption) (by assumption) (by assumption) (by assumption) (by assumption) (by assumption) (by assumption)).2.2.2.1) (by first | assumption | exact told_c0 (by assumption) | exact told_c1 (by assumption) | exact told_s0 (by assumption) (by assumption) | exact told_s1 (by assumption) (by assumption) | exact told_l0 (by assumption) (by assumption) | exact told_l1 (by assumption) (by assumption) | exact told_n0 (by assumption) | exact told_n1 (by assumption) | exact told_m0 (by assumption) | exact told_m1 (by assumption)) (by first | assumption | exact told_c0 (by assumption) | exact told_c1 (by assumption) | exact told_s0 (by assumption) (by assumption) | exact told_s1 (by assumption) (by assumption) | exact told_l0 (by assumption) (by assumption) | exact told_l1 (by assumption) (by assumption) | exact told_n0 (by assumption) | exact told_n1 (by assumption) | exact told_m0 (by assumption) | exact told_m1 (by assumption)) (by first | assumption | exact OpenOk.set (by assumption) (by assumption) _ | exact (open_after (by assumption) (by assumption) (by assumption) (by assumption) (by assumption) (by assumption) (by assumption) (by assumption) (by assumption) (by assumption)).2.2.2.2)⟩ (by first | assumption | exact KtsTurn.refl) (by assumption) (cb_drop (by assumption) (by repeat' first | exact sub_refl | refine sub_keep ?_ | refine sub_skip ?_)) (by assumption) (by assumption) (by assumption) (by assumption)
end Mine
end

section
open PySem PySem.W PyProof.Rows
open PySem.Calls
set_option maxRecDepth 100000
set_option maxHeartbeats 2000000
namespace Mine
open PySem.Challenge

section
variable {prog : Program} {w : World} {A : Around} {E : Value → Shared → Prop} {s : Shared} {h₀ : Heap} {news : List (Addr × Obj)}

/-- the end of one turn of the law's loop -/
def StepEnd (h₀ : Heap) (L : Addr) (x : Str) (m₀ : Str → Option Value) (J : List (Addr × Obj) → Prop) (own : List (Addr × Obj)) (s : Shared) (fl : Flow) (s₂ : Shared) : Prop :=
  fl = .next ∧ ∃ h' tk' v led', s₂ = { s with heap := h', toks := tk' } ∧ Fr h₀ L h' (fun y => if y = x then v else m₀ y) ∧ News h₀ L h' (led' ++ own) ∧ J led'

theorem for_steps {env : Env} {x : Str} {body : List Stmt} {Q : Flow → Shared → Prop} {r : Addr} {b₀ : Int} {t₀ u₀ v₀ : Tok} {m₀ : Str → Option Value} {led : List (Addr × Obj)} (J : List (Addr × Obj) → Prop)
    (hh : A.handled = none) (hr : IsRange s.heap r 0 b₀ 1 t₀ u₀ v₀) (h0 : 0 ≤ b₀) (h1 : b₀ ≤ 1000) (F : Fr h₀ env.locals s.heap m₀) (N : News h₀ env.locals s.heap news) (sub : ∀ p ∈ led, p ∈ news) (hj : J led) (adr : ∀ led', J led' → led'.map (·.1) = led.map (·.1))
    (turn : ∀ k t led' h tk own, J led' → OwnOff own (led.map (·.1)) → Fr h₀ env.locals h (fun y => if y = x then some (.int k t) else m₀ y) → News h₀ env.locals h (led' ++ own) →
      wpAny (model prog w) A (execs body env) (StepEnd h₀ env.locals x m₀ J own { s with heap := h, toks := tk }) E { s with heap := h, toks := tk })
    (done : ∀ (v : Str → Option Value) (led' : List (Addr × Obj)) (h : Heap) (tk : Nat), J led' → Fr h₀ env.locals h (fun y => if y = x then v y else m₀ y) → News h₀ env.locals h led' → Q .next { s with heap := h, toks := tk }) :
    wpAny (model prog w) A (pyIter (.ref r)) (fun it s₂ => LoopAtV prog w A h₀ env x body Q E it s₂) E s := by
  have hs : Builtin.Range.small 0 b₀ 1 = true := by
    exact small_one (by decide) (by decide) (by omega) (by omega)
  have hn : Builtin.Range.rangeSize 0 b₀ 1 = ((b₀.toNat : Nat) : Int) := by
    rw [rangeSize_nat, Int.sub_zero]
  refine iter_rangeS (σ := Unit) (fun _ m nx => J nx ∧ ∀ z, z ≠ x → m z = m₀ z) (fun _ _ => ()) () hh hr hs hn F (fun p hp => N p (sub p hp)) ⟨hj, fun _ _ => rfl⟩ ?_ ?_
  · rintro k t _ m₁ nx h tk own _ hoff ⟨hj', hm⟩ F1 N1
    rw [map_none hm] at F1
    refine wpAny_mono (turn k t nx h tk own hj' hoff F1 N1) (fun fl s₂ hq => ?_) (fun _ _ e => e)
    obtain ⟨rfl, h', tk', v, led', rfl, F', N', hj2⟩ := hq
    exact ⟨h', tk', _, led' ++ own, led', rfl, F', N', fun p hp => List.mem_append.mpr (.inl hp), fun p hp => List.mem_append.mpr (.inr hp), adr _ hj2, hj2, fun z hz => by simp [hz]⟩
  · rintro m₁ nx h tk ⟨hj', hm⟩ F1 N1
    rw [← done_none hm] at F1
    exact done m₁ nx h tk hj' F1 N1
end
end Mine
end

section
open PySem PySem.W PyProof.Rows
open PySem.Calls
set_option maxRecDepth 100000
set_option maxHeartbeats 2000000
namespace Mine
open PySem.Challenge

theorem turn_fr {h₀ h₁ h : Heap} {L : Addr} {m : Str → Option Value} (K : KtsTurn [] h₀ h₁) (F : Fr h₁ L h m) : Fr h₀ L h m :=
  ⟨F.ns, fun b o e => F.keep b o (K.other b o e (fun hm => nomatch hm)), K.size ▸ F.above⟩
theorem turn_news {h₀ h₁ h : Heap} {L : Addr} {l : List (Addr × Obj)} (K : KtsTurn [] h₀ h₁) (N : News h₁ L h l) : News h₀ L h l := fun p hp =>
  ⟨(N p hp).1, (N p hp).2.1, by
    cases e : h₀.get? p.1 with
    | none => rfl
    | some o => have := K.other _ _ e (fun hm => nomatch hm); rw [(N p hp).2.2] at this; cases this⟩

def vec7 {α : Type} (a0 a1 a2 a3 a4 a5 a6 : α) (i : Fin 7) : α := [a0, a1, a2, a3, a4, a5, a6].get i
theorem item_role {prog : Program} {w : World} {A : Around} {E : Value → Shared → Prop} {s : Shared} {h₀ : Heap} {L : Addr} {news : List (Addr × Obj)} {value slice : PySem.Expr} {Q : Value → Shared → Prop} {l : Addr} {t0 t1 t : Tok} {c : Nat} {u : Bool} (N : News h₀ L s.heap news) (hm : (l, listOf #[.str (Str.ofString "client") t0, .str (Str.ofString "server") t1] c) ∈ news)
    (hs : ∀ j, subscripted slice false (.ref l) (.int j t) = operate [.ref l, .int j t] (getItem (.ref l) (.int j t))) (hg : ∀ r, letTemporaryGo value (.ref l) r = pure ())
    (h : Q (.str (roleStr u) (cond u t1 t0)) s) :
    wpAny (model prog w) A (subscriptTail value slice (.ref l) (.int (cond u 1 0) t)) Q E s := by
  have hL : s.heap.IsList l _ := ⟨_, (N _ hm).1, rfl, c, rfl⟩
  cases u
  · exact item_listL (l := [.str (Str.ofString "client") t0, .str (Str.ofString "server") t1]) hL (by decide) (by decide) rfl h (hs _) hg
  · exact item_listL (l := [.str (Str.ofString "client") t0, .str (Str.ofString "server") t1]) hL (by decide) (by decide) rfl h (hs _) hg

theorem ints_intsV : ∀ {vs : List Value} {ns : List Int}, IntsAre vs ns → ∃ xs, vs = intsV xs ∧ xs.length = ns.length
  | _, _, .nil => ⟨[], rfl, rfl⟩
  | _, _, .cons k t h => by
    obtain ⟨xs, rfl, e⟩ := ints_intsV h
    exact ⟨(k, t) :: xs, rfl, by simp [e]⟩

section
variable {w : World} {dp un : Nat} {gd : Option (List Code)} {cn : Str} {cs : Scope} {a : Addr} {ccd : Value} {cl : List (Str × Addr)} {outer : List Env} {A₀ : Around} {base h₀ : Heap} {L : Addr} {m : Str → Option Value} {s : Shared} {news rest : List (Addr × Obj)} {Q E : Value → Shared → Prop}
    {mean : ExcName → Option Value} {mg mb : Str → Option Value}
end
end Mine
end

section
open PySem PySem.W PyProof.Rows
open PySem.Calls
set_option maxRecDepth 100000
set_option maxHeartbeats 60000000
namespace Mine
open PySem.Challenge

theorem make_ids {w : World} {dp un : Nat} {gd : Option (List Code)} {cn : Str} {cs : Scope} {a : Addr} {ccd : Value} {cl : List (Str × Addr)} {outer : List Env} {A₀ : Around} {base h₀ : Heap} {L : Addr} {m : Str → Option Value} {s : Shared} {own : List (Addr × Obj)} {Q E : Value → Shared → Prop}
    {mean : ExcName → Option Value} {mg mb : Str → Option Value} {r : Bool} {tr : Tok} {oa pa : Addr} {a0 a1 p0 p1 : Int} {t0 t1 t2 t3 : Tok} {n1 n2 : Nat}
    (B : Below A₀ base outer h₀) (F : Fr h₀ L s.heap m) (X : (Mine.hd.heap_39 w.params).In h₀) (N : News h₀ L s.heap ((oa, L2 a0 a1 t0 t1 n1) :: (pa, L2 p0 p1 t2 t3 n2) :: own)) (T : Top Mine.hd.view_39 (looseW Mine.hd.view_39 [Str.ofString "FRAME_TYPES"]) mean mg mb h₀) (hk : cs.kind = .function) (hd : dp + 3 < recursionLimit) (hu : un + 24 < cLine)
    (k : ∀ dx x ol pl om pm cm gr (hh : Fin 7 → Int) (kk : Fin 7 → Tok) (tr' : Tok) (n : Nat) ta0 ta1 na tp0 tp1 np tb0 tb1 nb tc0 tc1 nc td0 td1 nd tg0 tg1 ng (h' : Heap) (tk' : Nat), Fr h₀ L h' m →
      News h₀ L h' ((x, instObj 135 dx) :: (dx, attrs hh kk r tr' ol pl om pm cm gr n) :: (ol, L2 a0 a1 ta0 ta1 na) :: (pl, L2 p0 p1 tp0 tp1 np) :: (om, L2 0 0 tb0 tb1 nb) :: (pm, L2 0 0 tc0 tc1 nc) :: (cm, L2 0 0 td0 td1 nd) :: (gr, L2 p0 p1 tg0 tg1 ng) :: (oa, L2 a0 a1 t0 t1 n1) :: (pa, L2 p0 p1 t2 t3 n2) :: own) →
      (∀ p ∈ (oa, L2 a0 a1 t0 t1 n1) :: (pa, L2 p0 p1 t2 t3 n2) :: own, @LT.lt Nat _ p.1 dx) → @LT.lt Nat _ dx x → @LT.lt Nat _ x ol → @LT.lt Nat _ ol pl → @LT.lt Nat _ pl om → @LT.lt Nat _ om pm → @LT.lt Nat _ pm cm → @LT.lt Nat _ cm gr → Q (.ref x) { s with heap := h', toks := tk' }) :
    wpAny (model PySem.Challenge.rw_no0062_01.row.prog w) (ktrTop dp un gd cn cs L a ccd cl outer) (call (.ref 135) [.str (roleStr r) tr, .ref oa, .ref pa]) Q E s := by
  k_with_none
  k_with "execs cons" => (k_here; (try k_gentoks); refine seal_stmt ?_; intro Q9 E9 hN9 hR9 hE9; k_dflt (k_steps; all_goals (first | (refine SealN.use (by with_reducible assumption) ?_) | (refine SealR.use (by with_reducible assumption) ?_) | (refine SealE.use (by with_reducible assumption) ?_) | skip); all_goals (try dsimp only)))
  revert X
  k_fill
  intro X
  k_dflt (refine' call_cls ?k1 ?k2 ?k3 ?k4 ?k5 ?k6 ?_; (case k1 => k_asm); (case k2 => k_asm); (case k3 => k_asm); (case k4 => k_is); (case k5 => k_is); (case k6 => k_is); k_whole)
  intro x' d' h' F' N' l1 l2; (try k_lt l1); (try k_lt2 l2); (try k_sweep)
  k_dflt (refine' code_def ?k1 ?k2 ?k3 ?k4 ?k5 ?kA ?kF ?kK ?k6 ?k7 ?k8 ?k9 ?kB ?_ ?c2 ?c3 ?c4 ?c5; (case kA => exact rfl); (case kF => exact rfl); (case kK => first | exact rfl | assumption); (case k1 => k_asm); (case k2 => k_asm); (case k3 => k_asm); (case k4 => k_asm); (case k5 => k_asm); (case k6 => k_is); (case k7 => k_is); (case k8 => first | ktr_room | (simp only [depth_under_make]; ktr_room)); (case k9 => first | exact BindsTo.of_eq rfl | exact binds_K (by k_in) rfl (by k_is) rfl rfl rfl); (case c5 => decide); (case kB => exact locs rfl); (case c2 => exact rfl); (case c3 => exact rfl); (case c4 => exact rfl); k_whole)
  intro g' L' h' FG' F' N' B' X' T'; (try dsimp only); (try k_lift B'); (try k_fold)
  k_steps
  refine' k _ _ _ _ _ _ _ _ (vec7 _ _ _ _ _ _ _) (vec7 _ _ _ _ _ _ _) _ _ _ _ _ _ _ _ _ _ _ _ _ _ _ _ _ _ _ _ _ _ ?F ?N ?g0 ?g1 ?g2 ?g3 ?g4 ?g5 ?g6 ?g7
  case F => assumption
  case N => exact cb_drop (by assumption) (by repeat' first | exact sub_refl | refine sub_in (by k_mem) ?_ | refine sub_skip ?_)
  case g1 => assumption
  case g0 => exact allLt_mem (l := (_, _) :: (_, _) :: _) l1
  all_goals exact And.left (by assumption)

theorem perm_ids {α : Type} {o1 o2 b l x1 x2 x3 x4 x5 x6 x7 x8 : α} : ∀ p ∈ [o1, o2, b, l, x1, x2, x3, x4, x5, x6, x7, x8], p ∈ [x1, x2, x3, x4, x5, x6, x7, x8, o1, o2, b, l] := fun p hp =>
  List.mem_append.mpr ((List.mem_append (s := [o1, o2, b, l]) (t := [x1, x2, x3, x4, x5, x6, x7, x8])).mp hp).symm
theorem pw_cons {a b : Nat} {l : List Nat} (q : a < b) (h : List.Pairwise (· < ·) (b :: l)) : List.Pairwise (· < ·) (a :: b :: l) :=
  List.pairwise_cons.mpr ⟨fun c hc => (List.mem_cons.mp hc).elim (fun e => e ▸ q) fun hc => Nat.lt_trans q ((List.pairwise_cons.mp h).1 c hc), h⟩
theorem nodup10 {b l x dx ol pl om pm cm gr : Nat} (hb : b ≠ l) (q1 : b < dx) (q2 : l < dx) (c1 : dx < x) (c2 : x < ol) (c3 : ol < pl) (c4 : pl < om) (c5 : om < pm) (c6 : pm < cm) (c7 : cm < gr) : [b, l, x, dx, ol, pl, om, pm, cm, gr].Nodup := by
  have h : List.Pairwise (· < ·) [dx, x, ol, pl, om, pm, cm, gr] := pw_cons c1 (pw_cons c2 (pw_cons c3 (pw_cons c4 (pw_cons c5 (pw_cons c6 (pw_cons c7 (List.pairwise_singleton _ _)))))))
  have key : ∀ (c : Nat), c < dx → c ∉ [x, dx, ol, pl, om, pm, cm, gr] := fun c hc hm =>
    Nat.lt_irrefl _ (Nat.lt_of_lt_of_le hc ((List.mem_cons.mp ((List.Perm.swap dx x _).mem_iff.mp hm)).elim (fun e => e ▸ Nat.le_refl _) fun q => Nat.le_of_lt ((List.pairwise_cons.mp h).1 _ q)))
  have h2 : [x, dx, ol, pl, om, pm, cm, gr].Nodup := (List.Perm.nodup_iff (List.Perm.swap x dx _)).mp (h.imp fun q => Nat.ne_of_lt q)
  refine List.nodup_cons.mpr ⟨fun hm => ?_, List.nodup_cons.mpr ⟨key l q2, h2⟩⟩
  rcases List.mem_cons.mp hm with e | hm
  · exact hb e
  · exact key b q1 hm
/-- the box and the StreamIds object stand in the ledger -/
inductive IdsAt (r : Bool) (b l x : Addr) (a0 a1 p0 p1 : Int) (news : List (Addr × Obj)) : Prop
  | mk {dx ol pl om pm cm gr : Addr} {hh : Fin 7 → Int} {kk : Fin 7 → Tok} {tr : Tok} {n : Nat} {xs : List (Int × Tok)} {nl : Nat} {seed : Int} {ts : Tok} {nb : Nat} {ta0 ta1 : Tok} {na : Nat} {tp0 tp1 : Tok} {np : Nat} {tb0 tb1 : Tok} {nbb : Nat} {tc0 tc1 : Tok} {nc : Nat} {td0 td1 : Tok} {nd : Nat} {tg0 tg1 : Tok} {ng : Nat}
    (g1 : xs.length ≤ 63) (g2 : 0 ≤ seed) (g3 : seed < 2147483647) (g4 : [b, l, x, dx, ol, pl, om, pm, cm, gr].Nodup)
    (hm : ∀ p ∈ [(b, listOf #[.ref l, .int seed ts] nb), (l, listOf (intsV xs).toArray nl), (x, instObj 135 dx), (dx, attrs hh kk r tr ol pl om pm cm gr n), (ol, L2 a0 a1 ta0 ta1 na), (pl, L2 p0 p1 tp0 tp1 np), (om, L2 0 0 tb0 tb1 nbb), (pm, L2 0 0 tc0 tc1 nc), (cm, L2 0 0 td0 td1 nd), (gr, L2 p0 p1 tg0 tg1 ng)], p ∈ news) : IdsAt r b l x a0 a1 p0 p1 news
theorem make_ids_law {w : World} {dp un : Nat} {gd : Option (List Code)} {cn : Str} {cs : Scope} {a : Addr} {ccd : Value} {cl : List (Str × Addr)} {outer : List Env} {A₀ : Around} {base h₀ : Heap} {L : Addr} {m : Str → Option Value} {s : Shared} {news : List (Addr × Obj)} {Q E : Value → Shared → Prop}
    {mean : ExcName → Option Value} {mg mb : Str → Option Value} {r : Bool} {tr : Tok} {oa pa b l : Addr} {a0 a1 p0 p1 : Int} {t0 t1 t2 t3 : Tok} {n1 n2 : Nat} {xs : List (Int × Tok)} {nl : Nat} {seed : Int} {ts : Tok} {nb : Nat}
    (B : Below A₀ base outer h₀) (F : Fr h₀ L s.heap m) (X : (Mine.hd.heap_39 w.params).In h₀) (N : News h₀ L s.heap news) (T : Top Mine.hd.view_39 (looseW Mine.hd.view_39 [Str.ofString "FRAME_TYPES"]) mean mg mb h₀) (hk : cs.kind = .function) (hd : dp + 3 < recursionLimit) (hu : un + 24 < cLine) (sub : ∀ p ∈ [(oa, L2 a0 a1 t0 t1 n1), (pa, L2 p0 p1 t2 t3 n2), (b, listOf #[.ref l, .int seed ts] nb), (l, listOf (intsV xs).toArray nl)], p ∈ news) (hx : xs.length ≤ 63) (hs0 : 0 ≤ seed) (hs1 : seed < 2147483647) (hbl : @Ne Nat b l)
    (k : ∀ x rest (h' : Heap) (tk' : Nat), IdsAt r b l x a0 a1 p0 p1 rest → Fr h₀ L h' m → News h₀ L h' ((oa, L2 a0 a1 t0 t1 n1) :: (pa, L2 p0 p1 t2 t3 n2) :: rest) → Q (.ref x) { s with heap := h', toks := tk' }) :
    wpAny (model PySem.Challenge.rw_no0062_01.row.prog w) (ktrTop dp un gd cn cs L a ccd cl outer) (call (.ref 135) [.str (roleStr r) tr, .ref oa, .ref pa]) Q E s := by
  refine make_ids B F X (cb_drop N sub) T hk hd hu fun dx x ol pl om pm cm gr hh kk tr' n ta0 ta1 na tp0 tp1 np tb0 tb1 nbb tc0 tc1 nc td0 td1 nd tg0 tg1 ng h' tk' F' N' lt c1 c2 c3 c4 c5 c6 c7 => ?_
  refine k x [(b, listOf #[.ref l, .int seed ts] nb), (l, listOf (intsV xs).toArray nl), (x, instObj 135 dx), (dx, attrs hh kk r tr' ol pl om pm cm gr n), (ol, L2 a0 a1 ta0 ta1 na), (pl, L2 p0 p1 tp0 tp1 np), (om, L2 0 0 tb0 tb1 nbb), (pm, L2 0 0 tc0 tc1 nc), (cm, L2 0 0 td0 td1 nd), (gr, L2 p0 p1 tg0 tg1 ng)] h' tk'
    (.mk hx hs0 hs1 (nodup10 hbl (lt _ (.tail _ (.tail _ (.head _)))) (lt _ (.tail _ (.tail _ (.tail _ (.head _))))) c1 c2 c3 c4 c5 c6 c7) fun _ h => h) F'
    (cb_drop N' fun p hp => ?_)
  exact perm_ids p hp

end Mine
end

section
open PySem PySem.W PyProof.Rows
open PySem.Calls
set_option maxRecDepth 100000
set_option maxHeartbeats 2000000
namespace Mine
open PySem.Challenge

section
variable {w : World} {dp un : Nat} {gd : Option (List Code)} {cn : Str} {cs : Scope} {a : Addr} {ccd : Value} {A₀ : Around} {base h₀ : Heap} {L : Addr} {m : Str → Option Value} {s : Shared} {Q E : Value → Shared → Prop}
    {mean : ExcName → Option Value} {mg mb : Str → Option Value}
theorem step_use {Γ : Gm} {led own : List (Addr × Obj)} (hj : SLs w Γ led) (hok : Gok w Γ)
    (B : Below A₀ base [] h₀) (F : Fr h₀ L s.heap m) (X : (Mine.hd.heap_39 w.params).In h₀) (N : News h₀ L s.heap (led ++ own)) (T : Top Mine.hd.view_39 (looseW Mine.hd.view_39 [Str.ofString "FRAME_TYPES"]) mean mg mb h₀)
    (XB : (Mine.hd.heap_39 w.params).In base) (TB : Top Mine.hd.view_39 (looseW Mine.hd.view_39 [Str.ofString "FRAME_TYPES"]) mean mg mb base) (hk : cs.kind = .function)
    (hd : dp + 12 < recursionLimit) (hu : un + 8 * 12 < cLine) (ho : OwnOff own (led.map (·.1)))
    (k : ∀ led' h' tk', SLs w Γ led' → Fr h₀ L h' m → News h₀ L h' (led' ++ own) → Q (.bool true) { s with heap := h', toks := tk' }) :
    wpAny (model PySem.Challenge.rw_no0062_01.row.prog w) (ktrTop dp un gd cn cs L a ccd [] []) (call (.ref 179) [.ref Γ.b, .ref Γ.x, .ref Γ.hD]) Q E s := by
  cases hj with
  | mk S e1 e2 e3 e4 e5 e6 f4 f5 f6 f7 f8 f9 f10 =>
    subst e1 e2 e3 e4 e5 e6
    refine step_ct w hok f4 f5 f6 f7 f8 f9 f10 S dp un gd cn cs a ccd [] A₀ base h₀ L m s own Q E mean mg mb B F X N T XB TB ktsDicts_nil hk hd hu ho ?_
    rintro v led' h' tk' h₁ ⟨rfl, hj'⟩ KT F' N' _ _ _ _
    exact k led' h' tk' hj' (turn_fr KT F') (turn_news KT N')
end

theorem news_two {h₀ h : Heap} {L a b : Addr} {o o' : Obj} (h1 : h.get? (a, o).1 = some (a, o).2 ∧ (a, o).1 ≠ L ∧ h₀.get? (a, o).1 = none) (h2 : h.get? (b, o').1 = some (b, o').2 ∧ (b, o').1 ≠ L ∧ h₀.get? (b, o').1 = none) : News h₀ L h [(a, o), (b, o')] := fun p hp => by
  rcases List.mem_cons.mp hp with rfl | hp
  · exact h1
  · rw [List.mem_singleton.mp hp]; exact h2

theorem SLs.adr {w : World} {Γ : Gm} {led : List (Addr × Obj)} (h : SLs w Γ led) : led.map (·.1) = Γ.addrs := by
  cases h with
  | mk S => exact S.adr
theorem SLs.box {w : World} {Γ : Gm} {led : List (Addr × Obj)} (h : SLs w Γ led) : ∃ xs nl seed ts nb, xs.length ≤ 63 ∧ 0 ≤ seed ∧ seed < 2147483647 ∧ (Γ.b, listOf #[.ref Γ.l, .int seed ts] nb) ∈ led ∧ (Γ.l, listOf (intsV xs).toArray nl) ∈ led := by
  cases h with
  | mk S =>
    cases S with
    | mk f1 f2 f3 f11 => exact ⟨_, _, _, _, _, f1, f2, f3, .head _, .tail _ (.head _)⟩

section
variable {w : World} {A : Around} {E : Value → Shared → Prop} {s : Shared} {h₀ : Heap} {news led rest : List (Addr × Obj)} {Γ : Gm}
end
end Mine
end

section
open PySem PySem.W PyProof.Rows
open PySem.Calls
set_option maxRecDepth 100000
set_option maxHeartbeats 2000000
namespace Mine
open PySem.Challenge

section
variable {w : World} {dp un : Nat} {gd : Option (List Code)} {cn : Str} {cs : Scope} {a : Addr} {ccd : Value} {cl : List (Str × Addr)} {outer : List Env} {A₀ : Around} {base h₀ : Heap} {L : Addr} {m : Str → Option Value} {s : Shared} {news rest : List (Addr × Obj)} {Q E : Value → Shared → Prop}
    {mean : ExcName → Option Value} {mg mb : Str → Option Value} {b l : Addr} {xs : List (Int × Tok)} {nl : Nat} {seed : Int} {ts : Tok} {nb : Nat} {wide : Int} {tw : Tok}
end
theorem tup3_shaped (i : Int) (o u : Bool) : PySem.SeqAt.shaped (.tuple [.int i, .str (roleStr o), .bool u]) = true := by
  have e : PyData.strOk (roleStr o) = true := by cases o <;> decide +kernel
  simp [PySem.SeqAt.shaped, PyData.canLay0, PyData.canLayAll0, PyData.depth, PyData.depthAll, e]
theorem ne_tups {prog : Program} {w : World} {A : Around} {E : Value → Shared → Prop} {s : Shared} {h₀ : Heap} {L : Addr} {news : List (Addr × Obj)} {Q : Value → Shared → Prop} {a b : Addr} {i : Int} {o u : Bool} {t1 t2 t3 t4 : Tok} {n1 n2 : Nat}
    (N : News h₀ L s.heap news) (ha : (a, { cls := .type "tuple", data := .seq #[.int i t1, .str (roleStr o) t2, .bool u] n1 }) ∈ news) (hb : (b, { cls := .type "tuple", data := .seq #[.int i t3, .str (roleStr o) t4, .bool u] n2 }) ∈ news) (hu : A.units + 64 < cLine)
    (h : Q (.bool false) s) : wpAny (model prog w) A (compareOp .NotEq (.ref a) (.ref b)) Q E s := by
  have ra : Reads s.heap (.ref a) (.tuple [.int i, .str (roleStr o), .bool u]) _ := reads_tuple_at (News.get N ha) rfl rfl (ReadsAll.cons (Reads.int _ _) (ReadsAll.cons (Reads.str _ _) (ReadsAll.cons (Reads.bool _) ReadsAll.nil)))
  have rb : Reads s.heap (.ref b) (.tuple [.int i, .str (roleStr o), .bool u]) _ := reads_tuple_at (News.get N hb) rfl rfl (ReadsAll.cons (Reads.int _ _) (ReadsAll.cons (Reads.str _ _) (ReadsAll.cons (Reads.bool _) ReadsAll.nil)))
  refine ne_dataH ra rb (tup3_shaped i o u) (tup3_shaped i o u) hu ?_
  have e : PyData.eqv (.tuple [.int i, .str (roleStr o), .bool u]) (.tuple [.int i, .str (roleStr o), .bool u]) = true := by
    simp [PyData.eqv, PyData.eqvAll]
  rw [e]; exact h
end Mine
end

section
open PySem PySem.W PyProof.Rows
open PySem.Calls
set_option maxRecDepth 100000
set_option maxHeartbeats 60000000
namespace Mine
open PySem.Challenge

/-- the ledger is the box, of which nothing else is known -/
inductive BoxAt (b l : Addr) : List (Addr × Obj) → Prop
  | mk {xs : List (Int × Tok)} {nl : Nat} {seed : Int} {ts : Tok} {nb : Nat} (f1 : xs.length ≤ 63) (f2 : 0 ≤ seed) (f3 : seed < 2147483647) (hbl : @Ne Nat b l) : BoxAt b l [(b, listOf #[.ref l, .int seed ts] nb), (l, listOf (intsV xs).toArray nl)]
theorem allLt_of {D : Nat} : ∀ {l : List (Addr × Obj)}, (∀ c ∈ l.map (·.1), @LT.lt Nat _ c D) → AllLt D l
  | [], _ => trivial
  | p :: r, h => ⟨h p.1 (List.mem_map.mpr ⟨p, .head _, rfl⟩), allLt_of fun c hc => h c (List.mem_cons_of_mem _ hc)⟩
theorem allLt_adr {D : Nat} {l l' : List (Addr × Obj)} (e : l.map (·.1) = l'.map (·.1)) (h : AllLt D l) : AllLt D l' := allLt_of fun c hc => by
  rw [← e] at hc
  obtain ⟨q, hq, rfl⟩ := List.mem_map.mp hc
  exact allLt_mem h q hq
section
variable {w : World} {dp un : Nat} {gd : Option (List Code)} {cn : Str} {cs : Scope} {a : Addr} {ccd : Value} {cl : List (Str × Addr)} {outer : List Env} {A₀ : Around} {base h₀ : Heap} {L : Addr} {m : Str → Option Value} {s : Shared} {news : List (Addr × Obj)} {Q E : Value → Shared → Prop}
    {mean : ExcName → Option Value} {mg mb : Str → Option Value} {b l : Addr} {bx : List (Addr × Obj)} {wide : Int} {tw : Tok} {D : Addr} {ob : Obj} {own : List (Addr × Obj)}
theorem take_b (hw : 0 < wide) (hb : BoxAt b l bx) (B : Below A₀ base outer h₀) (F : Fr h₀ L s.heap m) (X : (Mine.hd.heap_39 w.params).In h₀) (N : News h₀ L s.heap (bx ++ own)) (T : Top Mine.hd.view_39 (looseW Mine.hd.view_39 [Str.ofString "FRAME_TYPES"]) mean mg mb h₀) (hk : cs.kind = .function) (hd : dp + 1 < recursionLimit) (hu : un + 8 < cLine) (ho : OwnOff own [b, l])
    (k : ∀ (r : Int) (t' : Tok) (bx' : List (Addr × Obj)) (h' : Heap) (tk' : Nat), 0 ≤ r → r < wide → BoxAt b l bx' → bx.map (·.1) = bx'.map (·.1) → Fr h₀ L h' m → News h₀ L h' (bx' ++ own) → Q (.int r t') { s with heap := h', toks := tk' }) :
    wpAny (model PySem.Challenge.rw_no0062_01.row.prog w) (ktrTop dp un gd cn cs L a ccd cl outer) (call (.ref 153) [.ref b, .int wide tw]) Q E s := by
  cases hb with
  | mk f1 f2 f3 hbl =>
  refine Ct.use (take_ct w b l _ _ _ _ _ wide tw hw f2 f3 f1 hbl) B F X N T hk hd hu ho ?_
  rintro v led' h' tk' ⟨r, t', xs', nl', seed', ts', nb', rfl, a1, a2, a3, a4, a5, rfl⟩ F' N'
  exact k r t' _ h' tk' a1 a2 (.mk a5 a3 a4 hbl) rfl F' N'
theorem take_0 (hw : 0 < wide) (hb : BoxAt b l bx) (B : Below A₀ base outer h₀) (F : Fr h₀ L s.heap m) (X : (Mine.hd.heap_39 w.params).In h₀) (N : News h₀ L s.heap news) (T : Top Mine.hd.view_39 (looseW Mine.hd.view_39 [Str.ofString "FRAME_TYPES"]) mean mg mb h₀) (hk : cs.kind = .function) (hd : dp + 1 < recursionLimit) (hu : un + 8 < cLine) (sub : ∀ p ∈ bx, p ∈ news)
    (k : ∀ (r : Int) (t' : Tok) (bx' : List (Addr × Obj)) (h' : Heap) (tk' : Nat), 0 ≤ r → r < wide → BoxAt b l bx' → Fr h₀ L h' m → News h₀ L h' bx' → Q (.int r t') { s with heap := h', toks := tk' }) :
    wpAny (model PySem.Challenge.rw_no0062_01.row.prog w) (ktrTop dp un gd cn cs L a ccd cl outer) (call (.ref 153) [.ref b, .int wide tw]) Q E s :=
  take_b hw hb B F X (own := []) (by rw [List.append_nil]; exact cb_drop N sub) T hk hd hu (fun _ h => nomatch h) fun r t' bx' h' tk' a1 a2 a3 _ F' N' => k r t' bx' h' tk' a1 a2 a3 F' (by rw [List.append_nil] at N'; exact N')
theorem lt_off (hb : BoxAt b l bx) (lt : AllLt D bx) : OwnOff [(D, ob)] [b, l] := fun p hp c hc => by
  cases hb with
  | mk f1 f2 f3 hbl =>
  rw [List.mem_singleton.mp hp]
  rcases List.mem_cons.mp hc with rfl | hc
  · exact Nat.ne_of_gt lt.1
  · rw [List.mem_singleton.mp hc]; exact Nat.ne_of_gt lt.2.1
theorem take_1 (hw : 0 < wide) (hb : BoxAt b l bx) (B : Below A₀ base outer h₀) (F : Fr h₀ L s.heap m) (X : (Mine.hd.heap_39 w.params).In h₀) (N : News h₀ L s.heap news) (T : Top Mine.hd.view_39 (looseW Mine.hd.view_39 [Str.ofString "FRAME_TYPES"]) mean mg mb h₀) (hk : cs.kind = .function) (hd : dp + 1 < recursionLimit) (hu : un + 8 < cLine) (lt : AllLt D bx) (sub : ∀ p ∈ (D, ob) :: bx, p ∈ news)
    (k : ∀ (r : Int) (t' : Tok) (bx' : List (Addr × Obj)) (h' : Heap) (tk' : Nat), 0 ≤ r → r < wide → BoxAt b l bx' → AllLt D bx' → Fr h₀ L h' m → News h₀ L h' ((D, ob) :: bx') → Q (.int r t') { s with heap := h', toks := tk' }) :
    wpAny (model PySem.Challenge.rw_no0062_01.row.prog w) (ktrTop dp un gd cn cs L a ccd cl outer) (call (.ref 153) [.ref b, .int wide tw]) Q E s :=
  take_b hw hb B F X (own := [(D, ob)]) (cb_drop N fun p hp => sub p (by simpa [or_comm] using hp)) T hk hd hu (lt_off hb lt) fun r t' bx' h' tk' a1 a2 a3 e F' N' => k r t' bx' h' tk' a1 a2 a3 (allLt_adr e lt) F' (cb_drop N' fun p hp => by simpa [or_comm] using hp)
/-- the taken bit that picks the role -/
theorem take_r (hb : BoxAt b l bx) (B : Below A₀ base outer h₀) (F : Fr h₀ L s.heap m) (X : (Mine.hd.heap_39 w.params).In h₀) (N : News h₀ L s.heap news) (T : Top Mine.hd.view_39 (looseW Mine.hd.view_39 [Str.ofString "FRAME_TYPES"]) mean mg mb h₀) (hk : cs.kind = .function) (hd : dp + 1 < recursionLimit) (hu : un + 8 < cLine) (lt : AllLt D bx) (sub : ∀ p ∈ (D, ob) :: bx, p ∈ news)
    (k : ∀ (u : Bool) (t' : Tok) (bx' : List (Addr × Obj)) (h' : Heap) (tk' : Nat), BoxAt b l bx' → Fr h₀ L h' m → News h₀ L h' ((D, ob) :: bx') → Q (.int (cond u 1 0) t') { s with heap := h', toks := tk' }) :
    wpAny (model PySem.Challenge.rw_no0062_01.row.prog w) (ktrTop dp un gd cn cs L a ccd cl outer) (call (.ref 153) [.ref b, .int 2 tw]) Q E s :=
  take_1 (by decide) hb B F X N T hk hd hu lt sub fun r t' bx' h' tk' a1 a2 a3 _ F' N' => by
    have hr : r = 0 ∨ r = 1 := by omega
    rcases hr with rfl | rfl
    · exact k false t' bx' h' tk' a3 F' N'
    · exact k true t' bx' h' tk' a3 F' N'
theorem take_s (hw : 0 < wide) (hb : BoxAt b l bx) (B : Below A₀ base outer h₀) (F : Fr h₀ L s.heap m) (X : (Mine.hd.heap_39 w.params).In h₀) (N : News h₀ L s.heap news) (T : Top Mine.hd.view_39 (looseW Mine.hd.view_39 [Str.ofString "FRAME_TYPES"]) mean mg mb h₀) (hk : cs.kind = .function) (hd : dp + 1 < recursionLimit) (hu : un + 8 < cLine) (sub : ∀ p ∈ bx, p ∈ news)
    (k : ∀ (r : Int) (o u : Bool) (t' : Tok) (h' : Heap) (tk' : Nat), decide (r.fmod 2 = 1) = o → decide ((r.fdiv 2).fmod 2 = 1) = u → 0 ≤ r → r < wide → Fr h₀ L h' m → News h₀ L h' [] → Q (.int r t') { s with heap := h', toks := tk' }) :
    wpAny (model PySem.Challenge.rw_no0062_01.row.prog w) (ktrTop dp un gd cn cs L a ccd cl outer) (call (.ref 153) [.ref b, .int wide tw]) Q E s :=
  take_0 hw hb B F X N T hk hd hu sub fun r t' bx' h' tk' a1 a2 _ F' _ => k r _ _ t' h' tk' rfl rfl a1 a2 F' News.nil
theorem ids_b {r : Bool} {tr : Tok} {oa pa : Addr} {a0 a1 p0 p1 : Int} {t0 t1 t2 t3 : Tok} {n1 n2 : Nat} (hb : BoxAt b l bx) (B : Below A₀ base outer h₀) (F : Fr h₀ L s.heap m) (X : (Mine.hd.heap_39 w.params).In h₀) (N : News h₀ L s.heap news) (T : Top Mine.hd.view_39 (looseW Mine.hd.view_39 [Str.ofString "FRAME_TYPES"]) mean mg mb h₀) (hk : cs.kind = .function) (hd : dp + 3 < recursionLimit) (hu : un + 24 < cLine) (sub : ∀ p ∈ (oa, L2 a0 a1 t0 t1 n1) :: (pa, L2 p0 p1 t2 t3 n2) :: bx, p ∈ news)
    (k : ∀ x rest (h' : Heap) (tk' : Nat), IdsAt r b l x a0 a1 p0 p1 rest → Fr h₀ L h' m → News h₀ L h' ((oa, L2 a0 a1 t0 t1 n1) :: (pa, L2 p0 p1 t2 t3 n2) :: rest) → Q (.ref x) { s with heap := h', toks := tk' }) :
    wpAny (model PySem.Challenge.rw_no0062_01.row.prog w) (ktrTop dp un gd cn cs L a ccd cl outer) (call (.ref 135) [.str (roleStr r) tr, .ref oa, .ref pa]) Q E s := by
  cases hb with
  | mk f1 f2 f3 hbl => exact make_ids_law B F X N T hk hd hu sub f1 f2 f3 hbl k
end

theorem nd_app {l1 l2 : List Nat} {d : Nat} (h1 : l1.Nodup) (h2 : l2.Nodup) (lt : ∀ p ∈ l1, p < d) (le : ∀ q ∈ l2, d ≤ q) : (l1 ++ l2).Nodup :=
  List.nodup_append.mpr ⟨h1, h2, fun _ hp _ hq => Nat.ne_of_lt (Nat.lt_of_lt_of_le (lt _ hp) (le _ hq))⟩
theorem nodup6 {hD op le ls mi to : Nat} (c1 : hD < le) (c2 : le < ls) (c3 : ls < mi) (c4 : mi < op) (c5 : op < to) : [hD, op, le, ls, mi, to].Nodup ∧ ∀ q ∈ [hD, op, le, ls, mi, to], hD ≤ q := by
  have h : List.Pairwise (· < ·) [hD, le, ls, mi, op, to] := pw_cons c1 (pw_cons c2 (pw_cons c3 (pw_cons c4 (pw_cons c5 (List.pairwise_singleton _ _)))))
  have p : List.Perm [hD, op, le, ls, mi, to] [hD, le, ls, mi, op, to] := .cons _ (List.perm_middle (l₁ := [le, ls, mi])).symm
  refine ⟨(List.Perm.nodup_iff p).mpr (h.imp fun q => Nat.ne_of_lt q), fun q hq => ?_⟩
  rcases List.mem_cons.mp (p.mem_iff.mp hq) with rfl | hq
  · exact Nat.le_refl _
  · exact Nat.le_of_lt ((List.pairwise_cons.mp h).1 q hq)

/-- the loop's ledger stands, its names are the frame's -/
structure HereAt (w : World) (Γ : Gm) (b l x hD : Addr) (led : List (Addr × Obj)) : Prop where
  hb : Γ.b = b
  hl : Γ.l = l
  hx : Γ.x = x
  hh : Γ.hD = hD
  hok : Gok w Γ
  hj : SLs w Γ led
/-- the dict of what is here is made: the loop's ledger stands -/
theorem here_made {w : World} {s : Shared} {h₀ : Heap} {L : Addr} {m : Str → Option Value} {Q : Value → Shared → Prop} {rest : List (Addr × Obj)} {r : Bool} {tr2 : Tok} {b l x hD op le ls mi to oa pa : Addr} {oh oo ooa opa : Obj} {a0 a1 p0 p1 : Int} {tl0 tl1 : Tok} {nle : Nat} {tq0 tq1 : Tok} {nls : Nat} {tm0 tm1 : Tok} {nmi : Nat} {tt0 tt1 : Tok} {nto : Nat} {vs : List (Value × Value)}
    (hI : IdsAt r b l x a0 a1 p0 p1 rest) (F : Fr h₀ L s.heap m) (N : News h₀ L s.heap ((to, L2 p0 p1 tt0 tt1 nto) :: (op, oo) :: (mi, L2 0 0 tm0 tm1 nmi) :: (ls, L2 p0 p1 tq0 tq1 nls) :: (le, L2 a0 a1 tl0 tl1 nle) :: (hD, oh) :: (oa, ooa) :: (pa, opa) :: rest)) (hd : oh.IsDictOf (PySem.strKind PySem.Challenge.rw_no0062_01.row.prog w) []) (f11 : oo.IsDictOf (PySem.intKind PySem.Challenge.rw_no0062_01.row.prog w) []) (hlo : (op == sysModules) = false)
    (e0 : AllLt hD ((oa, ooa) :: (pa, opa) :: rest)) (e1 : AllLt le ((hD, oh) :: (oa, ooa) :: (pa, opa) :: rest)) (e2 : AllLt ls ((le, L2 a0 a1 tl0 tl1 nle) :: (hD, oh) :: (oa, ooa) :: (pa, opa) :: rest)) (e3 : AllLt mi ((ls, L2 p0 p1 tq0 tq1 nls) :: (le, L2 a0 a1 tl0 tl1 nle) :: (hD, oh) :: (oa, ooa) :: (pa, opa) :: rest)) (e4 : AllLt op ((mi, L2 0 0 tm0 tm1 nmi) :: (ls, L2 p0 p1 tq0 tq1 nls) :: (le, L2 a0 a1 tl0 tl1 nle) :: (hD, oh) :: (oa, ooa) :: (pa, opa) :: rest)) (e5 : AllLt to ((op, oo) :: (mi, L2 0 0 tm0 tm1 nmi) :: (ls, L2 p0 p1 tq0 tq1 nls) :: (le, L2 a0 a1 tl0 tl1 nle) :: (hD, oh) :: (oa, ooa) :: (pa, opa) :: rest))
    (hv : strPairs vs = hereP r tr2 le ls mi op to) (hk : allStrKeys vs = true)
    (k : ∀ (Γ : Gm) led h' tk', HereAt w Γ b l x hD led → Fr h₀ L h' m → News h₀ L h' led → Q (.ref hD) { s with heap := h', toks := tk' }) : KdnMade PySem.Challenge.rw_no0062_01.row.prog w (PySem.strKind PySem.Challenge.rw_no0062_01.row.prog w) hD Q vs s := by
  obtain @⟨dx, ol, pl, om, pm, cm, gr, hh', kk, tr, n, xs, nl, seed, ts, nb, ta0, ta1, na, tp0, tp1, np, tb0, tb1, nbb, tc0, tc1, nc, td0, td1, nd, tg0, tg1, ng, g1, g2, g3, g4, hm⟩ := hI
  obtain ⟨d6, d7⟩ := nodup6 e1.1 e2.1 e3.1 e4.1 e5.1
  have lt' : ∀ p ∈ [b, l, x, dx, ol, pl, om, pm, cm, gr], @LT.lt Nat _ p hD := fun p hp => by
    have hp' : p ∈ (([(b, listOf #[.ref l, .int seed ts] nb), (l, listOf (intsV xs).toArray nl), (x, instObj 135 dx), (dx, attrs hh' kk r tr ol pl om pm cm gr n), (ol, L2 a0 a1 ta0 ta1 na), (pl, L2 p0 p1 tp0 tp1 np), (om, L2 0 0 tb0 tb1 nbb), (pm, L2 0 0 tc0 tc1 nc), (cm, L2 0 0 td0 td1 nd), (gr, L2 p0 p1 tg0 tg1 ng)] : List (Addr × Obj)).map (·.1)) := hp
    obtain ⟨q, hq, rfl⟩ := List.mem_map.mp hp'
    exact allLt_mem e0.2.2 q (hm q hq)
  refine kdn_made_str F (cb_drop (news := (hD, oh) :: (op, oo) :: (le, L2 a0 a1 tl0 tl1 nle) :: (ls, L2 p0 p1 tq0 tq1 nls) :: (mi, L2 0 0 tm0 tm1 nmi) :: (to, L2 p0 p1 tt0 tt1 nto) :: rest) N ?_) (UpdF.head ?_) hd hk (by rw [hv]; exact of_decide_eq_true (by rfl)) fun h' o' F' N' hd' => ?_
  · exact sub_in (.tail _ (.tail _ (.tail _ (.tail _ (.tail _ (.head _)))))) (sub_in (.tail _ (.head _)) (sub_in (.tail _ (.tail _ (.tail _ (.tail _ (.head _))))) (sub_in (.tail _ (.tail _ (.tail _ (.head _)))) (sub_in (.tail _ (.tail _ (.head _))) (sub_keep (sub_skip (sub_skip (sub_skip (sub_skip (sub_skip (sub_skip (sub_skip sub_refl))))))))))))
  · intro p hp
    rcases (List.mem_append (s := [_, _, _, _, _]) (t := rest)).mp hp with h | h
    · have h2 := List.mem_map_of_mem (f := fun q : Addr × Obj => q.1) h
      exact fun e => (List.nodup_cons.mp d6).1 (e ▸ h2)
    · exact Nat.ne_of_lt (allLt_mem e0.2.2 p h)
  · rw [hv] at hd'
    have hok : Gok w ⟨r, hh', kk, tr, tr2, n, b, l, x, dx, ol, pl, om, pm, cm, gr, hD, op, le, ls, mi, to, o'⟩ := ⟨hd', hlo, nd_app (l1 := [b, l, x, dx, ol, pl, om, pm, cm, gr]) g4 d6 lt' d7⟩
    refine k _ [(b, listOf #[.ref l, .int seed ts] nb), (l, listOf (intsV xs).toArray nl), (x, instObj 135 dx), (dx, attrs hh' kk r tr ol pl om pm cm gr n), (ol, L2 a0 a1 ta0 ta1 na), (pl, L2 p0 p1 tp0 tp1 np), (om, L2 0 0 tb0 tb1 nbb), (pm, L2 0 0 tc0 tc1 nc), (cm, L2 0 0 td0 td1 nd), (gr, L2 p0 p1 tg0 tg1 ng), (hD, o'), (op, oo), (le, L2 a0 a1 tl0 tl1 nle), (ls, L2 p0 p1 tq0 tq1 nls), (mi, L2 0 0 tm0 tm1 nmi), (to, L2 p0 p1 tt0 tt1 nto)] h' _ ⟨rfl, rfl, rfl, rfl, hok, SLs.mk (SL.mk (v0 := .int p0 tt0) (v1 := .int p1 tt1) (kvs := []) g1 g2 g3 f11) rfl rfl rfl rfl rfl rfl (by decide) (by decide) (by decide) (by decide) (.inl ⟨_, rfl⟩) (.inl ⟨_, rfl⟩) (openOk_nil _)⟩ F' (cb_drop N' fun p hp => ?_)
    rcases (List.mem_append (s := [(b, listOf #[.ref l, .int seed ts] nb), (l, listOf (intsV xs).toArray nl), (x, instObj 135 dx), (dx, attrs hh' kk r tr ol pl om pm cm gr n), (ol, L2 a0 a1 ta0 ta1 na), (pl, L2 p0 p1 tp0 tp1 np), (om, L2 0 0 tb0 tb1 nbb), (pm, L2 0 0 tc0 tc1 nc), (cm, L2 0 0 td0 td1 nd), (gr, L2 p0 p1 tg0 tg1 ng)]) (t := [_, _, _, _, _, _])).mp hp with h | h
    · exact .tail _ (.tail _ (.tail _ (.tail _ (.tail _ (.tail _ (hm p h))))))
    · exact (List.mem_append (s := [_, _, _, _, _, _])).mpr (.inl h)
theorem for_sls {w : World} {A : Around} {E : Value → Shared → Prop} {s : Shared} {h₀ : Heap} {news : List (Addr × Obj)} {led : List (Addr × Obj)} {b l x hD : Addr} {Γ : Gm} {env : Env} {tn : Str} {body : List Stmt} {Q : Flow → Shared → Prop} {ra : Addr} {b₀ : Int} {t₀ u₀ v₀ : Tok} {m₀ : Str → Option Value}
    (hH : HereAt w Γ b l x hD led) (hh : A.handled = none) (hr : IsRange s.heap ra 0 b₀ 1 t₀ u₀ v₀) (h0 : 0 ≤ b₀) (h1 : b₀ ≤ 1000) (F : Fr h₀ env.locals s.heap m₀) (N : News h₀ env.locals s.heap news) (sub : ∀ p ∈ led, p ∈ news)
    (turn : ∀ k t led' h tk own, HereAt w Γ b l x hD led' → OwnOff own (led'.map (·.1)) → Fr h₀ env.locals h (fun y => if y = tn then some (.int k t) else m₀ y) → News h₀ env.locals h (led' ++ own) →
      wpAny (model PySem.Challenge.rw_no0062_01.row.prog w) A (execs body env) (StepEnd h₀ env.locals tn m₀ (HereAt w Γ b l x hD) own { s with heap := h, toks := tk }) E { s with heap := h, toks := tk })
    (done : ∀ (v : Str → Option Value) bx (h : Heap) (tk : Nat), BoxAt b l bx → Fr h₀ env.locals h (fun y => if y = tn then v y else m₀ y) → News h₀ env.locals h bx → Q .next { s with heap := h, toks := tk }) :
    wpAny (model PySem.Challenge.rw_no0062_01.row.prog w) A (pyIter (.ref ra)) (fun it s₂ => LoopAtV PySem.Challenge.rw_no0062_01.row.prog w A h₀ env tn body Q E it s₂) E s := by
  refine for_steps (HereAt w Γ b l x hD) hh hr h0 h1 F N sub hH (fun led' h' => h'.hj.adr.trans hH.hj.adr.symm) (fun k t led' h tk own hj' hoff F1 N1 => turn k t led' h tk own hj' (by rw [hj'.hj.adr, ← hH.hj.adr]; exact hoff) F1 N1) fun v led' h tk hj' F1 N1 => ?_
  obtain ⟨rfl, rfl, rfl, rfl, hok, hj⟩ := hj'
  obtain ⟨xs, nl, seed, ts, nb, f1, f2, f3, m1, m2⟩ := hj.box
  exact done v _ h tk (.mk f1 f2 f3 (Ap.ne (own := []) ⟨hok.nd, fun _ h => nomatch h⟩ 0 1 rfl rfl (by decide))) F1 (news_two (N1 _ m1) (N1 _ m2))
/-- one turn, its names said by the frame -/
theorem step_n {w : World} {dp un : Nat} {gd : Option (List Code)} {cn : Str} {cs : Scope} {a : Addr} {ccd : Value} {A₀ : Around} {base h₀ : Heap} {L : Addr} {m : Str → Option Value} {s : Shared} {Q E : Value → Shared → Prop}
    {mean : ExcName → Option Value} {mg mb : Str → Option Value} {Γ : Gm} {led own : List (Addr × Obj)} {b l x hD : Addr} (hH : HereAt w Γ b l x hD led)
    (B : Below A₀ base [] h₀) (F : Fr h₀ L s.heap m) (X : (Mine.hd.heap_39 w.params).In h₀) (N : News h₀ L s.heap (led ++ own)) (T : Top Mine.hd.view_39 (looseW Mine.hd.view_39 [Str.ofString "FRAME_TYPES"]) mean mg mb h₀)
    (XB : (Mine.hd.heap_39 w.params).In base) (TB : Top Mine.hd.view_39 (looseW Mine.hd.view_39 [Str.ofString "FRAME_TYPES"]) mean mg mb base) (hk : cs.kind = .function)
    (hd : dp + 12 < recursionLimit) (hu : un + 8 * 12 < cLine) (ho : OwnOff own (led.map (·.1)))
    (k : ∀ led' h' tk', HereAt w Γ b l x hD led' → Fr h₀ L h' m → News h₀ L h' (led' ++ own) → Q (.bool true) { s with heap := h', toks := tk' }) :
    wpAny (model PySem.Challenge.rw_no0062_01.row.prog w) (ktrTop dp un gd cn cs L a ccd [] []) (call (.ref 179) [.ref b, .ref x, .ref hD]) Q E s := by
  obtain ⟨rfl, rfl, rfl, rfl, hok, hj⟩ := hH
  exact step_use hj hok B F X N T XB TB hk hd hu ho fun led' h' tk' hj' => k led' h' tk' ⟨rfl, rfl, rfl, rfl, hok, hj'⟩

end Mine
end

section
open PySem PySem.W PyProof.Rows
open PySem.Calls
set_option maxRecDepth 100000
set_option maxHeartbeats 60000000
namespace Mine
open PySem.Challenge

theorem range_ok (xs : List Int) : 0 ≤ 8 + ((List.take 40 xs).length : Int).fdiv 2 ∧ 8 + ((List.take 40 xs).length : Int).fdiv 2 ≤ 1000 := by
  rw [List.length_take, Int.fdiv_eq_ediv_of_nonneg _ (by decide)]; omega
theorem eqb_true {prog : Program} {w : World} {A : Around} {E : Value → Shared → Prop} {s : Shared} {Q : Value → Shared → Prop} {a b : Bool} (e : a = b) (h : Q (.bool true) s) : wpAny (model prog w) A (compareOp .Eq (.bool a) (.bool b)) Q E s := by
  walk1; subst e; rw [show (a == a) = true from by simp]; exact h

theorem box_ints {b l : Addr} {vs : List Value} {ns : List Int} {seed : Int} {ts : Tok} {nb nl : Nat} (hi : IntsAre vs ns) (hx : ns.length ≤ 63) (f2 : 0 ≤ seed) (f3 : seed < 2147483647) (h : @LT.lt Nat _ l b) : BoxAt b l [(b, listOf #[.ref l, .int seed ts] nb), (l, listOf vs.toArray nl)] := by
  obtain ⟨xs, rfl, e⟩ := ints_intsV hi
  exact .mk (by omega) f2 f3 (Nat.ne_of_gt h)
theorem take63 {ns : List Int} (h : ns.length ≤ 63) : (List.take 40 ns).length ≤ 63 := by rw [List.length_take]; omega

theorem box_made {w : World} {dp un : Nat} {gd : Option (List Code)} {cn : Str} {cs : Scope} {a : Addr} {ccd : Value} {cl : List (Str × Addr)} {outer : List Env} {A₀ : Around} {base h₀ : Heap} {L : Addr} {m : Str → Option Value} {s : Shared} {Q E : Value → Shared → Prop}
    {mean : ExcName → Option Value} {mg mb : Str → Option Value} {sa : Addr} {vs : List Value} {ns : List Int} {t : Tok} (hL : base.IsList sa vs.toArray) (hI : IntsAre vs ns) (hn : ns.length ≤ 63)
    (B : Below A₀ base outer h₀) (F : Fr h₀ L s.heap m) (X : (Mine.hd.heap_39 w.params).In h₀) (N : News h₀ L s.heap []) (T : Top Mine.hd.view_39 (looseW Mine.hd.view_39 [Str.ofString "FRAME_TYPES"]) mean mg mb h₀) (hk : cs.kind = .function) (hd : dp + 1 < recursionLimit) (hu : un + 8 < cLine) (k : ∀ b l bx (h' : Heap) (tk' : Nat), BoxAt b l bx → Fr h₀ L h' m → News h₀ L h' bx → Q (.ref b) { s with heap := h', toks := tk' }) :
    wpAny (model PySem.Challenge.rw_no0062_01.row.prog w) (ktrTop dp un gd cn cs L a ccd cl outer) (call (.ref 146) [.ref sa, .int 89 t]) Q E s := by
  k_with_none
  (k_with "pyIter ref" => (k_of "one" => k_state (fun pre s => 0 ≤ s ∧ s < 2147483647) "seed_here"))
  revert X
  k_fill
  intro X
  refine wpAny_call ?_
  k_dflt cell_enter
  k_steps
  refine k _ _ _ _ _ (box_ints (by assumption) (take63 hn) (by assumption) (by assumption) (And.left (by assumption))) (by assumption) (cb_drop (by assumption) (sub_in (.head _) (sub_in (.tail _ (.head _)) fun _ h => nomatch h)))
end Mine
end

section
open PySem PySem.W PyProof.Rows
open PySem.Calls
set_option maxRecDepth 100000
set_option maxHeartbeats 60000000
namespace Mine
open PySem.Challenge

theorem seal_top {M : Model} {A : Around} {st : List Stmt} {env : Env} {Q : Flow → Shared → Prop} {E : Value → Shared → Prop} {s : Shared} (hE : PassesOwn M A env E)
    (h : ∀ (Q' : Flow → Shared → Prop) (E' : Value → Shared → Prop), SealR Q Q' → SealE E E' → PassesOwn M A env E' → wpAny M A (execs st env) Q' E' s) : wpAny M A (execs st env) Q E s :=
  h _ _ (fun _ _ h => h) (fun _ _ h => h) hE

theorem law_ok : rw_no0062_01.Holds := Mine.hd (by
  k_with_none
  k_with "execs cons" => (k_here; (try k_gentoks); refine seal_q ?_; intro Q9 hN9 hR9; k_dflt (k_steps; all_goals (first | (refine SealN.use (by with_reducible assumption) ?_) | (refine SealR.use (by with_reducible assumption) ?_) | skip); all_goals (try dsimp only)))
  k_with "execs cons" => (k_here; (fail_if_success (rename PassesOwn _ _ _ _ => hP9)); refine seal_top (by passes_own) ?_; intro Q9 E9 hR9 hE9 hP9; k_dflt (k_steps; all_goals (first | (refine SealR.use (by with_reducible assumption) ?_) | (refine SealE.use (by with_reducible assumption) ?_) | skip); all_goals (try dsimp only)))
  k_with "call ref" => (k_here; (with_reducible show wpAny _ _ (call (Value.ref 146) _) _ _ _); (k_dflt (refine' box_made (by with_reducible assumption) (by with_reducible assumption) (by omega) (by k_asm) (by k_asm) (by k_asm) (by k_asm) (by k_asm) (by first | exact rfl | assumption) (by first | ktr_room | decide) (by first | ktr_units | decide) ?_); intro b9 l9 bx9 h9 tk9 hb9 F9 N9; (try dsimp only); (try k_fold)))
  k_with "call ref" => (k_here; (with_reducible show wpAny _ _ (call (Value.ref 153) _) _ _ _); k_dflt (refine' take_0 (by decide) (by with_reducible assumption) (by k_asm) (by k_asm) (by k_asm) (by k_asm) (by k_asm) (by first | exact rfl | assumption) (by first | ktr_room | decide) (by first | ktr_units | decide) (by repeat' first | exact sub_refl | refine sub_in (by k_mem) ?_ | refine sub_skip ?_) ?_); intro r9 t9 bx9 h9 tk9 p9 q9 hb9 F9 N9; (try dsimp only); (try k_fold))
  k_with "call ref" => (k_here; (with_reducible show wpAny _ _ (call (Value.ref 153) _) _ _ _); k_dflt (refine' take_1 (by decide) (by with_reducible assumption) (by k_asm) (by k_asm) (by k_asm) (by k_asm) (by k_asm) (by first | exact rfl | assumption) (by first | ktr_room | decide) (by first | ktr_units | decide) (by first | with_reducible assumption | exact PySem.W.allLt_of (by with_reducible assumption) | exact And.right (And.right (by with_reducible assumption)) | exact And.right (by with_reducible assumption)) (by repeat' first | exact sub_refl | refine sub_in (by k_mem) ?_ | refine sub_skip ?_) ?_); intro r9 t9 bx9 h9 tk9 p9 q9 hb9 lt9 F9 N9; (try dsimp only); (try k_fold))
  k_with "call ref" => (k_here; (with_reducible show wpAny _ _ (call (Value.ref 153) [_, Value.int 2 _]) _ _ _); k_dflt (refine' take_r (by with_reducible assumption) (by k_asm) (by k_asm) (by k_asm) (by k_asm) (by k_asm) (by first | exact rfl | assumption) (by first | ktr_room | decide) (by first | ktr_units | decide) (by first | with_reducible assumption | exact PySem.W.allLt_of (by with_reducible assumption) | exact And.right (And.right (by with_reducible assumption)) | exact And.right (by with_reducible assumption)) (by repeat' first | exact sub_refl | refine sub_in (by k_mem) ?_ | refine sub_skip ?_) ?_); intro u9 t9 bx9 h9 tk9 hb9 F9 N9; (try dsimp only); (try k_fold))
  k_with "call ref" => (k_here; (with_reducible show wpAny _ _ (call (Value.ref 153) [_, Value.int 400 _]) _ _ _); k_dflt (refine' take_s (by decide) (by with_reducible assumption) (by k_asm) (by k_asm) (by k_asm) (by k_asm) (by k_asm) (by first | exact rfl | assumption) (by first | ktr_room | decide) (by first | ktr_units | decide) (by repeat' first | exact sub_refl | refine sub_in (by k_mem) ?_ | refine sub_skip ?_) ?_); intro r9 o9 u9 t9 h9 tk9 ho9 hu9 p9 q9 F9 N9; cases u9; all_goals ((try dsimp only); (try k_fold)))
  k_with "call ref" => (k_here; (with_reducible show wpAny _ _ (call (Value.ref 135) _) _ _ _); k_dflt (refine' ids_b (by with_reducible assumption) (by k_asm) (by k_asm) (by k_asm) (by k_asm) (by k_asm) (by first | exact rfl | assumption) (by first | ktr_room | decide) (by first | ktr_units | decide) (by repeat' first | exact sub_refl | refine sub_in (by k_mem) ?_ | refine sub_skip ?_) ?_); intro x9 rest9 h9 tk9 hI9 F9 N9; (try dsimp only); (try k_fold))
  k_with "subscriptTail List" => (k_here; k_dflt (refine kba_turn (value' := PySem.Expr.Name (PySem.Str.ofString "_") ⟨0, 0, 0, 0⟩) (fun _ => rfl) ?_))
  k_with "subscriptTail Name Call ref int" => (k_here; (with_reducible show wpAny _ _ (subscriptTail _ _ (Value.ref _) (Value.int (cond _ 1 0) _)) _ _ _); k_dflt (refine' item_role (by k_asm) (by k_mem) (by intro _; with_unfolding_all rfl) (by intro _; with_unfolding_all rfl) ?_))
  k_with "eval Dict nil nil" => (k_here; k_dflt (refine' newDict_K (by k_asm) (by k_asm) (by exact Top.nolimit (by k_asm)) ?_); intro d' h' o' F' N' l1 lo' hs' fs' hi' fi'; (clear hs' fs' fi'); (try k_lt l1); (try dsimp only))
  k_with "KdnMade" => (k_here; (k_dflt (refine' here_made (by with_reducible assumption) (by k_asm) (by k_asm) (by with_reducible assumption) (by with_reducible assumption) (by with_reducible assumption) (by simp only [PySem.W.AllLt, and_true]; with_reducible assumption) (by simp only [PySem.W.AllLt, and_true]; with_reducible assumption) (by simp only [PySem.W.AllLt, and_true]; with_reducible assumption) (by simp only [PySem.W.AllLt, and_true]; with_reducible assumption) (by simp only [PySem.W.AllLt, and_true]; with_reducible assumption) (by simp only [PySem.W.AllLt, and_true]; with_reducible assumption) (by rfl) (by rfl) ?_); intro Γ9 led9 h9 tk9 hH9 F9 N9; (try dsimp only)))
  k_with "pyIter ref" => (k_here; (with_reducible show wpAny _ _ (pyIter (Value.ref _)) (fun it s₂ => LoopAtV _ _ _ _ _ (Str.ofString "turn") _ _ _ it s₂) _ _); (k_dflt (refine' for_sls (by with_reducible assumption) (by exact rfl) (by with_reducible assumption) (by exact (range_ok _).1) (by exact (range_ok _).2) (by k_asm) (by k_asm) (by repeat' first | exact sub_refl | refine sub_in (by k_mem) ?_ | refine sub_skip ?_) ?_ ?_)); (focus (intro k9 t9 led9 h9 tk9 own9 hj9 ho9 F9 N9; (try dsimp only))); rotate_left; (focus (intro v9 bx9 h9 tk9 hb9 F9 N9; (try dsimp only))); rotate_left)
  k_with "exec For Name Call cons nil" => (k_here; (rename Fr _ _ _ _ => lF'); (with_unfolding_all refine' For_invVF lF' ?k1 ?k2 ?_ (hE := by with_reducible assumption); (case k1 => exact rfl); (case k2 => exact rfl); k_whole))
  k_with "StepEnd" => (k_here; k_dflt (exact ⟨rfl, _, _, _, _, rfl, by assumption, by assumption, by assumption⟩))
  k_with "call ref" => (k_here; (with_reducible show wpAny _ _ (call (Value.ref 179) _) _ _ _); k_dflt (refine' step_n (by with_reducible assumption) (by k_asm) (by k_asm) (by k_asm) (by k_asm) (by k_asm) (by assumption) (by assumption) (by first | exact rfl | assumption) (by first | ktr_room | decide) (by first | ktr_units | decide) (by with_reducible assumption) ?_); intro led9 h9 tk9 hj9 F9 N9; (try dsimp only); (try k_fold))
  k_with "call ref" => (k_here; (with_reducible show wpAny _ _ (call (Value.ref 160) _) _ _ _); k_dflt (refine' parts_use (by with_reducible assumption) (by with_reducible assumption) (by with_reducible assumption) (by with_reducible assumption) (by k_asm) (by k_asm) (by k_asm) (by k_asm) (by k_asm) (by first | exact rfl | assumption) (by first | ktr_room | decide) (by first | ktr_units | decide) ?_); intro T9 t19 t29 h9 tk9 F9 N9; (try dsimp only); (try k_fold))
  k_with "call ref" => (k_here; (with_reducible show wpAny _ _ (call (Value.ref 50) _) _ _ _); k_dflt (refine' Pure.use (number_of_ct _ _ _) (by k_asm) (by k_asm) (by k_asm) (by k_asm) (by k_asm) (by first | exact rfl | assumption) (by first | ktr_room | decide) (by first | ktr_units | decide) ?_); intro t9 h9 tk9 F9 N9; (try dsimp only); (try k_fold))
  k_with "call ref" => (k_here; (with_reducible show wpAny _ _ (call (Value.ref 57) _) _ _ _); k_dflt (refine' Pure.use (opener_at _ _ _ _ (by with_reducible assumption)) (by k_asm) (by k_asm) (by k_asm) (by k_asm) (by k_asm) (by first | exact rfl | assumption) (by first | ktr_room | decide) (by first | ktr_units | decide) ?_); intro t9 h9 tk9 F9 N9; (try dsimp only); (try k_fold))
  k_with "call ref" => (k_here; (with_reducible show wpAny _ _ (call (Value.ref 64) _) _ _ _); k_dflt (refine' Pure.use (one_way_at _ _ _ _ (by with_reducible assumption)) (by k_asm) (by k_asm) (by k_asm) (by k_asm) (by k_asm) (by first | exact rfl | assumption) (by first | ktr_room | decide) (by first | ktr_units | decide) ?_); intro t9 h9 tk9 F9 N9; (try dsimp only); (try k_fold))
  k_with "call ref" => (k_here; (with_reducible show wpAny _ _ (call (Value.ref 43) _) _ _ _); k_dflt (refine' Pure.use (stream_at _ _ _ _ _ _ (by with_reducible assumption) (by with_reducible assumption) (by with_reducible assumption)) (by k_asm) (by k_asm) (by k_asm) (by k_asm) (by k_asm) (by first | exact rfl | assumption) (by first | ktr_room | decide) (by first | ktr_units | decide) ?_); intro t9 h9 tk9 F9 N9; (try dsimp only); (try k_fold))
  k_with "call ref" => (k_here; (with_reducible show wpAny _ _ (call (Value.ref 71) _) _ _ _); k_dflt (refine' Pure.use (send_at _ _ _ _ _ _ _ (by with_reducible assumption) (by with_reducible assumption)) (by k_asm) (by k_asm) (by k_asm) (by k_asm) (by k_asm) (by first | exact rfl | assumption) (by first | ktr_room | decide) (by first | ktr_units | decide) ?_); intro t9 h9 tk9 F9 N9; (try dsimp only); (try k_fold))
  k_with "call ref" => (k_here; (with_reducible show wpAny _ _ (call (Value.ref 78) _) _ _ _); k_dflt (refine' Pure.use (recv_at _ _ _ _ _ _ _ (by with_reducible assumption) (by with_reducible assumption)) (by k_asm) (by k_asm) (by k_asm) (by k_asm) (by k_asm) (by first | exact rfl | assumption) (by first | ktr_room | decide) (by first | ktr_units | decide) ?_); intro t9 h9 tk9 F9 N9; (try dsimp only); (try k_fold))
  k_with "compareOp NotEq ref ref" => (k_here; k_dflt (refine' ne_tups (by k_asm) (by k_mem) (by k_mem) (by first | k_units | units_room | exact Nat.le_of_ble_eq_true rfl) ?_))
  k_with "eval Call" => (k_here; k_dflt (refine Call_ ?_))
  k_with "compareOp Eq bool bool" => (k_here; k_dflt (refine eqb_true (by rfl) ?_))
  k_with "compareOp Eq str str" => (k_here; (with_reducible show wpAny _ _ (compareOp _ (Value.str (roleStr _) _) (Value.str (roleStr _) _)) _ _ _); k_dflt (refine eq_role ?_))
  k_go0
  (all_goals try k_fold)
  k_steps
)
end Mine
end

open PySem PySem.W PyProof.Rows
theorem PySem.Challenge.cw_no0062_01_holds : PySem.Challenge.rw_no0062_01.Holds :=
  Mine.law_ok
