import PyProof.Rows.All
import Wide.All
import OpenK.AllK
import Wide.FinOn
import PySem.Challenge.RW_ov0045_01
open PySem PySem.W PyProof.Rows
set_option Elab.async false

namespace Mine
set_option maxRecDepth 100000
set_option maxHeartbeats 8000000
open_top hd for PySem.Challenge.rw_ov0045_01
end Mine

namespace Mine
set_option maxRecDepth 100000
set_option maxHeartbeats 8000000

abbrev Led := List (Addr × Obj)
/-- what a call of the def at f with the values vs, made from a frame of the run, comes to -/
abbrev Calls (k : Nat) (f : Addr) (news : Led) (vs : List Value)
    (Ret : Heap → Addr → (Str → Option Value) → Shared → (Value → Shared → Prop) → Prop) : Prop :=
  ∀ {w : World} {mean : ExcName → Option Value} {mg mb : Str → Option Value} {dp un : Nat} {gd : Option (List Code)} {cn : Str} {cs : Scope} {a : Addr} {ccd : Value} {cl : List (Str × Addr)} {outer : List Env}
    {A₀ : Around} {base h₀ : Heap} {L : Addr} {m : Str → Option Value} {s : Shared} {Q E : Value → Shared → Prop},
    Below A₀ base outer h₀ → Fr h₀ L s.heap m → (hd.heap_39 w.params).In h₀ → News h₀ L s.heap news → Top hd.view_39 (looseW hd.view_39 []) mean mg mb h₀ →
    cs.kind = .function → dp + k < recursionLimit → un + 200 * k < cLine → Ret h₀ L m s Q →
    wpAny (model PySem.Challenge.rw_ov0045_01.row.prog w) (ktrTop dp un gd cn cs L a ccd cl outer) (PySem.call (.ref f) vs) Q E s

/-- a plain value comes back, and nothing else has changed -/
abbrev RetV (news : Led) (R : Tok → Value) (h₀ : Heap) (L : Addr) (m : Str → Option Value) (s : Shared) (Q : Value → Shared → Prop) : Prop :=
  ∀ (t : Tok) (h' : Heap) (tk' : Nat), Fr h₀ L h' m → News h₀ L h' news → Q (R t) { s with heap := h', toks := tk' }


theorem unr_end {h₀ : Heap} {L I : Addr} {it : Obj} {rest : (Str → Option Value) → Led → Prop} {s₁ : Shared} {h' : Heap} {tk : Nat} {m' : Str → Option Value} {all : Led} (F : Fr h₀ L h' m') (N : News h₀ L h' ((I, it) :: all)) (hlt : AllLt I all) (r : rest m' all) :
    UnrEnd h₀ L s₁ I it rest { s₁ with heap := h', toks := tk } := UnrEnd.intro F N all (fun _ h => h) (fun p hp => Nat.ne_of_lt (kst_ltOf hlt p hp)) r

theorem drop2 {h₀ h : Heap} {L : Addr} {p q : Addr × Obj} {news : Led} (N : News h₀ L h (p :: q :: news)) : News h₀ L h (p :: news) := fun x hx => N x ((List.mem_cons.mp hx).elim (fun e => e ▸ .head _) fun e => .tail _ (.tail _ e))

/-- a place where the walk is to wait -/
def Stop (P : Prop) : Prop := P
theorem Stop.at {P : Prop} (h : Stop P) : P := h
theorem Stop.go {P : Prop} (h : P) : Stop P := h

section
variable {prog : Program} {w : World} {A : Around} {E : Value → Shared → Prop} {s : Shared} {h₀ : Heap} {L : Addr} {news : Led} {us : List Value} {ys : List Str} {n : Nat} {a : Addr} {Q : Value → Shared → Prop}

theorem ledList {h : Heap} (N : News h₀ L h news) (hm : (a, listOf us.toArray n) ∈ news) : h.IsList a us.toArray := ⟨_, (N _ hm).1, rfl, n, rfl⟩

theorem my_len (N : News h₀ L s.heap news) (hm : (a, listOf us.toArray n) ∈ news) (hs : StrsAre us ys) (hfit : ys.length < 1000)
    (h : Q (.int ys.length (s.toks + 1)) { s with toks := s.toks + 1 + 1 }) : wpAny (model prog w) A (call (.builtin "len") [.ref a]) Q E s :=
  len_strsA (ledList N hm) hs (by omega) h

theorem my_item {value slice : PySem.Expr} {k : Int} {u : Tok} (N : News h₀ L s.heap news) (hm : (a, listOf us.toArray n) ∈ news) (hs : StrsAre us ys)
    (h0 : 0 ≤ k) (hk : k < ys.length) (hfit : ys.length < 1000) (h : ∀ t', ys.getD k.toNat Str.empty ∈ ys → Q (.str (ys.getD k.toNat Str.empty) t') s)
    (hs' : subscripted slice false (.ref a) (.int k u) = operate [.ref a, .int k u] (getItem (.ref a) (.int k u)) := by with_unfolding_all rfl) (hg : ∀ r, letTemporaryGo value (.ref a) r = pure () := by intro _; with_unfolding_all rfl) :
    wpAny (model prog w) A (subscriptTail value slice (.ref a) (.int k u)) Q E s := by
  refine item_strsA (ledList N hm) hs h0 hk (by omega) (fun t' => h t' ?_) hs' hg
  have hlt : k.toNat < ys.length := by omega
  rw [List.getD_eq_getElem?_getD, List.getElem?_eq_getElem hlt]
  exact List.getElem_mem hlt

theorem my_itemM {value slice : PySem.Expr} {k : Int} {u : Tok} (N : News h₀ L s.heap news) (hm : (a, listOf us.toArray n) ∈ news) (hs : StrsAre us ys)
    (h0 : 0 ≤ k) (hk : k < ys.length) (hfit : ys.length < 1000) (h : ∀ t', ys.getD k.toNat Str.empty ∈ ys → Q (.str (ys.getD k.toNat Str.empty) t') s)
    (hs' : subscripted slice false (.ref a) (.int (Int.fmod k ys.length) u) = operate [.ref a, .int (Int.fmod k ys.length) u] (getItem (.ref a) (.int (Int.fmod k ys.length) u)) := by with_unfolding_all rfl) (hg : ∀ r, letTemporaryGo value (.ref a) r = pure () := by intro _; with_unfolding_all rfl) :
    wpAny (model prog w) A (subscriptTail value slice (.ref a) (.int (Int.fmod k ys.length) u)) Q E s := by
  have e : Int.fmod k ys.length = k := by
    rw [Int.fmod_eq_emod_of_nonneg _ (by omega), Int.emod_eq_of_lt h0 hk]
  rw [e] at hs' ⊢
  exact my_item N hm hs h0 hk hfit h hs' hg

theorem my_join {x : Str} {t : Tok} (N : News h₀ L s.heap news) (hm : (a, listOf us.toArray n) ∈ news) (hs : StrsAre us ys) (hok : (ys.map (·.length)).sum + ys.length * x.length ≤ 16777216)
    (h : ∀ t' k, Q (.str (Str.join x ys) t') { s with toks := k }) : wpAny (model prog w) A (call (.builtin "str.join") [.str x t, .ref a]) Q E s := by
  refine join_list (ledList N hm) (by simpa using hs) hok ?_
  intro t' k
  have := h t' k
  rw [← StrLaws.glued_eq_join] at this
  exact this

theorem sum_le {B : Nat} : ∀ {ys : List Str}, (∀ y ∈ ys, y.length ≤ B) → (ys.map (·.length)).sum ≤ B * ys.length
  | [], _ => Nat.zero_le _
  | y :: r, h => by
    have ih := sum_le (ys := r) fun z hz => h z (.tail _ hz)
    have h1 := h y (.head _)
    simp only [List.map_cons, List.sum_cons, List.length_cons, Nat.mul_succ]
    omega

theorem strs_snoc : ∀ {vs : List Value} {ys : List Str}, StrsAre vs ys → ys ≠ [] → ∃ p z t q, vs = p ++ [Value.str z t] ∧ ys = q ++ [z] ∧ StrsAre p q
  | _, _, .nil, h => absurd rfl h
  | _, _, .cons y t .nil, _ => ⟨[], y, t, [], rfl, rfl, .nil⟩
  | _, _, .cons y t (.cons z u r), _ => by
    obtain ⟨p, z', t', q, h1, h2, h3⟩ := strs_snoc (.cons z u r) (by simp)
    exact ⟨.str y t :: p, z', t', y :: q, by rw [h1]; rfl, by rw [h2]; rfl, .cons y t h3⟩

theorem my_split {m : Str → Option Value} {x y : Str} {t u : Tok} {zs : List Str} (F : Fr h₀ L s.heap m) (N : News h₀ L s.heap news) (hy : (y.length == 0) = false) (hx : x.length ≤ 1000) (hz : Txt.split x y = zs) (hne : zs ≠ [])
    (h : ∀ D p z t' q h' k, zs = q ++ [z] → StrsAre p q → Fr h₀ L h' m → News h₀ L h' ((D, listOf (p ++ [Value.str z t']).toArray 0) :: news) → (∀ p ∈ news, p.1 < D) → Q (.ref D) { s with heap := h', toks := k }) :
    wpAny (model prog w) A (call (.builtin "str.split") [.str x t, .str y u]) Q E s := by
  refine KSpl.split1 F N hy ?_ (by rw [PySem.sizeLine_eq]; omega)
  intro D l h' k e S F' N' hl
  rw [hz] at e
  rw [e] at S
  obtain ⟨p, z, t', q, h1, h2, h3⟩ := strs_snoc S hne
  rw [h1] at N'
  exact h D p z t' q h' k h2 h3 F' N' hl

theorem my_back {value slice : PySem.Expr} {p : List Value} {v : Value} {u : Tok} (N : News h₀ L s.heap news) (hm : (a, listOf (p ++ [v]).toArray n) ∈ news) (hfit : p.length < 1000) (h : Q v s)
    (hs' : subscripted slice false (.ref a) (.int (-1) u) = operate [.ref a, .int (-1) u] (getItem (.ref a) (.int (-1) u)) := by with_unfolding_all rfl) (hg : ∀ r, letTemporaryGo value (.ref a) r = pure () := by intro _; with_unfolding_all rfl) :
    wpAny (model prog w) A (subscriptTail value slice (.ref a) (.int (-1) u)) Q E s :=
  kim_back (l := p ++ [v]) N hm rfl rfl (by decide) (by rw [List.length_append, List.length_singleton]; omega) (by decide)
    (by rw [List.length_append, List.length_singleton, show ((-1 : Int) + ((p.length + 1 : Nat) : Int)).toNat = p.length by omega]; simp) h hs' hg

theorem my_pop {m : Str → Option Value} {p : List Value} {v : Value} {news' : Led} (F : Fr h₀ L s.heap m) (N : News h₀ L s.heap news) (U : Upd a (listOf (p ++ [v]).toArray n) (listOf p.toArray (n + 1)) news news')
    (hfit : p.length < 1000) (h : ∀ h', Fr h₀ L h' m → News h₀ L h' news' → Q v { s with heap := h' }) : wpAny (model prog w) A (call (.builtin "list.pop") [.ref a]) Q E s :=
  kl_pop F N (by simpa using kpa_last v p) U (by rw [PySem.sizeLine_eq]; simp; omega) h
end

end Mine

namespace Mine
set_option maxRecDepth 100000
set_option maxHeartbeats 8000000

theorem ifOne {i : Int} (h : 1 ≤ i) : (if 1 > i then 1 else i) = i := if_neg (by omega)

def substrF (x : Str) (i j : Int) : Str := if j < i then Str.ofString "" else Txt.slice x (some (i - 1)) (some j)

theorem substr_of_ok (news : Led) (x : Str) (t : Tok) (i j : Int) (ti tj : Tok) (h1 : 1 ≤ i) (hx : x.length ≤ 1000) :
    Calls 1 74 news [.str x t, .int i ti, .int j tj] (RetV news fun t' => .str (substrF x i j) t') := by
  have hfill : (hd.heap_39 = hd.heap_39) ∧ PySem.Challenge.rw_ov0045_01 = PySem.Challenge.rw_ov0045_01 := by k_fill; exact ⟨rfl, rfl⟩
  clear hfill
  w_top off
  intro w mean mg mb dp un gd cn cs a ccd cl outer A₀ base h₀ L m s Q E B F X N T hk hd' hu' hret
  refine wpAny_call ?_
  k_dflt cell_enter
  k_steps
  · refine cb_retS hret ?_ (by assumption) (by assumption)
    unfold substrF; rw [if_pos (by omega)]
  · refine cb_retS hret ?_ (by assumption) (by assumption)
    unfold substrF; rw [ifOne h1, if_neg (by omega)]

def startsF (x y : Str) : Int := if (Txt.slice x none (some (y.length : Int)) == y) = true then 1 else 0

theorem starts_with_ok (news : Led) (x y : Str) (t ty : Tok) (hx : x.length ≤ 1000) (hy : y.length ≤ 1000) :
    Calls 1 102 news [.str x t, .str y ty] (RetV news fun t' => .int (startsF x y) t') := by
  have hfill : (hd.heap_39 = hd.heap_39) ∧ PySem.Challenge.rw_ov0045_01 = PySem.Challenge.rw_ov0045_01 := by k_fill; exact ⟨rfl, rfl⟩
  clear hfill
  w_top off
  intro w mean mg mb dp un gd cn cs a ccd cl outer A₀ base h₀ L m s Q E B F X N T hk hd' hu' hret
  refine wpAny_call ?_
  k_dflt cell_enter
  k_steps
  · refine cb_retI hret ?_ (by assumption) (by assumption)
    unfold startsF; rw [if_pos (by assumption)]
  · refine cb_retI hret ?_ (by assumption) (by assumption)
    unfold startsF; rw [if_neg (by rw [show (Txt.slice x none (some (y.length : Int)) == y) = false from by assumption]; decide)]

def endsF (x y : Str) : Int := if (Txt.slice x (some (if 0 > (x.length : Int) - y.length then 0 else (x.length : Int) - y.length)) none == y) = true then 1 else 0

theorem ends_with_ok (news : Led) (x y : Str) (t ty : Tok) (hx : x.length ≤ 1000) (hy : y.length ≤ 1000) :
    Calls 1 109 news [.str x t, .str y ty] (RetV news fun t' => .int (endsF x y) t') := by
  have hfill : (hd.heap_39 = hd.heap_39) ∧ PySem.Challenge.rw_ov0045_01 = PySem.Challenge.rw_ov0045_01 := by k_fill; exact ⟨rfl, rfl⟩
  clear hfill
  w_top off
  intro w mean mg mb dp un gd cn cs a ccd cl outer A₀ base h₀ L m s Q E B F X N T hk hd' hu' hret
  refine wpAny_call ?_
  k_dflt cell_enter
  k_steps
  · refine cb_retI hret ?_ (by assumption) (by assumption)
    unfold endsF; rw [if_pos (by assumption)]
  · refine cb_retI hret ?_ (by assumption) (by assumption)
    unfold endsF; rw [if_neg (by rw [show (Txt.slice x (some (if 0 > (x.length : Int) - y.length then 0 else (x.length : Int) - y.length)) none == y) = false from by assumption]; decide)]

def revF (x : Str) : Str := Txt.sliceBy x none none (-1, 0)
theorem revF_eq (x : Str) (u : Tok) : Txt.sliceBy x none none (-1, u) = revF x := rfl

theorem rev_text_ok (news : Led) (x : Str) (t : Tok) (hx : x.length ≤ 1000) :
    Calls 1 130 news [.str x t] (RetV news fun t' => .str (revF x) t') := by
  have hfill : (hd.heap_39 = hd.heap_39) ∧ PySem.Challenge.rw_ov0045_01 = PySem.Challenge.rw_ov0045_01 := by k_fill; exact ⟨rfl, rfl⟩
  clear hfill
  w_top off
  intro w mean mg mb dp un gd cn cs a ccd cl outer A₀ base h₀ L m s Q E B F X N T hk hd' hu' hret
  refine wpAny_call ?_
  k_dflt cell_enter
  k_steps
  refine cb_retS hret ?_ (by assumption) (by assumption)
  exact revF_eq x _
end Mine

namespace Mine
set_option maxRecDepth 100000
set_option maxHeartbeats 8000000
local macro_rules | `(tactic| k_memK) => `(tactic| first | with_reducible assumption | with_reducible exact List.mem_cons_self | ((with_reducible refine List.mem_cons_of_mem _ ?_); k_memK) | ((with_reducible refine List.mem_append.mpr (.inl ?_)); k_memK) | ((with_reducible refine List.mem_append.mpr (.inr ?_)); k_memK) | fail "k_memK: none")
local macro_rules | `(tactic| walk_at "pyIter ref") => `(tactic| refine Stop.at ?_)

theorem join_snoc (j x : Str) : ∀ l : List Str, l ≠ [] → Str.join j (l ++ [x]) = Str.join j l ++ j ++ x
  | [], h => absurd rfl h
  | [y], _ => rfl
  | y :: z :: r, _ => by
    have ih := join_snoc j x (z :: r) (by simp)
    show y ++ j ++ Str.join j ((z :: r) ++ [x]) = (y ++ j ++ Str.join j (z :: r)) ++ j ++ x
    rw [ih]
    simp only [Str.append_assoc]

theorem take_snoc {ws : List Str} {k : Nat} (h : k < ws.length) : ws.take (k + 1) = ws.take k ++ [ws.getD k Str.empty] := by
  rw [List.take_add_one, List.getD_eq_getElem?_getD, List.getElem?_eq_getElem h]; rfl

theorem none_is : Str.ofString "" = Str.empty := by decide +kernel

/-- what the loop of _law_joined holds behind its turns -/
def GlueP (j : Str) (ws : List Str) (pre : List Int) (g : Str) : Prop := g = Str.join j (ws.take pre.length) ∧ g.length ≤ 8 * pre.length

theorem glue_start (j : Str) (ws : List Str) : GlueP j ws [] (Str.ofString "") := by
  refine ⟨?_, ?_⟩
  · rw [none_is]; rfl
  · rw [none_is]; exact Nat.zero_le _
theorem glue_first {j : Str} {ws : List Str} {pre : List Int} {k : Int} {g : Str} (h : GlueP j ws pre g) (hk : k = 0 + (pre.length : Int)) (hlt : pre.length < ((ws.length : Int) - 0).toNat) (hw : ∀ x ∈ ws, x.length ≤ 6)
    (hm : ws.getD k.toNat Str.empty ∈ ws) (hc : ¬ 0 < k) : GlueP j ws (pre ++ [k]) (g ++ ws.getD k.toNat Str.empty) := by
  have h0 : pre.length = 0 := by omega
  have hk0 : k.toNat = 0 := by omega
  have hlen := hw _ hm
  obtain ⟨hg, hl⟩ := h
  rw [h0] at hg hl
  rw [hk0] at hlen ⊢
  refine ⟨?_, ?_⟩
  · rw [List.length_append, h0, hg, show (0 + [k].length) = 0 + 1 from rfl, take_snoc (by omega)]
    exact Str.empty_append _
  · rw [List.length_append, h0, Str.length_append, List.length_singleton]; omega
theorem glue_more {j : Str} {ws : List Str} {pre : List Int} {k : Int} {g : Str} (h : GlueP j ws pre g) (hk : k = 0 + (pre.length : Int)) (hlt : pre.length < ((ws.length : Int) - 0).toNat) (hw : ∀ x ∈ ws, x.length ≤ 6) (hj : j.length ≤ 2)
    (hm : ws.getD k.toNat Str.empty ∈ ws) (hc : 0 < k) : GlueP j ws (pre ++ [k]) (g ++ j ++ ws.getD k.toNat Str.empty) := by
  have hlen := hw _ hm
  have hk0 : k.toNat = pre.length := by omega
  obtain ⟨hg, hl⟩ := h
  rw [hk0] at hlen ⊢
  refine ⟨?_, ?_⟩
  · rw [List.length_append, hg, List.length_singleton, take_snoc (by omega), join_snoc]
    intro e
    have := congrArg List.length e
    rw [List.length_take, List.length_nil] at this
    omega
  · rw [List.length_append, Str.length_append, Str.length_append, List.length_singleton]; omega

theorem GlueP.len {j : Str} {ws : List Str} {pre : List Int} {g : Str} (h : GlueP j ws pre g) : g.length ≤ 8 * pre.length := h.2
theorem GlueP.whole {j : Str} {ws : List Str} {us : List Value} {g : Str} (_ : StrsAre us ws) (h : GlueP j ws (rangeKs 0 ((ws.length : Int) - 0).toNat) g) : g = Str.join j ws := by
  rw [h.1, rangeKs_length, List.take_of_length_le (by omega)]

theorem law_joined_ok (news : Led) (wl : Addr) (us : List Value) (n : Nat) (ws : List Str) (j : Str) (tj : Tok)
    (hm : (wl, listOf us.toArray n) ∈ news) (hs : StrsAre us ws) (hlen : ws.length ≤ 8) (hj : j.length ≤ 2) (hw : ∀ x ∈ ws, x.length ≤ 6) :
    Calls 1 151 news [.ref wl, .str j tj] (RetV news fun t' => .str (Str.join j ws) t') := by
  have hfill : (hd.heap_39 = hd.heap_39) ∧ PySem.Challenge.rw_ov0045_01 = PySem.Challenge.rw_ov0045_01 := by k_fill; exact ⟨rfl, rfl⟩
  clear hfill
  w_top off
  intro w mean mg mb dp un gd cn cs a ccd cl outer A₀ base h₀ L m s Q E B F X N T hk hd' hu' hret
  refine wpAny_call ?_
  k_dflt cell_enter
  have kMark := kstMark
  k_with_none
  (k_with "call builtin:len" => refine my_len (by assumption) (by k_memK) hs (by omega) ?_)
  (k_with "subscriptTail Name Name ref int" => refine my_item (by assumption) (by k_memK) hs (by omega) (by omega) (by omega) ?_ ; (intro t9 hmem9; have hlen9 := hw _ hmem9))
  (k_with "state" => first | exact glue_start j ws | exact glue_first (by assumption) (by assumption) (by assumption) hw (by assumption) (by assumption) | exact glue_more (by assumption) (by assumption) (by assumption) hw hj (by assumption) (by assumption))
  k_steps
  refine Stop.go ?_
  k_state (GlueP j ws) "glued"
  · have hL9 := GlueP.len (by assumption)
    k_steps
  · have hL9 := GlueP.whole hs (by assumption)
    k_steps
    refine cb_retS hret hL9 (by assumption) (by assumption)
end Mine

namespace Mine
set_option maxRecDepth 100000
set_option maxHeartbeats 8000000
local macro_rules | `(tactic| k_memK) => `(tactic| first | with_reducible assumption | with_reducible exact List.mem_cons_self | ((with_reducible refine List.mem_cons_of_mem _ ?_); k_memK) | ((with_reducible refine List.mem_append.mpr (.inl ?_)); k_memK) | ((with_reducible refine List.mem_append.mpr (.inr ?_)); k_memK) | fail "k_memK: none")
local macro_rules | `(tactic| walk_at "pyIter ref") => `(tactic| refine Stop.at ?_)

local macro_rules | `(tactic| walk_at "exec For Name Name cons nil") => `(tactic| (k_here; (rename Fr _ _ _ _ => lF'); (with_unfolding_all refine' For_invVF lF' ?k1 ?k2 ?_; (case k1 => exact rfl); (case k2 => exact rfl); k_whole)))

local macro_rules | `(tactic| kst_facts1) => `(tactic| first | exact True.intro | with_reducible assumption | exact PyProof.Rows.StrsAre.nil | exact PyProof.Rows.StrsAre.append' (by with_reducible assumption) (.cons _ _ .nil) | fail "facts")

/-- a list of texts comes back, nothing else has changed -/
abbrev RetL (news : Led) (ys : List Str) (h₀ : Heap) (L : Addr) (m : Str → Option Value) (s : Shared) (Q : Value → Shared → Prop) : Prop :=
  ∀ (b : Addr) (vs : List Value) (k : Nat) (h' : Heap) (tk' : Nat), StrsAre vs ys → Fr h₀ L h' m → News h₀ L h' ((b, listOf vs.toArray k) :: news) → (∀ p ∈ news, p.1 < b) → Q (.ref b) { s with heap := h', toks := tk' }

theorem maxLen {n : Nat} : (if (n : Int) > 0 then (n : Int) else 0) = n := by split <;> omega

theorem strs_eq {vs : List Value} {ys zs : List Str} (h : StrsAre vs ys) (e : ys = zs) : StrsAre vs zs := e ▸ h

/-- what paste_texts has found behind its turns -/
def PasteP (ws : List Str) (pre : List Int) (found : List Str) : Prop := found = ws.take pre.length
theorem PasteP.len {ws : List Str} {pre : List Int} {found : List Str} (h : PasteP ws pre found) : found.length ≤ ws.length := by
  rw [show found = _ from h, List.length_take]; omega
theorem PasteP.whole {ws : List Str} {us : List Value} {found : List Str} (_ : StrsAre us ws) (h : PasteP ws (rangeKs 0 ((ws.length : Int) - 0).toNat) found) : found = ws := by
  rw [show found = _ from h, rangeKs_length, List.take_of_length_le (by omega)]
theorem paste_start (ws : List Str) : PasteP ws [] [] := rfl
theorem paste_turn {ws : List Str} {pre : List Int} {k : Int} {found : List Str} {x : Str} (h : PasteP ws pre found) (hk : k = 0 + (pre.length : Int)) (hlt : pre.length < ((ws.length : Int) - 0).toNat) (hx : x = ws.getD k.toNat Str.empty) :
    PasteP ws (pre ++ [k]) (found ++ [x]) := by
  unfold PasteP at *
  rw [List.length_append, List.length_singleton, take_snoc (by omega), h, hx, show k.toNat = pre.length by omega]

theorem paste_texts_ok (news : Led) (r wl : Addr) (us : List Value) (n nr : Nat) (ws : List Str) (tj : Tok)
    (hr : (r, listOf [Value.ref wl].toArray nr) ∈ news) (hm : (wl, listOf us.toArray n) ∈ news) (hs : StrsAre us ws) (hlen : ws.length ≤ 900) (hw : ∀ x ∈ ws, x.length ≤ 6) :
    Calls 1 53 news [.ref r, .str (Str.ofString "") tj] (RetL news ws) := by
  have hfill : (hd.heap_39 = hd.heap_39) ∧ PySem.Challenge.rw_ov0045_01 = PySem.Challenge.rw_ov0045_01 := by k_fill; exact ⟨rfl, rfl⟩
  clear hfill
  w_top off
  intro w mean mg mb dp un gd cn cs a ccd cl outer A₀ base h₀ L m s Q E B F X N T hk hd' hu' hret
  refine wpAny_call ?_
  k_dflt cell_enter
  have kMark := kstMark
  k_with_none
  (k_with "state" => first | exact paste_start ws | exact paste_turn (by assumption) (by assumption) (by assumption) rfl)
  (k_with "call builtin:len" => refine my_len (by assumption) (by k_memK) hs (by omega) ?_)
  (k_with "subscriptTail Name BinOp ref int" => refine my_itemM (by assumption) (by k_memK) hs (by omega) (by omega) (by omega) ?_ ; (intro t9 hmem9; have hlen9 := hw _ hmem9))
  k_steps
  refine Stop.go ?_
  refine iter_listUnr (lo := listOf [Value.ref wl].toArray nr) (vs := [Value.ref wl]) rfl (by assumption) (by assumption) hr rfl rfl ?_
  intro I hI
  refine ListRest.succ (fun it9 h9 tk9 hit9 F9 N9 => ?_)
  k_steps
  rename Fr _ _ _ _ => F1
  rw [maxLen] at F1
  rename News _ _ _ _ => N1
  refine UnrEnd.intro F1 N1 news (fun _ h => h) (fun p hp => Nat.ne_of_lt (hI p hp)) ⟨hr, ?_⟩
  clear F1 N1
  refine ListRest.zero (fun h1 tk1 F1 N1 => ?_)
  k_steps
  refine Stop.go ?_
  k_state (PasteP ws) "found$"
  · have hKl := PasteP.len (by assumption)
    have hpos : (0 : Int) < ws.length := by omega
    k_steps
    refine Stop.go ?_
    refine iter_listUnr (lo := listOf [Value.ref wl].toArray nr) (vs := [Value.ref wl]) rfl (by assumption) (by assumption) (by k_memK) rfl rfl ?_
    intro I2 hI2
    k_lt hI2
    refine ListRest.succ (fun it8 h8 tk8 hit8 F8 N8 => ?_)
    k_steps
    · exfalso; omega
    refine unr_end (by assumption) (by assumption) (by exact hI2) ⟨by k_memK, ?_⟩
    refine ListRest.zero (fun h2 tk2 F2 N2 => ?_)
    k_steps
  · have hW := PasteP.whole hs (by assumption)
    k_steps
    exact hret _ _ _ _ _ (strs_eq (by assumption) hW) (by assumption) (by assumption) (by assumption)
end Mine

namespace Mine
set_option maxRecDepth 100000
set_option maxHeartbeats 8000000
local macro_rules | `(tactic| k_memK) => `(tactic| first | with_reducible assumption | with_reducible exact List.mem_cons_self | ((with_reducible refine List.mem_cons_of_mem _ ?_); k_memK) | ((with_reducible refine List.mem_append.mpr (.inl ?_)); k_memK) | ((with_reducible refine List.mem_append.mpr (.inr ?_)); k_memK) | fail "k_memK: none")

theorem paste_vectors_ok (news : Led) (r wl : Addr) (us : List Value) (n nr : Nat) (ws : List Str) (j : Str) (t0 tj : Tok)
    (hr : (r, listOf [Value.ref wl].toArray nr) ∈ news) (hm : (wl, listOf us.toArray n) ∈ news) (hs : StrsAre us ws) (hlen : ws.length ≤ 900) (hw : ∀ x ∈ ws, x.length ≤ 6) (hj : j.length ≤ 2) :
    Calls 2 60 news [.ref r, .str (Str.ofString "") t0, .str j tj] (RetL news [Str.join j ws]) := by
  have hfill : (hd.heap_39 = hd.heap_39) ∧ PySem.Challenge.rw_ov0045_01 = PySem.Challenge.rw_ov0045_01 := by k_fill; exact ⟨rfl, rfl⟩
  clear hfill
  w_top off
  intro w mean mg mb dp un gd cn cs a ccd cl outer A₀ base h₀ L m s Q E B F X N T hk hd' hu' hret
  refine wpAny_call ?_
  k_dflt cell_enter
  have kMark := kstMark
  k_with_none
  (k_with "call ref" => (k_dflt (refine' paste_texts_ok _ _ _ _ _ _ _ _ ?m1 ?m2 hs hlen hw ?k1 ?k2 ?k3 ?k4 ?k5 ?kK ?kd ?ku ?kR)); (case k1 => k_asm); (case k2 => k_asm); (case k3 => k_asm); (case k4 => k_asm); (case k5 => k_asm); (case m1 => k_memK); (case m2 => k_memK); (case kK => first | exact rfl | assumption); (case kd => ktr_room); (case ku => ktr_units); (intro b9 vs9 k9 h9 tk9 S9 F9 N9 l9); (try dsimp only); (try k_fold); (try k_lt l9))
  have hsz : (ws.map (·.length)).sum + ws.length * j.length ≤ 16777216 := by
    have h1 := sum_le hw
    have h2 : ws.length * j.length ≤ ws.length * 2 := Nat.mul_le_mul_left _ hj
    omega
  (k_with "call builtin:str.join" => refine my_join (by assumption) (by k_memK) (by assumption) hsz ?_; (intro t8 c8))
  k_steps
  exact hret _ [.str _ t8] 0 _ _ (.cons _ _ .nil) (by assumption) (drop2 (by assumption)) (kst_ltOf (And.right (by assumption)))
end Mine

namespace Mine
set_option maxRecDepth 100000
set_option maxHeartbeats 8000000
local macro_rules | `(tactic| k_memK) => `(tactic| first | with_reducible assumption | with_reducible exact List.mem_cons_self | ((with_reducible refine List.mem_cons_of_mem _ ?_); k_memK) | ((with_reducible refine List.mem_append.mpr (.inl ?_)); k_memK) | ((with_reducible refine List.mem_append.mpr (.inr ?_)); k_memK) | fail "k_memK: none")

/-- the parts less one empty text at their end -/
def dropE (zs : List Str) : List Str := if (zs.getLastD Str.empty == Str.ofString "") = true then zs.dropLast else zs
theorem dropE_pos {q : List Str} {z : Str} (h : (z == Str.ofString "") = true) : dropE (q ++ [z]) = q := by
  unfold dropE; rw [List.getLastD_concat, if_pos h, List.dropLast_concat]
theorem dropE_neg {q : List Str} {z : Str} (h : (z == Str.ofString "") = false) : dropE (q ++ [z]) = q ++ [z] := by
  unfold dropE; rw [List.getLastD_concat, if_neg (by rw [h]; decide)]

theorem split_fixed_ok (news : Led) (x y : Str) (t0 tj : Tok) (zs : List Str) (hx : x.length ≤ 1000) (hy1 : (y.length == 0) = false) (hye : (y == Str.ofString "") = false) (hz : Txt.split x y = zs) (hne : zs ≠ []) (hzl : zs.length ≤ 900) :
    Calls 1 67 news [.str x t0, .str y tj] (RetL news (dropE zs)) := by
  have hfill : (hd.heap_39 = hd.heap_39) ∧ PySem.Challenge.rw_ov0045_01 = PySem.Challenge.rw_ov0045_01 := by k_fill; exact ⟨rfl, rfl⟩
  clear hfill
  w_top off
  intro w mean mg mb dp un gd cn cs a ccd cl outer A₀ base h₀ L m s Q E B F X N T hk hd' hu' hret
  refine wpAny_call ?_
  k_dflt cell_enter
  have kMark := kstMark
  k_with_none
  (k_with "call builtin:str.split" => refine my_split (by assumption) (by assumption) hy1 hx hz hne ?_; (intro D9 p9 z9 t9 q9 h9 k9 e9 S9 F9 N9 l9); (have f9 : p9.length < 900 := by rw [e9, List.length_append, List.length_singleton] at hzl; have := S9.len_eq; omega); (try k_lt l9))
  (k_with "subscriptTail Name UnaryOp ref int" => refine my_back (by assumption) (by k_memK) (by omega) ?_)
  (k_with "call builtin:list.pop" => k_dflt (refine' my_pop ?F ?N ?U ?f ?_; (case F => k_asm); (case N => k_asm); (case U => k_upd); (case f => omega)); (intro h8 F8 N8))
  k_steps
  · subst e9
    exact hret _ _ _ _ _ (strs_eq S9 (dropE_pos (by assumption)).symm) (by assumption) (by assumption) l9
  · subst e9
    exact hret _ _ _ _ _ (strs_eq (PyProof.Rows.StrsAre.append' S9 (.cons _ _ .nil)) (dropE_neg (by assumption)).symm) (by assumption) (by assumption) l9
end Mine

namespace Mine
set_option maxRecDepth 100000
set_option maxHeartbeats 8000000
local macro_rules | `(tactic| k_memK) => `(tactic| first | with_reducible assumption | with_reducible exact List.mem_cons_self | ((with_reducible refine List.mem_cons_of_mem _ ?_); k_memK) | ((with_reducible refine List.mem_append.mpr (.inl ?_)); k_memK) | ((with_reducible refine List.mem_append.mpr (.inr ?_)); k_memK) | fail "k_memK: none")
local macro_rules | `(tactic| walk_at "exec While Compare cons nil") => `(tactic| refine Stop.at ?_)
local macro_rules | `(tactic| walk_at "exec While BoolOp cons nil") => `(tactic| refine Stop.at ?_)
local macro_rules | `(tactic| walk_at "exec While") => `(tactic| refine Stop.at ?_)

/-- a list of ints comes back, nothing else has changed -/
abbrev RetI (news : Led) (ys : List Int) (h₀ : Heap) (L : Addr) (m : Str → Option Value) (s : Shared) (Q : Value → Shared → Prop) : Prop :=
  ∀ (b : Addr) (vs : List Value) (k : Nat) (h' : Heap) (tk' : Nat), IntsAre vs ys → Fr h₀ L h' m → News h₀ L h' ((b, listOf vs.toArray k) :: news) → (∀ p ∈ news, p.1 < b) → Q (.ref b) { s with heap := h', toks := tk' }

local macro_rules | `(tactic| kst_facts1) => `(tactic| first | exact True.intro | with_reducible assumption | exact PyProof.Rows.StrsAre.nil | exact PyProof.Rows.IntsAre.nil | exact PyProof.Rows.StrsAre.append' (by with_reducible assumption) (.cons _ _ .nil) | exact PyProof.Rows.IntsAre.append (by with_reducible assumption) (.cons _ _ .nil) | fail "facts")

theorem bneF {a b : Str} (h : (a != b) = false) (h2 : (a == b) = false) : False := by simp [bne, h2] at h
theorem ints_eq {vs : List Value} {ys zs : List Int} (h : IntsAre vs ys) (e : ys = zs) : IntsAre vs zs := e ▸ h

/-- a chain of finds: what find gives from here on, each behind the one before -/
noncomputable def CutAt (x y : Str) : Int → List Int → Prop
  | at', [] => at' = -1
  | at', c :: r => at' = c ∧ 0 ≤ c ∧ CutAt x y (Txt.find3 x y (c + y.length)) r

def FindP (x y : Str) (cs : List Int) (_ : List Int) (at' : Int) (found : List Int) : Prop := ∃ pre rest, cs = pre ++ rest ∧ found = pre.map (· + 1) ∧ CutAt x y at' rest
theorem find_start {x y : Str} {cs sc : List Int} {at' : Int} (h : CutAt x y at' cs) : FindP x y cs sc at' [] := ⟨[], cs, rfl, rfl, h⟩
theorem FindP.len {x y : Str} {cs sc found : List Int} {at' : Int} (h : FindP x y cs sc at' found) : found.length ≤ cs.length := by
  obtain ⟨pre, rest, rfl, rfl, _⟩ := h
  rw [List.length_map, List.length_append]; omega
theorem FindP.less {x y : Str} {cs sc found : List Int} {at' : Int} (h : FindP x y cs sc at' found) (h0 : 0 ≤ at') : found.length < cs.length := by
  obtain ⟨pre, rest, rfl, rfl, hc⟩ := h
  cases rest with
  | nil => have : at' = -1 := hc; omega
  | cons c r => rw [List.length_map, List.length_append, List.length_cons]; omega
theorem FindP.turn {x y : Str} {cs sc found : List Int} {at' : Int} (h : FindP x y cs sc at' found) (h0 : 0 ≤ at') : FindP x y cs sc (Txt.find3 x y (at' + y.length)) (found ++ [at' + 1]) := by
  obtain ⟨pre, rest, rfl, rfl, hc⟩ := h
  cases rest with
  | nil => have : at' = -1 := hc; omega
  | cons c r =>
    obtain ⟨rfl, _, hr⟩ := hc
    exact ⟨pre ++ [at'], r, by rw [List.append_assoc]; rfl, by rw [List.map_append]; rfl, hr⟩
theorem FindP.whole {x y : Str} {cs sc found : List Int} {at' : Int} (h : FindP x y cs sc at' found) (h0 : ¬ 0 ≤ at') : found = cs.map (· + 1) := by
  obtain ⟨pre, rest, rfl, rfl, hc⟩ := h
  cases rest with
  | nil => rw [List.append_nil]
  | cons c r => obtain ⟨rfl, h1, _⟩ := hc; exact absurd h1 h0

theorem find_fixed_ok (news : Led) (x y : Str) (t0 tj : Tok) (cs : List Int) (hx : x.length ≤ 1000) (hy2 : y.length ≤ 2) (hye : (y == Str.ofString "") = false) (hc : CutAt x y (Txt.find x y) cs) (hcl : cs.length ≤ 900) :
    Calls 1 123 news [.str y tj, .str x t0] (RetI news (cs.map (· + 1))) := by
  have hfill : (hd.heap_39 = hd.heap_39) ∧ PySem.Challenge.rw_ov0045_01 = PySem.Challenge.rw_ov0045_01 := by k_fill; exact ⟨rfl, rfl⟩
  clear hfill
  w_top off
  intro w mean mg mb dp un gd cn cs' a ccd cl outer A₀ base h₀ L m s Q E B F X N T hk hd' hu' hret
  refine wpAny_call ?_
  k_dflt cell_enter
  have kMark := kstMark
  k_with_none
  (k_with "state" => first | exact find_start hc | exact FindP.turn (by assumption) (by omega))
  (k_with "measure" => have hl8 := FindP.less (by assumption) (by omega); (simp only [List.length_append, List.length_singleton]); omega)
  k_steps
  refine Stop.go ?_
  first | k_while (FindP x y cs) (fun _ _ found => cs.length - found.length) "at" "found"
  have hl9 := FindP.len (by assumption)
  k_steps
  · exact (bneF (by assumption) hye).elim
  · exact hret _ _ _ _ _ (ints_eq (by assumption) (FindP.whole (by assumption) (by assumption))) (by assumption) (by assumption) (by assumption)

/-- the pieces that sub_fixed puts together, from a place on -/
noncomputable def subParts (x y z : Str) : Int → List Int → List Str
  | st, [] => [Txt.slice x (some st) none]
  | st, c :: r => Txt.slice x (some st) (some c) :: z :: subParts x y z (c + y.length) r

end Mine

namespace Mine
set_option maxRecDepth 100000
set_option maxHeartbeats 8000000
local macro_rules | `(tactic| k_memK) => `(tactic| first | with_reducible assumption | with_reducible exact List.mem_cons_self | ((with_reducible refine List.mem_cons_of_mem _ ?_); k_memK) | ((with_reducible refine List.mem_append.mpr (.inl ?_)); k_memK) | ((with_reducible refine List.mem_append.mpr (.inr ?_)); k_memK) | fail "k_memK: none")
local macro_rules | `(tactic| walk_at "exec While Compare cons nil") => `(tactic| refine Stop.at ?_)
local macro_rules | `(tactic| walk_at "exec While") => `(tactic| refine Stop.at ?_)
local macro_rules | `(tactic| kst_facts1) => `(tactic| first | exact True.intro | with_reducible assumption | exact PyProof.Rows.StrsAre.nil | exact PyProof.Rows.IntsAre.nil | exact PyProof.Rows.StrsAre.append' (by with_reducible assumption) (.cons _ _ .nil) | exact PyProof.Rows.StrsAre.append' (PyProof.Rows.StrsAre.append' (by with_reducible assumption) (.cons _ _ .nil)) (.cons _ _ .nil) | exact PyProof.Rows.IntsAre.append (by with_reducible assumption) (.cons _ _ .nil) | fail "facts")

def SubP (x y z : Str) (cs : List Int) (_ : List Int) (at' st : Int) (parts : List Str) : Prop :=
  ∃ rest, CutAt x y at' rest ∧ parts ++ subParts x y z st rest = subParts x y z 0 cs ∧ parts.length + 2 * rest.length = 2 * cs.length ∧ ∀ p ∈ parts, p.length ≤ 1000
theorem sub_start {x y z : Str} {cs sc : List Int} {at' : Int} (h : CutAt x y at' cs) : SubP x y z cs sc at' 0 [] :=
  ⟨cs, h, rfl, by rw [List.length_nil]; omega, fun _ hp => nomatch hp⟩
theorem SubP.len {x y z : Str} {cs sc : List Int} {at' st : Int} {parts : List Str} (h : SubP x y z cs sc at' st parts) : parts.length ≤ 2 * cs.length := by
  obtain ⟨rest, _, _, hl, _⟩ := h; omega
theorem SubP.less {x y z : Str} {cs sc : List Int} {at' st : Int} {parts : List Str} (h : SubP x y z cs sc at' st parts) (h0 : 0 ≤ at') : parts.length + 2 ≤ 2 * cs.length := by
  obtain ⟨rest, hc, _, hl, _⟩ := h
  cases rest with
  | nil => have : at' = -1 := hc; omega
  | cons c r => rw [List.length_cons] at hl; omega
theorem SubP.turn {x y z : Str} {cs sc : List Int} {at' st : Int} {parts : List Str} (h : SubP x y z cs sc at' st parts) (h0 : 0 ≤ at') (hx : x.length ≤ 1000) (hz : z.length ≤ 2) :
    SubP x y z cs sc (Txt.find3 x y (at' + y.length)) (at' + y.length) (parts ++ [Txt.slice x (some st) (some at')] ++ [z]) := by
  obtain ⟨rest, hc, he, hl, hp⟩ := h
  cases rest with
  | nil => have : at' = -1 := hc; omega
  | cons c r =>
    obtain ⟨rfl, _, hr⟩ := hc
    refine ⟨r, hr, ?_, ?_, ?_⟩
    · rw [← he, List.append_assoc, List.append_assoc]; rfl
    · simp only [List.length_append, List.length_nil, List.length_cons] at hl ⊢; omega
    · intro p h
      rcases List.mem_append.mp h with h | h
      · rcases List.mem_append.mp h with h | h
        · exact hp p h
        · rw [List.mem_singleton.mp h]; exact Nat.le_trans (Txt.slice_le x _ _) hx
      · rw [List.mem_singleton.mp h]; omega
theorem SubP.whole {x y z : Str} {cs sc : List Int} {at' st : Int} {parts : List Str} (h : SubP x y z cs sc at' st parts) (h0 : ¬ 0 ≤ at') : parts ++ [Txt.slice x (some st) none] = subParts x y z 0 cs := by
  obtain ⟨rest, hc, he, _⟩ := h
  cases rest with
  | nil => exact he
  | cons c r => obtain ⟨rfl, h1, _⟩ := hc; exact absurd h1 h0
theorem SubP.size {x y z : Str} {cs sc : List Int} {at' st : Int} {parts : List Str} (h : SubP x y z cs sc at' st parts) (hx : x.length ≤ 1000) (hcl : cs.length ≤ 900) :
    ((parts ++ [Txt.slice x (some st) none]).map (·.length)).sum + (parts ++ [Txt.slice x (some st) none]).length * (Str.ofString "").length ≤ 16777216 := by
  have hl := h.len
  obtain ⟨rest, _, _, _, hp⟩ := h
  have h1 : ∀ p ∈ parts ++ [Txt.slice x (some st) none], p.length ≤ 1000 := by
    intro p h
    rcases List.mem_append.mp h with h | h
    · exact hp p h
    · rw [List.mem_singleton.mp h]; exact Nat.le_trans (Txt.slice_le x _ _) hx
  have h2 := sum_le h1
  rw [show (Str.ofString "").length = 0 by decide +kernel, Nat.mul_zero]
  rw [List.length_append, List.length_singleton] at h2
  omega

theorem sub_fixed_all_ok (news : Led) (x y z : Str) (t0 t1 tj : Tok) (cs : List Int) (hx : x.length ≤ 1000) (hy2 : y.length ≤ 2) (hz2 : z.length ≤ 2) (hye : (y == Str.ofString "") = false) (hc : CutAt x y (Txt.find x y) cs) (hcl : cs.length ≤ 900) :
    Calls 1 116 news [.str y tj, .str z t1, .str x t0, .bool true] (RetV news fun t' => .str (Str.join (Str.ofString "") (subParts x y z 0 cs)) t') := by
  have hfill : (hd.heap_39 = hd.heap_39) ∧ PySem.Challenge.rw_ov0045_01 = PySem.Challenge.rw_ov0045_01 := by k_fill; exact ⟨rfl, rfl⟩
  clear hfill
  w_top off
  intro w mean mg mb dp un gd cn cs' a ccd cl outer A₀ base h₀ L m s Q E B F X N T hk hd' hu' hret
  refine wpAny_call ?_
  k_dflt cell_enter
  have kMark := kstMark
  k_with_none
  (k_with "state" => first | exact sub_start hc | exact SubP.turn (by assumption) (by omega) hx hz2)
  (k_with "measure" => have hl8 := SubP.less (by assumption) (by omega); (simp only [List.length_append, List.length_singleton]); omega)
  k_steps
  all_goals refine Stop.go ?_
  all_goals first | k_while (SubP x y z cs) (fun _ _ _ parts => 2 * cs.length - parts.length) "at" "start" "parts$"
  all_goals have hl9 := SubP.len (by assumption)
  all_goals k_steps
  all_goals (rename News _ _ _ _ => nE; simp only [List.push_toArray] at nE; refine my_join nE (by k_memK) (PyProof.Rows.StrsAre.append' (by with_reducible assumption) (.cons _ _ .nil)) (SubP.size (by with_reducible assumption) hx hcl) ?_; intro t8 c8)
  all_goals k_steps
  all_goals exact cb_retS hret (congrArg _ (SubP.whole (by with_reducible assumption) (by with_reducible assumption))) (by assumption) (cb_drop (by assumption) fun _ h => .tail _ h)

/-- before the first turn of the loop that leaves in it -/
def Sub1P (x y : Str) (cs : List Int) (_ : List Int) (at' st : Int) (parts : List Str) : Prop := CutAt x y at' cs ∧ st = 0 ∧ parts = []
theorem Sub1P.st {x y : Str} {cs sc : List Int} {at' st : Int} {parts : List Str} (h : Sub1P x y cs sc at' st parts) : st = 0 ∧ parts = [] := h.2

theorem Sub1P.took {x y z : Str} {cs sc : List Int} {at' : Int} (h : Sub1P x y cs sc at' 0 []) (h0 : 0 ≤ at') :
    ([] : List Str) ++ [Txt.slice x (some 0) (some at')] ++ [z] ++ [Txt.slice x (some (at' + y.length)) none] = subParts x y z 0 (cs.take 1) := by
  obtain ⟨hc, _, _⟩ := h
  cases cs with
  | nil => have : at' = -1 := hc; omega
  | cons c r => obtain ⟨rfl, _, _⟩ := hc; rfl
theorem Sub1P.left {x y z : Str} {cs sc : List Int} {at' : Int} (h : Sub1P x y cs sc at' 0 []) (h0 : ¬ 0 ≤ at') :
    ([] : List Str) ++ [Txt.slice x (some 0) none] = subParts x y z 0 (cs.take 1) := by
  obtain ⟨hc, _, _⟩ := h
  cases cs with
  | nil => rfl
  | cons c r => obtain ⟨rfl, h1, _⟩ := hc; exact absurd h1 h0
theorem sub1_size1 {x : Str} {l u : Option Int} (hx : x.length ≤ 1000) : ((([] : List Str) ++ [Txt.slice x l u]).map (·.length)).sum + (([] : List Str) ++ [Txt.slice x l u]).length * (Str.ofString "").length ≤ 16777216 := by
  have h1 := Txt.slice_le x l u
  rw [show (Str.ofString "").length = 0 by decide +kernel, Nat.mul_zero]
  simp only [List.nil_append, List.map_cons, List.map_nil, List.sum_cons, List.sum_nil]
  omega
theorem sub1_size3 {x z : Str} {l u l' u' : Option Int} (hx : x.length ≤ 1000) (hz : z.length ≤ 2) :
    ((([] : List Str) ++ [Txt.slice x l u] ++ [z] ++ [Txt.slice x l' u']).map (·.length)).sum + (([] : List Str) ++ [Txt.slice x l u] ++ [z] ++ [Txt.slice x l' u']).length * (Str.ofString "").length ≤ 16777216 := by
  have h1 := Txt.slice_le x l u
  have h2 := Txt.slice_le x l' u'
  rw [show (Str.ofString "").length = 0 by decide +kernel, Nat.mul_zero]
  simp only [List.nil_append, List.cons_append, List.map_cons, List.map_nil, List.sum_cons, List.sum_nil]
  omega

theorem sub_fixed_one_ok (news : Led) (x y z : Str) (t0 t1 tj : Tok) (cs : List Int) (hx : x.length ≤ 1000) (hy2 : y.length ≤ 2) (hz2 : z.length ≤ 2) (hye : (y == Str.ofString "") = false) (hc : CutAt x y (Txt.find x y) cs) (hcl : cs.length ≤ 900) :
    Calls 1 116 news [.str y tj, .str z t1, .str x t0, .bool false] (RetV news fun t' => .str (Str.join (Str.ofString "") (subParts x y z 0 (cs.take 1))) t') := by
  have hfill : (hd.heap_39 = hd.heap_39) ∧ PySem.Challenge.rw_ov0045_01 = PySem.Challenge.rw_ov0045_01 := by k_fill; exact ⟨rfl, rfl⟩
  clear hfill
  w_top off
  intro w mean mg mb dp un gd cn cs' a ccd cl outer A₀ base h₀ L m s Q E B F X N T hk hd' hu' hret
  refine wpAny_call ?_
  k_dflt cell_enter
  have kMark := kstMark
  k_with_none
  (k_with "state" => first | exact ⟨hc, rfl, rfl⟩ )
  k_steps
  all_goals refine Stop.go ?_
  all_goals first | k_while (Sub1P x y cs) (fun _ _ _ parts => 2 * cs.length - parts.length) "at" "start" "parts$"
  all_goals (obtain ⟨hs9, hp9⟩ := Sub1P.st (by assumption); subst hs9; subst hp9)
  all_goals k_steps
  all_goals first
    | (rename News _ _ _ _ => nE; simp only [List.push_toArray] at nE; refine my_join nE (by k_memK) (PyProof.Rows.StrsAre.append' (PyProof.Rows.StrsAre.append' (PyProof.Rows.StrsAre.append' (by with_reducible assumption) (.cons _ _ .nil)) (.cons _ _ .nil)) (.cons _ _ .nil)) (sub1_size3 hx hz2) ?_; intro t8 c8; k_steps; exact cb_retS hret (congrArg _ (Sub1P.took (by with_reducible assumption) (by with_reducible assumption))) (by assumption) (cb_drop (by assumption) fun _ h => .tail _ h))
    | (rename News _ _ _ _ => nE; simp only [List.push_toArray] at nE; refine my_join nE (by k_memK) (PyProof.Rows.StrsAre.append' (by with_reducible assumption) (.cons _ _ .nil)) (sub1_size1 hx) ?_; intro t8 c8; k_steps; exact cb_retS hret (congrArg _ (Sub1P.left (by with_reducible assumption) (by with_reducible assumption))) (by assumption) (cb_drop (by assumption) fun _ h => .tail _ h))
end Mine

namespace Mine
set_option maxRecDepth 100000
set_option maxHeartbeats 8000000

theorem carried_strs : ∀ {vs : List Value} {ys : List Str}, StrsAre vs ys → CarriedAll vs (ys.map PyData.str)
  | _, _, .nil => .nil
  | _, _, .cons _ t r => .cons (.str _ t) (carried_strs r)
theorem canLay_strs : ∀ {ys : List Str}, (∀ y ∈ ys, y.cps.all (· < 0x110000) = true) → PyData.canLayAll0 (ys.map PyData.str) = true
  | [], _ => by simp [PyData.canLayAll0]
  | y :: r, h => by
    simp only [List.map_cons, PyData.canLayAll0, PyData.canLay0, Bool.and_eq_true]
    exact ⟨h y (.head _), canLay_strs fun z hz => h z (.tail _ hz)⟩
theorem depth_strs : ∀ ys : List Str, PyData.depthAll (ys.map PyData.str) = 0
  | [] => rfl
  | _ :: r => by simp [PyData.depthAll, PyData.depth, depth_strs r]
theorem shaped_strs {ys : List Str} (h : ∀ y ∈ ys, y.cps.all (· < 0x110000) = true) : SeqAt.shaped (.list (ys.map PyData.str)) = true := by
  simp [SeqAt.shaped, PyData.canLay0, PyData.depth, canLay_strs h, depth_strs]
theorem same_strsAll : ∀ xs ys : List Str, PySem.Spec.sameAll (xs.map PyData.str) (ys.map PyData.str) = decide (xs = ys)
  | [], [] => by simp [PySem.Spec.sameAll]
  | [], _ :: _ => by simp [PySem.Spec.sameAll]
  | _ :: _, [] => by simp [PySem.Spec.sameAll]
  | a :: r, b :: t => by
    simp only [List.map_cons, PySem.Spec.sameAll, PySem.Spec.same, same_strsAll r t]
    by_cases h : a = b <;> by_cases h' : r = t <;> simp [h, h']
theorem same_strs (xs ys : List Str) : PySem.Spec.same (.list (xs.map PyData.str)) (.list (ys.map PyData.str)) = decide (xs = ys) := by
  simp only [PySem.Spec.same]; exact same_strsAll xs ys
section
variable {prog : Program} {w : World} {A : Around} {E : Value → Shared → Prop} {s : Shared} {a b : Addr} {xs ys : List Value} {ns ms : List Int} {ps qs : List Str} {Q : Value → Shared → Prop}
theorem my_neS (ha : s.heap.IsList a xs.toArray) (hb : s.heap.IsList b ys.toArray) (hi : StrsAre xs ps) (hj : StrsAre ys qs) (hp : ∀ y ∈ ps, y.cps.all (· < 0x110000) = true) (hq : ∀ y ∈ qs, y.cps.all (· < 0x110000) = true)
    (hu : A.units + 64 < cLine) (h : Q (.bool (!decide (ps = qs))) s) : wpAny (model prog w) A (compareOp .NotEq (.ref a) (.ref b)) Q E s :=
  ne_dataH_same (reads_newData ha (carried_strs hi)) (reads_newData hb (carried_strs hj)) (shaped_strs hp) (shaped_strs hq) hu (SeqAt.noMix_of_shape (.list .str) rfl _ _ (list_map_has fun _ => rfl) (list_map_has fun _ => rfl)) (by rw [same_strs]; exact h)
end
end Mine

namespace Mine
set_option maxRecDepth 100000
set_option maxHeartbeats 8000000
local macro_rules | `(tactic| k_memK) => `(tactic| first | with_reducible assumption | with_reducible exact List.mem_cons_self | ((with_reducible refine List.mem_cons_of_mem _ ?_); k_memK) | ((with_reducible refine List.mem_append.mpr (.inl ?_)); k_memK) | ((with_reducible refine List.mem_append.mpr (.inr ?_)); k_memK) | fail "k_memK: none")

/-- as Calls, of a def that is handed the script -/
abbrev CallsS (k : Nat) (f : Addr) (news : Led) (l : Addr) (vs : List Value) (ns : List Int)
    (Ret : Heap → Addr → (Str → Option Value) → Shared → (Value → Shared → Prop) → Prop) : Prop :=
  ∀ {w : World} {mean : ExcName → Option Value} {mg mb : Str → Option Value} {dp un : Nat} {gd : Option (List Code)} {cn : Str} {cs : Scope} {a : Addr} {ccd : Value} {cl : List (Str × Addr)} {outer : List Env}
    {A₀ : Around} {base h₀ : Heap} {L : Addr} {m : Str → Option Value} {s : Shared} {Q E : Value → Shared → Prop},
    Below A₀ base outer h₀ → Fr h₀ L s.heap m → (hd.heap_39 w.params).In h₀ → News h₀ L s.heap news → Top hd.view_39 (looseW hd.view_39 []) mean mg mb h₀ →
    cs.kind = .function → dp + k < recursionLimit → un + 200 * k < cLine → base.IsList l vs.toArray → IntsAre vs ns → ns.length ≤ 63 → Ret h₀ L m s Q →
    wpAny (model PySem.Challenge.rw_ov0045_01.row.prog w) (ktrTop dp un gd cn cs L a ccd cl outer) (PySem.call (.ref f) [.ref l]) Q E s

def signsJ : List Str := [Str.ofString "-", Str.ofString ", ", Str.ofString "++", Str.ofString "/"]
def J (k : Nat) : Str := signsJ.getD (k % 4) Str.empty

/-- a pair of joiners comes back -/
abbrev RetJ (news : Led) (h₀ : Heap) (L : Addr) (m : Str → Option Value) (s : Shared) (Q : Value → Shared → Prop) : Prop :=
  ∀ (k : Nat) (b : Addr) (t u : Tok) (n : Nat) (h' : Heap) (tk' : Nat), k < 4 → Fr h₀ L h' m → News h₀ L h' ((b, { cls := .type "tuple", data := .seq #[.str (J k) t, .str (J (k + 1)) u] n }) :: news) → (∀ p ∈ news, p.1 < b) → Q (.ref b) { s with heap := h', toks := tk' }

theorem J0 : Str.ofString "-" = J 0 := rfl
theorem J1 : Str.ofString ", " = J (0 + 1) := rfl
theorem fm4 (e : Int) : 0 ≤ Int.fmod e 4 ∧ Int.fmod e 4 < ((signsJ.length : Nat) : Int) := by
  rw [Int.fmod_eq_emod_of_nonneg _ (by decide), show ((signsJ.length : Nat) : Int) = 4 from rfl]; omega
theorem fm4n (e : Int) : (Int.fmod e 4).toNat < 4 := by
  rw [Int.fmod_eq_emod_of_nonneg _ (by decide)]; omega
theorem fm4J (e : Int) : signsJ.getD (Int.fmod e 4).toNat Str.empty = J (Int.fmod e 4).toNat := by
  unfold J; rw [Nat.mod_eq_of_lt (fm4n e)]
theorem fm4K (e : Int) : signsJ.getD (Int.fmod (Int.fmod e 4 + 1) 4).toNat Str.empty = J ((Int.fmod e 4).toNat + 1) := by
  unfold J
  rw [show (Int.fmod (Int.fmod e 4 + 1) 4).toNat = ((Int.fmod e 4).toNat + 1) % 4 by
    rw [Int.fmod_eq_emod_of_nonneg _ (by decide), Int.fmod_eq_emod_of_nonneg _ (by decide)]; omega]

theorem joiners_end {news : Led} {h₀ : Heap} {L : Addr} {m : Str → Option Value} {s : Shared} {Q : Value → Shared → Prop} (hret : RetJ news h₀ L m s Q) {x y : Str} {k n : Nat} {b : Addr} {t u : Tok} {h' : Heap} {tk' : Nat} {p q : Addr × Obj}
    (hk : k < 4) (ex : x = J k) (ey : y = J (k + 1)) (F : Fr h₀ L h' m) (N : News h₀ L h' ((b, { cls := .type "tuple", data := .seq #[.str x t, .str y u] n }) :: p :: q :: news)) (hl : p.1 < b ∧ q.1 < b ∧ AllLt b news) :
    Q (.ref b) { s with heap := h', toks := tk' } := by
  subst ex; subst ey
  exact hret k b t u n h' tk' hk F (drop2 (drop2 N)) (kst_ltOf hl.2.2)

theorem law_joiners_ok (news : Led) (l : Addr) (vs : List Value) (ns : List Int) : CallsS 1 137 news l vs ns (RetJ news) := by
  have hfill : (hd.heap_39 = hd.heap_39) ∧ PySem.Challenge.rw_ov0045_01 = PySem.Challenge.rw_ov0045_01 := by k_fill; exact ⟨rfl, rfl⟩
  clear hfill
  w_top off
  intro w mean mg mb dp un gd cn cs' a ccd cl outer A₀ base h₀ L m s Q E B F X N T hk hd' hu' hl hi hn hret
  cases hi with
  | nil =>
    refine wpAny_call ?_
    k_dflt cell_enter
    have kMark := kstMark
    k_with_none
    (k_with "compareOp NotEq ref ref" => refine ke_ne_ints (xs := []) (ys := []) (by is_list) (ledList (by assumption) List.mem_cons_self) .nil .nil (by have h9 := hu'; (simp only [units_deeper]); omega) ?_)
    k_steps
    exact joiners_end hret (k := 0) (by decide) J0 J1 (by assumption) (by assumption) (by assumption)
  | cons n t r =>
    refine wpAny_call ?_
    k_dflt cell_enter
    have kMark := kstMark
    k_with_none
    (k_with "compareOp NotEq ref ref" => refine ke_ne_ints (ys := []) (by is_list) (ledList (by assumption) List.mem_cons_self) (.cons n t r) .nil (by have h9 := hu'; (simp only [units_deeper]); omega) ?_; (rw [decide_eq_false (by simp)]; (try simp only [Bool.not_false])))
    (k_with "subscriptTail Name Constant ref int" => refine item_list (x := .int n t) (by is_list) (by decide) (by decide) (by rfl) ?_)
    (k_with "subscriptTail Name Name ref int" => refine my_item (ys := signsJ) (by assumption) (by k_memK) (.cons _ _ (.cons _ _ (.cons _ _ (.cons _ _ .nil)))) (fm4 _).1 (fm4 _).2 (by decide) ?_; (intro t9 hm9))
    (k_with "subscriptTail Name BinOp ref int" => refine my_item (ys := signsJ) (by assumption) (by k_memK) (.cons _ _ (.cons _ _ (.cons _ _ (.cons _ _ .nil)))) (fm4 _).1 (fm4 _).2 (by decide) ?_; (intro t8 hm8))
    k_steps
    · exact absurd (of_decide_eq_true (by assumption)) (by simp)
    · exact joiners_end hret (fm4n _) (fm4J _) (fm4K _) (by assumption) (by assumption) (by assumption)
end Mine

namespace Mine
set_option maxRecDepth 100000
set_option maxHeartbeats 8000000
local macro_rules | `(tactic| k_memK) => `(tactic| first | with_reducible assumption | with_reducible exact List.mem_cons_self | ((with_reducible refine List.mem_cons_of_mem _ ?_); k_memK) | ((with_reducible refine List.mem_append.mpr (.inl ?_)); k_memK) | ((with_reducible refine List.mem_append.mpr (.inr ?_)); k_memK) | fail "k_memK: none")
local macro_rules | `(tactic| walk_at "pyIter str") => `(tactic| refine Stop.at ?_)
local macro_rules | `(tactic| kst_facts1) => `(tactic| first | exact True.intro | with_reducible assumption | exact PyProof.Rows.StrsAre.nil | exact PyProof.Rows.IntsAre.nil | exact PyProof.Rows.StrsAre.append' (by with_reducible assumption) (.cons _ _ .nil) | exact PyProof.Rows.IntsAre.append (by with_reducible assumption) (.cons _ _ .nil) | fail "facts")

local macro_rules | `(tactic| walk_at "exec For Name Name cons nil") => `(tactic| (k_here; (rename Fr _ _ _ _ => lF'); (with_unfolding_all refine' For_invVF lF' ?k1 ?k2 ?_; (case k1 => exact rfl); (case k2 => exact rfl); k_whole)))

/-- one sign in upper (lower) case, where that is one sign -/
def otherF (u : Bool) (n : Nat) : Str := if u then Txt.upper ⟨#[n]⟩ else Txt.lower ⟨#[n]⟩
def signF (u : Bool) (n : Nat) : Str := if ((otherF u n).length : Int) = 1 then otherF u n else ⟨#[n]⟩
def caseParts (u : Bool) (cs : List Int) : List Str := cs.map fun c => signF u c.toNat
def caseF (u : Bool) (x : Str) : Str := Str.join (Str.ofString "") (caseParts u (KStt.codes x))
def CaseP (u : Bool) (pre : List Int) (parts : List Str) : Prop := parts = caseParts u pre
theorem oneLen {n : Nat} {y : Str} (h : y.length ≤ 3 * (⟨#[n]⟩ : Str).length) : y.length ≤ 3 := h
theorem my_lenS {prog : Program} {w : World} {A : Around} {E : Value → Shared → Prop} {s : Shared} {x : Str} {t : Tok} {Q : Value → Shared → Prop} (hx : x.length ≤ 3) (h : Q (.int x.length (s.toks + 1)) { s with toks := s.toks + 1 + 1 }) :
    wpAny (model prog w) A (call (.builtin "len") [.str x t]) Q E s := SBL.len (by omega) h
theorem case_start (u : Bool) : CaseP u [] [] := rfl
theorem signF_one {u : Bool} {n : Nat} (h : ((otherF u n).length : Int) = 1) : signF u n = otherF u n := if_pos h
theorem signF_keep {u : Bool} {n : Nat} (h : ((otherF u n).length : Int) ≠ 1) : signF u n = ⟨#[n]⟩ := if_neg h
theorem CaseP.turn {u : Bool} {pre : List Int} {parts : List Str} {n : Nat} {y : Str} (h : CaseP u pre parts) (hy : signF u n = y) : CaseP u (pre ++ [(n : Int)]) (parts ++ [y]) := by
  unfold CaseP at *
  rw [h, ← hy]
  simp [caseParts]
theorem CaseP.is {u : Bool} {x : Str} {parts : List Str} (h : CaseP u (KStt.codes x) parts) : parts = caseParts u (KStt.codes x) := h
theorem signF_len (u : Bool) (n : Nat) : (signF u n).length = 1 := by
  by_cases h : ((otherF u n).length : Int) = 1
  · rw [signF_one h]; omega
  · rw [signF_keep h]; rfl
theorem CaseP.len {u : Bool} {pre : List Int} {parts : List Str} (h : CaseP u pre parts) : parts.length = pre.length := by
  rw [show parts = _ from h]; simp [caseParts]
theorem CaseP.size {u : Bool} {x : Str} {parts : List Str} (h : CaseP u (KStt.codes x) parts) (hx : x.length ≤ 1000) : (parts.map (·.length)).sum + parts.length * (Str.ofString "").length ≤ 16777216 := by
  have hl := h.len
  rw [KStt.codes_length] at hl
  have h1 : ∀ p ∈ parts, p.length ≤ 1 := by
    intro p hp
    rw [show parts = _ from h] at hp
    obtain ⟨c, _, rfl⟩ := List.mem_map.mp hp
    exact Nat.le_of_eq (signF_len u _)
  have h2 := sum_le h1
  rw [show (Str.ofString "").length = 0 by decide +kernel, Nat.mul_zero]
  omega

theorem changed_case_up_ok (news : Led) (x : Str) (t0 : Tok) (hx : x.length ≤ 1000) :
    Calls 1 81 news [.str x t0, .bool true] (RetV news fun t' => .str (caseF true x) t') := by
  have hfill : (hd.heap_39 = hd.heap_39) ∧ PySem.Challenge.rw_ov0045_01 = PySem.Challenge.rw_ov0045_01 := by k_fill; exact ⟨rfl, rfl⟩
  clear hfill
  w_top off
  intro w mean mg mb dp un gd cn cs' a ccd cl outer A₀ base h₀ L m s Q E B F X N T hk hd' hu' hret
  refine wpAny_call ?_
  k_dflt cell_enter
  have kMark := kstMark
  k_with_none
  (k_with "state" => first | exact case_start true | exact CaseP.turn (by assumption) (signF_one (by assumption)) | exact CaseP.turn (by assumption) (signF_keep (by assumption)))
  (k_with "call builtin:len" => refine my_lenS (oneLen (by with_reducible assumption)) ?_)
  (k_with "call builtin:str.join" => refine my_join (by assumption) (by k_memK) (by assumption) (CaseP.size (by assumption) hx) ?_; (intro t8 c8))
  k_steps
  refine Stop.go ?_
  first | k_state (CaseP true) "parts$"
  · have hl9 := CaseP.len (by assumption)
    k_steps
  · have hl9 := CaseP.len (by assumption)
    k_steps
    exact cb_retS hret (congrArg _ (CaseP.is (by assumption))) (by assumption) (cb_drop (by assumption) fun _ h => .tail _ h)

theorem changed_case_low_ok (news : Led) (x : Str) (t0 : Tok) (hx : x.length ≤ 1000) :
    Calls 1 81 news [.str x t0, .bool false] (RetV news fun t' => .str (caseF false x) t') := by
  have hfill : (hd.heap_39 = hd.heap_39) ∧ PySem.Challenge.rw_ov0045_01 = PySem.Challenge.rw_ov0045_01 := by k_fill; exact ⟨rfl, rfl⟩
  clear hfill
  w_top off
  intro w mean mg mb dp un gd cn cs' a ccd cl outer A₀ base h₀ L m s Q E B F X N T hk hd' hu' hret
  refine wpAny_call ?_
  k_dflt cell_enter
  have kMark := kstMark
  k_with_none
  (k_with "state" => first | exact case_start false | exact CaseP.turn (by assumption) (signF_one (by assumption)) | exact CaseP.turn (by assumption) (signF_keep (by assumption)))
  (k_with "call builtin:len" => refine my_lenS (oneLen (by with_reducible assumption)) ?_)
  (k_with "call builtin:str.join" => refine my_join (by assumption) (by k_memK) (by assumption) (CaseP.size (by assumption) hx) ?_; (intro t8 c8))
  k_steps
  refine Stop.go ?_
  first | k_state (CaseP false) "parts$"
  · have hl9 := CaseP.len (by assumption)
    k_steps
  · have hl9 := CaseP.len (by assumption)
    k_steps
    exact cb_retS hret (congrArg _ (CaseP.is (by assumption))) (by assumption) (cb_drop (by assumption) fun _ h => .tail _ h)

theorem to_upper_ok (news : Led) (x : Str) (t0 : Tok) (hx : x.length ≤ 1000) :
    Calls 2 88 news [.str x t0] (RetV news fun t' => .str (caseF true x) t') := by
  have hfill : (hd.heap_39 = hd.heap_39) ∧ PySem.Challenge.rw_ov0045_01 = PySem.Challenge.rw_ov0045_01 := by k_fill; exact ⟨rfl, rfl⟩
  clear hfill
  w_top off
  intro w mean mg mb dp un gd cn cs' a ccd cl outer A₀ base h₀ L m s Q E B F X N T hk hd' hu' hret
  refine wpAny_call ?_
  k_dflt cell_enter
  have kMark := kstMark
  k_with_none
  (k_with "call ref" => (k_dflt (refine' changed_case_up_ok _ _ _ hx ?k1 ?k2 ?k3 ?k4 ?k5 ?kK ?kd ?ku ?kR)); (case k1 => k_asm); (case k2 => k_asm); (case k3 => k_asm); (case k4 => k_asm); (case k5 => k_asm); (case kK => first | exact rfl | assumption); (case kd => ktr_room); (case ku => ktr_units); (intro t9 h9 tk9 F9 N9); (try dsimp only); (try k_fold))
  k_steps
  exact cb_retS hret rfl (by assumption) (by assumption)

theorem to_lower_ok (news : Led) (x : Str) (t0 : Tok) (hx : x.length ≤ 1000) :
    Calls 2 95 news [.str x t0] (RetV news fun t' => .str (caseF false x) t') := by
  have hfill : (hd.heap_39 = hd.heap_39) ∧ PySem.Challenge.rw_ov0045_01 = PySem.Challenge.rw_ov0045_01 := by k_fill; exact ⟨rfl, rfl⟩
  clear hfill
  w_top off
  intro w mean mg mb dp un gd cn cs' a ccd cl outer A₀ base h₀ L m s Q E B F X N T hk hd' hu' hret
  refine wpAny_call ?_
  k_dflt cell_enter
  have kMark := kstMark
  k_with_none
  (k_with "call ref" => (k_dflt (refine' changed_case_low_ok _ _ _ hx ?k1 ?k2 ?k3 ?k4 ?k5 ?kK ?kd ?ku ?kR)); (case k1 => k_asm); (case k2 => k_asm); (case k3 => k_asm); (case k4 => k_asm); (case k5 => k_asm); (case kK => first | exact rfl | assumption); (case kd => ktr_room); (case ku => ktr_units); (intro t9 h9 tk9 F9 N9); (try dsimp only); (try k_fold))
  k_steps
  exact cb_retS hret rfl (by assumption) (by assumption)

end Mine

namespace Mine
set_option maxRecDepth 100000
set_option maxHeartbeats 8000000
local macro_rules | `(tactic| k_memK) => `(tactic| first | with_reducible assumption | with_reducible exact List.mem_cons_self | ((with_reducible refine List.mem_cons_of_mem _ ?_); k_memK) | ((with_reducible refine List.mem_append.mpr (.inl ?_)); k_memK) | ((with_reducible refine List.mem_append.mpr (.inr ?_)); k_memK) | fail "k_memK: none")
local macro_rules | `(tactic| walk_at "exec While Compare cons nil") => `(tactic| refine Stop.at ?_)
local macro_rules | `(tactic| walk_at "exec While") => `(tactic| refine Stop.at ?_)
local macro_rules | `(tactic| walk_at "pyIter ref") => `(tactic| refine Stop.at ?_)
local macro_rules | `(tactic| kst_facts1) => `(tactic| first | exact True.intro | with_reducible assumption | exact PyProof.Rows.StrsAre.nil | exact PyProof.Rows.IntsAre.nil | exact PyProof.Rows.StrsAre.append' (by with_reducible assumption) (.cons _ _ .nil) | exact PyProof.Rows.IntsAre.append (by with_reducible assumption) (.cons _ _ .nil) | fail "facts")

local macro_rules | `(tactic| walk_at "exec For Name Subscript cons nil") => `(tactic| (k_here; (rename Fr _ _ _ _ => lF'); (with_unfolding_all refine' For_invVF lF' ?k1 ?k2 ?_; (case k1 => exact rfl); (case k2 => exact rfl); k_whole)))

def Letters (x : Str) : Prop := ∀ c ∈ x.cps.toList, c = 97 ∨ c = 98 ∨ c = 99
def WordOk (x : Str) : Prop := x.length ≤ 6 ∧ Letters x
/-- what a row of words is known to be -/
def WordsOk (ws : List Str) : Prop := ws.length ≤ 8 ∧ ∀ x ∈ ws, WordOk x

abbrev RetW (news : Led) (h₀ : Heap) (L : Addr) (m : Str → Option Value) (s : Shared) (Q : Value → Shared → Prop) : Prop :=
  ∀ (ws : List Str) (b : Addr) (vs : List Value) (k : Nat) (h' : Heap) (tk' : Nat), WordsOk ws → StrsAre vs ws → Fr h₀ L h' m → News h₀ L h' ((b, listOf vs.toArray k) :: news) → (∀ p ∈ news, p.1 < b) → Q (.ref b) { s with heap := h', toks := tk' }

def WordsP (pre : List Int) (ws : List Str) : Prop := ws.length = pre.length ∧ ∀ x ∈ ws, WordOk x
theorem words_start : WordsP [] [] := ⟨rfl, fun _ h => nomatch h⟩
theorem WordsP.turn {pre : List Int} {ws : List Str} {n : Int} {x : Str} (h : WordsP pre ws) (hx : WordOk x) : WordsP (pre ++ [n]) (ws ++ [x]) := by
  refine ⟨by rw [List.length_append, List.length_append, h.1]; rfl, fun y hy => ?_⟩
  rcases List.mem_append.mp hy with hy | hy
  · exact h.2 y hy
  · rw [List.mem_singleton.mp hy]; exact hx
theorem WordsP.whole {pre : List Int} {ws : List Str} (h : WordsP pre ws) (hl : pre.length ≤ 8) : WordsOk ws := ⟨by rw [h.1]; exact hl, h.2⟩
theorem WordsP.len {pre : List Int} {ws : List Str} (h : WordsP pre ws) : ws.length = pre.length := h.1

/-- a word being built: what is left of its size, the letters so far -/
def WordP (_ : List Int) (size : Int) (x : Str) : Prop := 0 ≤ size ∧ x.length ≤ 6 ∧ size < 3 ^ (6 - x.length) ∧ Letters x
theorem letters_nil : Letters (Str.ofString "") := by
  rw [none_is]; intro c hc; cases hc
theorem word_start {sc : List Int} {size : Int} (h0 : 0 ≤ size) (h : size < 244) : WordP sc size (Str.ofString "") := by
  refine ⟨h0, ?_, ?_, letters_nil⟩
  · rw [none_is]; decide
  · rw [none_is, show Str.empty.length = 0 from rfl]; omega
theorem fmA (e : Int) : 0 ≤ Int.fmod e 244 ∧ Int.fmod e 244 < 244 := by
  rw [Int.fmod_eq_emod_of_nonneg _ (by decide)]; omega
theorem abc_item {i : Int} (h0 : 0 ≤ i) (h3 : i < 3) : ∃ c, Txt.item (Str.ofString "abc") i = ⟨#[c]⟩ ∧ (c = 97 ∨ c = 98 ∨ c = 99) := by
  have : i = 0 ∨ i = 1 ∨ i = 2 := by omega
  rcases this with rfl | rfl | rfl
  · exact ⟨97, by decide +kernel, .inl rfl⟩
  · exact ⟨98, by decide +kernel, .inr (.inl rfl)⟩
  · exact ⟨99, by decide +kernel, .inr (.inr rfl)⟩
theorem WordP.turn {sc : List Int} {size : Int} {x : Str} (h : WordP sc size x) (h0 : 0 < size) : WordP sc (size.fdiv 3) (x ++ Txt.item (Str.ofString "abc") (size.fmod 3)) := by
  obtain ⟨h1, h2, h3, h4⟩ := h
  rw [Int.fdiv_eq_ediv_of_nonneg _ (by decide), Int.fmod_eq_emod_of_nonneg _ (by decide)]
  obtain ⟨c, e, hc⟩ := abc_item (i := size % 3) (by omega) (by omega)
  rw [e]
  have hx : x.length < 6 := by
    rcases Nat.lt_or_ge x.length 6 with q | q
    · exact q
    · exfalso
      rw [show 6 - x.length = 0 by omega] at h3
      omega
  have hl : (x ++ (⟨#[c]⟩ : Str)).length = x.length + 1 := by rw [Str.length_append]; rfl
  refine ⟨by omega, by rw [hl]; omega, ?_, ?_⟩
  · rw [hl]
    rw [show 6 - x.length = (6 - (x.length + 1)) + 1 by omega, Int.pow_succ] at h3
    omega
  · intro d hd
    rw [Str.cps_append, Array.toList_append] at hd
    rcases List.mem_append.mp hd with hd | hd
    · exact h4 d hd
    · rw [List.mem_singleton.mp hd]; exact hc
theorem WordP.less {size : Int} (h0 : 0 < size) : (size.fdiv 3).toNat < size.toNat := by
  rw [Int.fdiv_eq_ediv_of_nonneg _ (by decide)]; omega
theorem WordP.done {sc : List Int} {size : Int} {x : Str} (h : WordP sc size x) : WordOk x := ⟨h.2.1, h.2.2.2⟩
theorem WordP.fits {sc : List Int} {size : Int} {x : Str} (h : WordP sc size x) : 0 ≤ size ∧ x.length ≤ 6 := ⟨h.1, h.2.1⟩

theorem law_words_ok (news : Led) (l : Addr) (vs : List Value) (ns : List Int) : CallsS 1 144 news l vs ns (RetW news) := by
  have hfill : (hd.heap_39 = hd.heap_39) ∧ PySem.Challenge.rw_ov0045_01 = PySem.Challenge.rw_ov0045_01 := by k_fill; exact ⟨rfl, rfl⟩
  clear hfill
  w_top off
  intro w mean mg mb dp un gd cn cs' a ccd cl outer A₀ base h₀ L m s Q E B F X N T hk hd' hu' hl hi hn hret
  refine wpAny_call ?_
  k_dflt cell_enter
  have kMark := kstMark
  k_with_none
  (k_with "state" => first | exact words_start | exact word_start (fmA _).1 (fmA _).2 | exact WordP.turn (by assumption) (by assumption) | exact WordsP.turn (by assumption) (WordP.done (by assumption)))
  (k_with "measure" => exact WordP.less (by assumption))
  k_steps
  refine Stop.go ?_
  first | k_state WordsP "words$"
  · have hl9 := WordsP.len (by assumption)
    k_steps
    refine Stop.go ?_
    first | k_while WordP (fun _ size _ => size.toNat) "size" "word"
    have hl8 := WordP.fits (by assumption)
    k_steps
  · have hW : WordsOk _ := WordsP.whole (by assumption) (by omega)
    k_steps
    exact hret _ _ _ _ _ _ hW (by assumption) (by assumption) (cb_drop (by assumption) fun _ h => .tail _ h) (by assumption)
end Mine

namespace Mine
set_option maxRecDepth 100000
set_option maxHeartbeats 8000000

/-- the codes of a text -/
abbrev ts (x : Str) : List Nat := x.cps.toList
theorem str_eq {x y : Str} (h : ts x = ts y) : x = y := Str.ext' (Array.toList_inj.mp h)
theorem ts_append (x y : Str) : ts (x ++ y) = ts x ++ ts y := by simp [ts, Str.cps_append]
theorem ts_len (x : Str) : (ts x).length = x.length := by simp [ts, Str.length]
theorem ts_join2 (j x y : Str) (r : List Str) : ts (Str.join j (x :: y :: r)) = ts x ++ (ts j ++ ts (Str.join j (y :: r))) := by
  show ts (x ++ j ++ Str.join j (y :: r)) = _
  rw [ts_append, ts_append, List.append_assoc]
theorem ts_mk (l : List Nat) : ts ⟨l.toArray⟩ = l := by simp [ts]

theorem slice_nat {x : Str} {a b : Nat} (hab : a ≤ b) (hb : b ≤ x.length) : ts (Txt.slice x (some (a : Int)) (some (b : Int))) = ((ts x).drop a).take (b - a) := by
  rw [show Txt.slice x (some (a : Int)) (some (b : Int)) = StrLaws.sliceText x (some (a : Int)) (some (b : Int)) from rfl, StrLaws.sliceText_nat x hab hb, ts_mk]
theorem slice_from {x : Str} {a : Nat} (ha : a ≤ x.length) : ts (Txt.slice x (some (a : Int)) none) = (ts x).drop a := by
  rw [show Txt.slice x (some (a : Int)) none = StrLaws.sliceText x (some (a : Int)) none from rfl, StrLaws.sliceText_from ⟨by omega, by rw [ts_len]; omega⟩, ts_mk]
  rw [List.take_of_length_le]
  · rfl
  · rw [List.length_drop, ts_len]; omega
theorem slice_to {x : Str} {b : Nat} (hb : b ≤ x.length) : ts (Txt.slice x none (some (b : Int))) = (ts x).take b := by
  rw [show Txt.slice x none (some (b : Int)) = StrLaws.sliceText x none (some (b : Int)) from rfl, StrLaws.sliceText_to ⟨by omega, by rw [ts_len]; omega⟩, ts_mk]
  simp

/-! where a pattern stands -/
section
variable {x y : Str} {c : Nat} {q W R : List Nat} {a : Nat}
theorem at_here (h : (ts x).drop a = ts y ++ R) (hy : 1 ≤ y.length) : StrLaws.At x y x.length a := by
  have hl := congrArg List.length h
  rw [List.length_drop, List.length_append, ts_len, ts_len] at hl
  refine ⟨by omega, ?_⟩
  rw [StrLaws.subAt_eq, h, ← ts_len y, List.take_left]
  simp
theorem at_gives (h : StrLaws.At x y x.length a) : ∃ R, (ts x).drop a = ts y ++ R := by
  obtain ⟨_, h2⟩ := h
  rw [StrLaws.subAt_eq] at h2
  have e : ((ts x).drop a).take y.length = ts y := eq_of_beq h2
  exact ⟨((ts x).drop a).drop y.length, (List.take_append_drop y.length ((ts x).drop a)).symm.trans (by rw [e])⟩
theorem not_at (hq : ts y = c :: q) (hc : c ∉ W) (h : (ts x).drop a = W ++ R) {k : Nat} (h1 : a ≤ k) (h2 : k < a + W.length) : ¬ StrLaws.At x y x.length k := by
  intro hA
  obtain ⟨R', hR⟩ := at_gives hA
  rw [hq] at hR
  have e : (ts x).drop k = ((ts x).drop a).drop (k - a) := by rw [List.drop_drop]; congr 1; omega
  rw [e, h, List.drop_append_of_le_length (by omega)] at hR
  have hlt : k - a < W.length := by omega
  rw [List.drop_eq_getElem_cons hlt] at hR
  exact hc ((List.cons.inj hR).1 ▸ List.getElem_mem hlt)
theorem not_at_end (hq : ts y = c :: q) (hc : c ∉ W) (h : (ts x).drop a = W) {k : Nat} (h1 : a ≤ k) : ¬ StrLaws.At x y x.length k := by
  intro hA
  obtain ⟨R', hR⟩ := at_gives hA
  rw [hq] at hR
  have e : (ts x).drop k = ((ts x).drop a).drop (k - a) := by rw [List.drop_drop]; congr 1; omega
  rw [e, h] at hR
  exact hc (List.mem_of_mem_drop (i := k - a) (hR ▸ List.mem_cons_self))
theorem fromIndex_nat (n a : Nat) : fromIndex n (a : Int) = a := by
  unfold fromIndex; rw [if_neg (by omega)]; omega
theorem find_hit (hq : ts y = c :: q) (hc : c ∉ W) (h : (ts x).drop a = W ++ (ts y ++ R)) : Txt.find3 x y (a : Int) = ((a + W.length : Nat) : Int) := by
  have hy : 1 ≤ y.length := by rw [← ts_len, hq, List.length_cons]; omega
  have hA : StrLaws.At x y x.length (a + W.length) := at_here (R := R) (by rw [← List.drop_drop, h, List.drop_left]) hy
  unfold Txt.find3
  rw [fromIndex_nat]
  rcases StrLaws.occ_head_from x y a 1 (Nat.le_refl 1) with ⟨_, hn⟩ | ⟨i, r, h0, hlo, hi, hn⟩
  · exact absurd hA (hn _ (by omega))
  · rw [h0]
    have h1 : ¬ i < a + W.length := fun q => not_at hq hc h hlo q hi
    have h2 : ¬ a + W.length < i := fun q => hn _ (by omega) q hA
    show (i : Int) = _
    omega
theorem find_miss (hq : ts y = c :: q) (hc : c ∉ W) (h : (ts x).drop a = W) : Txt.find3 x y (a : Int) = -1 := by
  unfold Txt.find3
  rw [fromIndex_nat]
  rcases StrLaws.occ_head_from x y a 1 (Nat.le_refl 1) with ⟨h0, _⟩ | ⟨i, r, _, hlo, hi, _⟩
  · rw [h0]
  · exact absurd hi (not_at_end hq hc h hlo)
end

/-- the places of the joints, from a on -/
noncomputable def cuts (w : Nat) : Nat → List Str → List Nat
  | a, x :: y :: r => (a + x.length) :: cuts w (a + x.length + w) (y :: r)
  | _, _ => []
theorem cuts_len (w : Nat) : ∀ (ws : List Str) (a : Nat), (cuts w a ws).length ≤ ws.length
  | [], _ => Nat.le_refl _
  | [_], _ => Nat.zero_le _
  | x :: y :: r, a => by
    have := cuts_len w (y :: r) (a + x.length + w)
    simp only [cuts, List.length_cons] at this ⊢
    omega

section
variable {due one : Str} {c : Nat} {q : List Nat}
theorem cut_step {x y : Str} {r : List Str} {a : Nat} (h : (ts due).drop a = ts (Str.join one (x :: y :: r))) : (ts due).drop (a + x.length + one.length) = ts (Str.join one (y :: r)) := by
  rw [ts_join2] at h
  rw [← List.drop_drop, ← List.drop_drop, h, ← ts_len x, List.drop_left, ← ts_len one, List.drop_left]
theorem cut_at (hq : ts one = c :: q) : ∀ (ws : List Str) (a : Nat), ws ≠ [] → (∀ x ∈ ws, c ∉ ts x) → (ts due).drop a = ts (Str.join one ws) →
    CutAt due one (Txt.find3 due one (a : Int)) ((cuts one.length a ws).map fun (n : Nat) => (n : Int))
  | [], _, h, _, _ => absurd rfl h
  | [x], a, _, hf, h => find_miss hq (hf x (.head _)) h
  | x :: y :: r, a, _, hf, h => by
    have h' := h
    rw [ts_join2] at h'
    refine ⟨?_, Int.natCast_nonneg _, ?_⟩
    · rw [find_hit hq (hf x (.head _)) h', ts_len]
    · have ih := cut_at hq (y :: r) (a + x.length + one.length) (by simp) (fun z hz => hf z (.tail _ hz)) (cut_step h)
      rw [show (((a + x.length : Nat) : Int) + (one.length : Int)) = ((a + x.length + one.length : Nat) : Int) by omega]
      exact ih
theorem find_zero (x y : Str) : Txt.find x y = Txt.find3 x y ((0 : Nat) : Int) := by
  unfold Txt.find Txt.find3; rw [fromIndex_nat]; rfl

theorem join_none_cons (x : Str) (l : List Str) : Str.join (Str.ofString "") (x :: l) = x ++ Str.join (Str.ofString "") l := by
  cases l with
  | nil => exact (Str.append_empty x).symm
  | cons y r =>
    show x ++ Str.ofString "" ++ Str.join _ (y :: r) = _
    rw [none_is, Str.append_empty]

theorem sub_parts (other : Str) : ∀ (ws : List Str) (a : Nat), ws ≠ [] → a ≤ due.length → (ts due).drop a = ts (Str.join one ws) →
    Str.join (Str.ofString "") (subParts due one other (a : Int) ((cuts one.length a ws).map fun (n : Nat) => (n : Int))) = Str.join other ws
  | [], _, h, _, _ => absurd rfl h
  | [x], a, _, ha, h => by
    show Txt.slice due (some (a : Int)) none = x
    exact str_eq ((slice_from ha).trans h)
  | x :: y :: r, a, _, ha, h => by
    have h' := h
    rw [ts_join2] at h'
    have hl := congrArg List.length h'
    rw [List.length_drop, List.length_append, List.length_append, ts_len, ts_len, ts_len] at hl
    have e1 : Txt.slice due (some (a : Int)) (some ((a + x.length : Nat) : Int)) = x := by
      refine str_eq ?_
      rcases Nat.eq_zero_or_pos x.length with hx | hx
      · rw [slice_nat (by omega) (by omega), show a + x.length - a = 0 by omega]
        have : ts x = [] := List.eq_nil_of_length_eq_zero (by rw [ts_len]; exact hx)
        rw [this]; rfl
      · rw [slice_nat (by omega) (by omega), h', show a + x.length - a = x.length by omega, ← ts_len x, List.take_left]
    show Str.join (Str.ofString "") (Txt.slice due (some (a : Int)) (some ((a + x.length : Nat) : Int)) :: other :: subParts due one other (((a + x.length : Nat) : Int) + one.length) ((cuts one.length (a + x.length + one.length) (y :: r)).map fun (n : Nat) => (n : Int))) = x ++ other ++ Str.join other (y :: r)
    rw [join_none_cons, join_none_cons, e1, show (((a + x.length : Nat) : Int) + (one.length : Int)) = ((a + x.length + one.length : Nat) : Int) by omega]
    rcases Nat.lt_or_ge due.length (a + x.length + one.length) with q | q
    · omega
    · rw [sub_parts other (y :: r) _ (by simp) q (cut_step h), Str.append_assoc]
end


/-! the split -/
section
open Builtin Builtin.Str
variable {x y : Str} {hi lim : Nat}
def occStep (x y : Str) (hi lim : Nat) (i : Nat) (st : Array Nat × Nat) : Array Nat × Nat := if ((st.fst.size < lim ∧ st.snd ≤ i) ∧ i + y.length ≤ hi) ∧ subAt x y i = true then (st.fst.push i, i + y.length) else (st.fst, st.snd)
theorem occ_run : ∀ (l : List Nat) (st : Array Nat × Nat), (forIn l st (StrLaws.occBody x y hi lim)).run = l.foldl (fun st i => occStep x y hi lim i st) st
  | [], _ => rfl
  | i :: l, st => by
    rw [List.forIn_cons, List.foldl_cons, ← occ_run l]
    unfold StrLaws.occBody occStep
    split <;> rfl
theorem occ_skip : ∀ (l : List Nat) (st : Array Nat × Nat), (∀ i ∈ l, i < st.snd ∨ ¬ StrLaws.At x y hi i) → l.foldl (fun st i => occStep x y hi lim i st) st = st
  | [], _, _ => rfl
  | i :: l, st, h => by
    have e : occStep x y hi lim i st = st := by
      unfold occStep
      rw [if_neg]
      rintro ⟨⟨⟨_, h2⟩, h3⟩, h4⟩
      rcases h i (.head _) with q | q
      · omega
      · exact q ⟨h3, h4⟩
    rw [List.foldl_cons, e]
    exact occ_skip l st fun j hj => h j (.tail _ hj)
end

section
variable {due one : Str} {c : Nat} {q : List Nat}
theorem occ_cuts (hq : ts one = c :: q) : ∀ (ws : List Str) (a : Nat) (arr : Array Nat), ws ≠ [] → (∀ x ∈ ws, c ∉ ts x) → a ≤ due.length → arr.size ≤ a → (ts due).drop a = ts (Str.join one ws) →
    ((List.range' a (due.length + 1 - a)).foldl (fun st i => occStep due one due.length (due.length + 1) i st) (arr, a)).fst.toList = arr.toList ++ cuts one.length a ws
  | [], _, _, h, _, _, _, _ => absurd rfl h
  | [x], a, arr, _, hf, ha, _, h => by
    rw [occ_skip _ _ fun i hi => .inr (not_at_end hq (hf x (.head _)) h (List.mem_range'_1.mp hi).1)]
    simp [cuts]
  | x :: y :: r, a, arr, _, hf, ha, hs, h => by
    have h' := h
    rw [ts_join2] at h'
    have hl := congrArg List.length h'
    rw [List.length_drop, List.length_append, List.length_append, ts_len, ts_len, ts_len] at hl
    have hw : 1 ≤ one.length := by rw [← ts_len, hq, List.length_cons]; omega
    have hA : StrLaws.At due one due.length (a + x.length) := at_here (R := ts (Str.join one (y :: r))) (by rw [← List.drop_drop, h', ← ts_len x, List.drop_left]) hw
    rw [show due.length + 1 - a = x.length + (1 + ((one.length - 1) + (due.length + 1 - (a + x.length + one.length)))) by omega, ← List.range'_append_1, ← List.range'_append_1, ← List.range'_append_1, List.foldl_append, List.foldl_append, List.foldl_append]
    rw [occ_skip (List.range' a x.length) _ fun i hi => .inr (not_at hq (hf x (.head _)) h' (List.mem_range'_1.mp hi).1 (by rw [ts_len]; exact (List.mem_range'_1.mp hi).2))]
    have e1 : (List.range' (a + x.length) 1).foldl (fun st i => occStep due one due.length (due.length + 1) i st) (arr, a) = (arr.push (a + x.length), a + x.length + one.length) := by
      show occStep due one due.length (due.length + 1) (a + x.length) (arr, a) = _
      unfold occStep
      rw [if_pos ⟨⟨⟨by show arr.size < _; omega, by show a ≤ _; omega⟩, hA.1⟩, hA.2⟩]
    rw [e1, occ_skip (List.range' (a + x.length + 1) (one.length - 1)) _ fun i hi => .inl (by have := (List.mem_range'_1.mp hi).2; show i < a + x.length + one.length; omega)]
    rw [show a + x.length + 1 + (one.length - 1) = a + x.length + one.length by omega]
    rw [occ_cuts hq (y :: r) (a + x.length + one.length) _ (by simp) (fun z hz => hf z (.tail _ hz)) (by omega) (by rw [Array.size_push]; omega) (cut_step h)]
    simp [cuts]

theorem strSub_ts (x : Str) (i j : Nat) : ts (Builtin.Str.strSub x i j) = ((ts x).drop i).take (j - i) := StrLaws.strSub_toList x i j
theorem parts_cuts : ∀ (ws : List Str) (a : Nat), ws ≠ [] → a ≤ due.length → (ts due).drop a = ts (Str.join one ws) → StrLaws.partsFrom due one.length a (cuts one.length a ws) = ws
  | [], _, h, _, _ => absurd rfl h
  | [x], a, _, ha, h => by
    show [Builtin.Str.strSub due a due.length] = [x]
    congr 1
    refine str_eq ?_
    rw [strSub_ts, List.take_of_length_le (by rw [List.length_drop, ts_len]; omega)]
    exact h
  | x :: y :: r, a, _, ha, h => by
    have h' := h
    rw [ts_join2] at h'
    have hl := congrArg List.length h'
    rw [List.length_drop, List.length_append, List.length_append, ts_len, ts_len, ts_len] at hl
    show Builtin.Str.strSub due a (a + x.length) :: StrLaws.partsFrom due one.length (a + x.length + one.length) (cuts one.length (a + x.length + one.length) (y :: r)) = _
    congr 1
    · refine str_eq ?_
      rw [strSub_ts, h', show a + x.length - a = x.length by omega, ← ts_len x, List.take_left]
    · rcases Nat.lt_or_ge due.length (a + x.length + one.length) with q' | q'
      · exfalso
        rcases Nat.eq_zero_or_pos (x.length + one.length) with hz | hz
        · omega
        · omega
      · exact parts_cuts (y :: r) _ (by simp) q' (cut_step h)

theorem split_join (hq : ts one = c :: q) {ws : List Str} (hne : ws ≠ []) (hf : ∀ x ∈ ws, c ∉ ts x) (hd : due = Str.join one ws) (hk : Builtin.Str.strKind due = 1) (hk1 : Builtin.Str.strKind one = 1) : Txt.split due one = ws := by
  have h0 : (ts due).drop 0 = ts (Str.join one ws) := by rw [List.drop_zero, hd]
  have ho : Builtin.Str.occurrences due one 0 due.length (due.length + 1) = cuts one.length 0 ws := by
    rw [StrLaws.occ_eq, occ_run]
    have := occ_cuts hq ws 0 #[] hne hf (Nat.zero_le _) (Nat.le_refl _) h0
    simpa using this
  have hp := parts_cuts (due := due) (one := one) ws 0 hne (Nat.zero_le _) h0
  unfold Txt.split
  rw [ho, hk, hk1]
  split
  · rename_i hc
    simp only [Nat.lt_irrefl, decide_false, Bool.or_false, decide_eq_true_eq] at hc
    cases ws with
    | nil => exact absurd rfl hne
    | cons x r =>
      cases r with
      | nil => rw [hd]; rfl
      | cons y r =>
        have hl := congrArg List.length (ts_join2 one x y r)
        rw [← hd, List.length_append, List.length_append, ts_len, ts_len, ts_len] at hl
        omega
  · split
    · rename_i hc
      cases ws with
      | nil => exact absurd rfl hne
      | cons x r =>
        cases r with
        | nil => rw [hd]; rfl
        | cons y r => simp [cuts] at hc
    · rw [StrLaws.partsBetween_eq, hp]
end

end Mine

namespace Mine
set_option maxRecDepth 100000
set_option maxHeartbeats 8000000

/-! turned round -/
theorem rev_ts (x : Str) : ts (revF x) = (ts x).reverse := by
  refine (step_rev_list x 0).trans ?_
  apply List.ext_getElem
  · simp [Str.length]
  · intro i h1 h2
    simp only [List.length_map, List.length_range] at h1
    simp only [List.getElem_map, List.getElem_range, List.getElem_reverse]
    have : x.cps.size - 1 - i < x.cps.size := by have : x.length = x.cps.size := rfl; omega
    simp [Array.getD, Str.length, this]
theorem rev_rev (x : Str) : revF (revF x) = x := str_eq (by rw [rev_ts, rev_ts, List.reverse_reverse])
theorem rev_len (x : Str) : (revF x).length = x.length := by rw [← ts_len, rev_ts, List.length_reverse, ts_len]

/-! capitals and back -/
def signs8 : List Nat := [97, 98, 99, 45, 44, 32, 43, 47]
def upN (c : Nat) : Nat := if c = 97 then 65 else if c = 98 then 66 else if c = 99 then 67 else c
theorem up8 : ∀ c ∈ signs8, ts (signF true c) = [upN c] := by decide +kernel
theorem low8 : ∀ c ∈ signs8, ts (signF false (upN c)) = [c] := by decide +kernel
theorem ts_join_none : ∀ l : List Str, ts (Str.join (Str.ofString "") l) = l.flatMap ts
  | [] => rfl
  | x :: l => by rw [join_none_cons, ts_append, ts_join_none l]; rfl
theorem case_ts (u : Bool) (x : Str) : ts (caseF u x) = (ts x).flatMap fun c => ts (signF u c) := by
  unfold caseF caseParts KStt.codes
  rw [ts_join_none, List.map_map, List.flatMap_map]
  rfl
theorem flat_one {f : Nat → List Nat} {g : Nat → Nat} : ∀ l : List Nat, (∀ c ∈ l, f c = [g c]) → l.flatMap f = l.map g
  | [], _ => rfl
  | c :: l, h => by rw [List.flatMap_cons, h c (.head _), flat_one l fun d hd => h d (.tail _ hd)]; rfl
theorem case_back {x : Str} (h : ∀ c ∈ ts x, c ∈ signs8) : caseF false (caseF true x) = x := by
  refine str_eq ?_
  rw [case_ts, case_ts, flat_one (g := upN) _ fun c hc => up8 c (h c hc), List.flatMap_map, flat_one (g := id) _ fun c hc => low8 c (h c hc), List.map_id]
theorem case_len (u : Bool) (x : Str) : (caseF u x).length = x.length := by
  rw [← ts_len, case_ts, ← ts_len x]
  generalize ts x = l
  induction l with
  | nil => rfl
  | cons c l ih => rw [List.flatMap_cons, List.length_append, ih, ts_len, signF_len, List.length_cons]; omega

/-! the joiners -/
theorem J_cases (k : Nat) : J k = Str.ofString "-" ∨ J k = Str.ofString ", " ∨ J k = Str.ofString "++" ∨ J k = Str.ofString "/" := by
  unfold J
  have : k % 4 = 0 ∨ k % 4 = 1 ∨ k % 4 = 2 ∨ k % 4 = 3 := by omega
  rcases this with h | h | h | h <;> rw [h]
  · exact .inl rfl
  · exact .inr (.inl rfl)
  · exact .inr (.inr (.inl rfl))
  · exact .inr (.inr (.inr rfl))
theorem ts_j0 : ts (Str.ofString "-") = [45] := by decide +kernel
theorem ts_j1 : ts (Str.ofString ", ") = [44, 32] := by decide +kernel
theorem ts_j2 : ts (Str.ofString "++") = [43, 43] := by decide +kernel
theorem ts_j3 : ts (Str.ofString "/") = [47] := by decide +kernel
/-- what is known of a joiner -/
structure JoinerOk (j : Str) : Prop where
  one : 1 ≤ j.length
  two : j.length ≤ 2
  signs : ∀ c ∈ ts j, c ∈ signs8
  head : ∃ c q, ts j = c :: q ∧ ∀ x, Letters x → c ∉ ts x
theorem joiner_of {j : Str} {c : Nat} {q : List Nat} (h : ts j = c :: q) (hl : q.length ≤ 1) (hs : ∀ d ∈ c :: q, d ∈ signs8) (h1 : c ≠ 97) (h2 : c ≠ 98) (h3 : c ≠ 99) : JoinerOk j := by
  refine ⟨?_, ?_, ?_, c, q, h, ?_⟩
  · rw [← ts_len, h, List.length_cons]; omega
  · rw [← ts_len, h, List.length_cons]; omega
  · rw [h]; exact hs
  · intro x hx hc
    rcases hx c hc with e | e | e
    · exact h1 e
    · exact h2 e
    · exact h3 e
theorem J_ok (k : Nat) : JoinerOk (J k) := by
  rcases J_cases k with h | h | h | h <;> rw [h]
  · exact joiner_of ts_j0 (by decide) (by decide) (by decide) (by decide) (by decide)
  · exact joiner_of ts_j1 (by decide) (by decide) (by decide) (by decide) (by decide)
  · exact joiner_of ts_j2 (by decide) (by decide) (by decide) (by decide) (by decide)
  · exact joiner_of ts_j3 (by decide) (by decide) (by decide) (by decide) (by decide)
theorem JoinerOk.not_none {j : Str} (h : JoinerOk j) : (j == Str.ofString "") = false := by
  rw [beq_eq_false_iff_ne]
  intro e
  have h1 := h.one
  rw [e, none_is] at h1
  exact absurd h1 (by decide)
theorem JoinerOk.len0 {j : Str} (h : JoinerOk j) : (j.length == 0) = false := by
  rw [beq_eq_false_iff_ne]; have := h.one; omega

/-! the joined text -/
theorem letters_signs {x : Str} (h : Letters x) : ∀ c ∈ ts x, c ∈ signs8 := by
  intro c hc
  rcases h c hc with rfl | rfl | rfl <;> decide
theorem join_signs {j : Str} (hj : ∀ c ∈ ts j, c ∈ signs8) : ∀ ws : List Str, (∀ x ∈ ws, WordOk x) → ∀ c ∈ ts (Str.join j ws), c ∈ signs8
  | [], _, c, hc => by cases hc
  | [x], h, c, hc => letters_signs (h x (.head _)).2 c hc
  | x :: y :: r, h, c, hc => by
    rw [ts_join2] at hc
    rcases List.mem_append.mp hc with hc | hc
    · exact letters_signs (h x (.head _)).2 c hc
    · rcases List.mem_append.mp hc with hc | hc
      · exact hj c hc
      · exact join_signs hj (y :: r) (fun z hz => h z (.tail _ hz)) c hc
theorem join_len {j : Str} (hj : j.length ≤ 2) : ∀ ws : List Str, (∀ x ∈ ws, WordOk x) → (Str.join j ws).length ≤ 8 * ws.length
  | [], _ => Nat.le_refl _
  | [x], h => Nat.le_trans (h x (.head _)).1 (by show 6 ≤ 8 * 1; decide)
  | x :: y :: r, h => by
    have ih := join_len hj (y :: r) fun z hz => h z (.tail _ hz)
    have h1 := (h x (.head _)).1
    have e := congrArg List.length (ts_join2 j x y r)
    rw [List.length_append, List.length_append, ts_len, ts_len, ts_len, ts_len] at e
    rw [e, List.length_cons]
    omega
theorem signs8_small : ∀ c ∈ signs8, c < 256 ∧ c < 0x110000 ∧ c ≠ 90 := by decide
theorem kind_one {x : Str} (h : ∀ c ∈ ts x, c ∈ signs8) : Builtin.Str.strKind x = 1 := by
  unfold Builtin.Str.strKind
  rw [if_pos]
  rw [Array.all_eq_true_iff_forall_mem]
  intro c hc
  exact decide_eq_true (signs8_small c (h c (Array.mem_toList_iff.mpr hc))).1
theorem lay_ok {x : Str} (h : ∀ c ∈ ts x, c ∈ signs8) : x.cps.all (· < 0x110000) = true := by
  rw [Array.all_eq_true_iff_forall_mem]
  intro c hc
  exact decide_eq_true (signs8_small c (h c (Array.mem_toList_iff.mpr hc))).2.1

noncomputable def cutsI (j : Str) (ws : List Str) : List Int := (cuts j.length 0 ws).map fun (n : Nat) => (n : Int)
theorem cutsI_len {j : Str} {ws : List Str} (h : ws.length ≤ 8) : (cutsI j ws).length ≤ 900 := by
  have := cuts_len j.length ws 0
  unfold cutsI
  rw [List.length_map]; omega
theorem law_cut {one : Str} {ws : List Str} (hj : JoinerOk one) (hw : ∀ x ∈ ws, WordOk x) : CutAt (Str.join one ws) one (Txt.find (Str.join one ws) one) (cutsI one ws) := by
  obtain ⟨c, q, hq, hc⟩ := hj.head
  rw [find_zero]
  cases ws with
  | nil => exact find_miss (W := []) hq (by simp) rfl
  | cons x r => exact cut_at hq (x :: r) 0 (by simp) (fun z hz => hc z (hw z hz).2) rfl
theorem law_sub_all {one other : Str} {ws : List Str} : Str.join (Str.ofString "") (subParts (Str.join one ws) one other 0 (cutsI one ws)) = Str.join other ws := by
  cases ws with
  | nil => exact str_eq (slice_from (x := Str.empty) (a := 0) (Nat.le_refl _))
  | cons x r => exact sub_parts other (x :: r) 0 (by simp) (Nat.zero_le _) rfl
/-- the text with the first joint alone turned -/
def firstF (one other : Str) : List Str → Str
  | x :: y :: r => x ++ other ++ Str.join one (y :: r)
  | ws => Str.join one ws
theorem law_sub_one {one other : Str} {ws : List Str} : Str.join (Str.ofString "") (subParts (Str.join one ws) one other 0 ((cutsI one ws).take 1)) = firstF one other ws := by
  cases ws with
  | nil => exact str_eq (slice_from (x := Str.empty) (a := 0) (Nat.le_refl _))
  | cons x r =>
    cases r with
    | nil => exact str_eq (slice_from (x := x) (a := 0) (Nat.zero_le _))
    | cons y r =>
      have h' := ts_join2 one x y r
      have hl := congrArg List.length h'
      rw [List.length_append, List.length_append, ts_len, ts_len, ts_len, ts_len] at hl
      show Str.join (Str.ofString "") [Txt.slice (Str.join one (x :: y :: r)) (some ((0 : Nat) : Int)) (some ((0 + x.length : Nat) : Int)), other, Txt.slice (Str.join one (x :: y :: r)) (some (((0 + x.length : Nat) : Int) + one.length)) none] = x ++ other ++ Str.join one (y :: r)
      rw [join_none_cons, join_none_cons, Str.append_assoc]
      congr 1
      · refine str_eq ?_
        rw [slice_nat (by omega) (by omega), List.drop_zero, h', Nat.sub_zero, Nat.zero_add, ← ts_len x, List.take_left]
      · congr 1
        refine str_eq ?_
        rw [show (((0 + x.length : Nat) : Int) + (one.length : Int)) = ((x.length + one.length : Nat) : Int) by omega]
        refine (slice_from (by omega)).trans ?_
        rw [h', ← List.drop_drop, ← ts_len x, List.drop_left, ← ts_len one, List.drop_left]
theorem law_split {one : Str} {ws : List Str} (hj : JoinerOk one) (hw : ∀ x ∈ ws, WordOk x) (hne : ws ≠ []) : Txt.split (Str.join one ws) one = ws := by
  obtain ⟨c, q, hq, hc⟩ := hj.head
  exact split_join hq hne (fun z hz => hc z (hw z hz).2) rfl (kind_one (join_signs hj.signs ws hw)) (kind_one hj.signs)

/-! the places -/
noncomputable def placesF (w : Int) : Int → List Str → List Int
  | _, [] => []
  | a, x :: r => (a + x.length) :: placesF w (a + x.length + w) r
noncomputable def placesAt (w : Int) : Int → List Str → Int
  | a, [] => a
  | a, x :: r => placesAt w (a + x.length + w) r
theorem places_snoc (w : Int) (x : Str) : ∀ (l : List Str) (a : Int), placesF w a (l ++ [x]) = placesF w a l ++ [placesAt w a l + x.length] ∧ placesAt w a (l ++ [x]) = placesAt w a l + x.length + w
  | [], a => ⟨rfl, rfl⟩
  | y :: r, a => by
    obtain ⟨h1, h2⟩ := places_snoc w x r (a + y.length + w)
    refine ⟨?_, h2⟩
    show (a + y.length) :: placesF w (a + y.length + w) (r ++ [x]) = _
    rw [h1]; rfl
theorem places_cuts (w : Nat) : ∀ (ws : List Str) (a : Nat), placesF w ((a : Int) + 1) ws.dropLast = ((cuts w a ws).map fun (n : Nat) => (n : Int)).map (· + 1)
  | [], _ => rfl
  | [_], _ => rfl
  | x :: y :: r, a => by
    have ih := places_cuts w (y :: r) (a + x.length + w)
    show ((a : Int) + 1 + x.length) :: placesF w ((a : Int) + 1 + x.length + w) (y :: r).dropLast = (((a + x.length : Nat) : Int) + 1) :: ((cuts w (a + x.length + w) (y :: r)).map fun (n : Nat) => (n : Int)).map (· + 1)
    rw [show (a : Int) + 1 + x.length + w = ((a + x.length + w : Nat) : Int) + 1 by omega, ih, show (a : Int) + 1 + x.length = ((a + x.length : Nat) : Int) + 1 by omega]

/-! the text cut in two -/
def headF (x : Str) (n : Int) : Str := ⟨((ts x).take n.toNat).toArray⟩
def tailF (x : Str) (n : Int) : Str := ⟨((ts x).drop n.toNat).toArray⟩
section
variable {x : Str} {n : Int}
theorem head_ts : ts (headF x n) = (ts x).take n.toNat := ts_mk _
theorem tail_ts : ts (tailF x n) = (ts x).drop n.toNat := ts_mk _
theorem head_len (h0 : 0 ≤ n) (h1 : n ≤ x.length) : ((headF x n).length : Int) = n := by
  rw [← ts_len, head_ts, List.length_take, ts_len]; omega
theorem tail_len (h0 : 0 ≤ n) (h1 : n ≤ x.length) : ((tailF x n).length : Int) = x.length - n := by
  rw [← ts_len, tail_ts, List.length_drop, ts_len]; omega
theorem head_tail : headF x n ++ tailF x n = x := str_eq (by rw [ts_append, head_ts, tail_ts, List.take_append_drop])
theorem substr_head (h0 : 0 ≤ n) (h1 : n ≤ x.length) : substrF x 1 n = headF x n := by
  refine str_eq ?_
  rw [head_ts]
  unfold substrF
  split
  · rw [show n.toNat = 0 by omega, none_is]; rfl
  · have := slice_nat (x := x) (a := 0) (b := n.toNat) (Nat.zero_le _) (by omega)
    rw [show ((n.toNat : Nat) : Int) = n by omega] at this
    simpa using this
theorem substr_tail (h0 : 0 ≤ n) (h1 : n ≤ x.length) : substrF x (n + 1) x.length = tailF x n := by
  refine str_eq ?_
  rw [tail_ts]
  unfold substrF
  split
  · rw [none_is, List.drop_of_length_le (by rw [ts_len]; omega)]; rfl
  · have := slice_nat (x := x) (a := n.toNat) (b := x.length) (by omega) (Nat.le_refl _)
    rw [show ((n.toNat : Nat) : Int) = n + 1 - 1 by omega] at this
    rw [this, List.take_of_length_le]
    rw [List.length_drop, ts_len]; omega
theorem starts_head (h0 : 0 ≤ n) (h1 : n ≤ x.length) : startsF x (headF x n) = 1 := by
  unfold startsF
  rw [if_pos]
  rw [beq_iff_eq]
  refine str_eq ?_
  have hl := head_len h0 h1
  rw [slice_to (by omega), head_ts]
  congr 1; omega
theorem ends_tail (h0 : 0 ≤ n) (h1 : n ≤ x.length) : endsF x (tailF x n) = 1 := by
  unfold endsF
  rw [if_pos]
  rw [beq_iff_eq]
  refine str_eq ?_
  have hl := tail_len h0 h1
  rw [if_neg (by omega), show (x.length : Int) - (tailF x n).length = ((n.toNat : Nat) : Int) by omega]
  rw [slice_from (by omega), tail_ts]
theorem starts_z (hs : ∀ c ∈ ts x, c ∈ signs8) (h0 : 0 ≤ n) (h1 : n ≤ x.length) : startsF x (headF x n ++ Str.ofString "Z") = 0 := by
  unfold startsF
  rw [if_neg]
  rw [beq_iff_eq]
  intro e
  have hl := head_len h0 h1
  have hz : ts (Str.ofString "Z") = [90] := by decide +kernel
  have hzl : (Str.ofString "Z").length = 1 := by rw [← ts_len, hz]; rfl
  have hle := Txt.slice_le x none (some ((headF x n ++ Str.ofString "Z").length : Int))
  rw [e] at hle
  rw [Str.length_append, hzl] at hle
  have e2 := congrArg ts e
  rw [slice_to (by rw [Str.length_append, hzl]; omega), ts_append, hz] at e2
  have hm : 90 ∈ (ts x).take (headF x n ++ Str.ofString "Z").length := by rw [e2]; simp
  exact (signs8_small 90 (hs 90 (List.mem_of_mem_take hm))).2.2 rfl
end

end Mine

namespace Mine
set_option maxRecDepth 100000
set_option maxHeartbeats 8000000

/-- while this is at hand the walk waits at the next if -/
structure StopIf : Prop where
  mark :: (one : True)
theorem stopIf : StopIf := ⟨trivial⟩

theorem strs_dropLast : ∀ {vs : List Value} {ys : List Str}, StrsAre vs ys → StrsAre vs.dropLast ys.dropLast
  | _, _, .nil => .nil
  | _, _, .cons _ _ .nil => .nil
  | _, _, .cons y t (.cons z u r) => .cons y t (strs_dropLast (.cons z u r))
theorem strs_drop1 : ∀ {vs : List Value} {ys : List Str}, StrsAre vs ys → StrsAre (vs.drop 1) (ys.drop 1)
  | _, _, .nil => .nil
  | _, _, .cons _ _ r => r

section
variable {prog : Program} {w : World} {A : Around} {E : Value → Shared → Prop} {s : Shared} {h₀ : Heap} {L l : Addr} {m : Str → Option Value} {news : Led} {value slice : PySem.Expr} {vs : List Value} {n : Nat} {t : Tok} {Q : Value → Shared → Prop}
theorem my_copy (F : Fr h₀ L s.heap m) (N : News h₀ L s.heap news) (hm : (l, listOf vs.toArray n) ∈ news) (hz : vs.length ≤ 1000)
    (h : ∀ D c h', Fr h₀ L h' m → News h₀ L h' ((D, listOf vs.toArray c) :: news) → (∀ q ∈ news, q.1 < D) → Q (.ref D) { s with heap := h' }) : wpAny (model prog w) A (call (.type "list") [.ref l]) Q E s :=
  list_copyK F N (ledList N hm) h (by rw [List.size_toArray, PySem.sizeLine_eq]; omega)

theorem my_sliceInit (F : Fr h₀ L s.heap m) (N : News h₀ L s.heap news) (hm : (l, listOf vs.toArray n) ∈ news) (hz : vs.length ≤ 1000)
    (hs : subscripted slice false (.ref l) (.ref s.heap.objs.size) = operate [.ref s.heap.objs.size, .ref l] (getItem (.ref l) (.ref s.heap.objs.size))) (ht : ∀ r, letTemporaryGo value (.ref l) r = pure ())
    (h : ∀ D h', Fr h₀ L h' m → News h₀ L h' ((D, listOf vs.dropLast.toArray 0) :: news) → (∀ p ∈ news, p.1 < D) → Q (.ref D) { s with heap := h' }) :
    wpAny (model prog w) A (subscriptTail value slice (.ref l) (.ref s.heap.objs.size)) Q E { s with heap := s.heap.push { cls := .type "slice", data := .fields #[.none, .int (-1) t, .none] } } := by
  have e : slicePick vs.toArray none (some (-1)) none = vs.dropLast.toArray := by
    have e1 : sliceBounds none (some (-1)) none vs.toArray.size = (((0 : Nat) : Int), ((vs.toArray.size - 1 : Nat) : Int), 1) := by
      simp only [sliceBounds, Option.getD_none, show (1 : Int) > 0 by decide, if_true, if_pos (show (-1 : Int) < 0 by decide)]
      congr 1
      congr 1
      omega
    rw [kmk_pick_nat _ e1]
    show ((vs.drop 0).take (vs.toArray.size - 1 - 0)).toArray = _
    rw [List.drop_zero, Nat.sub_zero, List.size_toArray, List.dropLast_eq_take]
  refine kmk_slice F N (ledList N hm) (lo := none) (hi := some (-1)) (by first | exact .none | constructor) (by first | exact .int _ _ | constructor) (fun D h' F' N' l1 => ?_) hs ht (by rw [List.size_toArray, PySem.sizeLine_eq]; omega)
  rw [e] at N'
  exact h D h' F' N' l1
theorem my_sliceTail (F : Fr h₀ L s.heap m) (N : News h₀ L s.heap news) (hm : (l, listOf vs.toArray n) ∈ news) (hz : vs.length ≤ 1000)
    (hs : subscripted slice false (.ref l) (.ref s.heap.objs.size) = operate [.ref s.heap.objs.size, .ref l] (getItem (.ref l) (.ref s.heap.objs.size))) (ht : ∀ r, letTemporaryGo value (.ref l) r = pure ())
    (h : ∀ D h', Fr h₀ L h' m → News h₀ L h' ((D, listOf (vs.drop 1).toArray 0) :: news) → (∀ p ∈ news, p.1 < D) → Q (.ref D) { s with heap := h' }) :
    wpAny (model prog w) A (subscriptTail value slice (.ref l) (.ref s.heap.objs.size)) Q E { s with heap := s.heap.push { cls := .type "slice", data := .fields #[.int 1 t, .none, .none] } } := by
  have e : slicePick vs.toArray (some 1) none none = (vs.drop 1).toArray := by
    have e1 : sliceBounds (some 1) none none vs.toArray.size = (((min 1 vs.toArray.size : Nat) : Int), ((vs.toArray.size : Nat) : Int), 1) := by
      simp only [sliceBounds, Option.getD_none, show (1 : Int) > 0 by decide, if_true, if_neg (show ¬ ((1 : Int) < 0) by decide)]
      congr 1
      omega
    rw [kmk_pick_nat _ e1]
    show ((vs.drop (min 1 vs.toArray.size)).take (vs.toArray.size - min 1 vs.toArray.size)).toArray = _
    rw [List.size_toArray, kmk_drop_min, List.take_of_length_le (by rw [List.length_drop]; omega)]
  refine kmk_slice F N (ledList N hm) (lo := some 1) (hi := none) (by first | exact .int _ _ | constructor) (by first | exact .none | constructor) (fun D h' F' N' l1 => ?_) hs ht (by rw [List.size_toArray, PySem.sizeLine_eq]; omega)
  rw [e] at N'
  exact h D h' F' N' l1
end

/-! a loop over a list of texts, by what holds of its state -/
section
variable {prog : Program} {w : World} {A : Around} {E : Value → Shared → Prop} {s : Shared} {env : Env} {h₀ : Heap} {x : Str} {body : List Stmt} {Q : Flow → Shared → Prop}
theorem unr_mono {I : Addr} {it : Obj} {R R' : (Str → Option Value) → Led → Prop} {s₁ : Shared} {f : Flow} {s₂ : Shared} (hR : ∀ m n, R m n → R' m n) (h : UnrPost h₀ env.locals s₁ I it R Q f s₂) : UnrPost h₀ env.locals s₁ I it R' Q f s₂ := by
  have up : UnrEnd h₀ env.locals s₁ I it R s₂ → UnrEnd h₀ env.locals s₁ I it R' s₂ := by
    rintro ⟨h', tk, m', news', e, F', N', ho, r⟩
    exact ⟨h', tk, m', news', e, F', N', ho, hR _ _ r⟩
  cases f with
  | ret v => exact h
  | brk => exact h
  | next => exact up h
  | cont => exact up h

theorem list_rest {I : Addr} {lp : Addr × Obj} (J : List Value → (Str → Option Value) → Led → Prop)
    (turn : ∀ v r m news (it : Obj) h tk, J (v :: r) m news → it.cls = .type "list_iterator" → Fr h₀ env.locals h (fun y => if y = x then some v else m y) → News h₀ env.locals h ((I, it) :: news) →
      wpAny (model prog w) A (execs body env) (UnrPost h₀ env.locals { s with heap := h, toks := tk } I it (fun m' n' => lp ∈ n' ∧ J r m' n') Q) E { s with heap := h, toks := tk })
    (done : ∀ m news h tk, J [] m news → Fr h₀ env.locals h m → News h₀ env.locals h news → Q .next { s with heap := h, toks := tk }) :
    ∀ (vs : List Value) (m : Str → Option Value) (news : Led), J vs m news → ListRest prog w A E h₀ env x body Q s I lp vs m news
  | [], m, news, hj => .zero fun h tk F N => done m news h tk hj F N
  | v :: r, m, news, hj => .succ fun it h tk hit F N => wpAny_mono (turn v r m news it h tk hj hit F N) (fun _ _ p => unr_mono (fun m' n' q => ⟨q.1, list_rest J turn done r m' n' q.2⟩) p) fun _ _ e => e

/-- the state behind some turns -/
def StrSt {σ : Type} (Ld : σ → Led) (ps : σ → List (Str × Value)) (Facts : σ → Prop) (x : Str) (stored : List Str) (m₀ : Str → Option Value) (P : List Str → σ → Prop) (pre : List Str) (m : Str → Option Value) (nx : Led) : Prop :=
  ∃ c : σ, nx = Ld c ∧ Facts c ∧ (∀ p ∈ ps c, m p.1 = some p.2) ∧ (∀ z, z ≠ x → (∀ p ∈ ps c, z ≠ p.1) → stored.contains z = false → m z = m₀ z) ∧ P pre c

theorem strs_loop {σ : Type} {ax : Addr} {vs : List Value} {ws : List Str} {n : Nat} {m₀ : Str → Option Value} (Ld : σ → Led) (ps : σ → List (Str × Value)) (Facts : σ → Prop) (stored : List Str) (P : List Str → σ → Prop) (c₀ : σ)
    (hh : A.handled = none) (F : Fr h₀ env.locals s.heap m₀) (N : News h₀ env.locals s.heap (Ld c₀)) (hm : (ax, listOf vs.toArray n) ∈ Ld c₀) (hs : StrsAre vs ws) (hf : Facts c₀) (hk : ∀ p ∈ ps c₀, m₀ p.1 = some p.2) (hp : P [] c₀)
    (turn : ∀ (c : σ) (pre : List Str) (y : Str) (post : List Str) (t : Tok) (u : Str → Option Value) (I : Addr) (it : Obj) (h : Heap) (tk : Nat), ws = pre ++ y :: post → (∀ p ∈ Ld c₀, p.1 < I) → it.cls = .type "list_iterator" → Facts c → P pre c →
      Fr h₀ env.locals h (fun z => if z = x then some (.str y t) else kstB (fun z => if stored.contains z then u z else m₀ z) (ps c) z) → News h₀ env.locals h ((I, it) :: Ld c) →
      wpAny (model prog w) A (execs body env) (UnrPost h₀ env.locals { s with heap := h, toks := tk } I it (fun m' n' => (ax, listOf vs.toArray n) ∈ n' ∧ StrSt Ld ps Facts x stored m₀ P (pre ++ [y]) m' n') Q) E { s with heap := h, toks := tk })
    (done : ∀ (c : σ) (u : Str → Option Value) (h : Heap) (tk : Nat), Facts c → P ws c → Fr h₀ env.locals h (fun y => if y = x then u y else kstB (fun z => if stored.contains z then u z else m₀ z) (ps c) y) → News h₀ env.locals h (Ld c) → Q .next { s with heap := h, toks := tk }) :
    wpAny (model prog w) A (pyIter (.ref ax)) (fun it s₂ => LoopAtV prog w A h₀ env x body Q E it s₂) E s := by
  refine iter_listUnr (lo := listOf vs.toArray n) (vs := vs) hh F N hm rfl rfl fun I hI => ?_
  refine list_rest (fun r m nx => ∃ pre post, ws = pre ++ post ∧ StrsAre r post ∧ StrSt Ld ps Facts x stored m₀ P pre m nx) ?_ ?_ vs m₀ (Ld c₀) ⟨[], ws, rfl, hs, c₀, rfl, hf, hk, fun _ _ _ _ => rfl, hp⟩
  · rintro v r m nx it h tk ⟨pre, post, e, hsr, c, rfl, hf', h1, h2, hp'⟩ hit F₁ N₁
    cases hsr with
    | cons y t hr =>
      rename_i ys
      refine wpAny_mono (turn c pre y ys t m I it h tk e hI hit hf' hp' (kst_fr h1 h2 F₁) N₁) (fun _ _ p => unr_mono (fun m' n' q => ⟨q.1, pre ++ [y], ys, ?_, hr, q.2⟩) p) fun _ _ e => e
      rw [e, List.append_assoc]; rfl
  · rintro m nx h tk ⟨pre, post, e, hsr, c, rfl, hf', h1, h2, hp'⟩ F₁ N₁
    cases hsr
    rw [List.append_nil] at e
    rw [← e] at hp'
    exact done c m h tk hf' hp' (kst_frOut h1 h2 F₁) N₁

/-! the ways of an if, met again -/
def MidL (s : Shared) (h₀ : Heap) (L : Addr) (m : Str → Option Value) (D : Addr) (rest : Led) (ys : List Str) (f : Flow) (s' : Shared) : Prop :=
  f = .next ∧ ∃ h' tk vs k, s' = { s with heap := h', toks := tk } ∧ StrsAre vs ys ∧ Fr h₀ L h' m ∧ News h₀ L h' ((D, listOf vs.toArray k) :: rest)
theorem MidL.intro {s : Shared} {L : Addr} {m : Str → Option Value} {D : Addr} {rest all : Led} {ys : List Str} {h' : Heap} {tk : Nat} {vs : List Value} {k : Nat} (S : StrsAre vs ys) (F : Fr h₀ L h' m) (N : News h₀ L h' all) (hn : ∀ p ∈ (D, listOf vs.toArray k) :: rest, p ∈ all) :
    MidL s h₀ L m D rest ys .next { s with heap := h', toks := tk } := ⟨rfl, h', tk, vs, k, rfl, S, F, fun p hp => N p (hn p hp)⟩
theorem mid_list {M : Model} {L : Addr} {m : Str → Option Value} {D : Addr} {o : Obj} {rest : Led} {t : Sem Flow} (ys : List Str) (_ : Fr h₀ L s.heap m) (_ : News h₀ L s.heap ((D, o) :: rest)) (h : wpAny M A t (MidL s h₀ L m D rest ys) E s)
    (k : ∀ h' tk vs k, StrsAre vs ys → Fr h₀ L h' m → News h₀ L h' ((D, listOf vs.toArray k) :: rest) → Q .next { s with heap := h', toks := tk }) : wpAny M A t Q E s :=
  wpAny_mono h (by rintro f s' ⟨rfl, h', tk, vs, n, rfl, S, F, N⟩; exact k h' tk vs n S F N) fun _ _ e => e

def MidK (s : Shared) (h₀ : Heap) (L : Addr) (m : Str → Option Value) (led : Led) (f : Flow) (s' : Shared) : Prop :=
  f = .next ∧ ∃ h' tk, s' = { s with heap := h', toks := tk } ∧ Fr h₀ L h' m ∧ News h₀ L h' led
theorem MidK.intro {s : Shared} {L : Addr} {m : Str → Option Value} {led all : Led} {h' : Heap} {tk : Nat} (F : Fr h₀ L h' m) (N : News h₀ L h' all) (hn : ∀ p ∈ led, p ∈ all) :
    MidK s h₀ L m led .next { s with heap := h', toks := tk } := ⟨rfl, h', tk, rfl, F, fun p hp => N p (hn p hp)⟩
theorem mid_keep {M : Model} {L : Addr} {m : Str → Option Value} {led : Led} {t : Sem Flow} (_ : Fr h₀ L s.heap m) (_ : News h₀ L s.heap led) (h : wpAny M A t (MidK s h₀ L m led) E s)
    (k : ∀ h' tk, Fr h₀ L h' m → News h₀ L h' led → Q .next { s with heap := h', toks := tk }) : wpAny M A t Q E s :=
  wpAny_mono h (by rintro f s' ⟨rfl, h', tk, rfl, F, N⟩; exact k h' tk F N) fun _ _ e => e

def MidT (s : Shared) (h₀ : Heap) (L : Addr) (y : Str) (m : Str → Option Value) (led : Led) (x : Str) (f : Flow) (s' : Shared) : Prop :=
  f = .next ∧ ∃ h' tk t, s' = { s with heap := h', toks := tk } ∧ Fr h₀ L h' (fun z => if z = y then some (.str x t) else m z) ∧ News h₀ L h' led
theorem MidT.intro {s : Shared} {L : Addr} {y : Str} {m : Str → Option Value} {led all : Led} {x : Str} {h' : Heap} {tk : Nat} {t : Tok} (F : Fr h₀ L h' (fun z => if z = y then some (.str x t) else m z)) (N : News h₀ L h' all) (hn : ∀ p ∈ led, p ∈ all) :
    MidT s h₀ L y m led x .next { s with heap := h', toks := tk } := ⟨rfl, h', tk, t, rfl, F, fun p hp => N p (hn p hp)⟩
theorem MidT.again {s : Shared} {L : Addr} {y : Str} {m : Str → Option Value} {led all : Led} {x : Str} {v : Option Value} {h' : Heap} {tk : Nat} {t : Tok} (F : Fr h₀ L h' (fun z => if z = y then some (.str x t) else if z = y then v else m z)) (N : News h₀ L h' all) (hn : ∀ p ∈ led, p ∈ all) :
    MidT s h₀ L y m led x .next { s with heap := h', toks := tk } := by
  refine MidT.intro (t := t) ?_ N hn
  have e : (fun z => if z = y then some (Value.str x t) else if z = y then v else m z) = fun z => if z = y then some (Value.str x t) else m z := by
    funext z; by_cases h : z = y <;> simp [h]
  rw [e] at F; exact F
theorem mid_text {M : Model} {L : Addr} {y : Str} {v : Option Value} {m : Str → Option Value} {led : Led} {t : Sem Flow} (x : Str) (_ : Fr h₀ L s.heap (fun z => if z = y then v else m z)) (_ : News h₀ L s.heap led) (h : wpAny M A t (MidT s h₀ L y m led x) E s)
    (k : ∀ h' tk t, Fr h₀ L h' (fun z => if z = y then some (.str x t) else m z) → News h₀ L h' led → Q .next { s with heap := h', toks := tk }) : wpAny M A t Q E s :=
  wpAny_mono h (by rintro f s' ⟨rfl, h', tk, u, rfl, F, N⟩; exact k h' tk u F N) fun _ _ e => e

/-- the loop that notes the places of the joints -/
abbrev PlSt := Int × Nat × List Value × List Int × Nat
abbrev placesLed (ax : Addr) (vs : List Value) (n : Nat) (pl : Addr) (rest : Led) : PlSt → Led := fun c => (ax, listOf vs.toArray n) :: (pl, listOf c.2.2.1.toArray c.2.2.2.2) :: rest
abbrev placesPs : PlSt → List (Str × Value) := fun c => [(Str.ofString "at", .int c.1 c.2.1)]
theorem places_loop {ax pl : Addr} {vs : List Value} {us : List Str} {n k0 : Nat} {m₀ : Str → Option Value} {rest : Led} {a₀ : Int} {t₀ : Tok} (P : List Str → Int → List Int → Prop)
    (hh : A.handled = none) (F : Fr h₀ env.locals s.heap m₀) (N : News h₀ env.locals s.heap ((ax, listOf vs.toArray n) :: (pl, listOf (List.toArray []) k0) :: rest)) (hs : StrsAre vs us) (hat : m₀ (Str.ofString "at") = some (.int a₀ t₀)) (hp : P [] a₀ [])
    (turn : ∀ (a : Int) (ta : Tok) (ps : List Value) (ns : List Int) (k : Nat) (pre : List Str) (y : Str) (post : List Str) (t : Tok) (u : Str → Option Value) (I : Addr) (it : Obj) (h : Heap) (tk : Nat), us = pre ++ y :: post →
      (∀ p ∈ (ax, listOf vs.toArray n) :: (pl, listOf (List.toArray []) k0) :: rest, p.1 < I) → it.cls = .type "list_iterator" → IntsAre ps ns → P pre a ns →
      Fr h₀ env.locals h (fun z => if z = x then some (.str y t) else if z = Str.ofString "at" then some (.int a ta) else m₀ z) → News h₀ env.locals h ((I, it) :: (ax, listOf vs.toArray n) :: (pl, listOf ps.toArray k) :: rest) →
      wpAny (model prog w) A (execs body env) (UnrPost h₀ env.locals { s with heap := h, toks := tk } I it (fun m' n' => (ax, listOf vs.toArray n) ∈ n' ∧ StrSt (placesLed ax vs n pl rest) placesPs (fun c => IntsAre c.2.2.1 c.2.2.2.1) x [] m₀ (fun pre c => P pre c.1 c.2.2.2.1) (pre ++ [y]) m' n') Q) E { s with heap := h, toks := tk })
    (done : ∀ (a : Int) (ta : Tok) (ps : List Value) (ns : List Int) (k : Nat) (u : Str → Option Value) (h : Heap) (tk : Nat), IntsAre ps ns → P us a ns →
      Fr h₀ env.locals h (fun y => if y = x then u y else if y = Str.ofString "at" then some (.int a ta) else m₀ y) → News h₀ env.locals h ((ax, listOf vs.toArray n) :: (pl, listOf ps.toArray k) :: rest) → Q .next { s with heap := h, toks := tk }) :
    wpAny (model prog w) A (pyIter (.ref ax)) (fun it s₂ => LoopAtV prog w A h₀ env x body Q E it s₂) E s := by
  refine strs_loop (placesLed ax vs n pl rest) placesPs (fun c => IntsAre c.2.2.1 c.2.2.2.1) [] (fun pre c => P pre c.1 c.2.2.2.1) (a₀, t₀, [], [], k0) hh F N (.head _) hs .nil ?_ hp ?_ ?_
  · intro p hp
    rw [List.mem_singleton.mp hp]
    exact hat
  · rintro ⟨a, ta, ps, ns, k⟩ pre y post t u I it h tk e hI hit hf hP F₁ N₁
    exact turn a ta ps ns k pre y post t u I it h tk e hI hit hf hP F₁ N₁
  · rintro ⟨a, ta, ps, ns, k⟩ u h tk hf hP F₁ N₁
    exact done a ta ps ns k u h tk hf hP F₁ N₁
theorem places_end {x : Str} {m₀ m' : Str → Option Value} {P : List Str → Int → List Int → Prop} {pre : List Str} {ax pl : Addr} {vs ps : List Value} {n k : Nat} {rest : Led} {a : Int} {ta : Tok} {ns : List Int} (hi : IntsAre ps ns) (hat : m' (Str.ofString "at") = some (.int a ta))
    (hsame : ∀ z, z ≠ x → z ≠ Str.ofString "at" → m' z = m₀ z) (hP : P pre a ns) :
    StrSt (placesLed ax vs n pl rest) placesPs (fun c => IntsAre c.2.2.1 c.2.2.2.1) x [] m₀ (fun pre c => P pre c.1 c.2.2.2.1) pre m' ((ax, listOf vs.toArray n) :: (pl, listOf ps.toArray k) :: rest) := by
  refine ⟨(a, ta, ps, ns, k), rfl, hi, ?_, ?_, hP⟩
  · intro p hp
    rw [List.mem_singleton.mp hp]
    exact hat
  · intro z h1 h2 _
    exact hsame z h1 (h2 (Str.ofString "at", .int a ta) (.head _))
end
end Mine

namespace Mine
set_option maxRecDepth 100000
set_option maxHeartbeats 8000000
local macro_rules | `(tactic| k_memK) => `(tactic| first | with_reducible assumption | with_reducible exact List.mem_cons_self | ((with_reducible refine List.mem_cons_of_mem _ ?_); k_memK) | ((with_reducible refine List.mem_append.mpr (.inl ?_)); k_memK) | ((with_reducible refine List.mem_append.mpr (.inr ?_)); k_memK) | fail "k_memK: none")
local macro_rules | `(tactic| walk_at "call ref") => `(tactic| refine Stop.at ?_)
local macro_rules | `(tactic| walk_at "pyIter ref") => `(tactic| refine Stop.at ?_)
local macro_rules | `(tactic| walk_at "compareOp NotEq ref ref") => `(tactic| refine Stop.at ?_)
local macro_rules | `(tactic| kst_facts1) => `(tactic| first | exact True.intro | with_reducible assumption | exact PyProof.Rows.StrsAre.nil | exact PyProof.Rows.IntsAre.nil | exact PyProof.Rows.StrsAre.append' (by with_reducible assumption) (.cons _ _ .nil) | exact PyProof.Rows.IntsAre.append (by with_reducible assumption) (.cons _ _ .nil) | fail "facts")

/-- a pair of joiners comes back, told by what is known of them -/
abbrev RetJ2 (news : Led) (h₀ : Heap) (L : Addr) (m : Str → Option Value) (s : Shared) (Q : Value → Shared → Prop) : Prop :=
  ∀ (x y : Str) (b : Addr) (t u : Tok) (n : Nat) (h' : Heap) (tk' : Nat), JoinerOk x → JoinerOk y → Fr h₀ L h' m → News h₀ L h' ((b, { cls := .type "tuple", data := .seq #[.str x t, .str y u] n }) :: news) → (∀ p ∈ news, p.1 < b) → Q (.ref b) { s with heap := h', toks := tk' }
theorem law_joiners_ok2 (news : Led) (l : Addr) (vs : List Value) (ns : List Int) : CallsS 1 137 news l vs ns (RetJ2 news) :=
  fun B F X N T hk hd hu hl hi hn hret => law_joiners_ok news l vs ns B F X N T hk hd hu hl hi hn fun k b t u n h' tk' _ F' N' l' => hret (J k) (J (k + 1)) b t u n h' tk' (J_ok k) (J_ok (k + 1)) F' N' l'

local macro_rules | `(tactic| walk_at "exec If") => `(tactic| ((with_reducible rename StopIf => hSI9); refine Stop.at ?_))
local macro_rules | `(tactic| walk_at "exec For Name Subscript cons nil") => `(tactic| (k_here; (rename Fr _ _ _ _ => lF'); (with_unfolding_all refine' For_invVF lF' ?k1 ?k2 ?_; (case k1 => exact rfl); (case k2 => exact rfl); k_whole)))
theorem lay_one {x : Str} (h : ∀ c ∈ ts x, c ∈ signs8) : ∀ y ∈ [x], y.cps.all (· < 0x110000) = true := fun y hy => by rw [List.mem_singleton.mp hy]; exact lay_ok h
theorem lay_words {ws : List Str} (h : ∀ x ∈ ws, WordOk x) : ∀ y ∈ ws, y.cps.all (· < 0x110000) = true := fun y hy => lay_ok (letters_signs (h y hy).2)
theorem lay_none : ∀ y ∈ ([] : List Str), y.cps.all (· < 0x110000) = true := fun _ hy => nomatch hy
theorem dropE_nil {ws : List Str} (h : ws = []) : dropE ws = ws := by rw [h]; rfl
theorem due_ne {one due : Str} {ws : List Str} (h : Str.join one ws = due) (hd : (due != Str.ofString "") = true) : ws ≠ [] := by
  rintro rfl
  rw [← h, none_is] at hd
  exact absurd hd (by show ¬ ((Str.empty != Str.empty) = true); decide)
theorem mem_drop {ws : List Str} {y : Str} (h : y ∈ dropE ws) : y ∈ ws := by
  unfold dropE at h
  split at h
  · exact (List.dropLast_sublist _).subset h
  · exact h
theorem lay_drop {ws : List Str} (h : ∀ x ∈ ws, WordOk x) : ∀ y ∈ dropE ws, y.cps.all (· < 0x110000) = true := fun y hy => lay_words h y (mem_drop hy)
def PlaceP (w : Nat) (pre : List Str) (a : Int) (pl : List Int) : Prop := a = placesAt w 1 pre ∧ pl = placesF w 1 pre
theorem placesF_len (w : Int) : ∀ (l : List Str) (a : Int), (placesF w a l).length = l.length
  | [], _ => rfl
  | x :: r, a => by show (placesF w (a + x.length + w) r).length + 1 = _; rw [placesF_len w r]; rfl
theorem PlaceP.len {w : Nat} {pre : List Str} {a : Int} {pl : List Int} (h : PlaceP w pre a pl) : pl.length = pre.length := by rw [h.2, placesF_len]
theorem PlaceP.turn {w : Nat} {pre : List Str} {a : Int} {pl : List Int} {y : Str} (h : PlaceP w pre a pl) : PlaceP w (pre ++ [y]) (a + y.length + w) (pl ++ [a + y.length]) := by
  obtain ⟨h1, h2⟩ := places_snoc w y pre 1
  refine ⟨?_, ?_⟩
  · rw [h2, h.1]
  · rw [h1, h.2, h.1]
theorem places_eq {one : Str} {ws : List Str} {a : Int} {pl : List Int} (h : PlaceP one.length ws.dropLast a pl) : (cutsI one ws).map (· + 1) = pl := by
  rw [h.2]
  exact (places_cuts one.length ws 0).symm
theorem first_short {one other : Str} {ws : List Str} (h : ¬ 1 < ws.length) : firstF one other ws = Str.join one ws := by
  cases ws with
  | nil => rfl
  | cons x r => cases r with
    | nil => rfl
    | cons y r => simp only [List.length_cons] at h; omega
theorem first_long {one other : Str} {ws : List Str} (h : 1 < ws.length) : ws.getD (Int.toNat 0) Str.empty ++ other ++ Str.join one (ws.drop 1) = firstF one other ws := by
  cases ws with
  | nil => simp only [List.length_nil] at h; omega
  | cons x r => cases r with
    | nil => simp only [List.length_cons, List.length_nil] at h; omega
    | cons y r => rfl
theorem z_len : (Str.ofString "Z").length = 1 := by decide +kernel
theorem not_self (x : Str) : (x != x) = false := by simp [bne]

theorem law_holds : PySem.Challenge.rw_ov0045_01.Holds := hd (by
  w_strict (
    k_go0
    (all_goals try k_fold)
    have kMark := kstMark
    k_with_none
    k_steps
    refine Stop.go ?_
    (k_dflt (refine' law_joiners_ok2 _ _ _ _ ?k1x1 ?k2x1 ?k3x1 ?k4x1 ?k5x1 ?kKx1 ?kdx1 ?kux1 ?klx1 ?kix1 ?knx1 ?_))
    case k1x1 => k_asm
    case k2x1 => k_asm
    case k3x1 => k_asm
    case k4x1 => k_asm
    case k5x1 => k_asm
    case kKx1 => first | exact rfl | assumption
    case kdx1 => ktr_room
    case kux1 => ktr_units
    case klx1 => k_asm
    case kix1 => k_asm
    case knx1 => omega
    intro one other b1 t1 u1 n1 h1 tk1 ho1 ho2 F1 N1 l1
    (try dsimp only)
    (try k_fold)
    have ho1a := ho1.one
    have ho1b := ho1.two
    have ho2b := ho2.two
    k_steps
    refine Stop.go ?_
    (k_dflt (refine' law_words_ok _ _ _ _ ?k1x2 ?k2x2 ?k3x2 ?k4x2 ?k5x2 ?kKx2 ?kdx2 ?kux2 ?klx2 ?kix2 ?knx2 ?_))
    case k1x2 => k_asm
    case k2x2 => k_asm
    case k3x2 => k_asm
    case k4x2 => k_asm
    case k5x2 => k_asm
    case kKx2 => first | exact rfl | assumption
    case kdx2 => ktr_room
    case kux2 => ktr_units
    case klx2 => k_asm
    case kix2 => k_asm
    case knx2 => omega
    intro ws b2 vs2 k2 h2 tk2 hW S2 F2 N2 l2
    (try dsimp only)
    (try k_fold)
    k_lt l2
    have hW1 : ws.length ≤ 8 := hW.1
    have hw6 : ∀ x ∈ ws, x.length ≤ 6 := fun x hx => (hW.2 x hx).1
    obtain ⟨due, hdue⟩ : ∃ d, Str.join one ws = d := ⟨_, rfl⟩
    k_steps
    refine Stop.go ?_
    (k_dflt (refine' law_joined_ok _ _ _ _ _ _ _ ?m1x3 S2 hW1 ho1b hw6 ?k1x3 ?k2x3 ?k3x3 ?k4x3 ?k5x3 ?kKx3 ?kdx3 ?kux3 ?_))
    case k1x3 => k_asm
    case k2x3 => k_asm
    case k3x3 => k_asm
    case k4x3 => k_asm
    case k5x3 => k_asm
    case m1x3 => k_memK
    case kKx3 => first | exact rfl | assumption
    case kdx3 => ktr_room
    case kux3 => ktr_units
    intro t3 h3 tk3 F3 N3
    (try dsimp only)
    rw [hdue]
    (try k_fold)
    k_steps
    refine Stop.go ?_
    (k_dflt (refine' paste_vectors_ok _ _ _ _ _ _ _ _ _ _ ?m1x4 ?m2x4 S2 (by omega) hw6 ho1b ?k1x4 ?k2x4 ?k3x4 ?k4x4 ?k5x4 ?kKx4 ?kdx4 ?kux4 ?_))
    case k1x4 => k_asm
    case k2x4 => k_asm
    case k3x4 => k_asm
    case k4x4 => k_asm
    case k5x4 => k_asm
    case m1x4 => k_memK
    case m2x4 => k_memK
    case kKx4 => first | exact rfl | assumption
    case kdx4 => ktr_room
    case kux4 => ktr_units
    intro b4 vs4 k4 h4 tk4 S4 F4 N4 l4
    (try dsimp only)
    (try k_fold)
    k_lt l4
    rw [hdue] at S4
    k_steps
    refine Stop.go ?_
    have hds : ∀ c ∈ ts due, c ∈ signs8 := by rw [← hdue]; exact join_signs ho1.signs ws hW.2
    have hdl : due.length ≤ 64 := by rw [← hdue]; have := join_len ho1b ws hW.2; omega
    refine my_neS (ledList (by assumption) (by k_memK)) (ledList (by assumption) (by k_memK)) S4 (.cons _ _ .nil) (lay_one hds) (lay_one hds) (by ke_room) ?_
    rw [show (!decide ([due] = [due])) = false from by simp]
    have hv2 : vs2.length = ws.length := S2.len_eq
    (k_with "call type:list" => refine my_copy (by assumption) (by assumption) (by k_memK) (by omega) ?_; (intro D9 c9 h9 F9 N9 l9); k_lt l9)
    have hSI := stopIf
    k_steps
    refine Stop.go ?_
    (with_reducible rename StopIf => hSJ); clear hSJ
    refine mid_list (dropE ws) (by assumption) (by assumption) ?_ ?_
    · by_cases hws : ws = []
      · k_steps
        refine Stop.go ?_
        refine my_neS (ledList (by assumption) (by k_memK)) (ledList (by assumption) (by k_memK)) S2 .nil (lay_words hW.2) lay_none (by ke_room) ?_
        rw [show (!decide (ws = [])) = false from by simp [hws]]
        k_steps
        exact MidL.intro (strs_eq S2 (dropE_nil hws).symm) (by assumption) (by assumption) (fun _ h => .tail _ h)
      · obtain ⟨p6, z6, t6, q6, hvs6, hws6, S6⟩ := strs_snoc S2 hws
        subst hvs6
        have f6 : p6.length < 900 := by rw [hws6, List.length_append, List.length_singleton] at hW1; have := S6.len_eq; omega
        (k_with "subscriptTail Name UnaryOp ref int" => refine my_back (by assumption) (by k_memK) (by omega) ?_)
        (k_with "call builtin:list.pop" => k_dflt (refine' my_pop ?F ?N ?U ?f ?_; (case F => k_asm); (case N => k_asm); (case U => k_upd); (case f => omega)); (intro h8 F8 N8))
        k_steps
        refine Stop.go ?_
        refine my_neS (ledList (by assumption) (by k_memK)) (ledList (by assumption) (by k_memK)) S2 .nil (lay_words hW.2) lay_none (by ke_room) ?_
        rw [show (!decide (ws = [])) = true from by simp [hws]]
        k_steps
        · exact MidL.intro (strs_eq S6 ((congrArg dropE hws6).trans (dropE_pos (by assumption))).symm) (by assumption) (by assumption) (fun _ h => .tail _ h)
        · exact MidL.intro (strs_eq S2 ((congrArg dropE hws6).trans ((dropE_neg (by assumption)).trans hws6.symm)).symm) (by assumption) (by assumption) (fun _ h => .tail _ h)
    intro h5 tk5 vs5 k5 S5 F5 N5
    have hSI := stopIf
    (try dsimp only)
    k_steps
    refine Stop.go ?_
    (with_reducible rename StopIf => hSJ); clear hSJ
    refine mid_keep (by assumption) (by assumption) ?_ ?_
    · k_steps
      · have hne : ws ≠ [] := due_ne hdue (by assumption)
        refine Stop.go ?_
        (k_dflt (refine' split_fixed_ok _ _ _ _ _ ws (by omega) ho1.len0 ho1.not_none (by rw [← hdue]; exact law_split ho1 hW.2 hne) hne (by omega) ?k1x5 ?k2x5 ?k3x5 ?k4x5 ?k5x5 ?kKx5 ?kdx5 ?kux5 ?_))
        case k1x5 => k_asm
        case k2x5 => k_asm
        case k3x5 => k_asm
        case k4x5 => k_asm
        case k5x5 => k_asm
        case kKx5 => first | exact rfl | assumption
        case kdx5 => ktr_room
        case kux5 => ktr_units
        intro b7 vs7 k7 h7 tk7 S7 F7 N7 l7
        (try dsimp only)
        (try k_fold)
        k_lt l7
        k_steps
        refine Stop.go ?_
        refine my_neS (ledList (by assumption) (by k_memK)) (ledList (by assumption) (by k_memK)) S7 S5 (lay_drop hW.2) (lay_drop hW.2) (by ke_room) ?_
        rw [show (!decide (dropE ws = dropE ws)) = false from by simp]
        k_steps
        exact MidK.intro (by assumption) (by assumption) (fun _ h => .tail _ h)
      · exact MidK.intro (by assumption) (by assumption) (fun _ h => h)
    intro h6 tk6 F6 N6
    (try dsimp only)
    (k_with "subscriptTail Name Slice ref ref" => k_dflt (refine' my_sliceInit ?F ?N ?m ?z ?s ?t ?_; (case F => k_asm); (case N => k_asm); (case m => k_memK); (case z => omega); (case s => with_unfolding_all rfl); (case t => kmk_pure)); (intro D7 h7 F7 N7 l7); k_lt l7)
    k_steps
    refine Stop.go ?_
    refine places_loop (us := ws.dropLast) (PlaceP one.length) rfl (by assumption) (by assumption) (strs_dropLast S2) (by with_unfolding_all rfl) ⟨rfl, rfl⟩ ?_ ?_
    · intro a ta ps ns k pre y post t u I it h tk e hI hit hi hP F8 N8
      k_lt hI
      have hy6 : y.length ≤ 6 := hw6 y ((List.dropLast_sublist _).subset (by rw [e]; simp))
      have hns : ns.length ≤ 8 := by
        have e1 := congrArg List.length e
        rw [List.length_dropLast, List.length_append] at e1
        have := hP.len
        omega
      have hps : ps.length = ns.length := hi.length
      k_steps
      simp only [List.push_toArray]
      exact places_end (PyProof.Rows.IntsAre.append hi (.cons _ _ .nil)) (by with_unfolding_all rfl) (by intro z h1 h2; simp only [h1, h2, if_false]) hP.turn
    intro a8 ta8 ps8 ns8 k8 u8 h8 tk8 I8 P8 F8 N8
    (try dsimp only)
    have hcut : CutAt due one (Txt.find due one) (cutsI one ws) := by rw [← hdue]; exact law_cut ho1 hW.2
    have hcl : (cutsI one ws).length ≤ 900 := cutsI_len hW1
    k_steps
    refine Stop.go ?_
    (k_dflt (refine' find_fixed_ok _ _ _ _ _ _ (by omega) ho1b ho1.not_none hcut hcl ?k1x6 ?k2x6 ?k3x6 ?k4x6 ?k5x6 ?kKx6 ?kdx6 ?kux6 ?_))
    case k1x6 => k_asm
    case k2x6 => k_asm
    case k3x6 => k_asm
    case k4x6 => k_asm
    case k5x6 => k_asm
    case kKx6 => first | exact rfl | assumption
    case kdx6 => ktr_room
    case kux6 => ktr_units
    intro b10 vs10 k10 h10 tk10 I10 F10 N10 l10
    (try dsimp only)
    (try k_fold)
    k_lt l10
    k_steps
    refine Stop.go ?_
    refine ke_ne_ints (ledList (by assumption) (by k_memK)) (ledList (by assumption) (by k_memK)) I10 I8 (by ke_room) ?_
    rw [show (!decide ((cutsI one ws).map (· + 1) = ns8)) = false from by rw [decide_eq_true (places_eq P8)]; rfl]
    obtain ⟨due2, hdue2⟩ : ∃ d, Str.join other ws = d := ⟨_, rfl⟩
    have hn2 := not_self due2
    k_steps
    refine Stop.go ?_
    (k_dflt (refine' sub_fixed_all_ok _ _ _ _ _ _ _ _ (by omega) ho1b ho2b ho1.not_none hcut hcl ?k1x7 ?k2x7 ?k3x7 ?k4x7 ?k5x7 ?kKx7 ?kdx7 ?kux7 ?_))
    case k1x7 => k_asm
    case k2x7 => k_asm
    case k3x7 => k_asm
    case k4x7 => k_asm
    case k5x7 => k_asm
    case kKx7 => first | exact rfl | assumption
    case kdx7 => ktr_room
    case kux7 => ktr_units
    intro t11 h11 tk11 F11 N11
    (try dsimp only)
    rw [show Str.join (Str.ofString "") (subParts due one other 0 (cutsI one ws)) = due2 from by rw [← hdue, ← hdue2]; exact law_sub_all]
    (try k_fold)
    k_steps
    refine Stop.go ?_
    (k_dflt (refine' law_joined_ok _ _ _ _ _ _ _ ?m1x8 S2 hW1 ho2b hw6 ?k1x8 ?k2x8 ?k3x8 ?k4x8 ?k5x8 ?kKx8 ?kdx8 ?kux8 ?_))
    case k1x8 => k_asm
    case k2x8 => k_asm
    case k3x8 => k_asm
    case k4x8 => k_asm
    case k5x8 => k_asm
    case m1x8 => k_memK
    case kKx8 => first | exact rfl | assumption
    case kdx8 => ktr_room
    case kux8 => ktr_units
    intro t12 h12 tk12 F12 N12
    (try dsimp only)
    rw [hdue2]
    (try k_fold)
    (k_with "call builtin:len" => refine my_len (by assumption) (by k_memK) S2 (by omega) ?_)
    have hSI := stopIf
    k_steps
    refine Stop.go ?_
    (with_reducible rename StopIf => hSJ); clear hSJ
    refine mid_text (firstF one other ws) (by assumption) (by assumption) ?_ ?_
    · by_cases hlen : 1 < ws.length
      · (k_with "subscriptTail Name Constant ref int" => refine my_item (by assumption) (by k_memK) S2 (by decide) (by omega) (by omega) ?_; (intro t13 hm13; have hl13 := hw6 _ hm13))
        (k_with "subscriptTail Name Slice ref ref" => k_dflt (refine' my_sliceTail ?F ?N ?m ?z ?s ?t ?_; (case F => k_asm); (case N => k_asm); (case m => k_memK); (case z => omega); (case s => with_unfolding_all rfl); (case t => kmk_pure)); (intro D14 h14 F14 N14 l14); k_lt l14)
        obtain ⟨tl, htl⟩ : ∃ d, Str.join one (ws.drop 1) = d := ⟨_, rfl⟩
        have htll : tl.length ≤ 64 := by
          have := join_len ho1b (ws.drop 1) fun z hz => hW.2 z (List.mem_of_mem_drop hz)
          rw [htl, List.length_drop] at this
          omega
        have hd1 : (ws.drop 1).length ≤ 8 := by rw [List.length_drop]; omega
        k_steps
        refine Stop.go ?_
        (k_dflt (refine' law_joined_ok _ _ _ _ _ _ _ ?m1x9 (strs_drop1 S2) hd1 ho1b (fun z hz => hw6 z (List.mem_of_mem_drop hz)) ?k1x9 ?k2x9 ?k3x9 ?k4x9 ?k5x9 ?kKx9 ?kdx9 ?kux9 ?_))
        case k1x9 => k_asm
        case k2x9 => k_asm
        case k3x9 => k_asm
        case k4x9 => k_asm
        case k5x9 => k_asm
        case m1x9 => k_memK
        case kKx9 => first | exact rfl | assumption
        case kdx9 => ktr_room
        case kux9 => ktr_units
        intro t16 h16 tk16 F16 N16
        (try dsimp only)
        rw [htl]
        (try k_fold)
        k_steps
        have e13 : firstF one other ws = ws.getD (Int.toNat 0) Str.empty ++ other ++ tl := by rw [← htl, first_long hlen]
        rw [e13]
        exact MidT.again (by assumption) (by assumption) (fun _ h => .tail _ h)
      · k_steps
        rw [first_short hlen, hdue]
        exact MidT.intro (by assumption) (by assumption) (fun _ h => h)
    intro h15 tk15 t15 F15 N15
    (try dsimp only)
    obtain ⟨fst9, hfst9⟩ : ∃ d, firstF one other ws = d := ⟨_, rfl⟩
    rw [hfst9] at F15
    have hn3 := not_self fst9
    have hn4 := not_self due
    k_steps
    refine Stop.go ?_
    (k_dflt (refine' sub_fixed_one_ok _ _ _ _ _ _ _ _ (by omega) ho1b ho2b ho1.not_none hcut hcl ?k1x10 ?k2x10 ?k3x10 ?k4x10 ?k5x10 ?kKx10 ?kdx10 ?kux10 ?_))
    case k1x10 => k_asm
    case k2x10 => k_asm
    case k3x10 => k_asm
    case k4x10 => k_asm
    case k5x10 => k_asm
    case kKx10 => first | exact rfl | assumption
    case kdx10 => ktr_room
    case kux10 => ktr_units
    intro t17 h17 tk17 F17 N17
    (try dsimp only)
    rw [show Str.join (Str.ofString "") (subParts due one other 0 ((cutsI one ws).take 1)) = fst9 from by rw [← hdue, ← hfst9]; exact law_sub_one]
    (try k_fold)
    k_steps
    refine Stop.go ?_
    (k_dflt (refine' rev_text_ok _ _ _ (by omega) ?k1x11 ?k2x11 ?k3x11 ?k4x11 ?k5x11 ?kKx11 ?kdx11 ?kux11 ?_))
    case k1x11 => k_asm
    case k2x11 => k_asm
    case k3x11 => k_asm
    case k4x11 => k_asm
    case k5x11 => k_asm
    case kKx11 => first | exact rfl | assumption
    case kdx11 => ktr_room
    case kux11 => ktr_units
    intro t18 h18 tk18 F18 N18
    (try dsimp only)
    (try k_fold)
    k_steps
    refine Stop.go ?_
    (k_dflt (refine' rev_text_ok _ _ _ (by rw [rev_len]; omega) ?k1x12 ?k2x12 ?k3x12 ?k4x12 ?k5x12 ?kKx12 ?kdx12 ?kux12 ?_))
    case k1x12 => k_asm
    case k2x12 => k_asm
    case k3x12 => k_asm
    case k4x12 => k_asm
    case k5x12 => k_asm
    case kKx12 => first | exact rfl | assumption
    case kdx12 => ktr_room
    case kux12 => ktr_units
    intro t19 h19 tk19 F19 N19
    (try dsimp only)
    rw [rev_rev]
    (try k_fold)
    k_steps
    refine Stop.go ?_
    (k_dflt (refine' to_upper_ok _ _ _ (by omega) ?k1x13 ?k2x13 ?k3x13 ?k4x13 ?k5x13 ?kKx13 ?kdx13 ?kux13 ?_))
    case k1x13 => k_asm
    case k2x13 => k_asm
    case k3x13 => k_asm
    case k4x13 => k_asm
    case k5x13 => k_asm
    case kKx13 => first | exact rfl | assumption
    case kdx13 => ktr_room
    case kux13 => ktr_units
    intro t20 h20 tk20 F20 N20
    (try dsimp only)
    (try k_fold)
    k_steps
    refine Stop.go ?_
    (k_dflt (refine' to_lower_ok _ _ _ (by rw [case_len]; omega) ?k1x14 ?k2x14 ?k3x14 ?k4x14 ?k5x14 ?kKx14 ?kdx14 ?kux14 ?_))
    case k1x14 => k_asm
    case k2x14 => k_asm
    case k3x14 => k_asm
    case k4x14 => k_asm
    case k5x14 => k_asm
    case kKx14 => first | exact rfl | assumption
    case kdx14 => ktr_room
    case kux14 => ktr_units
    intro t21 h21 tk21 F21 N21
    (try dsimp only)
    rw [case_back hds]
    (try k_fold)
    k_steps
    refine Stop.go ?_
    first | k_state (fun (_ : List Int) (_ : List Int) => True) "places"
    · have hc0 : 0 ≤ kN := by omega
      have hc1 : kN ≤ due.length := by omega
      have hA : (headF due kN ++ tailF due kN != due) = false := by rw [head_tail]; exact not_self due
      have hB : ((headF due kN).length : Int) = kN := head_len hc0 hc1
      have hC : ((tailF due kN).length : Int) = due.length - kN := tail_len hc0 hc1
      k_steps
      refine Stop.go ?_
      (k_dflt (refine' substr_of_ok _ _ _ _ _ _ _ (by omega) (by omega) ?k1x15 ?k2x15 ?k3x15 ?k4x15 ?k5x15 ?kKx15 ?kdx15 ?kux15 ?_))
      case k1x15 => k_asm
      case k2x15 => k_asm
      case k3x15 => k_asm
      case k4x15 => k_asm
      case k5x15 => k_asm
      case kKx15 => first | exact rfl | assumption
      case kdx15 => ktr_room
      case kux15 => ktr_units
      intro t31 h31 tk31 F31 N31
      (try dsimp only)
      rw [substr_head hc0 hc1]
      (try k_fold)
      k_steps
      refine Stop.go ?_
      (k_dflt (refine' substr_of_ok _ _ _ _ _ _ _ (by omega) (by omega) ?k1x16 ?k2x16 ?k3x16 ?k4x16 ?k5x16 ?kKx16 ?kdx16 ?kux16 ?_))
      case k1x16 => k_asm
      case k2x16 => k_asm
      case k3x16 => k_asm
      case k4x16 => k_asm
      case k5x16 => k_asm
      case kKx16 => first | exact rfl | assumption
      case kdx16 => ktr_room
      case kux16 => ktr_units
      intro t32 h32 tk32 F32 N32
      (try dsimp only)
      rw [substr_tail hc0 hc1]
      (try k_fold)
      k_steps
      refine Stop.go ?_
      (k_dflt (refine' starts_with_ok _ _ _ _ _ (by omega) (by omega) ?k1x17 ?k2x17 ?k3x17 ?k4x17 ?k5x17 ?kKx17 ?kdx17 ?kux17 ?_))
      case k1x17 => k_asm
      case k2x17 => k_asm
      case k3x17 => k_asm
      case k4x17 => k_asm
      case k5x17 => k_asm
      case kKx17 => first | exact rfl | assumption
      case kdx17 => ktr_room
      case kux17 => ktr_units
      intro t33 h33 tk33 F33 N33
      (try dsimp only)
      rw [starts_head hc0 hc1]
      (try k_fold)
      k_steps
      refine Stop.go ?_
      (k_dflt (refine' ends_with_ok _ _ _ _ _ (by omega) (by omega) ?k1x18 ?k2x18 ?k3x18 ?k4x18 ?k5x18 ?kKx18 ?kdx18 ?kux18 ?_))
      case k1x18 => k_asm
      case k2x18 => k_asm
      case k3x18 => k_asm
      case k4x18 => k_asm
      case k5x18 => k_asm
      case kKx18 => first | exact rfl | assumption
      case kdx18 => ktr_room
      case kux18 => ktr_units
      intro t34 h34 tk34 F34 N34
      (try dsimp only)
      rw [ends_tail hc0 hc1]
      (try k_fold)
      k_steps
      refine Stop.go ?_
      (k_dflt (refine' starts_with_ok _ _ _ _ _ (by omega) (by rw [Str.length_append, z_len]; omega) ?k1x19 ?k2x19 ?k3x19 ?k4x19 ?k5x19 ?kKx19 ?kdx19 ?kux19 ?_))
      case k1x19 => k_asm
      case k2x19 => k_asm
      case k3x19 => k_asm
      case k4x19 => k_asm
      case k5x19 => k_asm
      case kKx19 => first | exact rfl | assumption
      case kdx19 => ktr_room
      case kux19 => ktr_units
      intro t35 h35 tk35 F35 N35
      (try dsimp only)
      rw [starts_z hds hc0 hc1]
      (try k_fold)
      k_steps
    k_steps))
end Mine

theorem PySem.Challenge.cw_ov0045_01_holds : PySem.Challenge.rw_ov0045_01.Holds :=
  Mine.law_holds
