import PyProof.Rows.All
import Wide.All
import OpenK.AllK
import Wide.FinOn
import Lean
import PySem.Challenge.RW_or0019_01
open PySem PySem.W PySem.Calls PyProof.Rows PySem.Spec
set_option Elab.async false
set_option maxRecDepth 100000
set_option maxHeartbeats 8000000
open_top Mine.hd for PySem.Challenge.rw_or0019_01
namespace Mine

section
/-- strictly ascending -/
def Asc (ns : List Int) : Prop := ∀ i j (hi : i < ns.length) (hj : j < ns.length), i < j → ns[i] < ns[j]
def cnt (ns : List Int) (u : Int) : Nat := (ns.filter (fun x => decide (x < u))).length
def due (ns : List Int) (u : Int) : Int := if ns[cnt ns u]? = some u then (cnt ns u : Int) else -1

theorem cnt_eq : ∀ (ns : List Int) (u : Int) (c : Nat), c ≤ ns.length → (∀ i (h : i < ns.length), i < c → ns[i] < u) → (∀ i (h : i < ns.length), c ≤ i → u ≤ ns[i]) → cnt ns u = c := by
  intro ns
  induction ns with
  | nil => intro u c hc _ _; simp at hc; subst hc; rfl
  | cons x r ih =>
    intro u c hc h1 h2
    cases c with
    | zero =>
      have h0 : ¬ x < u := by have := h2 0 (by simp) (by omega); simp at this; omega
      have := ih u 0 (by omega) (fun i h hi => by omega) (fun i h _ => by have := h2 (i + 1) (by simp; omega) (by omega); simpa using this)
      unfold cnt at this ⊢
      rw [List.filter_cons_of_neg (by simpa using h0)]
      exact this
    | succ c =>
      have h0 : x < u := by have := h1 0 (by simp) (by omega); simpa using this
      have := ih u c (by simp at hc; omega) (fun i h hi => by have := h1 (i + 1) (by simp; omega) (by omega); simpa using this) (fun i h hi => by have := h2 (i + 1) (by simp; omega) (by omega); simpa using this)
      unfold cnt at this ⊢
      rw [List.filter_cons_of_pos (by simpa using h0), List.length_cons, this]

def Cut (ns : List Int) (u a b : Int) : Prop :=
  0 ≤ a ∧ a ≤ b ∧ b ≤ (ns.length : Int) ∧ (∀ i (h : i < ns.length), (i : Int) < a → ns[i] < u) ∧ (∀ i (h : i < ns.length), b ≤ (i : Int) → u ≤ ns[i])
theorem cut_start (ns : List Int) (u : Int) : Cut ns u 0 ns.length := ⟨by omega, by omega, by omega, fun i h hi => by omega, fun i h hi => by omega⟩
theorem asc_le {ns : List Int} (hA : Asc ns) {i j : Nat} (hi : i < ns.length) (hj : j < ns.length) (h : i ≤ j) : ns[i] ≤ ns[j] := by
  rcases Nat.lt_or_eq_of_le h with h | h
  · have := hA i j hi hj h; omega
  · subst h; omega
theorem cut_up {ns : List Int} {u a b k : Int} (hA : Asc ns) (h : Cut ns u a b) (ha : a ≤ k) (hb : k < b) (hk : k.toNat < ns.length) (hlt : ns[k.toNat] < u) : Cut ns u (k + 1) b := by
  obtain ⟨h0, h1, h2, h3, h4⟩ := h
  refine ⟨by omega, by omega, h2, fun i hi hik => ?_, h4⟩
  have := asc_le hA hi hk (by omega)
  omega
theorem cut_down {ns : List Int} {u a b k : Int} (hA : Asc ns) (h : Cut ns u a b) (ha : a ≤ k) (hb : k < b) (hk : k.toNat < ns.length) (hge : ¬ ns[k.toNat] < u) : Cut ns u a k := by
  obtain ⟨h0, h1, h2, h3, h4⟩ := h
  refine ⟨h0, ha, by omega, h3, fun i hi hik => ?_⟩
  have := asc_le hA hk hi (by omega)
  omega
theorem cut_cnt {ns : List Int} {u a b : Int} (h : Cut ns u a b) (e : ¬ a < b) : a = (cnt ns u : Int) := by
  obtain ⟨h0, h1, h2, h3, h4⟩ := h
  have := cnt_eq ns u a.toNat (by omega) (fun i hi hia => h3 i hi (by omega)) (fun i hi hia => h4 i hi (by omega))
  omega
theorem due_found {ns : List Int} {u a b : Int} (h : Cut ns u a b) (e : ¬ a < b) (hk : a.toNat < ns.length) (he : ns[a.toNat] = u) : due ns u = a := by
  have ha := cut_cnt h e
  unfold due
  have : cnt ns u = a.toNat := by omega
  rw [this, List.getElem?_eq_getElem hk, he, if_pos rfl]
  have := h.1; omega
theorem due_none {ns : List Int} {u a b : Int} (h : Cut ns u a b) (e : ¬ a < b) (hn : ∀ hk : a.toNat < ns.length, ns[a.toNat] ≠ u) : due ns u = -1 := by
  have ha := cut_cnt h e
  unfold due
  have : cnt ns u = a.toNat := by omega
  rw [this]
  by_cases hk : a.toNat < ns.length
  · rw [List.getElem?_eq_getElem hk, if_neg]
    intro q; exact hn hk (Option.some.inj q)
  · rw [List.getElem?_eq_none (by omega), if_neg (by simp)]
end

section
/-- what a letter's dict tells: its uid, its modseq -/
def LDict (P : Params) (u k : Int) (es : List DictEntry) : Prop :=
  ∃ (k1 k2 k3 k4 k5 tu tk : Tok) (v2 v3 v4 : Value), es = [⟨PyData.keyHash P (Str.ofString "uid"), .str (Str.ofString "uid") k1, .int u tu⟩, ⟨PyData.keyHash P (Str.ofString "octets"), .str (Str.ofString "octets") k2, v2⟩,
    ⟨PyData.keyHash P (Str.ofString "flags"), .str (Str.ofString "flags") k3, v3⟩, ⟨PyData.keyHash P (Str.ofString "instant"), .str (Str.ofString "instant") k4, v4⟩, ⟨PyData.keyHash P (Str.ofString "modseq"), .str (Str.ofString "modseq") k5, .int k tk⟩]
/-- the ledger bears a letter at v -/
def IsLet (P : Params) (news : List (Addr × Obj)) (v : Value) (u k : Int) : Prop :=
  ∃ (x d : Addr) (es : List DictEntry), v = .ref x ∧ (x, instObj 45 d) ∈ news ∧ (d, dictOf es 5) ∈ news ∧ LDict P u k es
def Letters (P : Params) (news : List (Addr × Obj)) (vs : List Value) (ns : List Int) (k₀ : Int) : Prop :=
  vs.length = ns.length ∧ ∀ i (h : i < ns.length) (h' : i < vs.length), IsLet P news vs[i] ns[i] (k₀ + i)
theorem IsLet.mono {P : Params} {news news' : List (Addr × Obj)} {v : Value} {u k : Int} (h : IsLet P news v u k) (hs : ∀ p ∈ news, p ∈ news') : IsLet P news' v u k := by
  obtain ⟨x, d, es, e, h1, h2, h3⟩ := h
  exact ⟨x, d, es, e, hs _ h1, hs _ h2, h3⟩
theorem Letters.mono {P : Params} {news news' : List (Addr × Obj)} {vs : List Value} {ns : List Int} {k₀ : Int} (h : Letters P news vs ns k₀) (hs : ∀ p ∈ news, p ∈ news') : Letters P news' vs ns k₀ :=
  ⟨h.1, fun i h1 h2 => (h.2 i h1 h2).mono hs⟩
theorem Letters.take {P : Params} {news : List (Addr × Obj)} {vs : List Value} {ns : List Int} {k₀ : Int} (h : Letters P news vs ns k₀) (c : Nat) : Letters P news (vs.take c) (ns.take c) k₀ := by
  refine ⟨by rw [List.length_take, List.length_take, h.1], fun i h1 h2 => ?_⟩
  rw [List.getElem_take, List.getElem_take]
  exact h.2 i _ _
theorem Letters.drop {P : Params} {news : List (Addr × Obj)} {vs : List Value} {ns : List Int} {k₀ : Int} (h : Letters P news vs ns k₀) (c : Nat) : Letters P news (vs.drop c) (ns.drop c) (k₀ + c) := by
  refine ⟨by rw [List.length_drop, List.length_drop, h.1], fun i h1 h2 => ?_⟩
  rw [List.getElem_drop, List.getElem_drop]
  have := h.2 (c + i) (by simp at h1; omega) (by simp at h2; omega)
  have e : k₀ + ((c + i : Nat) : Int) = k₀ + (c : Int) + (i : Int) := by omega
  rwa [e] at this
section
variable {prog : Program} {w : World} {A : Around} {E : Value → Shared → Prop} {s : Shared} {h₀ : Heap} {L l : Addr}
theorem item_letter {P : Params} {news nl : List (Addr × Obj)} {vs : List Value} {ns : List Int} {n : Nat} {k₀ k : Int} {u : Tok} {value slice : PySem.Expr} {Q : Value → Shared → Prop}
    (N : News h₀ L s.heap news) (hl : (l, W.listOf vs.toArray n) ∈ news) (hL : Letters P nl vs ns k₀) (h0 : 0 ≤ k) (hlt : k < (ns.length : Int)) (hsz : ns.length ≤ 14)
    (h : ∀ (x d : Addr) (k1 k2 k3 k4 k5 tu tk : Tok) (v2 v3 v4 : Value) (hk : k.toNat < ns.length), vs[k.toNat]? = some (.ref x) → (x, instObj 45 d) ∈ nl → (d, dictOf [⟨PyData.keyHash P (Str.ofString "uid"), .str (Str.ofString "uid") k1, .int ns[k.toNat] tu⟩, ⟨PyData.keyHash P (Str.ofString "octets"), .str (Str.ofString "octets") k2, v2⟩,
      ⟨PyData.keyHash P (Str.ofString "flags"), .str (Str.ofString "flags") k3, v3⟩, ⟨PyData.keyHash P (Str.ofString "instant"), .str (Str.ofString "instant") k4, v4⟩, ⟨PyData.keyHash P (Str.ofString "modseq"), .str (Str.ofString "modseq") k5, .int (k₀ + k) tk⟩] 5) ∈ nl → Q (.ref x) s)
    (hs : subscripted slice false (.ref l) (.int k u) = operate [.ref l, .int k u] (getItem (.ref l) (.int k u)) := by with_unfolding_all rfl) :
    wpAny (model prog w) A (subscriptTail value slice (.ref l) (.int k u)) Q E s := by
  have hlist : s.heap.IsList l vs.toArray := ⟨_, (N _ hl).1, rfl, n, rfl⟩
  have hk : k.toNat < ns.length := by omega
  have hk' : k.toNat < vs.length := by have := hL.1; omega
  obtain ⟨x, d, es, e, h1, h2, k1, k2, k3, k4, k5, tu, tk, v2, v3, v4, rfl⟩ := hL.2 k.toNat hk hk'
  have e2 : k₀ + ((k.toNat : Nat) : Int) = k₀ + k := by omega
  rw [e2] at h2
  have hv : vs[k.toNat]? = some (.ref x) := by rw [List.getElem?_eq_getElem hk', e]
  exact tail_any hlist.typeIs slot_list_getitem.lookup (wpAny_getItem_list hlist h0 (by omega) (by simpa using hv) (h x d k1 k2 k3 k4 k5 tu tk v2 v3 v4 hk hv h1 h2)) hs
theorem len_led {news : List (Addr × Obj)} {us : List Value} {k c : Nat} {Q : Value → Shared → Prop} (N : News h₀ L s.heap news) (hm : (l, W.listOf us.toArray c) ∈ news) (e : us.length = k) (hfit : k ≤ 64)
    (h : ∀ t tk, Q (.int (k : Int) t) { s with toks := tk }) : wpAny (model prog w) A (call (.builtin "len") [.ref l]) Q E s :=
  kst_len N hm e (by omega) (h _ _)
end
end

section
theorem cut_mid {ns : List Int} {u a b : Int} (h : Cut ns u a b) (hl : a < b) : a ≤ Int.fdiv (a + b) 2 ∧ Int.fdiv (a + b) 2 < b := by
  rw [Int.fdiv_eq_ediv_of_nonneg _ (by decide)]
  omega
theorem cut_mid0 {ns : List Int} {u a b : Int} (h : Cut ns u a b) (hl : a < b) : 0 ≤ Int.fdiv (a + b) 2 := by
  have := cut_mid h hl; have := h.1; omega
theorem cut_mid1 {ns : List Int} {u a b : Int} (h : Cut ns u a b) (hl : a < b) : Int.fdiv (a + b) 2 < (ns.length : Int) := by
  have := cut_mid h hl; have := h.2.2.1; omega
theorem cut_low {ns : List Int} {u a b : Int} (h : Cut ns u a b) : 0 ≤ a := h.1
theorem cut_upS {ns : List Int} {u a b : Int} (hA : Asc ns) (h : Cut ns u a b) (hl : a < b) {hk : (Int.fdiv (a + b) 2).toNat < ns.length} (hlt : ns[(Int.fdiv (a + b) 2).toNat] < u) : Cut ns u (Int.fdiv (a + b) 2 + 1) b :=
  cut_up hA h (cut_mid h hl).1 (cut_mid h hl).2 hk hlt
theorem cut_downS {ns : List Int} {u a b : Int} (hA : Asc ns) (h : Cut ns u a b) (hl : a < b) {hk : (Int.fdiv (a + b) 2).toNat < ns.length} (hlt : ¬ ns[(Int.fdiv (a + b) 2).toNat] < u) : Cut ns u a (Int.fdiv (a + b) 2) :=
  cut_down hA h (cut_mid h hl).1 (cut_mid h hl).2 hk hlt
theorem cut_m1 {ns : List Int} {u a b : Int} (h : Cut ns u a b) (hl : a < b) : (b - (Int.fdiv (a + b) 2 + 1)).toNat < (b - a).toNat := by
  have := cut_mid h hl; omega
theorem cut_m2 {ns : List Int} {u a b : Int} (h : Cut ns u a b) (hl : a < b) : (Int.fdiv (a + b) 2 - a).toNat < (b - a).toNat := by
  have := cut_mid h hl; omega
local macro_rules | `(tactic| k_mem) => `(tactic| assumption)
local macro_rules | `(tactic| walk_at "call builtin:len") => `(tactic| (k_here; (with_reducible show wpAny _ _ (call (Value.builtin "len") [Value.ref _]) _ _ _); k_dflt (refine' len_led ?k1 ?k2 ?k3 ?k4 ?_; (case k1 => k_asm); (case k2 => k_mem); (case k3 => assumption); (case k4 => omega); k_whole); intro t' tk'))
local macro_rules | `(tactic| walk_at "subscriptTail") => `(tactic| (k_here; (with_reducible show wpAny _ _ (subscriptTail _ _ (Value.ref _) (Value.int _ _)) _ _ _); k_dflt (refine' item_letter ?k1 ?k2 ?k3 ?k4 ?k5 ?k6 ?_ ?k7; (case k1 => k_asm); (case k2 => k_mem); (case k3 => assumption); (case k4 => first | exact cut_mid0 (by assumption) (by assumption) | exact cut_low (by assumption)); (case k5 => first | exact cut_mid1 (by assumption) (by assumption) | assumption); (case k6 => omega); (case k7 => with_unfolding_all rfl); k_whole); intro x' d' k1' k2' k3' k4' k5' tu' tk' v2' v3' v4' hk' hx' hm1' hm2'))

theorem place_call {w : World} {loose : List Str} {mean : ExcName → Option Value} {mg mb : Str → Option Value} {dp un : Nat} {gd : Option (List Code)} {cn : Str} {cs : Scope} {a : Addr} {ccd : Value} {cl : List (Str × Addr)} {outer : List Env} {A₀ : Around} {base h₀ : Heap} {L : Addr} {m : Str → Option Value} {s : Shared} {Q E : Value → Shared → Prop} {news nl : List (Addr × Obj)} {l : Addr} {n : Nat} {vs : List Value} {ns : List Int} {uid k₀ : Int} {tu : Tok}
    (B : Below A₀ base outer h₀) (F : Fr h₀ L s.heap m) (X : (hd.heap_39 w.params).In h₀) (N : News h₀ L s.heap news) (T : Top hd.view_39 loose mean mg mb h₀) (hk : cs.kind = .function)
    (hl : (l, W.listOf vs.toArray n) ∈ news) (hL : Letters w.params nl vs ns k₀) (hsub : ∀ p ∈ nl, p ∈ news) (hA : Asc ns) (hsz : ns.length ≤ 14)
    (hdp : dp + 1 < recursionLimit) (hun : un + 8 < cLine)
    (R : ∀ t h' tk', Fr h₀ L h' m → News h₀ L h' news → Q (.int (due ns uid) t) { s with heap := h', toks := tk' }) :
    wpAny (model PySem.Challenge.rw_or0019_01.row.prog w) (ktrTop dp un gd cn cs L a ccd cl outer) (call (.ref 94) [.ref l, .int uid tu]) Q E s := by
  w_top off
  revert X; k_fill; intro X
  replace hL := hL.mono hsub
  clear hsub
  have hlen := hL.1
  refine wpAny_call ?_
  k_dflt cell_enter
  k_with "exec While Compare cons nil" => k_while (fun _ low high => Cut ns uid low high) (fun _ low high => (high - low).toNat) "low" "high"
  k_with "state" => first | exact cut_start ns uid | exact cut_upS hA (by assumption) (by assumption) (by assumption) | exact cut_downS hA (by assumption) (by assumption) (by assumption)
  k_with "measure" => first | exact cut_m1 (by assumption) (by assumption) | exact cut_m2 (by assumption) (by assumption)
  k_steps
  all_goals (refine cb_retI R ?_ (by k_asm) (by first | k_asm | exact cb_drop (by assumption) (fun p hp => List.Mem.tail _ hp)))
  · exact (due_found (by assumption) (by assumption) (by assumption) (by assumption)).symm
  · exact (due_none (by assumption) (by assumption) (fun _ => by assumption)).symm
  · refine (due_none (by assumption) (by assumption) (fun hk => ?_)).symm
    exfalso; omega
end

section
local macro_rules | `(tactic| k_mem) => `(tactic| assumption)
local macro_rules | `(tactic| k_room) => `(tactic| ((try simp only [depth_under_make, depth_under_kw, depth_in1, depth_deeper, depth_caller]); (try dsimp only [ktrTop]); omega))
local macro_rules | `(tactic| walk_at "call type:tuple") => `(tactic| (k_here; (with_reducible show wpAny _ _ (call (Value.type _) [Value.ref _]) _ _ _); (k_dflt (refine call_tuple_tup (News.isTup (by k_asm) (by k_mem)) ?_))))
theorem letter_call {w : World} {loose : List Str} {mean : ExcName → Option Value} {mg mb : Str → Option Value} {dp un : Nat} {gd : Option (List Code)} {cn : Str} {cs : Scope} {a : Addr} {ccd : Value} {cl : List (Str × Addr)} {outer : List Env} {A₀ : Around} {base h₀ : Heap} {L : Addr} {m : Str → Option Value} {s : Shared} {Q E : Value → Shared → Prop} {news : List (Addr × Obj)} {T1 : Addr} {u k : Int} {tu tb t0 tk : Tok}
    (B : Below A₀ base outer h₀) (F : Fr h₀ L s.heap m) (X : (hd.heap_39 w.params).In h₀) (N : News h₀ L s.heap news) (T : Top hd.view_39 loose mean mg mb h₀) (hk : cs.kind = .function)
    (hT : (T1, ({ cls := .type "tuple", data := .seq #[] } : Obj)) ∈ news)
    (hdp : dp + 3 < recursionLimit) (hun : un + 200 < cLine)
    (R : ∀ x d es h' tk', Fr h₀ L h' m → News h₀ L h' ((x, instObj 45 d) :: (d, dictOf es 5) :: news) → AllLt d news → (@LT.lt Nat _ d x) → LDict w.params u k es → Q (.ref x) { s with heap := h', toks := tk' }) :
    wpAny (model PySem.Challenge.rw_or0019_01.row.prog w) (ktrTop dp un gd cn cs L a ccd cl outer) (call (.ref 45) [.int u tu, .bytes #[] tb, .ref T1, .int 0 t0, .int k tk]) Q E s := by
  w_top off
  revert X; k_fill; intro X
  obtain ⟨ckind, cnames, cg, cc, cm⟩ := cs
  dsimp only at hk
  subst hk
  k_steps
  refine R _ _ _ _ _ (by k_asm) (by k_asm) (by first | assumption | exact allLt_of (by assumption)) (by assumption) ⟨_, _, _, _, _, _, _, _, _, _, rfl⟩
end

section
def Mark (u : Int) : Prop := True
section
variable {prog : Program} {w : World} {A : Around} {h₀ : Heap} {L : Addr} {m : Str → Option Value} {env : Env} {ct elt : PySem.Expr} {x : Str} {scope : Scope} {cl : List (Str × Addr)} {s : Shared} {S : List (Addr × Obj) → Prop} {Fin : List Value → List (Addr × Obj) → Prop} {news : List (Addr × Obj)}
theorem rest_filter {vs : List Value} {ns : List Int} {u : Int} (hM : Mark u) (hi : IntsAre vs ns)
    (turn : ∀ (k : Int) (t : Tok) I oI C oC D m₂ ys h tk (E' : Value → Shared → Prop), LCg.NsObj oC m₂ → m₂ x = some (.int k t) → Fr h₀ L h m → News h₀ L h ((I, oI) :: (C, oC) :: (D, LCg.lst ys) :: news) → LCg.Off3 I C D news → ((@Ne Nat I C) ∧ (@Ne Nat I D) ∧ (@Ne Nat C D)) →
      wpAny (model prog w) A (isTrue ct (compEnvC scope cl C env) (eval ct (compEnvC scope cl C env))) (fun ok s' => if ok = true then
        wpAny (model prog w) A (eval elt (compEnvC scope cl C env)) (LCg.CompEnd h₀ L m { s with heap := h, toks := tk } I oI C oC D (LCg.lst ys) S (fun y news' => news' = news ∧ k < u ∧ ∃ t : Tok, y = .int k t)) E' s'
        else LCg.CompEnd h₀ L m { s with heap := h, toks := tk } I oI C oC D (LCg.lst ys) S (fun _ news' => news' = news ∧ ¬ k < u) Value.none s') E' { s with heap := h, toks := tk })
    (fin : ∀ ys, IntsAre ys (ns.filter (fun x => decide (x < u))) → Fin ys news) : LCt.CompRestT prog w A h₀ L m env ct elt x scope cl s S (fun i v => vs.toArray[i]? = some v) Fin vs.toArray.size 0 [] news := by
  have key : ∀ (j i : Nat) (ys : List Value), i + j = ns.length → IntsAre ys ((ns.take i).filter (fun x => decide (x < u))) → LCt.CompRestT prog w A h₀ L m env ct elt x scope cl s S (fun i v => vs.toArray[i]? = some v) Fin j i ys news := by
    intro j
    induction j with
    | zero =>
      intro i ys hi' hy
      have e : i = ns.length := by omega
      subst e
      rw [List.take_length] at hy
      exact LCt.CompRestT.zero (fin ys hy)
    | succ j ih =>
      intro i ys hi' hy
      refine LCt.CompRestT.succ ?_
      intro v I oI C oC D m₂ h tk E' hv hC hx F N off ne
      obtain ⟨k, t, hk, hv'⟩ := IntsAre.at hi i v (by simpa using hv)
      rw [hk] at hx
      refine wpAny_mono (turn k t I oI C oC D m₂ ys h tk E' hC hx F N off ne) (fun ok s' hq => ?_) fun _ _ e => e
      have ht : ns.take (i + 1) = ns.take i ++ [k] := by rw [List.take_add_one, hv']; rfl
      cases ok with
      | true =>
        simp only [if_true] at hq ⊢
        refine wpAny_mono hq (fun y s₂ hq => ?_) fun _ _ e => e
        obtain ⟨h', tk', nw, e, F', N', off', hS, hn, hlt, t', hy'⟩ := hq
        rw [hn] at N' off' hS
        refine ⟨h', tk', news, e, F', N', off', hS, ?_⟩
        rw [hy']
        refine ih (i + 1) _ (by omega) ?_
        rw [ht, List.filter_append, List.filter_cons_of_pos (by simpa using hlt), List.filter_nil]
        exact IntsAre.append hy (.cons k t' .nil)
      | false =>
        simp only [Bool.false_eq_true, if_false] at hq ⊢
        obtain ⟨h', tk', nw, e, F', N', off', hS, hn, hlt⟩ := hq
        rw [hn] at N' off' hS
        refine ⟨h', tk', news, e, F', N', off', hS, ?_⟩
        refine ih (i + 1) _ (by omega) ?_
        rw [ht, List.filter_append, List.filter_cons_of_neg (by simpa using hlt), List.filter_nil, List.append_nil]
        exact hy
  have := key ns.length 0 [] (by omega) (by simp only [List.take_zero, List.filter_nil]; exact .nil)
  rwa [← hi.length, ← List.size_toArray] at this
end
theorem slice_iff (ns : List Int) (c : Nat) (u : Int) (hc : c ≤ ns.length) :
    (ns.drop (c : Int).toNat).take (min ((c : Int) + 1).toNat ns.length - (c : Int).toNat) = [u] ↔ ns[c]? = some u := by
  have e1 : (c : Int).toNat = c := by omega
  have e2 : ((c : Int) + 1).toNat = c + 1 := by omega
  rw [e1, e2]
  by_cases h : c < ns.length
  · have e3 : min (c + 1) ns.length - c = 1 := by omega
    rw [e3, List.drop_eq_getElem_cons h, List.take_succ_cons, List.take_zero, List.getElem?_eq_getElem h]
    simp
  · have e3 : min (c + 1) ns.length - c = 0 := by omega
    rw [e3, List.take_zero, List.getElem?_eq_none (by omega)]
    simp
theorem due_yes {ns : List Int} {u : Int} (h : (ns.drop (((ns.filter (fun x => decide (x < u))).length : Nat) : Int).toNat).take (min ((((ns.filter (fun x => decide (x < u))).length : Nat) : Int) + 1).toNat ns.length - (((ns.filter (fun x => decide (x < u))).length : Nat) : Int).toNat) = [u]) :
    (((ns.filter (fun x => decide (x < u))).length : Nat) : Int) = due ns u := by
  have := (slice_iff ns _ u (List.length_filter_le _ _)).mp h
  unfold due cnt
  rw [if_pos this]
theorem due_no {ns : List Int} {u : Int} (h : ¬ (ns.drop (((ns.filter (fun x => decide (x < u))).length : Nat) : Int).toNat).take (min ((((ns.filter (fun x => decide (x < u))).length : Nat) : Int) + 1).toNat ns.length - (((ns.filter (fun x => decide (x < u))).length : Nat) : Int).toNat) = [u]) :
    -1 = due ns u := by
  have := fun q => h ((slice_iff ns _ u (List.length_filter_le _ _)).mpr q)
  unfold due cnt
  rw [if_neg this]
local macro_rules | `(tactic| k_mem) => `(tactic| assumption)
local macro_rules | `(tactic| walk_at "CompEnd") => `(tactic| (k_dflt (exact LCg.CompEnd.intro (by k_asm) (by k_asm) _ (fun p hp => hp) (by assumption) (.inr ⟨_, by k_mem, rfl, _, rfl⟩) (by first | exact ⟨rfl, by assumption, _, rfl⟩ | exact ⟨rfl, by assumption⟩))))
local macro_rules | `(tactic| walk_at "compareOp Eq ref ref") => `(tactic| (k_here; (with_reducible show wpAny _ _ (compareOp CmpOp.Eq (Value.ref _) (Value.ref _)) _ _ _); (with_unfolding_all refine' eq_intsK ?k1 ?k2 ?k3 ?k4 ?k5 ?_; (case k1 => is_list); (case k2 => l_intsC); (case k3 => is_list); (case k4 => l_intsC); (case k5 => ((simp only [Around.deeper_units]); (try dsimp only [ktrTop]); omega)); k_whole)))
local macro_rules | `(tactic| walk_at "call builtin:len") => `(tactic| (k_here; (with_reducible show wpAny _ _ (call (Value.builtin "len") [Value.ref _]) _ _ _); k_dflt (refine' len_led ?k1 ?k2 ?k3 ?k4 ?_; (case k1 => k_asm); (case k2 => k_mem); (case k3 => first | assumption | exact IntsAre.length (by assumption)); (case k4 => first | omega | exact Nat.le_trans (List.length_filter_le _ _) (by omega)); k_whole); intro t' tk'))
local macro_rules | `(tactic| walk_at "eval ListComp") => `(tactic| (k_here; k_dflt (refine LCt.ListComp_T (F₀ := by k_asm) (by with_unfolding_all rfl) (by decide) (by rfl) (by decide) (by rfl) ?_)))
local macro_rules | `(tactic| walk_at "CompSrcT") => `(tactic| (k_here; k_dflt ((refine LCt.CompSrcT.ledger (by rfl) (by k_asm) (by k_asm) (by k_mem) (by rw [PySem.sizeLine_eq, List.size_toArray]; omega) ?_); intro g'; (refine rest_filter (by assumption) (by assumption) (fun k' t' I' oI' C' oC' D' m' ys' h' tk' E' hC' hx' F' N' off' ne' => ?_) (fun ys' hys' => ?_)))))

theorem due_call {w : World} {loose : List Str} {mean : ExcName → Option Value} {mg mb : Str → Option Value} {dp un : Nat} {gd : Option (List Code)} {cn : Str} {cs : Scope} {a : Addr} {ccd : Value} {cl : List (Str × Addr)} {outer : List Env} {A₀ : Around} {base h₀ : Heap} {L : Addr} {m : Str → Option Value} {s : Shared} {Q E : Value → Shared → Prop} {news : List (Addr × Obj)} {l : Addr} {n : Nat} {vs : List Value} {ns : List Int} {uid : Int} {tu : Tok}
    (B : Below A₀ base outer h₀) (F : Fr h₀ L s.heap m) (X : (hd.heap_39 w.params).In h₀) (N : News h₀ L s.heap news) (T : Top hd.view_39 loose mean mg mb h₀) (hk : cs.kind = .function)
    (hl : (l, W.listOf vs.toArray n) ∈ news) (hI : IntsAre vs ns) (hsz : ns.length ≤ 14)
    (hdp : dp + 1 < recursionLimit) (hun : un + 200 < cLine)
    (R : ∀ t h' tk', Fr h₀ L h' m → News h₀ L h' news → Q (.int (due ns uid) t) { s with heap := h', toks := tk' }) :
    wpAny (model PySem.Challenge.rw_or0019_01.row.prog w) (ktrTop dp un gd cn cs L a ccd cl outer) (call (.ref 113) [.ref l, .int uid tu]) Q E s := by
  w_top off
  revert X; k_fill; intro X
  have hlen := hI.length
  have hMark : Mark uid := trivial
  refine wpAny_call ?_
  k_dflt (refine' code_defC ?k1 ?k2 ?k3 ?k4 ?k5 ?kA ?kF ?kK ?k6 ?k7 ?k8 ?k9 ?kB ?kD ?_ ?c2 ?c3 ?c4; (case kA => exact rfl); (case kF => exact rfl); (case kK => assumption); (case k1 => k_asm); (case k2 => k_asm); (case k3 => k_asm); (case k4 => k_asm); (case k5 => k_asm); (case k6 => k_is); (case k7 => k_is); (case k8 => ktr_room); (case k9 => exact BindsTo.of_eq rfl); (case kB => exact rfl); (case kD => decide +kernel); (case c2 => exact rfl); (case c3 => exact rfl); (case c4 => exact rfl); k_whole; intro g' L' h' tk' cells' FG' F' N' Y' B' X' T' l1; (try k_lt l1); k_cells Y'; (try simp only [List.cons_append, List.nil_append] at N'); (try dsimp only); (try k_lift B'); (try k_fold))
  k_steps
  all_goals (refine cb_retI R ?_ (by k_asm) (by first | k_asm | exact cb_drop (by assumption) (fun p hp => by simp only [List.mem_cons]; simp [hp])))
  · exact due_yes (by assumption)
  · exact due_no (by assumption)
end

section
def Up (found : List Int) (last : Int) : Prop := Asc found ∧ ∀ x ∈ found, x ≤ last
theorem up_start : ([] : List Int).length = ([] : List Int).length ∧ Up [] 0 := ⟨rfl, fun i j hi => by simp at hi, fun x hx => by simp at hx⟩
theorem menu_nonneg : ∀ i : Nat, (0 : Int) ≤ [0, 0, 1, 6, 4000000, 2].getD i 0
  | 0 => by decide
  | 1 => by decide
  | 2 => by decide
  | 3 => by decide
  | 4 => by decide
  | 5 => by decide
  | _ + 6 => by simp
theorem up_turn {pre found : List Int} {last k : Int} (hl : found.length = pre.length) (h : Up found last) {i : Nat} {c : Int} :
    (found ++ [last + 1 + [0, 0, 1, 6, 4000000, 2].getD i 0 + Int.fmod c 3]).length = (pre ++ [k]).length ∧ Up (found ++ [last + 1 + [0, 0, 1, 6, 4000000, 2].getD i 0 + Int.fmod c 3]) (last + 1 + [0, 0, 1, 6, 4000000, 2].getD i 0 + Int.fmod c 3) := by
  have h1 := menu_nonneg i
  have h2 : 0 ≤ Int.fmod c 3 := Int.fmod_nonneg_of_pos c (by decide)
  generalize hv : last + 1 + [0, 0, 1, 6, 4000000, 2].getD i 0 + Int.fmod c 3 = v
  have hv : last < v := by omega
  obtain ⟨hA, hb⟩ := h
  refine ⟨by simp [hl], fun i j hi hj hij => ?_, fun x hx => ?_⟩
  · rw [List.length_append, List.length_singleton] at hi hj
    by_cases hj' : j < found.length
    · rw [List.getElem_append_left hj', List.getElem_append_left (by omega)]
      exact hA i j (by omega) hj' hij
    · have e : j = found.length := by omega
      have hi' : i < found.length := by omega
      rw [List.getElem_append_left hi', List.getElem_append_right (by omega)]
      have := hb _ (List.getElem_mem hi')
      simp
      omega
  · rcases List.mem_append.mp hx with hx | hx
    · have := hb x hx; omega
    · rw [List.mem_singleton.mp hx]; omega
theorem ne_len {x : List Int} (h : decide (x = []) = false) : 1 ≤ x.length := by
  cases x with
  | nil => simp at h
  | cons a r => simp
theorem pick1 {h₀ h : Heap} {L : Addr} {p0 p1 p2 p3 p4 : Addr × Obj} {news : List (Addr × Obj)} (N : News h₀ L h (p0 :: p1 :: p2 :: p3 :: p4 :: news)) : News h₀ L h (p0 :: news) := fun p hp => N p (by
  rcases List.mem_cons.mp hp with rfl | hp
  · exact .head _
  · exact .tail _ (.tail _ (.tail _ (.tail _ (.tail _ hp)))))
theorem pick2 {h₀ h : Heap} {L : Addr} {p0 p1 p2 p3 : Addr × Obj} {news : List (Addr × Obj)} (N : News h₀ L h (p0 :: p1 :: p2 :: p3 :: news)) : News h₀ L h (p3 :: news) := fun p hp => N p (.tail _ (.tail _ (.tail _ hp)))
local macro_rules | `(tactic| k_mem) => `(tactic| with_reducible assumption)
local macro_rules | `(tactic| walk_at "storeName") => `(tactic| (k_here; dsimp only; walk_at "storeName"))

theorem uids_call {w : World} {loose : List Str} {mean : ExcName → Option Value} {mg mb : Str → Option Value} {dp un : Nat} {gd : Option (List Code)} {cn : Str} {cs : Scope} {a : Addr} {ccd : Value} {cl : List (Str × Addr)} {outer : List Env} {A₀ : Around} {base h₀ : Heap} {L : Addr} {m : Str → Option Value} {s : Shared} {Q E : Value → Shared → Prop} {news : List (Addr × Obj)} {l : Addr} {vs : List Value} {ns : List Int}
    (B : Below A₀ base outer h₀) (F : Fr h₀ L s.heap m) (X : (hd.heap_39 w.params).In h₀) (N : News h₀ L s.heap news) (T : Top hd.view_39 loose mean mg mb h₀) (hk : cs.kind = .function)
    (hl : base.IsList l vs.toArray) (hI : IntsAre vs ns) (hsz : ns.length ≤ 63)
    (hdp : dp + 1 < recursionLimit) (hun : un + 200 < cLine)
    (R : ∀ l' vs' ns' n h' tk', Fr h₀ L h' m → News h₀ L h' ((l', W.listOf vs'.toArray n) :: news) → IntsAre vs' ns' → Asc ns' → 1 ≤ ns'.length → ns'.length ≤ 14 → Q (.ref l') { s with heap := h', toks := tk' }) :
    wpAny (model PySem.Challenge.rw_or0019_01.row.prog w) (ktrTop dp un gd cn cs L a ccd cl outer) (call (.ref 108) [.ref l]) Q E s := by
  w_top off
  revert X; k_fill; intro X
  have hlen := hI.length
  refine wpAny_call ?_
  k_dflt cell_enter
  k_with "pyIter ref" => k_state (fun pre found last => found.length = pre.length ∧ Up found last) "found" "last"
  k_with "state" => first | exact up_start | exact up_turn (by assumption) (by assumption)
  k_steps
  · refine R _ _ [1, 2, 9] _ _ _ (by k_asm) (pick1 (by assumption)) (.cons 1 _ (.cons 2 _ (.cons 9 _ .nil))) ?_ (by decide) (by decide)
    intro i j hi hj hij
    simp only [List.length_cons, List.length_nil] at hi hj
    rcases i with _ | _ | _ | i <;> rcases j with _ | _ | _ | j <;> first | omega | (simp; done)
  · refine R _ _ _ _ _ _ (by k_asm) (pick2 (by assumption)) (by assumption) (by have hU := ‹Up _ _›; exact hU.1) (ne_len (by assumption)) ?_
    omega
end

section
open PyProof.Rows.LCg
/-- what stands behind an element: its own four objects as they were, the rest told -/
def EnumEnd (h₀ : Heap) (L : Addr) (m : Str → Option Value) (s₁ : Shared) (its : List (Addr × Obj)) (rest : Value → List (Addr × Obj) → Prop) (y : Value) (s₂ : Shared) : Prop :=
  ∃ h' tk nw', s₂ = { s₁ with heap := h', toks := tk } ∧ Fr h₀ L h' m ∧ News h₀ L h' (its ++ nw') ∧ (∀ p ∈ nw', ∀ q ∈ its, p.1 ≠ q.1) ∧ rest y nw'
section
variable {prog : Program} {w : World} {A : Around} {E : Value → Shared → Prop} {s : Shared} {h₀ : Heap} {L : Addr} {m : Str → Option Value} {env : Env}
theorem enum_block {elt iter : PySem.Expr} {a b : Str} {pa pb tp : Pos} {kk : Nat} {scope : Scope} {cl : List (Str × Addr)} {pos : Pos} {s₂ : Shared} {e it l : Addr} {vs : List Value} {n : Nat} {news : List (Addr × Obj)} {Rest : Nat → List Value → List (Addr × Obj) → Prop}
    {RR : Value → Addr → Result → Shared → Prop}
    (hh : A.handled = none) (hei : e ≠ it) (hle : l ≠ e) (hli : l ≠ it) (hsz : vs.length ≤ sizeLine)
    (hmem : ∀ i ys nw, Rest i ys nw → (l, W.listOf vs.toArray n) ∈ nw) (hlen : ∀ i ys nw, Rest i ys nw → ys.length = i)
    (hst : (∃ old, IsEnum s₂.heap e it 0 old) ∧ s₂.heap.IsListIter it l 0)
    (hcell : ∀ y ∈ scope.names, y.2 ≠ .cell) (hkind : scope.kind = .function) (hxa : scope.names.lookup a = some .local) (hxb : scope.names.lookup b = some .local) (hab : ¬ a = b)
    (F : Fr h₀ L s₂.heap m) (N : News h₀ L s₂.heap news) (heL : e ≠ L) (hiL : it ≠ L) (he₀ : h₀.get? e = none) (hi₀ : h₀.get? it = none) (off : ∀ p ∈ news, p.1 ≠ e ∧ p.1 ≠ it)
    (h0 : Rest 0 [] news)
    (step : ∀ (i : Nat) v ys nw oe oi C oC D m₂ h tk (t : Tok) (E' : Value → Shared → Prop), vs[i]? = some v → Rest i ys nw → NsObj oC m₂ → m₂ a = some (.int (i : Int) t) → m₂ b = some v → Fr h₀ L h m →
      News h₀ L h ((e, oe) :: (it, oi) :: (C, oC) :: (D, lst ys) :: nw) → (∀ p ∈ nw, p.1 ≠ e ∧ p.1 ≠ it ∧ p.1 ≠ C ∧ p.1 ≠ D) → ((@Ne Nat e it) ∧ (@Ne Nat e C) ∧ (@Ne Nat e D) ∧ (@Ne Nat it C) ∧ (@Ne Nat it D) ∧ (@Ne Nat C D)) →
      wpAny (model prog w) A (eval elt (compEnvC scope cl C env)) (EnumEnd h₀ L m { s₂ with heap := h, toks := tk } [(e, oe), (it, oi), (C, oC), (D, lst ys)] (fun y nw' => Rest (i + 1) (ys ++ [y]) nw')) E' { s₂ with heap := h, toks := tk })
    (hRR : ∀ D C h tk m' ys nw, Fr h₀ L h m → News h₀ L h ((D, lst ys) :: nw) → (∀ p ∈ nw, p.1 ≠ D) → h.Ns C m' → h₀.get? C = none → h₀.get? D = none → C ≠ L → D ≠ L → C ≠ D → (∀ p ∈ nw, p.1 ≠ C) → Rest vs.length ys nw → RR (.ref D) C (.ok .next) { s₂ with heap := h, toks := tk }) :
    wpAny (model prog w) A (newList []) (fun acc s₃ => wpAny (model prog w) A (newFunctionEnv scope env.globals cl [] env.qual none .none (some env)) (fun cenv s₄ =>
      codeAny (model prog w) A (.compStart (.ListComp elt [⟨.Tuple [.Name a pa, .Name b pb] kk tp, iter, [], 0⟩] scope pos) 0 (.ref e) acc { cenv with scope := relabel scope env }) (RR acc cenv.locals) s₄) E s₃) E s₂ := by
  refine wpAny_newObj_type (wpAny_newFunctionEnv hcell (by intro y hy; simp at hy) (fun h₁ hns₁ hsb₁ => ?_) hkind)
  dsimp only at hns₁ hsb₁ ⊢
  generalize hH2 : s₂.heap.push { cls := .type "list", dict := none, data := .seq ([] : List Value).toArray } = H2 at hns₁ hsb₁ ⊢
  have hC : H2.objs.size = s₂.heap.objs.size + 1 := by rw [← hH2, Heap.size_push]
  have hDC : s₂.heap.objs.size ≠ H2.objs.size := by rw [hC]; exact Nat.ne_of_lt (Nat.lt_succ_self _)
  have below : ∀ b, b < s₂.heap.objs.size → b ≠ H2.objs.size ∧ b ≠ s₂.heap.objs.size := fun b hb => ⟨by rw [hC]; exact Nat.ne_of_lt (Nat.lt_succ_of_lt hb), Nat.ne_of_lt hb⟩
  obtain ⟨⟨old, hE⟩, hI⟩ := hst
  have helt : e < s₂.heap.objs.size := Heap.lt_size hE
  have hilt : it < s₂.heap.objs.size := by obtain ⟨_, x, _⟩ := hI; exact Heap.lt_size x
  have up0 : ∀ b o, s₂.heap.get? b = some o → h₁.get? b = some o := fun b o e => hsb₁.extBut b o (below b (Heap.lt_size e)).1 (Heap.get?_push_of_some _ (hH2 ▸ Heap.get?_push_of_some _ e))
  have hacc : h₁.get? s₂.heap.objs.size = some (lst []) := hsb₁.extBut _ _ hDC (Heap.get?_push_of_some _ (hH2 ▸ Heap.get?_push_size _ rfl))
  have hE₁ : IsEnum h₁ e it 0 old := up0 _ _ hE
  have hI₁ : h₁.IsListIter it l 0 := hI.at fun o x => up0 it o x
  have fresh : ∀ a, s₂.heap.objs.size ≤ a → s₂.heap.get? a = none := fun a ha => by
    cases e : s₂.heap.get? a with
    | none => rfl
    | some o' => exact absurd (Heap.lt_size e) (Nat.not_lt.mpr ha)
  have fresh₀ : ∀ a, s₂.heap.objs.size ≤ a → h₀.get? a = none := fun a ha => by
    cases e : h₀.get? a with
    | none => rfl
    | some o' => have := F.keep a o' e; rw [fresh a ha] at this; cases this
  have hD₀ : h₀.get? s₂.heap.objs.size = none := fresh₀ _ (Nat.le_refl _)
  have hC₀ : h₀.get? H2.objs.size = none := fresh₀ _ (by rw [hC]; exact Nat.le_succ _)
  have hLlt : L < s₂.heap.objs.size := F.ns.lt
  have hDL : s₂.heap.objs.size ≠ L := Ne.symm (below L hLlt).2
  have hCL : H2.objs.size ≠ L := Ne.symm (below L hLlt).1
  have heC : e ≠ H2.objs.size := (below e helt).1
  have heD : e ≠ s₂.heap.objs.size := (below e helt).2
  have hiC : it ≠ H2.objs.size := (below it hilt).1
  have hiD : it ≠ s₂.heap.objs.size := (below it hilt).2
  have off₀ : ∀ p ∈ news, p.1 ≠ e ∧ p.1 ≠ it ∧ p.1 ≠ H2.objs.size ∧ p.1 ≠ s₂.heap.objs.size := fun p hp =>
    ⟨(off p hp).1, (off p hp).2, (below _ (Heap.lt_size (N p hp).1)).1, (below _ (Heap.lt_size (N p hp).1)).2⟩
  have W := WalksT.enumerate (prog := prog) (w := w) hh e it l hei hle hli vs.toArray
  have loop : ∀ s₃ : Shared, s₃ = { s₂ with heap := h₁, toks := s₂.toks + ([] : List (Str × Value)).length } →
      codeAny (model prog w) A (.compLoop (.ListComp elt [⟨.Tuple [.Name a pa, .Name b pb] kk tp, iter, [], 0⟩] scope pos) 0 (.ref e) (.ref s₂.heap.objs.size) (compEnvC scope cl H2.objs.size env))
        (RR (.ref s₂.heap.objs.size) H2.objs.size) s₃ := by
    rintro s₃ rfl
    refine kcp_loop
      (fun k s' => ∃ h' tk i ys m' nw, s' = { s₂ with heap := h', toks := tk } ∧ i ≤ vs.length ∧ k = vs.length + 1 - i ∧ (∃ old, IsEnum h' e it (i : Nat) old) ∧ h'.IsListIter it l i ∧ Fr h₀ L h' m ∧ h'.Ns H2.objs.size m' ∧
        News h₀ L h' ((s₂.heap.objs.size, lst ys) :: nw) ∧ (∀ p ∈ nw, p.1 ≠ e ∧ p.1 ≠ it ∧ p.1 ≠ H2.objs.size ∧ p.1 ≠ s₂.heap.objs.size) ∧ Rest i ys nw) ?_ (vs.length + 1)
      ⟨h₁, _, 0, [], _, news, rfl, Nat.zero_le _, rfl, ⟨_, hE₁⟩, hI₁, F.keeps up0, hns₁, fun p hp => ?_, off₀, h0⟩
    · rintro k s' ⟨h', tk, i, ys, m', nw, rfl, hi, rfl, hE', hI', F', hn', N', off', R'⟩
      have hl' : h'.IsList l vs.toArray := ⟨_, (N' _ (List.mem_cons_of_mem _ (hmem _ _ _ R'))).1, rfl, n, rfl⟩
      by_cases hlt : i < vs.length
      · refine W.item i _ _ _ (by rw [List.size_toArray]; exact hlt) ⟨hE', hI', hl'⟩ fun T vals h₂ tk₂ hv hTs hT hMd hk₂ => ?_
        obtain ⟨t, x, hx, rfl⟩ := hv
        refine W.go _ _ _ i T _ _ _ hMd fun h₃ hst₃ hk₃ => ?_
        have hTw := W.apart i T _ hMd
        have hT₃ : h₃.IsTuple T #[.int i t, x] := hT.at fun o z => hk₃ T o hTw z
        have up₃ : ∀ c o, c ≠ e → c ≠ it → h'.get? c = some o → h₃.get? c = some o := fun c o h1 h2 z => hk₃ c o (by simp [h1, h2]) (hk₂ c o (by simp [h1, h2]) z)
        refine kcp_assign (env := compEnvC scope cl H2.objs.size env) hh hT₃ (lookup_relabel_local hxa) (lookup_relabel_local hxb) (by simp [compEnvC, relabel, hkind]) (hn'.at' fun o z => up₃ _ o (Ne.symm heC) (Ne.symm hiC) z) fun h₄ tk₄ hn₄ hs₄ => ?_
        have up : ∀ c o, c ≠ e → c ≠ it → c ≠ H2.objs.size → h'.get? c = some o → h₄.get? c = some o := fun c o h1 h2 h3 z => hs₄ c o h3 (up₃ c o h1 h2 z)
        obtain ⟨⟨old₃, hE₃⟩, hI₃, _⟩ := hst₃
        have hE₄ : IsEnum h₄ e it ((i + 1 : Nat) : Int) old₃ := hs₄ e _ heC hE₃
        have hI₄ : h₄.IsListIter it l (i + 1) := hI₃.at fun o z => hs₄ it o hiC z
        obtain ⟨oe, heE, hoE⟩ : ∃ oe : Obj, h₄.get? e = some oe ∧ ∀ h : Heap, h.get? e = some oe → ∃ old, IsEnum h e it ((i + 1 : Nat) : Int) old := ⟨_, hE₄, fun _ z => ⟨_, z⟩⟩
        obtain ⟨oi, heI, hoI⟩ : ∃ oi : Obj, h₄.get? it = some oi ∧ ∀ h : Heap, h.get? it = some oi → h.IsListIter it l (i + 1) := by
          obtain ⟨o, z, r⟩ := hI₄
          exact ⟨o, z, fun h z' => ⟨o, z', r⟩⟩
        obtain ⟨oC, heC', hoC⟩ := ns_obj hn₄
        have F₄ : Fr h₀ L h₄ m := ⟨F'.ns.at' fun o z => up _ o (Ne.symm heL) (Ne.symm hiL) (Ne.symm hCL) z, fun c o z => up c o (fun q => by rw [q, he₀] at z; cases z) (fun q => by rw [q, hi₀] at z; cases z) (fun q => by rw [q, hC₀] at z; cases z) (F'.keep c o z), F'.above⟩
        have N₄ : News h₀ L h₄ ((e, oe) :: (it, oi) :: (H2.objs.size, oC) :: (s₂.heap.objs.size, lst ys) :: nw) := fun q hq => by
          rcases List.mem_cons.mp hq with rfl | hq
          · exact ⟨heE, heL, he₀⟩
          · rcases List.mem_cons.mp hq with rfl | hq
            · exact ⟨heI, hiL, hi₀⟩
            · rcases List.mem_cons.mp hq with rfl | hq
              · exact ⟨heC', hCL, hC₀⟩
              · have z := N' q hq
                rcases List.mem_cons.mp hq with rfl | hq
                · exact ⟨up _ _ (Ne.symm heD) (Ne.symm hiD) hDC z.1, z.2⟩
                · have o3 := off' q hq
                  exact ⟨up _ _ o3.1 o3.2.1 o3.2.2.1 z.1, z.2⟩
        refine wpAny_mono (step i x ys nw oe oi H2.objs.size oC s₂.heap.objs.size _ h₄ tk₄ t _ (by simpa using hx) R' hoC (by simp [hab]) (by simp) F₄ N₄ off' ⟨hei, heC, heD, hiC, hiD, Ne.symm hDC⟩) (fun y s₅ h₅ => ?_) fun _ _ z => z
        obtain ⟨h₅, tk₅, nw₅, rfl, F₅, N₅, off₅, R₅⟩ := h₅
        have zE := (N₅ (e, oe) (by simp)).1
        have zI := (N₅ (it, oi) (by simp)).1
        have zC := (N₅ (H2.objs.size, oC) (by simp)).1
        have zD := (N₅ (s₂.heap.objs.size, lst ys) (by simp)).1
        have N₅' : News h₀ L h₅ nw₅ := fun q hq => N₅ q (List.mem_append_right _ hq)
        have hyl := hlen _ _ _ R'
        refine append_at (hsz := by show ys.toArray.size ≤ sizeLine; rw [List.size_toArray, hyl]; exact Nat.le_trans hi hsz) zD fun h₆ hs₆ hD₆ => ?_
        have o5 : ∀ q ∈ nw₅, q.1 ≠ e ∧ q.1 ≠ it ∧ q.1 ≠ H2.objs.size ∧ q.1 ≠ s₂.heap.objs.size := fun q hq =>
          ⟨off₅ q hq (e, oe) (by simp), off₅ q hq (it, oi) (by simp), off₅ q hq (H2.objs.size, oC) (by simp), off₅ q hq (s₂.heap.objs.size, lst ys) (by simp)⟩
        refine ⟨vs.length + 1 - (i + 1), by omega, h₆, tk₅, i + 1, ys ++ [y], _, nw₅, rfl, hlt, rfl, hoE h₆ (hs₆.extBut e oe heD zE), hoI h₆ (hs₆.extBut it oi hiD zI), F₅.change hs₆ hDL hD₀,
          (hoC.ns zC).sameBut hs₆ (Ne.symm hDC), fun q hq => ?_, o5, R₅⟩
        rcases List.mem_cons.mp hq with rfl | hq
        · exact ⟨hD₆.trans (congrArg some (lst_snoc ys y)), hDL, hD₀⟩
        · exact ⟨hs₆.extBut _ _ (o5 q hq).2.2.2 (N₅' q hq).1, (N₅' q hq).2⟩
      · have hin : i = vs.length := Nat.le_antisymm hi (Nat.not_lt.mp hlt)
        subst hin
        refine W.done _ _ _ (by rw [List.size_toArray]; exact ⟨hE', hI', hl'⟩) fun h₂ tk₂ hk₂ => ?_
        have up₂ : ∀ c o, c ≠ e → c ≠ it → h'.get? c = some o → h₂.get? c = some o := fun c o h1 h2 z => hk₂ c o (by simp [h1, h2]) z
        have F₂ : Fr h₀ L h₂ m := ⟨F'.ns.at' fun o z => up₂ _ o (Ne.symm heL) (Ne.symm hiL) z, fun c o z => up₂ c o (fun q => by rw [q, he₀] at z; cases z) (fun q => by rw [q, hi₀] at z; cases z) (F'.keep c o z), F'.above⟩
        refine hRR _ _ h₂ tk₂ _ ys nw F₂ (fun q hq => ?_) (fun p hp => (off' p hp).2.2.2) (hn'.at' fun o z => up₂ _ o (Ne.symm heC) (Ne.symm hiC) z) hC₀ hD₀ hCL hDL (Ne.symm hDC) (fun p hp => (off' p hp).2.2.1) R'
        have z := N' q hq
        rcases List.mem_cons.mp hq with rfl | hq
        · exact ⟨up₂ _ _ (Ne.symm heD) (Ne.symm hiD) z.1, z.2⟩
        · exact ⟨up₂ _ _ (off' q hq).1 (off' q hq).2.1 z.1, z.2⟩
    · rcases List.mem_cons.mp hp with rfl | hp
      · exact ⟨hacc, hDL, hD₀⟩
      · exact ⟨up0 _ _ (N p hp).1, (N p hp).2⟩
  exact codeAny_compStart_list (loop _ rfl) (wpAny_pyIter_enum hE₁ (loop _ rfl))

def EnumSrc (prog : Program) (w : World) (A : Around) (h₀ : Heap) (L : Addr) (m : Str → Option Value) (env : Env) (elt : PySem.Expr) (a b : Str) (scope : Scope) (cl : List (Str × Addr)) (Q : Value → Shared → Prop) (xv : Value) (s₁ : Shared) : Prop :=
  ∃ (e it l : Addr) (vs : List Value) (n : Nat) (news : List (Addr × Obj)) (Rest : Nat → List Value → List (Addr × Obj) → Prop), xv = .ref e ∧ A.handled = none ∧ e ≠ it ∧ l ≠ e ∧ l ≠ it ∧ vs.length ≤ sizeLine ∧
    (∀ i ys nw, Rest i ys nw → (l, W.listOf vs.toArray n) ∈ nw) ∧ (∀ i ys nw, Rest i ys nw → ys.length = i) ∧ (∃ old, IsEnum s₁.heap e it 0 old) ∧ s₁.heap.IsListIter it l 0 ∧
    Fr h₀ L s₁.heap m ∧ News h₀ L s₁.heap news ∧ e ≠ L ∧ it ≠ L ∧ h₀.get? e = none ∧ h₀.get? it = none ∧ (∀ p ∈ news, p.1 ≠ e ∧ p.1 ≠ it) ∧ Rest 0 [] news ∧
    (∀ (i : Nat) v ys nw oe oi C oC D m₂ h tk (t : Tok) (E' : Value → Shared → Prop), vs[i]? = some v → Rest i ys nw → NsObj oC m₂ → m₂ a = some (.int (i : Int) t) → m₂ b = some v → Fr h₀ L h m →
      News h₀ L h ((e, oe) :: (it, oi) :: (C, oC) :: (D, lst ys) :: nw) → (∀ p ∈ nw, p.1 ≠ e ∧ p.1 ≠ it ∧ p.1 ≠ C ∧ p.1 ≠ D) → ((@Ne Nat e it) ∧ (@Ne Nat e C) ∧ (@Ne Nat e D) ∧ (@Ne Nat it C) ∧ (@Ne Nat it D) ∧ (@Ne Nat C D)) →
      wpAny (model prog w) A (eval elt (compEnvC scope cl C env)) (EnumEnd h₀ L m { s₁ with heap := h, toks := tk } [(e, oe), (it, oi), (C, oC), (D, lst ys)] (fun y nw' => Rest (i + 1) (ys ++ [y]) nw')) E' { s₁ with heap := h, toks := tk }) ∧
    (∀ ys nw D h tk, Rest vs.length ys nw → Fr h₀ L h m → News h₀ L h ((D, lst ys) :: nw) → (∀ p ∈ nw, p.1 ≠ D) → Q (.ref D) { s₁ with heap := h, toks := tk })

theorem enum_ListComp {elt iter : PySem.Expr} {a b : Str} {pa pb tp : Pos} {kk : Nat} {scope : Scope} {cl : List (Str × Addr)} {pos : Pos} {Q : Value → Shared → Prop} (F₀ : Fr h₀ L s.heap m)
    (hclos : closureFor scope env = pure cl) (hcell : ∀ y ∈ scope.names, y.2 ≠ .cell) (hkind : scope.kind = .function)
    (hnames : ∀ y ∈ scope.names, y.2 = .local → scope.names.lookup y.1 = some .local) (hxa : scope.names.lookup a = some .local) (hxb : scope.names.lookup b = some .local) (hab : ¬ a = b)
    (h : wpAny (model prog w) A (eval iter env) (EnumSrc prog w A h₀ L m env elt a b scope cl Q) E s)
    (hs : ∀ x, foldedSetIterable iter env x = pure x := by intro _; rfl) :
    wpAny (model prog w) A (eval (.ListComp elt [⟨.Tuple [.Name a pa, .Name b pb] kk tp, iter, [], 0⟩] scope pos) env) Q E s := by
  rw [eval_ListComp]
  refine wpAny_comprehension_free (use := none) rfl hs hclos hkind hnames (wpAny_mono h (fun xv s₁ h₁ => ?_) fun _ _ e => e)
  obtain ⟨e, it, l, vs, n, news, Rest, rfl, hh, hei, hle, hli, hsz, hmem, hlen, ⟨old, hE⟩, hI, F, N, heL, hiL, he₀, hi₀, off, h0, step, fin⟩ := h₁
  refine wpAny_pyIter_enum hE ?_
  refine enum_block hh hei hle hli hsz hmem hlen ⟨⟨old, hE⟩, hI⟩ hcell hkind hxa hxb hab F N heL hiL he₀ hi₀ off h0 step ?_
  intro D C h tk m' ys nw F' N' o1 hn hC₀ hD₀ hCL hDL hCD offC R
  refine ⟨m', hn, fun h'' hs'' => fin ys nw D h'' tk R (F'.change hs'' hCL hC₀) (fun p hp => ?_) o1⟩
  refine ⟨hs''.extBut _ _ ?_ (N' p hp).1, (N' p hp).2⟩
  rcases List.mem_cons.mp hp with rfl | hp
  · exact Ne.symm hCD
  · exact offC p hp
end
end

section
open PyProof.Rows.LCg
def LetterMade (P : Params) (h₀ : Heap) (L : Addr) (m : Str → Option Value) (s₁ : Shared) (led : List (Addr × Obj)) (u k : Int) (y : Value) (s₂ : Shared) : Prop :=
  ∃ (x d : Addr) (es : List DictEntry) (h' : Heap) (tk' : Nat), y = .ref x ∧ s₂ = { s₁ with heap := h', toks := tk' } ∧ Fr h₀ L h' m ∧ News h₀ L h' ((x, instObj 45 d) :: (d, dictOf es 5) :: led) ∧ AllLt d led ∧ (@LT.lt Nat _ d x) ∧ LDict P u k es
theorem allLt_mem {d : Addr} : ∀ {l : List (Addr × Obj)}, AllLt d l → ∀ p ∈ l, (@LT.lt Nat _ p.1 d)
  | [], _, _, hp => (nomatch hp)
  | q :: r, h, p, hp => by
    rcases List.mem_cons.mp hp with rfl | hp
    · exact h.1
    · exact allLt_mem h.2 p hp
theorem Letters.snoc {P : Params} {nx : List (Addr × Obj)} {ys : List Value} {ns : List Int} {k₀ u : Int} {x d : Addr} {es : List DictEntry} (h : Letters P nx ys ns k₀) (hd : LDict P u (k₀ + ns.length) es) :
    Letters P ((x, instObj 45 d) :: (d, dictOf es 5) :: nx) (ys ++ [.ref x]) (ns ++ [u]) k₀ := by
  refine ⟨by simp [h.1], fun i h1 h2 => ?_⟩
  by_cases hi : i < ns.length
  · have hi' : i < ys.length := by rw [h.1]; exact hi
    rw [List.getElem_append_left hi, List.getElem_append_left hi']
    exact (h.2 i hi hi').mono fun p hp => .tail _ (.tail _ hp)
  · have e : i = ns.length := by simp at h1; omega
    subst e
    have hy : ys.length ≤ ns.length := Nat.le_of_eq h.1
    rw [List.getElem_append_right (Nat.le_refl _), List.getElem_append_right hy]
    simp only [List.getElem_singleton]
    exact ⟨x, d, es, rfl, .head _, .tail _ (.head _), hd⟩
section
variable {prog : Program} {w : World} {A : Around} {E : Value → Shared → Prop} {s : Shared} {h₀ : Heap} {L : Addr} {m : Str → Option Value} {env : Env}
theorem enum_letters {elt : PySem.Expr} {a b : Str} {scope : Scope} {cl : List (Str × Addr)} {l : Addr} {vs : List Value} {us : List Int} {n : Nat} {news : List (Addr × Obj)} {Q : Value → Shared → Prop}
    (hh : A.handled = none) (F : Fr h₀ L s.heap m) (N : News h₀ L s.heap news) (hm : (l, W.listOf vs.toArray n) ∈ news) (hI : IntsAre vs us) (hsz : us.length ≤ 14)
    (step : ∀ (e it C D : Addr) (oe oi oC : Obj) (i : Nat) (u : Int) (tu t : Tok) ys nx m₂ h tk (E' : Value → Shared → Prop), NsObj oC m₂ → m₂ a = some (.int (i : Int) t) → m₂ b = some (.int u tu) → Fr h₀ L h m →
      News h₀ L h ((e, oe) :: (it, oi) :: (C, oC) :: (D, lst ys) :: (nx ++ news)) →
      wpAny (model prog w) A (eval elt (compEnvC scope cl C env)) (LetterMade w.params h₀ L m { s with heap := h, toks := tk } ((e, oe) :: (it, oi) :: (C, oC) :: (D, lst ys) :: (nx ++ news)) u ((i : Int) + 2)) E' { s with heap := h, toks := tk })
    (fin : ∀ ys nx D h tk, Letters w.params nx ys us 2 → OwnOff nx (D :: news.map (·.1)) → (∀ p ∈ news, @Ne Nat p.1 D) → Fr h₀ L h m → News h₀ L h ((D, lst ys) :: (news ++ nx)) → Q (.ref D) { s with heap := h, toks := tk }) :
    wpAny (model prog w) A (call (.type "enumerate") [.ref l]) (EnumSrc prog w A h₀ L m env elt a b scope cl Q) E s := by
  have hL : s.heap.IsList l vs.toArray := ⟨_, (N _ hm).1, rfl, n, rfl⟩
  have hlt : l < s.heap.objs.size := Heap.lt_size (N _ hm).1
  have hLlt : L < s.heap.objs.size := F.ns.lt
  have hvl := hI.length
  have fresh₀ : ∀ a, s.heap.objs.size ≤ a → h₀.get? a = none := fun a ha => by
    cases e : h₀.get? a with
    | none => rfl
    | some o' => exact absurd (Heap.lt_size (F.keep a o' e)) (Nat.not_lt.mpr ha)
  have olds : ∀ p ∈ news, p.1 < s.heap.objs.size := fun p hp => Heap.lt_size (N p hp).1
  refine call_enumerate_list hL fun h' hE hIt hz hk => ?_
  refine ⟨s.heap.objs.size + 1, s.heap.objs.size, l, vs, n, news, fun i ys nw => ∃ nx, nw = nx ++ news ∧ (∀ p ∈ nx, ∀ q ∈ news, p.1 ≠ q.1) ∧ ys.length = i ∧ i ≤ us.length ∧ Letters w.params nx ys (us.take i) 2, rfl, hh, Nat.succ_ne_self _, Nat.ne_of_lt (Nat.lt_succ_of_lt hlt), Nat.ne_of_lt hlt, ?_,
    ?_, fun i ys nw h => h.choose_spec.2.2.1, ⟨_, hE⟩, hIt, F.keeps hk, N.grown hk, Nat.ne_of_gt (Nat.lt_succ_of_lt hLlt), Nat.ne_of_gt hLlt, fresh₀ _ (Nat.le_succ _), fresh₀ _ (Nat.le_refl _), ?_, ?_, ?_, ?_⟩
  · rw [PySem.sizeLine_eq]; omega
  · rintro i ys nw ⟨nx, rfl, _⟩
    exact List.mem_append_right _ hm
  · intro p hp
    have := olds p hp
    exact ⟨Nat.ne_of_lt (Nat.lt_succ_of_lt this), Nat.ne_of_lt this⟩
  · refine ⟨[], rfl, ?_, rfl, Nat.zero_le _, rfl, ?_⟩
    · intro p hp
      exact absurd hp (List.not_mem_nil)
    · intro i h1
      simp at h1
  · rintro i v ys nw oe oi C oC D m₂ h tk t E' hv ⟨nx, rfl, hoff, hyl, hi, hLt⟩ hC hx1 hx2 F' N' off ne
    obtain ⟨u, tu, hv', hu⟩ := IntsAre.at hI i v hv
    rw [hv'] at hx2
    refine wpAny_mono (step _ _ C D oe oi oC i u tu t ys nx m₂ h tk E' hC hx1 hx2 F' N') (fun y s₂ hq => ?_) fun _ _ z => z
    obtain ⟨x, d, es, h', tk', rfl, rfl, F₂, N₂, hlt₂, hdx, hD⟩ := hq
    have hlt := allLt_mem hlt₂
    have hltx : ∀ p ∈ ((s.heap.objs.size + 1, oe) :: (s.heap.objs.size, oi) :: (C, oC) :: (D, lst ys) :: (nx ++ news) : List (Addr × Obj)), (@LT.lt Nat _ p.1 x) := fun p hp => Nat.lt_trans (hlt p hp) hdx
    refine ⟨h', tk', (x, instObj 45 d) :: (d, dictOf es 5) :: (nx ++ news), rfl, F₂, fun p hp => N₂ p ?_, ?_, (x, instObj 45 d) :: (d, dictOf es 5) :: nx, rfl, ?_, ?_, ?_, ?_⟩
    · simp only [List.mem_append, List.mem_cons, List.not_mem_nil, or_false] at hp ⊢
      rcases hp with (h | h | h | h) | h | h | h | h <;> simp [h]
    · intro p hp q hq
      have hq' : q ∈ ((s.heap.objs.size + 1, oe) :: (s.heap.objs.size, oi) :: (C, oC) :: (D, lst ys) :: (nx ++ news) : List (Addr × Obj)) := by
        simp only [List.mem_cons, List.not_mem_nil, or_false] at hq ⊢
        rcases hq with h | h | h | h <;> simp [h]
      rcases List.mem_cons.mp hp with rfl | hp
      · exact Ne.symm (Nat.ne_of_lt (hltx q hq'))
      · rcases List.mem_cons.mp hp with rfl | hp
        · exact Ne.symm (Nat.ne_of_lt (hlt q hq'))
        · have o := off p hp
          simp only [List.mem_cons, List.not_mem_nil, or_false] at hq
          rcases hq with rfl | rfl | rfl | rfl
          · exact o.1
          · exact o.2.1
          · exact o.2.2.1
          · exact o.2.2.2
    · intro p hp q hq
      have hq' : q ∈ ((s.heap.objs.size + 1, oe) :: (s.heap.objs.size, oi) :: (C, oC) :: (D, lst ys) :: (nx ++ news) : List (Addr × Obj)) := by simp [hq]
      rcases List.mem_cons.mp hp with rfl | hp
      · exact Ne.symm (Nat.ne_of_lt (hltx q hq'))
      · rcases List.mem_cons.mp hp with rfl | hp
        · exact Ne.symm (Nat.ne_of_lt (hlt q hq'))
        · exact hoff p hp q hq
    · simp [hyl]
    · have := (List.getElem?_eq_some_iff.mp hu).1; omega
    · have hil : i < us.length := (List.getElem?_eq_some_iff.mp hu).1
      have e : us.take (i + 1) = us.take i ++ [u] := by rw [List.take_add_one, hu]; rfl
      rw [e]
      refine hLt.snoc ?_
      have e2 : (2 : Int) + ((us.take i).length : Nat) = (i : Int) + 2 := by rw [List.length_take]; omega
      rw [e2]
      exact hD
  · rintro ys nw D h tk ⟨nx, rfl, hoff, hyl, hi, hLt⟩ F' N' off
    rw [hvl, List.take_length] at hLt
    refine fin ys nx D h tk hLt (fun p hp a ha => ?_) (fun p hp => off p (List.mem_append_right _ hp)) F' (fun p hp => N' p ?_)
    · rcases List.mem_cons.mp ha with rfl | ha
      · exact off p (List.mem_append_left _ hp)
      · obtain ⟨q, hq, rfl⟩ := List.mem_map.mp ha
        exact hoff p hp q hq
    · simp only [List.mem_cons, List.mem_append] at hp ⊢
      rcases hp with h | h | h <;> simp [h]
theorem LetterMade.intro {P : Params} {s₁ : Shared} {x d : Addr} {es : List DictEntry} {h' : Heap} {tk' : Nat} {t : Addr × Obj} {led : List (Addr × Obj)} {u k : Int} (F : Fr h₀ L h' m) (N : News h₀ L h' ((x, instObj 45 d) :: (d, dictOf es 5) :: t :: led)) (hlt : AllLt d (t :: led)) (hdx : (@LT.lt Nat _ d x)) (hD : LDict P u k es) :
    LetterMade P h₀ L m s₁ led u k (.ref x) { s₁ with heap := h', toks := tk' } :=
  ⟨x, d, es, h', tk', rfl, rfl, F, fun p hp => N p (by
    rcases List.mem_cons.mp hp with rfl | hp
    · exact .head _
    · rcases List.mem_cons.mp hp with rfl | hp
      · exact .tail _ (.head _)
      · exact .tail _ (.tail _ (.tail _ hp))), hlt.2, hdx, hD⟩
end
end

section
theorem asc_take {ns : List Int} (h : Asc ns) (c : Nat) : Asc (ns.take c) := by
  intro i j hi hj hij
  rw [List.getElem_take, List.getElem_take]
  exact h i j _ _ hij
theorem asc_drop {ns : List Int} (h : Asc ns) (c : Nat) : Asc (ns.drop c) := by
  intro i j hi hj hij
  rw [List.getElem_drop, List.getElem_drop]
  exact h _ _ _ _ (by omega)
theorem due_lt {ns : List Int} {u : Int} (h : 0 ≤ due ns u) : due ns u < (ns.length : Int) := by
  unfold due at h ⊢
  by_cases e : ns[cnt ns u]? = some u
  · rw [if_pos e]
    have := (List.getElem?_eq_some_iff.mp e).1
    omega
  · rw [if_neg e] at h
    omega
def KeepEnd (h₀ : Heap) (L : Addr) (x : Str) (stored : List Str) (m₀ : Str → Option Value) (news own : List (Addr × Obj)) (s₁ s₂ : Shared) : Prop :=
  ∃ h' tk m' news', s₂ = { s₁ with heap := h', toks := tk } ∧ Fr h₀ L h' m' ∧ News h₀ L h' news' ∧ (∀ p ∈ news, p ∈ news') ∧ (∀ p ∈ own, p ∈ news') ∧ (∀ z, z ≠ x → stored.contains z = false → m' z = m₀ z)
def KeepPost (h₀ : Heap) (L : Addr) (x : Str) (stored : List Str) (m₀ : Str → Option Value) (news own : List (Addr × Obj)) (s₁ : Shared) (Q : Flow → Shared → Prop) (f : Flow) (s₂ : Shared) : Prop :=
  match f with
  | .ret v => Q (.ret v) s₂
  | .brk => Q .next s₂
  | _ => KeepEnd h₀ L x stored m₀ news own s₁ s₂
theorem KeepEnd.intro {h₀ : Heap} {L : Addr} {x : Str} {stored : List Str} {m₀ m' : Str → Option Value} {news own news' : List (Addr × Obj)} {s₁ : Shared} {h' : Heap} {tk : Nat} (F : Fr h₀ L h' m') (N : News h₀ L h' news') (hn : ∀ p ∈ news, p ∈ news') (ho : ∀ p ∈ own, p ∈ news')
    (hs : ∀ z, z ≠ x → stored.contains z = false → m' z = m₀ z) : KeepEnd h₀ L x stored m₀ news own s₁ { s₁ with heap := h', toks := tk } := ⟨h', tk, m', news', rfl, F, N, hn, ho, hs⟩
section
variable {prog : Program} {w : World} {A : Around} {E : Value → Shared → Prop} {s : Shared} {env : Env} {h₀ : Heap} {x : Str} {body : List Stmt} {Q : Flow → Shared → Prop}
theorem keep_post {stored : List Str} {m₀ : Str → Option Value} {pre : List Int} {news own : List (Addr × Obj)} {s₁ : Shared} {f : Flow} {s₂ : Shared} (h : KeepPost h₀ env.locals x stored m₀ news own s₁ Q f s₂) :
    InvPostN h₀ env.locals (KstS (fun _ : Unit => news) (fun _ => []) (fun _ => True) x stored m₀ (fun _ _ => True) pre) own (news.map (·.1)) s₁ Q f s₂ := by
  have up : KeepEnd h₀ env.locals x stored m₀ news own s₁ s₂ → InvEndN h₀ env.locals (KstS (fun _ : Unit => news) (fun _ => []) (fun _ => True) x stored m₀ (fun _ _ => True) pre) own (news.map (·.1)) s₁ s₂ := by
    rintro ⟨h', tk, m', news', rfl, F, N, hn, ho, hs⟩
    exact kst_end () F N hn ho rfl trivial (fun p hp => absurd hp List.not_mem_nil) (fun z h1 _ h3 => hs z h1 h3) trivial
  cases f with
  | ret v => exact h
  | brk => exact h
  | next => exact up h
  | cont => exact up h
theorem loop_keep {l : Addr} {vs : List Value} {ns : List Int} {nn : Nat} {m₀ : Str → Option Value} {news : List (Addr × Obj)} (stored : List Str)
    (hh : A.handled = none) (hm : (l, W.listOf vs.toArray nn) ∈ news) (hi : IntsAre vs ns) (F : Fr h₀ env.locals s.heap m₀) (N : News h₀ env.locals s.heap news)
    (turn : ∀ (n : Int) (t : Tok) (u : Str → Option Value) h tk own, n ∈ ns → OwnOff own (news.map (·.1)) →
      Fr h₀ env.locals h (fun y => if y = x then some (.int n t) else if stored.contains y then u y else m₀ y) → News h₀ env.locals h (news ++ own) →
      wpAny (model prog w) A (execs body env) (KeepPost h₀ env.locals x stored m₀ news own { s with heap := h, toks := tk } Q) E { s with heap := h, toks := tk })
    (done : ∀ (u : Str → Option Value) h tk, Fr h₀ env.locals h (fun y => if y = x then u y else if stored.contains y then u y else m₀ y) → News h₀ env.locals h news → Q .next { s with heap := h, toks := tk }) :
    wpAny (model prog w) A (pyIter (.ref l)) (fun it s₂ => LoopAtV prog w A h₀ env x body Q E it s₂) E s :=
  kst_listL (fun _ : Unit => news) (fun _ => []) (fun _ => True) stored (fun _ _ => True) () hh (fun _ => hm) hi F N trivial (fun p hp => absurd hp List.not_mem_nil) trivial
    (fun _ pre post n t u h tk own _ hn hoff _ _ F' N' => wpAny_mono (turn n t u h tk own hn hoff F' N') (fun _ _ p => keep_post p) fun _ _ x => x)
    (fun _ u h tk _ _ F' N' => done u h tk F' N')
theorem loop_range {r : Addr} {b₀ : Int} {t₀ u₀ v₀ : Tok} {n : Nat} {m₀ : Str → Option Value} {news : List (Addr × Obj)} (stored : List Str)
    (hh : A.handled = none) (hr : IsRange s.heap r 0 b₀ 1 t₀ u₀ v₀) (hsmall : Builtin.Range.small 0 b₀ 1 = true) (hn : Builtin.Range.rangeSize 0 b₀ 1 = (n : Int)) (F : Fr h₀ env.locals s.heap m₀) (N : News h₀ env.locals s.heap news)
    (turn : ∀ (k : Int) (t : Tok) (u : Str → Option Value) h tk own, 0 ≤ k → k < (n : Int) → OwnOff own (news.map (·.1)) →
      Fr h₀ env.locals h (fun y => if y = x then some (.int k t) else if stored.contains y then u y else m₀ y) → News h₀ env.locals h (news ++ own) →
      wpAny (model prog w) A (execs body env) (KeepPost h₀ env.locals x stored m₀ news own { s with heap := h, toks := tk } Q) E { s with heap := h, toks := tk })
    (done : ∀ (u : Str → Option Value) h tk, Fr h₀ env.locals h (fun y => if y = x then u y else if stored.contains y then u y else m₀ y) → News h₀ env.locals h news → Q .next { s with heap := h, toks := tk }) :
    wpAny (model prog w) A (pyIter (.ref r)) (fun it s₂ => LoopAtV prog w A h₀ env x body Q E it s₂) E s :=
  kst_range (fun _ : Unit => news) (fun _ => []) (fun _ => True) stored (fun _ _ => True) () hh hr hsmall hn F N trivial (fun p hp => absurd hp List.not_mem_nil) trivial
    (fun _ pre k t u h tk own hk hlt hoff _ _ F' N' => wpAny_mono (turn k t u h tk own (by omega) (by omega) hoff F' N') (fun _ _ p => keep_post p) fun _ _ x => x)
    (fun _ u h tk _ _ F' N' => done u h tk F' N')
end
section
variable {prog : Program} {w : World} {A : Around} {E : Value → Shared → Prop} {s : Shared} {h₀ : Heap} {L l : Addr} {m : Str → Option Value} {news nl : List (Addr × Obj)} {value slice : PySem.Expr} {vs : List Value} {ns : List Int} {P : Params} {k₀ : Int} {n : Nat} {Q : Value → Shared → Prop}
theorem pick_upto (vs : List Value) {y : Int} (h : 0 ≤ y) : slicePick vs.toArray none (some y) none = (vs.take y.toNat).toArray := by
  have e1 : kms_lo none vs.length = 0 := rfl
  have e2 : kms_hi (some y) vs.length = min y.toNat vs.length := if_neg (show ¬ (y < 0) by omega)
  rw [kms_pick_eq]
  show (kms_pick vs none (some y)).toArray = _
  unfold kms_pick
  rw [e1, e2, List.drop_zero, Nat.sub_zero, kmk_take_min]
theorem pick_from (vs : List Value) {y : Int} (h : 0 ≤ y) : slicePick vs.toArray (some y) none none = (vs.drop y.toNat).toArray := by
  have e1 : kms_lo (some y) vs.length = min y.toNat vs.length := if_neg (show ¬ (y < 0) by omega)
  have e2 : kms_hi none vs.length = vs.length := rfl
  rw [kms_pick_eq]
  show (kms_pick vs (some y) none).toArray = _
  unfold kms_pick
  rw [e1, e2, kmk_drop_min, List.take_of_length_le (by rw [List.length_drop]; omega)]
theorem letters_upto {y : Int} {ty : Tok} (F : Fr h₀ L s.heap m) (N : News h₀ L s.heap news) (hm : (l, W.listOf vs.toArray n) ∈ news) (hL : Letters P nl vs ns k₀) (h0 : 0 ≤ y) (hz : ns.length ≤ 14)
    (h : ∀ D ws h', Fr h₀ L h' m → News h₀ L h' ((D, W.listOf (List.toArray ws) 0) :: news) → AllLt D news → Letters P nl ws (ns.take y.toNat) k₀ → Q (.ref D) { s with heap := h' })
    (hs : subscripted slice false (.ref l) (.ref s.heap.objs.size) = operate [.ref s.heap.objs.size, .ref l] (getItem (.ref l) (.ref s.heap.objs.size))) :
    wpAny (model prog w) A (subscriptTail value slice (.ref l) (.ref s.heap.objs.size)) Q E { s with heap := s.heap.push { cls := .type "slice", data := .fields #[.none, .int y ty, .none] } } := by
  have hl : s.heap.IsList l vs.toArray := ⟨_, (N _ hm).1, rfl, n, rfl⟩
  refine kba_turn (value' := PySem.Expr.Name (PySem.Str.ofString "_") ⟨0, 0, 0, 0⟩) (fun _ => rfl) ?_
  refine kmk_slice F N hl .none (.int y ty) (fun D h' F' N' l1 => h D (vs.take y.toNat) h' F' ?_ (allLt_of l1) (hL.take _)) hs (fun _ => rfl) (by rw [PySem.sizeLine_eq, List.size_toArray, hL.1]; omega)
  rw [← pick_upto vs h0]
  exact N'
theorem letters_from {y : Int} {ty : Tok} (F : Fr h₀ L s.heap m) (N : News h₀ L s.heap news) (hm : (l, W.listOf vs.toArray n) ∈ news) (hL : Letters P nl vs ns k₀) (h0 : 0 ≤ y) (hz : ns.length ≤ 14)
    (h : ∀ D ws h', Fr h₀ L h' m → News h₀ L h' ((D, W.listOf (List.toArray ws) 0) :: news) → AllLt D news → Letters P nl ws (ns.drop y.toNat) (k₀ + y.toNat) → Q (.ref D) { s with heap := h' })
    (hs : subscripted slice false (.ref l) (.ref s.heap.objs.size) = operate [.ref s.heap.objs.size, .ref l] (getItem (.ref l) (.ref s.heap.objs.size))) :
    wpAny (model prog w) A (subscriptTail value slice (.ref l) (.ref s.heap.objs.size)) Q E { s with heap := s.heap.push { cls := .type "slice", data := .fields #[.int y ty, .none, .none] } } := by
  have hl : s.heap.IsList l vs.toArray := ⟨_, (N _ hm).1, rfl, n, rfl⟩
  refine kba_turn (value' := PySem.Expr.Name (PySem.Str.ofString "_") ⟨0, 0, 0, 0⟩) (fun _ => rfl) ?_
  refine kmk_slice F N hl (.int y ty) .none (fun D h' F' N' l1 => h D (vs.drop y.toNat) h' F' ?_ (allLt_of l1) (hL.drop _)) hs (fun _ => rfl) (by rw [PySem.sizeLine_eq, List.size_toArray, hL.1]; omega)
  rw [← pick_from vs h0]
  exact N'
theorem extend3 {D b : Addr} {us : List Value} {x y z : Value} {c c2 : Nat} {news' : List (Addr × Obj)} {Q : Value → Shared → Prop} (F : Fr h₀ L s.heap m) (N : News h₀ L s.heap news) (hb : (b, W.listOf #[x, y, z] c2) ∈ news)
    (U : Upd D (W.listOf us.toArray c) (W.listOf (us ++ [x, y, z]).toArray (c + 1)) news news') (hsz : us.length ≤ 60) (h : ∀ h', Fr h₀ L h' m → News h₀ L h' news' → Q .none { s with heap := h' }) :
    wpAny (model prog w) A (call (.builtin "list.extend") [.ref D, .ref b]) Q E s := by
  have e : us.toArray.size = us.length := List.size_toArray
  have e3 : (#[x, y, z] : Array Value).size = 3 := rfl
  have hbig : us.toArray.size + (#[x, y, z] : Array Value).size ≤ sizeLine := by rw [e, e3, PySem.sizeLine_eq]; omega
  refine kl_extend F N hb rfl (by simp) U ?_ (by rw [PySem.sizeLine_eq]; simp; omega) (Nat.le_succ_of_le hbig) h
  unfold Builtin.List.listTooLong
  simp only [Bool.and_eq_true, decide_eq_true_eq, not_and]
  intro _
  exact Nat.not_lt.mpr hbig
end
end

section
def TupEnd (h₀ : Heap) (L : Addr) (stored : List Str) (m₀ : Str → Option Value) (led : List (Addr × Obj)) (s₁ s₂ : Shared) : Prop :=
  ∃ h' tk m' news', s₂ = { s₁ with heap := h', toks := tk } ∧ Fr h₀ L h' m' ∧ News h₀ L h' news' ∧ (∀ p ∈ led, p ∈ news') ∧ (∀ z, stored.contains z = false → m' z = m₀ z)
def TupPost (h₀ : Heap) (L : Addr) (stored : List Str) (m₀ : Str → Option Value) (led : List (Addr × Obj)) (s₁ : Shared) (Q : Flow → Shared → Prop) (f : Flow) (s₂ : Shared) : Prop :=
  match f with
  | .ret v => Q (.ret v) s₂
  | .brk => Q .next s₂
  | _ => TupEnd h₀ L stored m₀ led s₁ s₂
theorem TupEnd.intro {h₀ : Heap} {L : Addr} {stored : List Str} {m₀ m' : Str → Option Value} {led news' : List (Addr × Obj)} {s₁ : Shared} {h' : Heap} {tk : Nat} (F : Fr h₀ L h' m') (N : News h₀ L h' news') (hn : ∀ p ∈ led, p ∈ news')
    (hs : ∀ z, stored.contains z = false → m' z = m₀ z) : TupEnd h₀ L stored m₀ led s₁ { s₁ with heap := h', toks := tk } := ⟨h', tk, m', news', rfl, F, N, hn, hs⟩
section
variable {prog : Program} {w : World} {A : Around} {E : Value → Shared → Prop} {s : Shared} {env : Env} {h₀ : Heap} {target : PySem.Expr} {body : List Stmt} {Q : Flow → Shared → Prop}
theorem fr_stored {L : Addr} {h : Heap} {stored : List Str} {m₀ m : Str → Option Value} (hm : ∀ z, stored.contains z = false → m z = m₀ z) (F : Fr h₀ L h m) : Fr h₀ L h (fun y => if stored.contains y then m y else m₀ y) := by
  have e : (fun y => if stored.contains y then m y else m₀ y) = m := by
    funext y
    cases h1 : stored.contains y with
    | true => simp
    | false => simp only [Bool.false_eq_true, if_false]; exact (hm y h1).symm
  rw [e]
  exact F
theorem tup_rest {T : Addr} {lo : Obj} {I : Addr} {vs : List Value} {m₀ : Str → Option Value} {news : List (Addr × Obj)} (stored : List Str) (hm : (T, lo) ∈ news) (hI : ∀ p ∈ news, p.1 < I)
    (turn : ∀ v ∈ vs, ∀ (u : Str → Option Value) h tk (o : Obj), Fr h₀ env.locals h (fun y => if stored.contains y then u y else m₀ y) → News h₀ env.locals h ((I, o) :: news) →
      wpAny (model prog w) A (assign target env v) (fun _ s₂ => wpAny (model prog w) A (execs body env) (TupPost h₀ env.locals stored m₀ ((I, o) :: news) { s with heap := h, toks := tk } Q) E s₂) E { s with heap := h, toks := tk })
    (done : ∀ (u : Str → Option Value) h tk, Fr h₀ env.locals h (fun y => if stored.contains y then u y else m₀ y) → News h₀ env.locals h news → Q .next { s with heap := h, toks := tk }) :
    ∀ m, (∀ z, stored.contains z = false → m z = m₀ z) → ItemsRest prog w A E h₀ env target body Q s [(I, "tuple_iterator")] [(T, lo)] (vs.map .val) m news := by
  induction vs with
  | nil => exact fun m hag h tk F N => done m h tk (fr_stored hag F) N
  | cons v r ih =>
    intro m hag
    refine ItemsRest.val fun h tk F => ?_
    intro o _ N
    refine wpAny_mono (turn v (.head _) m h tk o (fr_stored hag F) N) (fun _ s₂ h₂ => wpAny_mono h₂ (fun f s₃ p => ?_) fun _ _ e => e) fun _ _ e => e
    have fin : TupEnd h₀ env.locals stored m₀ ((I, o) :: news) { s with heap := h, toks := tk } s₃ → UnrEndW h₀ env.locals { s with heap := h, toks := tk } [(I, o)] (fun m' n' => SubL [(T, lo)] n' ∧ ItemsRest prog w A E h₀ env target body Q s [(I, "tuple_iterator")] [(T, lo)] (r.map .val) m' n') s₃ := by
      rintro ⟨h', tk', m', news', rfl, F', N', hn, hag'⟩
      refine ⟨h', tk', m', news, rfl, F', fun p hp => N' p (hn p hp), fun p hp q hq => ?_, ⟨hm, trivial⟩, ih (fun v hv => turn v (.tail _ hv)) m' hag'⟩
      rw [List.mem_singleton.mp hq]
      exact Nat.ne_of_lt (hI p hp)
    cases f with
    | ret v => exact p
    | brk => exact p
    | next => exact fin p
    | cont => exact fin p
theorem tup_keep {T : Addr} {vs : List Value} {nT : Nat} {m₀ : Str → Option Value} {news : List (Addr × Obj)} (stored : List Str) (Good : Value → Prop)
    (hh : A.handled = none) (F : Fr h₀ env.locals s.heap m₀) (N : News h₀ env.locals s.heap news) (hm : (T, ({ cls := .type "tuple", data := .seq vs.toArray nT } : Obj)) ∈ news) (hg : ∀ v ∈ vs, Good v)
    (turn : ∀ v (u : Str → Option Value) h tk I (o : Obj), Good v → AllLt I news → Fr h₀ env.locals h (fun y => if stored.contains y then u y else m₀ y) → News h₀ env.locals h ((I, o) :: news) →
      wpAny (model prog w) A (assign target env v) (fun _ s₂ => wpAny (model prog w) A (execs body env) (TupPost h₀ env.locals stored m₀ ((I, o) :: news) { s with heap := h, toks := tk } Q) E s₂) E { s with heap := h, toks := tk })
    (done : ∀ (u : Str → Option Value) h tk, Fr h₀ env.locals h (fun y => if stored.contains y then u y else m₀ y) → News h₀ env.locals h news → Q .next { s with heap := h, toks := tk }) :
    wpAny (model prog w) A (pyIter (.ref T)) (fun it s₂ => TurnsAt prog w A h₀ env target body Q E it s₂) E s :=
  iter_tupTurns hh F N hm rfl rfl fun I hI => tup_rest stored hm hI (fun v hv u h tk o F' N' => turn v u h tk I o (hg v hv) (allLt_of hI) F' N') done m₀ fun _ _ => rfl
end
/-- a row and the letters beside it, as a pair in the ledger -/
def GoodPair (P : Params) (nl news : List (Addr × Obj)) (v : Value) : Prop :=
  ∃ (T r l : Addr) (ws ls : List Value) (ns : List Int) (k : Int) (c c' cT : Nat), v = .ref T ∧ (T, ({ cls := .type "tuple", data := .seq [.ref r, .ref l].toArray cT } : Obj)) ∈ news ∧ (r, W.listOf ws.toArray c) ∈ news ∧ IntsAre ws ns ∧
    (l, W.listOf ls.toArray c') ∈ news ∧ Letters P nl ls ns k ∧ Asc ns ∧ ns.length ≤ 14
theorem GoodPair.intro {P : Params} {nl news : List (Addr × Obj)} {T r l : Addr} {ws ls : List Value} {ns : List Int} {k : Int} {c c' cT : Nat} (h1 : (T, ({ cls := .type "tuple", data := .seq [.ref r, .ref l].toArray cT } : Obj)) ∈ news) (h2 : (r, W.listOf ws.toArray c) ∈ news) (h3 : IntsAre ws ns)
    (h4 : (l, W.listOf ls.toArray c') ∈ news) (h5 : Letters P nl ls ns k) (h6 : Asc ns) (h7 : ns.length ≤ 14) : GoodPair P nl news (.ref T) := ⟨T, r, l, ws, ls, ns, k, c, c', cT, rfl, h1, h2, h3, h4, h5, h6, h7⟩
section
variable {prog : Program} {w : World} {A : Around} {E : Value → Shared → Prop} {s : Shared} {env : Env} {h₀ : Heap} {target : PySem.Expr} {body : List Stmt} {Q : Flow → Shared → Prop}
theorem pair_keep {T : Addr} {vs : List Value} {nT : Nat} {m₀ : Str → Option Value} {P : Params} {nl news : List (Addr × Obj)} (stored : List Str)
    (hh : A.handled = none) (F : Fr h₀ env.locals s.heap m₀) (N : News h₀ env.locals s.heap news) (hm : (T, ({ cls := .type "tuple", data := .seq vs.toArray nT } : Obj)) ∈ news) (hg : ∀ v ∈ vs, GoodPair P nl news v)
    (turn : ∀ v (u : Str → Option Value) h tk I (o : Obj), GoodPair P nl news v → AllLt I news → Fr h₀ env.locals h (fun y => if stored.contains y then u y else m₀ y) → News h₀ env.locals h ((I, o) :: news) →
      wpAny (model prog w) A (assign target env v) (fun _ s₂ => wpAny (model prog w) A (execs body env) (TupPost h₀ env.locals stored m₀ ((I, o) :: news) { s with heap := h, toks := tk } Q) E s₂) E { s with heap := h, toks := tk })
    (done : ∀ (u : Str → Option Value) h tk, Fr h₀ env.locals h (fun y => if stored.contains y then u y else m₀ y) → News h₀ env.locals h news → Q .next { s with heap := h, toks := tk }) :
    wpAny (model prog w) A (pyIter (.ref T)) (fun it s₂ => TurnsAt prog w A h₀ env target body Q E it s₂) E s := tup_keep stored _ hh F N hm hg turn done
end
section
variable {prog : Program} {w : World} {A : Around} {E : Value → Shared → Prop} {s : Shared} {h₀ : Heap} {L l : Addr}
/-- an item of a list of ints at a place in it, counted from either end -/
theorem item_some {news : List (Addr × Obj)} {vs : List Value} {ns : List Int} {n : Nat} {k : Int} {u : Tok} {value slice : PySem.Expr} {Q : Value → Shared → Prop}
    (N : News h₀ L s.heap news) (hl : (l, W.listOf vs.toArray n) ∈ news) (hi : IntsAre vs ns) (h0 : -(ns.length : Int) ≤ k) (hlt : k < (ns.length : Int)) (hsz : ns.length ≤ 14)
    (h : ∀ (n : Int) (t : Tok), Q (.int n t) s)
    (hs : subscripted slice false (.ref l) (.int k u) = operate [.ref l, .int k u] (getItem (.ref l) (.int k u)) := by with_unfolding_all rfl) :
    wpAny (model prog w) A (subscriptTail value slice (.ref l) (.int k u)) Q E s := by
  have hlist : s.heap.IsList l vs.toArray := ⟨_, (N _ hl).1, rfl, n, rfl⟩
  have hlen := hi.length
  by_cases hk : 0 ≤ k
  · have hk' : k.toNat < vs.length := by omega
    obtain ⟨x, t, e, _⟩ := IntsAre.at hi k.toNat _ (List.getElem?_eq_getElem hk')
    exact tail_any hlist.typeIs slot_list_getitem.lookup (wpAny_getItem_list hlist hk (by omega) (by simpa using (List.getElem?_eq_getElem hk').trans (congrArg some e)) (h x t)) hs
  · have hk' : (k + (vs.length : Int)).toNat < vs.length := by omega
    obtain ⟨x, t, e, _⟩ := IntsAre.at hi (k + (vs.length : Int)).toNat _ (List.getElem?_eq_getElem hk')
    have e2 : vs.toArray[(k + (vs.toArray.size : Int)).toNat]? = some (.int x t) := by
      rw [List.size_toArray, List.getElem?_toArray]
      exact (List.getElem?_eq_getElem hk').trans (congrArg some e)
    exact tail_any hlist.typeIs slot_list_getitem.lookup (wpAny_getItem_list_neg hlist (by omega) (by rw [List.size_toArray]; omega) (by omega) e2 (h x t)) hs
end
def GoodInt (v : Value) : Prop := ∃ (n : Int) (t : Tok), v = .int n t
theorem GoodInt.intro {n : Int} {t : Tok} : GoodInt (.int n t) := ⟨n, t, rfl⟩
end

local macro_rules | `(tactic| k_mem) => `(tactic| first | assumption | exact List.mem_append_left _ (by assumption))
local macro_rules | `(tactic| walk_at "storeName") => `(tactic| (k_here; dsimp only; walk_at "storeName"))
local macro_rules | `(tactic| ktr_units) => `(tactic| (have hcL9 := cLine_is; (try simp only [units_in1, units_deeper, Around.mark_units, units_caller] at *); omega))
local macro_rules | `(tactic| walk_at "call ref") => `(tactic| (k_here; (with_reducible show wpAny _ _ (call (Value.ref 108) [Value.ref _]) _ _ _); k_dflt (refine' uids_call ?k1 ?k2 ?k3 ?k4 ?k5 ?k6 ?k7 ?k8 ?k9 ?k10 ?k11 ?_; (case k1 => k_asm); (case k2 => k_asm); (case k3 => k_asm); (case k4 => k_asm); (case k5 => k_asm); (case k6 => exact rfl); (case k7 => assumption); (case k8 => assumption); (case k9 => omega); (case k10 => ktr_room); (case k11 => ktr_units); k_whole); intro lU vU nU cU hU tkU F' N' hIU hAU h1U h14U; (try dsimp only); (try k_fold)))
local macro_rules | `(tactic| walk_at "call ref") => `(tactic| (k_here; (with_reducible show wpAny _ _ (call (Value.ref 45) [_, _, _, _, _]) _ _ _); k_dflt (refine' letter_call ?k1 ?k2 ?k3 ?k4 ?k5 ?k6 ?k7 ?k10 ?k11 ?_; (case k1 => k_asm); (case k2 => k_asm); (case k3 => k_asm); (case k4 => k_asm); (case k5 => k_asm); (case k6 => exact rfl); (case k7 => k_mem); (case k10 => ktr_room); (case k11 => ktr_units); k_whole); intro xL dL esL hL tkL F' N' hltL hdxL hDL; (try dsimp only); (try k_fold)))
local macro_rules | `(tactic| walk_at "call ref") => `(tactic| (k_here; (with_reducible show wpAny _ _ (call (Value.ref 113) [_, _]) _ _ _); k_dflt (refine' due_call ?k1 ?k2 ?k3 ?k4 ?k5 ?k6 ?k7 ?k8 ?k9 ?k10 ?k11 ?_; (case k1 => k_asm); (case k2 => k_asm); (case k3 => k_asm); (case k4 => k_asm); (case k5 => k_asm); (case k6 => exact rfl); (case k7 => k_mem); (case k8 => assumption); (case k9 => first | omega | ((try simp only [List.length_take, List.length_drop]); omega)); (case k10 => ktr_room); (case k11 => ktr_units); k_whole); intro tD hD tkD F' N'; (try dsimp only); (try k_sweep); (try k_fold)))
local macro_rules | `(tactic| walk_at "call ref") => `(tactic| (k_here; (with_reducible show wpAny _ _ (call (Value.ref 94) [_, _]) _ _ _); k_dflt (refine' place_call ?k1 ?k2 ?k3 ?k4 ?k5 ?k6 ?k7 ?k8 ?k9 ?kA ?kB ?k10 ?k11 ?_; (case k1 => k_asm); (case k2 => k_asm); (case k3 => k_asm); (case k4 => k_asm); (case k5 => k_asm); (case k6 => exact rfl); (case k7 => k_mem); (case k8 => assumption); (case k9 => (intro p9 h9; kcf_m)); (case kA => first | assumption | exact asc_take (by assumption) _ | exact asc_drop (by assumption) _); (case kB => first | omega | ((try simp only [List.length_take, List.length_drop]); omega)); (case k10 => ktr_room); (case k11 => ktr_units); k_whole); intro tD hD tkD F' N'; (try dsimp only); (try k_sweep); (try k_fold)))
local macro_rules | `(tactic| walk_at "eval ListComp") => `(tactic| (k_here; k_dflt (refine enum_ListComp (F₀ := by k_asm) (by with_unfolding_all rfl) (by decide) (by rfl) (by decide) (by rfl) (by rfl) (by decide) ?_)))
local macro_rules | `(tactic| walk_at "call type:enumerate") => `(tactic| (k_here; k_dflt (refine enum_letters (by rfl) (by k_asm) (by k_asm) (by k_mem) (by assumption) (by assumption) ?ks1 ?kf1); (case' ks1 => intro eI iI cI DI oeI oiI oCI iN uN tuN tN ysN nxN mN hN tkN E' hCN hx1N hx2N F' N'); (case' kf1 => (intro ysL nxL DL hL tkL hLet hOffL hNeL F' N'; (simp only [List.map_cons, List.map_nil] at hOffL); (simp only [List.forall_mem_cons, List.not_mem_nil, false_implies, implies_true, and_true] at hNeL); (simp only [List.cons_append, List.nil_append] at N'); (have hMk := kstMark); (try k_sweep)))))
local macro_rules | `(tactic| walk_at "LetterMade") => `(tactic| (k_dflt (exact LetterMade.intro (by k_asm) (by k_asm) (by assumption) (by assumption) (by assumption))))
local macro_rules | `(tactic| kst_facts1) => `(tactic| exact IntsAre.append (by assumption) (.cons _ _ (.cons _ _ (.cons _ _ .nil))))
local macro_rules | `(tactic| walk_at "call builtin:list.extend") => `(tactic| (k_here; k_dflt (refine' extend3 ?F ?N ?b ?U ?z ?_; (case F => k_asm); (case N => k_asm); (case b => k_mem); (case U => k_upd); (case z => ((have hL9 := IntsAre.length (by assumption)); omega))); intro h' F' N'; (try k_sweep)))
local macro_rules | `(tactic| walk_at "pyIter ref") => `(tactic| (k_here; (with_reducible show wpAny _ _ (pyIter (Value.ref _)) (fun it s₂ => LoopAtV _ _ _ _ _ _ [Stmt.Expr _ _] _ _ it s₂) _ _); k_state (fun (pre asked : List Int) => asked.length = 2 + 3 * pre.length) "asked"))
local macro_rules | `(tactic| walk_at "pyIter ref") => `(tactic| (k_here; (with_reducible show wpAny _ _ (pyIter (Value.ref _)) (fun it s₂ => LoopAtV _ _ _ _ _ _ (Stmt.Assign _ _ _ :: _) _ _ it s₂) _ _); k_dflt (refine' loop_keep [Str.ofString "due"] ?k1 ?k2 ?k3 ?k4 ?k5 ?kt2 ?kf2; (case k1 => rfl); (case k4 => k_asm); (case k5 => k_asm); (case k2 => k_mem); (case k3 => assumption)); (case' kt2 => (intro nI tI uI hI tkI ownI hnI hoffI F' N'; (simp only [List.cons_append, List.nil_append] at N'); (try k_sweep); (try k_fold))); (case' kf2 => (intro uI hI tkI F' N'; (try k_sweep); (try k_fold)))))
local macro_rules | `(tactic| walk_at "pyIter ref") => `(tactic| (k_here; (with_reducible show wpAny _ _ (pyIter (Value.ref _)) (fun it s₂ => LoopAtV _ _ _ _ _ _ (Stmt.For _ _ _ _ _ :: _) _ _ it s₂) _ _); k_dflt (refine' loop_range [Str.ofString "row", Str.ofString "letters", Str.ofString "uid"] ?k1 ?k2 ?k3 ?k6 ?k4 ?k5 ?kt3 ?kf3; (case k1 => rfl); (case k2 => assumption); (case k3 => exact small_one (by omega) (by omega) (by omega) (by omega)); (case k6 => first | exact rangeSize_nat _ _ | rfl); (case k4 => k_asm); (case k5 => k_asm); (case' kt3 => (intro nI tI uI hI tkI ownI hnI hnI2 hoffI F' N'; (try simp only [List.cons_append, List.nil_append] at N'); (try k_sweep); (try k_fold))); (case' kf3 => (intro uI hI tkI F' N'; (try k_sweep); (try k_fold))))))
local macro_rules | `(tactic| walk_at "exec For Name Call cons nil") => `(tactic| (k_here; (rename Fr _ _ _ _ => lF'); (with_unfolding_all refine' For_invVF lF' ?k1 ?k2 ?_; (case k1 => exact rfl); (case k2 => exact rfl); k_whole)))
local macro_rules | `(tactic| walk_at "KeepPost") => `(tactic| (dsimp only [KeepPost]))
local macro_rules | `(tactic| walk_at "KeepEnd") => `(tactic| (k_dflt (exact KeepEnd.intro (by k_asm) (by k_asm) (by kcf_all) (by kcf_all) (by kpf_same2))))
local macro_rules | `(tactic| walk_at "subscriptTail Attribute Name Slice ref ref") => `(tactic| (k_here; k_dflt (first | (refine' letters_upto ?y1 ?y2 ?y3 ?y4 ?y5 ?y6 ?_ ?y7; (case y1 => k_asm); (case y2 => k_asm); (case y3 => k_mem); (case y4 => assumption); (case y5 => omega); (case y6 => omega); (case y7 => with_unfolding_all rfl)) | (refine' letters_from ?y1 ?y2 ?y3 ?y4 ?y5 ?y6 ?_ ?y7; (case y1 => k_asm); (case y2 => k_asm); (case y3 => k_mem); (case y4 => assumption); (case y5 => omega); (case y6 => omega); (case y7 => with_unfolding_all rfl))); intro D' ws' h' F' N' l1 hL'; (try simp only [AllLt, and_true] at l1); (try k_sweep); (try dsimp only)))
local macro_rules | `(tactic| walk_at "subscriptTail") => `(tactic| (k_here; (with_reducible show wpAny _ _ (subscriptTail _ _ (Value.ref _) (Value.int (due _ _) _)) _ _ _); k_dflt (refine' item_letter ?k1 ?k2 ?k3 ?k4 ?k5 ?k6 ?_ ?k7; (case k1 => k_asm); (case k2 => k_mem); (case k3 => assumption); (case k4 => omega); (case k5 => exact due_lt (by omega)); (case k6 => omega); (case k7 => with_unfolding_all rfl); k_whole); intro x' d' k1' k2' k3' k4' k5' tu' tk' v2' v3' v4' hk' hx' hm1' hm2'))
local macro_rules | `(tactic| walk_at "pyIter ref") => `(tactic| (k_here; (with_reducible show wpAny _ _ (pyIter (Value.ref _)) (fun it s₂ => TurnsAt _ _ _ _ _ (Expr.Tuple _ _ _) _ _ _ it s₂) _ _); k_dflt (refine' pair_keep [Str.ofString "row", Str.ofString "letters", Str.ofString "uid"] ?z1 ?z2 ?z3 ?z4 ?z5 ?ko4 ?kp4; (case z1 => rfl); (case z2 => k_asm); (case z3 => k_asm); (case z4 => k_mem); (case z5 => (refine List.forall_mem_cons.mpr ⟨?_, List.forall_mem_cons.mpr ⟨?_, List.forall_mem_nil _⟩⟩ <;> exact GoodPair.intro (by k_mem) (by k_mem) (by assumption) (by k_mem) (by assumption) (by first | exact asc_take (by assumption) _ | exact asc_drop (by assumption) _) (by simp only [List.length_take, List.length_drop]; omega))); (case' ko4 => (intro vP uP hP tkP IP oP hGoodP hIP F' N'; (obtain ⟨TP, rP, lP, wsP, lsP, nsP, kP, cP, cP2, cTP, eP, hTP, hrP, hiP, hlP, hLP, hAP, hzP⟩ := hGoodP); subst eP; (try simp only [AllLt, and_true] at hIP); (try k_sweep); (try dsimp only); (try k_fold))); (case' kp4 => (intro uP hP tkP F' N'; (try k_sweep); (try dsimp only); (try k_fold))))))
local macro_rules | `(tactic| walk_at "pyIter ref") => `(tactic| (k_here; (with_reducible show wpAny _ _ (pyIter (Value.ref _)) (fun it s₂ => TurnsAt _ _ _ _ _ (Expr.Name _ _) _ _ _ it s₂) _ _); k_dflt (refine' tup_keep [Str.ofString "uid"] GoodInt ?z1 ?z2 ?z3 ?z4 ?z5 ?ko5 ?kp5; (case z1 => rfl); (case z2 => k_asm); (case z3 => k_asm); (case z4 => k_mem); (case z5 => (repeat' (first | exact List.forall_mem_nil _ | exact GoodInt.intro | refine List.forall_mem_cons.mpr ⟨?_, ?_⟩))); (case' ko5 => (intro vP uP hP tkP IP oP hGoodP hIP F' N'; (obtain ⟨nP, tP, eP⟩ := hGoodP); subst eP; (try simp only [AllLt, and_true] at hIP); (try k_sweep); (try dsimp only); (try k_fold))); (case' kp5 => (intro uP hP tkP F' N'; (try k_sweep); (try dsimp only); (try k_fold))))))
local macro_rules | `(tactic| walk_at "TupPost") => `(tactic| (dsimp only [TupPost]))
local macro_rules | `(tactic| walk_at "TupEnd") => `(tactic| (k_dflt (exact TupEnd.intro (by k_asm) (by k_asm) (by kcf_all) (by (intro z h2; (simp only [List.contains_cons, List.contains_nil, Bool.or_false, Bool.or_eq_false_iff, beq_eq_false_iff_ne, ne_eq] at h2); (simp [h2]; done))))))
local macro_rules | `(tactic| walk_at "subscriptTail") => `(tactic| (k_here; (with_reducible show wpAny _ _ (subscriptTail (Expr.Name (Str.ofString "uids") _) _ (Value.ref _) (Value.int _ _)) _ _ _); k_dflt (refine' item_some ?k1 ?k2 ?k3 ?k4 ?k5 ?k6 ?_ ?k7; (case k1 => k_asm); (case k2 => k_mem); (case k3 => assumption); (case k4 => first | omega | ((try rw [Int.fdiv_eq_ediv_of_nonneg _ (by decide)]); omega)); (case k5 => first | omega | ((try rw [Int.fdiv_eq_ediv_of_nonneg _ (by decide)]); omega)); (case k6 => omega); (case k7 => with_unfolding_all rfl)); intro nS tS; (try dsimp only)))

theorem walk : PySem.Challenge.rw_or0019_01.Holds := by
  refine hd ?_
  k_go0
  all_goals (try k_fold)
  k_steps

end Mine

set_option maxRecDepth 100000 in
set_option maxHeartbeats 8000000 in
theorem PySem.Challenge.cw_or0019_01_holds : PySem.Challenge.rw_or0019_01.Holds := by
  exact Mine.walk
