import PyProof.Rows.All
import Wide.All
import OpenK.AllK
import Wide.FinOn
import Lean
import PySem.Challenge.RW_or0031_01
/-! The law of take_quoted: the law draws octets, reads them by its own reader, and then by the program's reader.
Each part stands in a section of its own, so that its lines of the walk end with it. -/
open PySem PySem.W PyProof.Rows
set_option Elab.async false
set_option rowWalk.seconds 0
namespace Mine
set_option maxRecDepth 100000 in
set_option maxHeartbeats 8000000 in
open_top hd for PySem.Challenge.rw_or0031_01
section
local macro_rules | `(tactic| k_all) => `(tactic| assumption)
set_option maxRecDepth 100000 in
set_option maxHeartbeats 8000000 in
theorem draw_spec (w : World) (mean : ExcName → Option Value) (mg mb : Str → Option Value)
    (dp un : Nat) (gd : Option (List Code)) (cn : Str) (cs : Scope) (a : Addr) (ccd : Value) (cl : List (Str × Addr)) (outer : List Env) (A₀ : Around) (base h₀ : Heap) (L : Addr)
    (m : Str → Option Value) (s : Shared) (Q E : Value → Shared → Prop) (tp ce : Addr) (ats many : Int) (t t2 : Tok) (vs : List Value) (ns : List Int) (n1 n2 : Nat) (rest : List (Addr × Obj))
    (B : Below A₀ base outer h₀) (F : Fr h₀ L s.heap m) (X : (hd.heap_39 w.params).In h₀)
    (N : News h₀ L s.heap ((tp, listOf #[.ref ce, .int ats t] n1) :: (ce, listOf vs.toArray n2) :: rest))
    (T : Top hd.view_39 (looseW hd.view_39 [Str.ofString "PostError"]) mean mg mb h₀)
    (hk : cs.kind = .function) (hd' : dp + 1 < recursionLimit) (hu : un + 8 < cLine)
    (hi : IntsAre vs ns) (hne : @Ne Nat ce tp) (hrest : ∀ p ∈ rest, p.1 ≠ tp)
    (hlen : 0 < ns.length) (hlen2 : ns.length ≤ 63) (hat : 0 ≤ ats) (hat2 : ats ≤ 1000) (hm : 0 < many) (hm2 : many ≤ 1000)
    (ret : ∀ (v : Nat) t1 t3 h' tk', (v : Int) < many → Fr h₀ L h' m → News h₀ L h' ((tp, listOf #[.ref ce, .int (ats + 1) t1] n1) :: (ce, listOf vs.toArray n2) :: rest) → Q (.int (v : Int) t3) { s with heap := h', toks := tk' }) :
    wpAny (model PySem.Challenge.rw_or0031_01.row.prog w) (ktrTop dp un gd cn cs L a ccd cl outer) (call (.ref 161) [.ref tp, .int many t2]) Q E s := by
  (w_top off; revert X; k_fill; intro X)
  refine wpAny_call ?_
  k_dflt ktr_enter
  k_steps
  have back : ∀ (v : Int) t1 t3 h' tk', 0 ≤ v → v < many → Fr h₀ L h' m → News h₀ L h' ((tp, listOf #[.ref ce, .int (ats + 1) t1] n1) :: (ce, listOf vs.toArray n2) :: rest) → Q (.int v t3) { s with heap := h', toks := tk' } := fun v t1 t3 h' tk' h0 h1 F' N' => by
    obtain ⟨k, rfl⟩ := Int.eq_ofNat_of_zero_le h0
    exact ret k t1 t3 h' tk' h1 F' N'
  exact back _ _ _ _ _ (Int.fmod_nonneg_of_pos _ hm) (Int.fmod_lt_of_pos _ hm) (by k_asm) (by k_asm)

theorem upd_parts {d : Addr} {o o' : Obj} {l l' : List (Addr × Obj)} (U : Upd d o o' l l') : (d, o) ∈ l ∧ (∀ p ∈ l', p = (d, o') ∨ (p ∈ l ∧ p.1 ≠ d)) := by
  obtain ⟨pre, post, rfl, rfl, h1, h2⟩ := U.split
  refine ⟨by simp, fun p hp => ?_⟩
  rcases List.mem_append.mp hp with q | q
  · exact .inr ⟨List.mem_append_left _ q, h1 p q⟩
  · rcases List.mem_cons.mp q with rfl | q
    · exact .inl rfl
    · exact .inr ⟨List.mem_append_right _ (.tail _ q), h2 p q⟩

/-- the draw over any ledger that bears the tape -/
theorem draw_call (w : World) (mean : ExcName → Option Value) (mg mb : Str → Option Value)
    (dp un : Nat) (gd : Option (List Code)) (cn : Str) (cs : Scope) (a : Addr) (ccd : Value) (cl : List (Str × Addr)) (outer : List Env) (A₀ : Around) (base h₀ : Heap) (L : Addr)
    (m : Str → Option Value) (s : Shared) (Q E : Value → Shared → Prop) (tp ce : Addr) (ats many : Int) (t t2 : Tok) (vs : List Value) (ns : List Int) (n1 n2 : Nat) (news : List (Addr × Obj)) (up : Tok → List (Addr × Obj))
    (B : Below A₀ base outer h₀) (F : Fr h₀ L s.heap m) (X : (hd.heap_39 w.params).In h₀)
    (N : News h₀ L s.heap news) (U : ∀ t1, Upd tp (listOf #[.ref ce, .int ats t] n1) (listOf #[.ref ce, .int (ats + 1) t1] n1) news (up t1)) (hmem : (ce, listOf vs.toArray n2) ∈ news)
    (T : Top hd.view_39 (looseW hd.view_39 [Str.ofString "PostError"]) mean mg mb h₀)
    (hk : cs.kind = .function) (hd' : dp + 1 < recursionLimit) (hu : un + 8 < cLine)
    (hi : IntsAre vs ns) (hne : @Ne Nat ce tp)
    (hlen : 0 < ns.length) (hlen2 : ns.length ≤ 63) (hat : 0 ≤ ats) (hat2 : ats ≤ 1000) (hm : 0 < many) (hm2 : many ≤ 1000)
    (ret : ∀ (v : Nat) t1 t3 h' tk', (v : Int) < many → Fr h₀ L h' m → News h₀ L h' (up t1) → Q (.int (v : Int) t3) { s with heap := h', toks := tk' }) :
    wpAny (model PySem.Challenge.rw_or0031_01.row.prog w) (ktrTop dp un gd cn cs L a ccd cl outer) (call (.ref 161) [.ref tp, .int many t2]) Q E s := by
  refine draw_spec w mean mg mb dp un gd cn cs a ccd cl outer A₀ base h₀ L m s Q E tp ce ats many t t2 vs ns n1 n2 (news.filter fun p => p.1 != tp) B F X (fun p hp => N p ?_) T hk hd' hu hi hne (fun p hp => by simpa using (List.mem_filter.mp hp).2) hlen hlen2 hat hat2 hm hm2
    fun v t1 t3 h' tk' hv F' N' => ret v t1 t3 h' tk' hv F' fun p hp => N' p ?_
  · rcases List.mem_cons.mp hp with rfl | hp
    · exact (upd_parts (U t)).1
    · rcases List.mem_cons.mp hp with rfl | hp
      · exact hmem
      · exact (List.mem_filter.mp hp).1
  · rcases (upd_parts (U t1)).2 p hp with rfl | ⟨q1, q2⟩
    · exact .head _
    · exact .tail _ (.tail _ (List.mem_filter.mpr ⟨q1, by simpa using q2⟩))
end
section
open PySem.Calls PyProof.V PySem.Spec
theorem picked_in (b : Array UInt8) {i j : Int} {c : UInt8} (h0 : 0 ≤ i) (hj : j = i + 1) (hc : b[i.toNat]? = some c) : KBy.picked b (some i) (some j) = #[c] := by
  have hn : i = ((i.toNat : Nat) : Int) := by omega
  have hlt : i.toNat < b.size := (Array.getElem?_eq_some_iff.mp hc).1
  have hj' : j = ((i.toNat + 1 : Nat) : Int) := by omega
  rw [KBc.picked_eq, hj']
  generalize hk : i.toNat = k at *
  subst hn
  simp only [Option.elim, clipAt_nat]
  rw [Nat.min_eq_left (by omega), Nat.min_eq_left (by omega)]
  have e : k + 1 - k = 1 := by omega
  rw [e]
  have hl : k < b.toList.length := by simpa using hlt
  have hg : b.toList[k] = c := by
    have := (Array.getElem?_eq_some_iff.mp hc).2
    simpa using this
  rw [List.drop_eq_getElem_cons hl, hg]
  rfl
theorem picked_out (b : Array UInt8) {i j : Int} (h0 : (b.size : Int) ≤ i) (hj : j = i + 1) : KBy.picked b (some i) (some j) = #[] := by
  have hn : i = ((i.toNat : Nat) : Int) := by omega
  have hj' : j = ((i.toNat + 1 : Nat) : Int) := by omega
  rw [KBc.picked_eq, hj']
  generalize hk : i.toNat = k at *
  subst hn
  simp only [Option.elim, clipAt_nat]
  rw [Nat.min_eq_right (by omega), Nat.min_eq_right (by omega)]
  simp
section
variable {prog : Program} {w : World} {A : Around} {E : Value → Shared → Prop} {s : Shared} {value slice : PySem.Expr} {b : Array UInt8} {t ti tj : Tok} {h₀ : Heap} {L : Addr} {m : PySem.Str → Option Value} {news : List (Addr × Obj)} {Q : Value → Shared → Prop} {i j : Int}
theorem cut_in (hF : Fr h₀ L s.heap m) (hN : News h₀ L s.heap news) (h0 : 0 ≤ i) (h1 : i < (b.size : Int)) (hj : j = i + 1) (hz : b.size ≤ 16777216)
    (h : ∀ c h' t' k, b[i.toNat]? = some c → Fr h₀ L h' m → News h₀ L h' news → Q (.bytes #[c] t') { s with heap := h', toks := k })
    (hs : subscripted slice false (.bytes b t) (.ref s.heap.objs.size) = operate [.ref s.heap.objs.size, .bytes b t] (getItem (.bytes b t) (.ref s.heap.objs.size)) := by with_unfolding_all rfl)
    (ht : ∀ r, letTemporaryGo value (.bytes b t) r = pure () := by intro _; with_unfolding_all rfl) :
    wpAny (model prog w) A (subscriptTail value slice (.bytes b t) (.ref s.heap.objs.size)) Q E { s with heap := s.heap.push { cls := .type "slice", data := .fields #[.int i ti, .int j tj, .none] } } := by
  have hlt : i.toNat < b.size := by omega
  have hc : b[i.toNat]? = some b[i.toNat] := by simp [hlt]
  refine KBc.slice_K hF hN rfl (.int i _) (.int j _) (by rw [KBw.ints_length]; exact hz) (fun h' t' k F' N' _ => ?_) hs ht
  rw [picked_in b h0 hj hc]
  exact h _ _ _ _ hc F' N'
theorem cut_out (hF : Fr h₀ L s.heap m) (hN : News h₀ L s.heap news) (h1 : (b.size : Int) ≤ i) (hj : j = i + 1) (hz : b.size ≤ 16777216)
    (h : ∀ h' t' k, Fr h₀ L h' m → News h₀ L h' news → Q (.bytes #[] t') { s with heap := h', toks := k })
    (hs : subscripted slice false (.bytes b t) (.ref s.heap.objs.size) = operate [.ref s.heap.objs.size, .bytes b t] (getItem (.bytes b t) (.ref s.heap.objs.size)) := by with_unfolding_all rfl)
    (ht : ∀ r, letTemporaryGo value (.bytes b t) r = pure () := by intro _; with_unfolding_all rfl) :
    wpAny (model prog w) A (subscriptTail value slice (.bytes b t) (.ref s.heap.objs.size)) Q E { s with heap := s.heap.push { cls := .type "slice", data := .fields #[.int i ti, .int j tj, .none] } } := by
  refine KBc.slice_K hF hN rfl (.int i _) (.int j _) (by rw [KBw.ints_length]; exact hz) (fun h' t' k F' N' _ => ?_) hs ht
  rw [picked_out b h1 hj]
  exact h _ _ _ F' N'
theorem cut_any (hF : Fr h₀ L s.heap m) (hN : News h₀ L s.heap news) (h0 : 0 ≤ i) (hj : j = i + 1) (hz : b.size ≤ 16777216)
    (h1 : i < (b.size : Int) → ∀ c h' t' k, b[i.toNat]? = some c → Fr h₀ L h' m → News h₀ L h' news → Q (.bytes #[c] t') { s with heap := h', toks := k })
    (h2 : (b.size : Int) ≤ i → ∀ h' t' k, Fr h₀ L h' m → News h₀ L h' news → Q (.bytes #[] t') { s with heap := h', toks := k })
    (hs : subscripted slice false (.bytes b t) (.ref s.heap.objs.size) = operate [.ref s.heap.objs.size, .bytes b t] (getItem (.bytes b t) (.ref s.heap.objs.size)) := by with_unfolding_all rfl)
    (ht : ∀ r, letTemporaryGo value (.bytes b t) r = pure () := by intro _; with_unfolding_all rfl) :
    wpAny (model prog w) A (subscriptTail value slice (.bytes b t) (.ref s.heap.objs.size)) Q E { s with heap := s.heap.push { cls := .type "slice", data := .fields #[.int i ti, .int j tj, .none] } } := by
  rcases Int.lt_or_le i (b.size : Int) with q | q
  · exact cut_in hF hN h0 q hj hz (h1 q) hs ht
  · exact cut_out hF hN q hj hz (h2 q) hs ht
end
end
section
def Hold (P : Prop) : Prop := P
theorem Hold.intro {P : Prop} (h : Hold P) : P := h
noncomputable def rd (bs : Array UInt8) (i : Nat) (acc : List Nat) : Option (List Nat) × Nat :=
  if h : i < bs.size then
    let c := bs[i].toNat
    if c = 34 then (some acc, i + 1)
    else if c = 92 then
      if h2 : i + 1 < bs.size then
        let d := bs[i + 1].toNat
        if d = 34 ∨ d = 92 then rd bs (i + 2) (acc ++ [d])
        else (none, i + 2)
      else (none, i + 1)
    else if c < 32 ∨ 126 < c then (none, i + 1)
    else rd bs (i + 1) (acc ++ [c])
  else (none, i)
termination_by bs.size - i
theorem b_eq {c d : UInt8} (h : (#[c].toList == #[d].toList) = true) : c = d := by simpa using h
theorem b_ne {c d : UInt8} (h : (#[c].toList == #[d].toList) = false) : c ≠ d := by simpa using h
theorem b_eq' {c d : UInt8} (h : (#[c].toList != #[d].toList) = false) : c = d := by simpa using h
theorem b_ne' {c d : UInt8} (h : (#[c].toList != #[d].toList) = true) : c ≠ d := by simpa using h
theorem u_ne {c : UInt8} {k : Nat} (hk : k < 256) (h : c ≠ k.toUInt8) : c.toNat ≠ k := by
  intro e
  apply h
  apply UInt8.toNat_inj.mp
  rw [e]
  simp
  omega
section
variable {bs : Array UInt8} {n : Nat} {acc : List Nat} {c d : UInt8}
theorem at_n (hc : bs[((n : Nat) : Int).toNat]? = some c) : ∃ h : n < bs.size, bs[n] = c := by
  rw [Int.toNat_natCast] at hc
  exact Array.getElem?_eq_some_iff.mp hc
theorem at_n1 (hc : bs[((n : Nat) + 1 : Int).toNat]? = some d) : ∃ h : n + 1 < bs.size, bs[n + 1] = d := by
  have e : ((n : Nat) + 1 : Int).toNat = n + 1 := by omega
  rw [e] at hc
  exact Array.getElem?_eq_some_iff.mp hc
theorem rd_quote (hc : bs[((n : Nat) : Int).toNat]? = some c) (h : (#[c].toList == #[34].toList) = true) : rd bs n acc = (some acc, n + 1) := by
  obtain ⟨hl, he⟩ := at_n hc
  have := b_eq h
  subst this
  rw [rd]
  simp [hl, he]
theorem rd_escEnd (hc : bs[((n : Nat) : Int).toNat]? = some c) (h1 : (#[c].toList == #[34].toList) = false) (h2 : (#[c].toList == #[92].toList) = true) (q : (bs.size : Int) ≤ (n : Int) + 1) : rd bs n acc = (none, n + 1) := by
  obtain ⟨hl, he⟩ := at_n hc
  have := b_eq h2
  subst this
  have : ¬ n + 1 < bs.size := by omega
  rw [rd]
  simp [hl, he, this]
theorem rd_escBad (hc : bs[((n : Nat) : Int).toNat]? = some c) (h1 : (#[c].toList == #[34].toList) = false) (h2 : (#[c].toList == #[92].toList) = true) (hd : bs[((n : Nat) + 1 : Int).toNat]? = some d)
    (h3 : (#[d].toList != #[34].toList) = true) (h4 : (#[d].toList != #[92].toList) = true) : rd bs n acc = (none, n + 2) := by
  obtain ⟨hl, he⟩ := at_n hc
  obtain ⟨hl', he'⟩ := at_n1 hd
  have := b_eq h2
  subst this
  have e3 := u_ne (k := 34) (by decide) (b_ne' h3)
  have e4 := u_ne (k := 92) (by decide) (b_ne' h4)
  rw [rd]
  simp [hl, he, hl', he', e3, e4]
theorem rd_esc34 (hc : bs[((n : Nat) : Int).toNat]? = some c) (h1 : (#[c].toList == #[34].toList) = false) (h2 : (#[c].toList == #[92].toList) = true) (hd : bs[((n : Nat) + 1 : Int).toNat]? = some d)
    (h3 : (#[d].toList != #[34].toList) = false) : rd bs n acc = rd bs (n + 2) (acc ++ [d.toNat]) := by
  obtain ⟨hl, he⟩ := at_n hc
  obtain ⟨hl', he'⟩ := at_n1 hd
  have := b_eq h2
  subst this
  have := b_eq' h3
  subst this
  rw [rd]
  simp [hl, he, hl', he']
theorem rd_esc92 (hc : bs[((n : Nat) : Int).toNat]? = some c) (h1 : (#[c].toList == #[34].toList) = false) (h2 : (#[c].toList == #[92].toList) = true) (hd : bs[((n : Nat) + 1 : Int).toNat]? = some d)
    (h3 : (#[d].toList != #[92].toList) = false) : rd bs n acc = rd bs (n + 2) (acc ++ [d.toNat]) := by
  obtain ⟨hl, he⟩ := at_n hc
  obtain ⟨hl', he'⟩ := at_n1 hd
  have := b_eq h2
  subst this
  have := b_eq' h3
  subst this
  rw [rd]
  simp [hl, he, hl', he']
theorem rd_low (hc : bs[((n : Nat) : Int).toNat]? = some c) (h1 : (#[c].toList == #[34].toList) = false) (h2 : (#[c].toList == #[92].toList) = false) (h3 : ((([c].getD (Int.toNat 0) 0).toNat : Nat) : Int) < 32) : rd bs n acc = (none, n + 1) := by
  obtain ⟨hl, he⟩ := at_n hc
  have e3 := u_ne (k := 34) (by decide) (b_ne h1)
  have e4 := u_ne (k := 92) (by decide) (b_ne h2)
  have h3' : c.toNat < 32 := by have h := h3; simp at h; omega
  rw [rd]
  simp [hl, he, e3, e4, h3']
theorem rd_high (hc : bs[((n : Nat) : Int).toNat]? = some c) (h1 : (#[c].toList == #[34].toList) = false) (h2 : (#[c].toList == #[92].toList) = false) (h3 : 126 < ((([c].getD (Int.toNat 0) 0).toNat : Nat) : Int)) : rd bs n acc = (none, n + 1) := by
  obtain ⟨hl, he⟩ := at_n hc
  have e3 := u_ne (k := 34) (by decide) (b_ne h1)
  have e4 := u_ne (k := 92) (by decide) (b_ne h2)
  have h3' : 126 < c.toNat := by have h := h3; simp at h; omega
  rw [rd]
  simp [hl, he, e3, e4, h3']
theorem rd_good (hc : bs[((n : Nat) : Int).toNat]? = some c) (h1 : (#[c].toList == #[34].toList) = false) (h2 : (#[c].toList == #[92].toList) = false) (h3 : ¬ ((([c].getD (Int.toNat 0) 0).toNat : Nat) : Int) < 32) (h4 : ¬ 126 < ((([c].getD (Int.toNat 0) 0).toNat : Nat) : Int)) :
    rd bs n acc = rd bs (n + 1) (acc ++ [c.toNat]) := by
  obtain ⟨hl, he⟩ := at_n hc
  have e3 := u_ne (k := 34) (by decide) (b_ne h1)
  have e4 := u_ne (k := 92) (by decide) (b_ne h2)
  have h3' : ¬ c.toNat < 32 := by have h := h3; simp at h; omega
  have h4' : ¬ 126 < c.toNat := by have h := h4; simp at h; omega
  rw [rd]
  simp [hl, he, e3, e4, h3', h4']
theorem rd_end (h : ¬ ((n : Int) < (bs.size : Int))) : rd bs n acc = (none, n) := by
  have : ¬ n < bs.size := by omega
  rw [rd]
  simp [this]
theorem no34l (h : (#[d].toList != #[34].toList) = false) (h3 : ((([d].getD (Int.toNat 0) 0).toNat : Nat) : Int) < 32) : False := by
  have := b_eq' h
  subst this
  revert h3
  decide
theorem no34h (h : (#[d].toList != #[34].toList) = false) (h3 : 126 < ((([d].getD (Int.toNat 0) 0).toNat : Nat) : Int)) : False := by
  have := b_eq' h
  subst this
  revert h3
  decide
theorem no92l (h : (#[d].toList != #[92].toList) = false) (h3 : ((([d].getD (Int.toNat 0) 0).toNat : Nat) : Int) < 32) : False := by
  have := b_eq' h
  subst this
  revert h3
  decide
theorem no92h (h : (#[d].toList != #[92].toList) = false) (h3 : 126 < ((([d].getD (Int.toNat 0) 0).toNat : Nat) : Int)) : False := by
  have := b_eq' h
  subst this
  revert h3
  decide
theorem app_chr : (⟨acc.toArray⟩ : PySem.Str) ++ (⟨#[((([c].getD (Int.toNat 0) 0).toNat : Nat) : Int).toNat]⟩ : PySem.Str) = ⟨(acc ++ [c.toNat]).toArray⟩ := by
  apply Str.ext'
  rw [Str.cps_append]
  simp
theorem tx_of {m' : PySem.Str → Option Value} {y : PySem.Str} {S S' : PySem.Str} {t : Tok} (hm : m' y = some (.str S t)) (e : S = S') : m' y = some (.str S' t) := e ▸ hm
end

local macro_rules | `(tactic| walk_at "subscriptTail") => `(tactic| (k_here; (with_reducible show wpAny _ _ (subscriptTail _ (Expr.Slice _ _ none _) (Value.bytes _ _) (Value.ref _)) _ _ _); (with_reducible rename Fr _ _ _ _ => F'); (with_reducible rename News _ _ _ _ => N'); (first
  | ((refine cut_in (s := ⟨_, _, _, _, _⟩) F' N' (by omega) (by omega) (by first | rfl | omega) (by omega) ?_); intro c' h' t' k' hc' F' N'; (try k_sweep))
  | ((refine cut_out (s := ⟨_, _, _, _, _⟩) F' N' (by omega) (by first | rfl | omega) (by omega) ?_); intro h' t' k' F' N'; (try k_sweep))
  | ((refine cut_any (s := ⟨_, _, _, _, _⟩) F' N' (by omega) (by first | rfl | omega) (by omega) ?ka ?kb); (case' ka => (intro q' c' h' t' k' hc' F' N'; (try k_sweep))); (case' kb => (intro q' h' t' k' F' N'; (try k_sweep)))))))
local macro_rules | `(tactic| walk_at "KswEnd") => `(tactic| (refine Hold.intro ?_))
set_option maxRecDepth 100000 in
set_option maxHeartbeats 8000000 in
theorem read_spec (w : World) (mean : ExcName → Option Value) (mg mb : Str → Option Value)
    (dp un : Nat) (gd : Option (List Code)) (cn : Str) (cs : Scope) (a : Addr) (ccd : Value) (cl : List (Str × Addr)) (outer : List Env) (A₀ : Around) (base h₀ : Heap) (L : Addr)
    (m : Str → Option Value) (s : Shared) (Q E : Value → Shared → Prop) (bs : Array UInt8) (at0 : Nat) (t t2 : Tok) (news : List (Addr × Obj))
    (B : Below A₀ base outer h₀) (F : Fr h₀ L s.heap m) (X : (hd.heap_39 w.params).In h₀)
    (N : News h₀ L s.heap news)
    (T : Top hd.view_39 (looseW hd.view_39 [Str.ofString "PostError"]) mean mg mb h₀)
    (hk : cs.kind = .function) (hd' : dp + 1 < recursionLimit) (hu : un + 8 < cLine)
    (hat : at0 ≤ bs.size) (hsz : bs.size ≤ 1000)
    (ret : ∀ r v1 p t3 h' tk', Fr h₀ L h' m → News h₀ L h' ((r, { cls := .type "tuple", data := .seq #[v1, .int p t3] }) :: news) →
       (match (rd bs at0 []).1 with | none => v1 = .none | some l => ∃ t4, v1 = .str ⟨l.toArray⟩ t4) → p = ((rd bs at0 []).2 : Int) → Q (.ref r) { s with heap := h', toks := tk' }) :
    wpAny (model PySem.Challenge.rw_or0031_01.row.prog w) (ktrTop dp un gd cn cs L a ccd cl outer) (call (.ref 168) [.bytes bs t, .int at0 t2]) Q E s := by
  (w_top off; revert X; k_fill; intro X)
  refine wpAny_call ?_
  k_dflt ktr_enter
  iterate 6 walk1
  (rename Fr _ _ _ _ => lF'); (rename News _ _ _ _ => lN')
  refine' ksw_while (fun _ : Nat × List Nat × Tok × Tok => news) (fun c => [(PySem.Str.ofString "at", .int c.1 c.2.2.1), (PySem.Str.ofString "text", .str ⟨c.2.1.toArray⟩ c.2.2.2)]) (fun _ => True) [PySem.Str.ofString "sign"]
    (fun c => c.1 ≤ bs.size ∧ c.2.1.length ≤ c.1 ∧ rd bs c.1 c.2.1 = rd bs at0 []) (fun c => bs.size - c.1) ⟨at0, [], ?tA, ?tT⟩ lF' lN' trivial ?kk ⟨hat, Nat.zero_le _, rfl⟩ ?_
  case kk => exact List.forall_mem_cons.mpr ⟨by with_unfolding_all rfl, List.forall_mem_cons.mpr ⟨by with_unfolding_all rfl, List.forall_mem_nil _⟩⟩
  clear lF' lN'
  rintro ⟨n, acc, tA, tT⟩ u h tk - ⟨hn, hl, hrd⟩ kF kN
  dsimp only at kF kN hn hl hrd
  all_goals (try k_fold)
  k_steps
  all_goals first
    | exact absurd (by assumption) (fun h => no34l (by assumption) h)
    | exact absurd (by assumption) (fun h => no34h (by assumption) h)
    | exact absurd (by assumption) (fun h => no92l (by assumption) h)
    | exact absurd (by assumption) (fun h => no92h (by assumption) h)
    | (have e := hrd.symm.trans (rd_quote (by assumption) (by assumption))
       exact ret _ _ _ _ _ _ (by k_asm) (by k_asm) (by rw [e]; exact ⟨_, rfl⟩) (by rw [e]; rfl))
    | (have e := hrd.symm.trans (rd_escEnd (by assumption) (by assumption) (by assumption) (by assumption))
       exact ret _ _ _ _ _ _ (by k_asm) (by k_asm) (by rw [e]) (by rw [e]; (dsimp only); split <;> omega))
    | (have e := hrd.symm.trans (rd_escBad (by assumption) (by assumption) (by assumption) (by assumption) (by assumption) (by assumption))
       exact ret _ _ _ _ _ _ (by k_asm) (by k_asm) (by rw [e]) (by rw [e]; (dsimp only); split <;> omega))
    | (have e := hrd.symm.trans (rd_low (by assumption) (by assumption) (by assumption) (by assumption))
       exact ret _ _ _ _ _ _ (by k_asm) (by k_asm) (by rw [e]) (by rw [e]; rfl))
    | (have e := hrd.symm.trans (rd_high (by assumption) (by assumption) (by assumption) (by assumption))
       exact ret _ _ _ _ _ _ (by k_asm) (by k_asm) (by rw [e]) (by rw [e]; rfl))
    | (have e := hrd.symm.trans (rd_end (by assumption))
       exact ret _ _ _ _ _ _ (by k_asm) (by k_asm) (by rw [e]) (by rw [e]))
    | (have e := (rd_good (by assumption) (by assumption) (by assumption) (by assumption) (by assumption)).symm.trans hrd
       exact ksw_end (_, _, _, _) (by k_asm) (by k_asm) (fun _ h9 => List.mem_cons_of_mem _ h9) trivial (List.forall_mem_cons.mpr ⟨by with_unfolding_all rfl, List.forall_mem_cons.mpr ⟨tx_of (by with_unfolding_all rfl) app_chr, List.forall_mem_nil _⟩⟩) (by (intro z h2 h3; (simp only [List.forall_mem_cons, List.not_mem_nil, false_implies, implies_true, and_true, ne_eq] at h2); (simp only [List.contains_cons, List.contains_nil, Bool.or_false, Bool.or_eq_false_iff, beq_eq_false_iff_ne, ne_eq] at h3); (simp [kstB, h2, h3]; done))) ⟨by (dsimp only); omega, by (dsimp only); (simp only [List.length_append, List.length_cons, List.length_nil]); omega, e⟩ (by (dsimp only); omega))
    | (have e := (rd_esc34 (by assumption) (by assumption) (by assumption) (by assumption) (by assumption)).symm.trans hrd
       exact ksw_end (_, _, _, _) (by k_asm) (by k_asm) (fun _ h9 => List.mem_cons_of_mem _ h9) trivial (List.forall_mem_cons.mpr ⟨by with_unfolding_all rfl, List.forall_mem_cons.mpr ⟨tx_of (by with_unfolding_all rfl) app_chr, List.forall_mem_nil _⟩⟩) (by (intro z h2 h3; (simp only [List.forall_mem_cons, List.not_mem_nil, false_implies, implies_true, and_true, ne_eq] at h2); (simp only [List.contains_cons, List.contains_nil, Bool.or_false, Bool.or_eq_false_iff, beq_eq_false_iff_ne, ne_eq] at h3); (simp [kstB, h2, h3]; done))) ⟨by (dsimp only); omega, by (dsimp only); (simp only [List.length_append, List.length_cons, List.length_nil]); omega, e⟩ (by (dsimp only); omega))
    | (have e := (rd_esc92 (by assumption) (by assumption) (by assumption) (by assumption) (by assumption)).symm.trans hrd
       exact ksw_end (_, _, _, _) (by k_asm) (by k_asm) (fun _ h9 => List.mem_cons_of_mem _ h9) trivial (List.forall_mem_cons.mpr ⟨by with_unfolding_all rfl, List.forall_mem_cons.mpr ⟨tx_of (by with_unfolding_all rfl) app_chr, List.forall_mem_nil _⟩⟩) (by (intro z h2 h3; (simp only [List.forall_mem_cons, List.not_mem_nil, false_implies, implies_true, and_true, ne_eq] at h2); (simp only [List.contains_cons, List.contains_nil, Bool.or_false, Bool.or_eq_false_iff, beq_eq_false_iff_ne, ne_eq] at h3); (simp [kstB, h2, h3]; done))) ⟨by (dsimp only); omega, by (dsimp only); (simp only [List.length_append, List.length_cons, List.length_nil]); omega, e⟩ (by (dsimp only); omega))
end
section
open PySem.Calls Builtin
set_option maxRecDepth 100000
abbrev excO (C t : Addr) (d : Option Addr) : Obj := { cls := .ref C, dict := d, data := .fields #[.ref t, .none, .none, .none, .bool false, .none] }
abbrev tupO (vs : List Value) : Obj := { cls := .type "tuple", data := .seq vs.toArray }
section
variable {prog : Program} {w : World} {A : Around} {E : Value → Shared → Prop} {R : Result → Shared → Prop} {h : Heap} {g : Array GenState} {d : Drawn} {t : Nat} {os : OsState} {rest : List Value}
/-- a step that reads no object but those of the top is reckoned by the kernel -/
theorem seen {α β : Type} {K : Frag} {x : Sem α} {f : α → Sem β} {Q : β → Shared → Prop} (v : α) (X : K.In h) (e : peek K ⟨prog, w.params⟩ x = some v) (q : wpAny (model prog w) A (f v) Q E ⟨h, g, d, t, os⟩) : wpAny (model prog w) A (x >>= f) Q E ⟨h, g, d, t, os⟩ :=
  wpAny_bind ((Looks.of_peek (M := model prog w) X e).at q)
theorem born (X : (hd.heap_39 w.params).In h) (hz : rest.length ≤ sizeLine) (hq : R (.ok (.ret (.ref (h.objs.size + 1)))) ⟨(h.push (tupO rest)).push (excO 59 h.objs.size none), g, d, t, os⟩) :
    codeAny (model prog w) A (.call (.builtin "Exception.__new__") ⟨.ref 59 :: rest, []⟩) R ⟨h, g, d, t, os⟩ := by
  have C := X _ _ (show (hd.heap_39 w.params).lookup 59 = some _ from rfl)
  refine codeAny_call_builtin_code (Code.quiet_builtin _ (by decide +kernel)) ((Looks.of_peek (M := model prog w) X (r := ()) (by kernel_rfl)).at ?_)
  refine codeAny_builtinAt PySem.F.excBase_Exception.entry (PySem.wpAt_bind (PySem.wpAt_bind (PySem.wpAt_stack fun p below => PySem.wpAt_of_wpAny ?_)))
  refine wpAny_of_eq (a := "Exception") (by kernel_rfl) (PySem.wpAt_of_wpAny ?_)
  refine seen true X (by kernel_rfl) (seen true X (by kernel_rfl) (seen () X (by kernel_rfl) (seen 0 X (by kernel_rfl) ?_)))
  wp_walk
  exact (Heap.size_push h (tupO rest)).symm ▸ hq
/-- the call of WireFault comes to the call of the first def __init__ above it, with the new object -/
theorem made (X : (hd.heap_39 w.params).In h) (hz : rest.length ≤ sizeLine)
    (hq : codeAny (model prog w) (A.under (.builtin "type.__call__" ⟨.ref 59 :: rest, []⟩)) (.call (.ref 36) ⟨.ref (h.objs.size + 1) :: rest, []⟩) (InitBack (h.objs.size + 1) R) ⟨(h.push (tupO rest)).push (excO 59 h.objs.size none), g, d, t, os⟩) :
    codeAny (model prog w) A (.call (.ref 59) ⟨rest, []⟩) R ⟨h, g, d, t, os⟩ := by
  refine codeAny_of_tree ((Looks.of_peek (M := model prog w) X (r := .again (.call (.builtin "type.__call__") ⟨.ref 59 :: rest, []⟩)) (by kernel_rfl)).at (And.intro rfl ?_))
  refine codeAny_call_builtin_at (Code.quiet_builtin _ (by decide +kernel)) entry_typeCall ((Looks.of_peek (M := model prog w) X (r := ()) (by kernel_rfl)).at ?_)
  refine seen (v := [.ref 59, .ref 46, .type "Exception", .type "BaseException", .type "object"]) X (by kernel_rfl) (seen (some "Exception.__new__") X (by kernel_rfl) ?_)
  refine wpAny_bind (wpAny_pure (wpAny_bind (wpAny_holding (wpAny_call (born X hz ?_)))))
  have grow : ∀ b o, h.get? b = some o → ((h.push (tupO rest)).push (excO 59 h.objs.size none)).get? b = some o := fun b o e => Heap.get?_push_of_some _ (Heap.get?_push_of_some _ e)
  have X' := X.keeps grow
  have I : InstAt ((h.push (tupO rest)).push (excO 59 h.objs.size none)) (h.objs.size + 1) (excO 59 h.objs.size none) 59 none := ⟨by heap_get, rfl, rfl, trivial⟩
  have own : Looks (model prog w) ((h.push (tupO rest)).push (excO 59 h.objs.size none)) (isInstance (.ref (h.objs.size + 1)) (.ref 59)) true := I.type.andThen (looks_subIn X' (by kernel_rfl))
  refine wpAny_bind (own.at ?_)
  refine wpAny_bind (wpAny_holding (special_fn X' I (f := 36) (by kernel_rfl) (by kernel_rfl) (wpAny_call (codeAny_mono hq fun r s' z => ?_))))
  cases r with
  | error e => exact z
  | ok f =>
    cases f with
    | ret v => obtain ⟨rfl, z⟩ := z; exact wpAny_pure z
    | _ => exact z.elim
end
end
section
open PySem.Calls Builtin Builtin.ObjectAttr
set_option maxRecDepth 100000
section
variable {prog : Program} {w : World} {A : Around} {E : Value → Shared → Prop} {R : Result → Shared → Prop} {h : Heap} {e t0 : Addr} {dc : Option Addr} {g : Array GenState} {d : Drawn} {t : Nat} {os : OsState} {rest : List Value}
theorem kind59 (he : h.get? e = some (excO 59 t0 dc)) : Looks (model prog w) h (typeOf (.ref e)) (.ref 59) := (Looks.ld he).andThen .now
theorem under59 (X : (hd.heap_39 w.params).In h) (he : h.get? e = some (excO 59 t0 dc)) {T : String} (hT : subIn (hd.heap_39 w.params) (.ref 59) (.type T) = some true) : Looks (model prog w) h (isInstance (.ref e) (.type T)) true :=
  (kind59 he).andThen (looks_subIn X hT)
/-- the base's own __init__ takes the list of the arguments -/
theorem init_ran (X : (hd.heap_39 w.params).In h) (he : h.get? e = some (excO 59 t0 dc)) (hz : rest.length ≤ sizeLine)
    (hq : R (.ok (.ret .none)) ⟨(h.push (tupO rest)).update e (Obj.mapFields (·.setIfInBounds 0 (.ref h.objs.size))), g, d, t, os⟩) : codeAny (model prog w) A (.call (.builtin "Exception.__init__") ⟨.ref e :: rest, []⟩) R ⟨h, g, d, t, os⟩ := by
  have F := PySem.F.excBase_Exception
  have typ := kind59 (prog := prog) (w := w) he
  have own := under59 (prog := prog) X he (T := "Exception") (by kernel_rfl)
  have nam : Looks (model prog w) h (typeNameWhole (.ref 59)) "WireFault" := .of_peek X (by kernel_rfl)
  have full : Looks (model prog w) h (Bind.printed "*" true ⟨.positional, "*", "Exception", .self, [⟨"args", .varPos, false⟩]⟩ (some (.ref e))) "WireFault" := typ.andThen (nam.andThen .now)
  have args : Looks (model prog w) h (Bind.checkArgs "Exception.__init__" ⟨.positional, "*", "Exception", .self, [⟨"args", .varPos, false⟩]⟩ ⟨.ref e :: rest, []⟩) () := fun A Q E s k q =>
    wpAny_bind (full A _ E s k (wpAny_bind (wpAny_pure (wpAny_onRaise (wpAny_of_eq (check_star_args _ _ _ _ _ _) q)))))
  refine codeAny_call_builtin F.init.plain F.initEntry ?_
  simp only [checkBuiltinCall, F.initKind, F.initSplit, F.initRow]
  refine wpAny_bind (own.at (args.at ?_))
  have he' := Heap.get?_push_of_some (tupO rest) he
  unfold Builtin.«BaseException.__init__»
  wp_walk
  exact hq
end
section
variable {prog : Program} {w : World} {A : Around} {E : Value → Shared → Prop} {s : Shared} {h₀ : Heap} {L e t0 : Addr} {dc : Option Addr} {m : Str → Option Value} {news : List (Addr × Obj)} {name : Str} {v : Value}
theorem init_59 {rest : List Value} {Q : Value → Shared → Prop} (F : Fr h₀ L s.heap m) (X₀ : (hd.heap_39 w.params).In h₀) (N : News h₀ L s.heap ((e, excO 59 t0 dc) :: news)) (hr : ∀ p ∈ news, p.1 ≠ e) (hz : rest.length ≤ sizeLine)
    (h : ∀ t1 h', Fr h₀ L h' m → News h₀ L h' ((e, excO 59 t1 dc) :: (t1, tupO rest) :: news) → (∀ p ∈ (t1, tupO rest) :: news, p.1 ≠ e) → (∀ p ∈ news, p.1 < t1) → Q .none { s with heap := h' }) :
    wpAny (model prog w) A (call (.builtin "Exception.__init__") (.ref e :: rest)) Q E s := by
  have he := (N _ (.head _)).1
  have low : ∀ p ∈ (e, excO 59 t0 dc) :: news, p.1 < s.heap.objs.size := fun p hp => Heap.lt_size (N p hp).1
  have ne := Nat.ne_of_gt (low _ (.head _))
  obtain ⟨F2, N2⟩ := news_upd (pre := [(s.heap.objs.size, tupO rest)]) (f := Obj.mapFields (·.setIfInBounds 0 (.ref s.heap.objs.size))) (o' := excO 59 s.heap.objs.size dc) (F.push (tupO rest)) (N.push F (tupO rest)) (List.forall_mem_singleton.mpr ne) hr rfl rfl
  exact wpAny_call (init_ran (X₀.keeps F.keep) he hz (h s.heap.objs.size _ F2 (fun p hp => N2 p ((List.Perm.swap _ _ _).mem_iff.mp hp)) (List.forall_mem_cons.mpr ⟨ne, hr⟩) fun p hp => low p (.tail _ hp)))
/-- a new name in a dict of the ledger, by the way of a store -/
theorem stored {dx : Addr} {es : List DictEntry} {n : Nat} {tk : Tok} {Q : PySem.Fin → Shared → Prop} (F : Fr h₀ L s.heap m) (N : News h₀ L s.heap ((dx, dictOf es n) :: news)) (hr : ∀ p ∈ news, p.1 ≠ dx) (h1 : ∀ x ∈ es, x.key.isStr name = false) (h2 : ∀ x ∈ es, x.refKey = false) (hz : es.length ≤ 100)
    (h : ∀ h', Fr h₀ L h' m → News h₀ L h' ((dx, dictOf (es ++ [⟨PyData.keyHash w.params name, .str name s.toks, v⟩]) (n + 1)) :: news) → Q (.done (.ret .none)) { s with heap := h', toks := s.toks + 1 }) :
    wpAny (model prog w) A (storeInDict dx (.str name tk) name v) Q E s :=
  wpAny_bind (wpAny_pure (wpAny_bind (kp_nsSet F N hr h1 h2 fun h' F' N' => wpAny_bind (wpAny_lookBehind (N' _ (.head _)).1
    (pastItsLine_dict (by rw [List.size_toArray, List.length_append, sizeLine_eq]; exact Nat.le_trans (Nat.add_le_add_right hz 1) (Nat.le_of_ble_eq_true rfl))) (wpAny_pure (h h' F' N'))))))
set_option maxHeartbeats 1000000 in
/-- a store into a field of the exception comes to its own dict -/
theorem set_way {od : Option Obj} {Q : Unit → Shared → Prop} (X : (hd.heap_39 w.params).In s.heap) (I : InstAt s.heap e (excO 59 t0 dc) 59 od) (ht : findIn (hd.heap_39 w.params) (.ref 59) name = some none)
    (h : wpAny (model prog w) A.in1 (ownDictForStores (.ref e)) (fun r s₁ => ∃ dx, r = some dx ∧ wpAny (model prog w) A.in1 (storeInDict dx (.str name s.toks) name v) (fun f s₂ => f = .done (.ret .none) ∧ Q () s₂) E s₁) E { s with toks := s.toks + 1 }) :
    wpAny (model prog w) A (setAttr (.ref e) name v) Q E s := by
  have S := PySem.F.store_object
  have typ := kind59 (prog := prog) (w := w) I.at_
  have free : Looks (model prog w) s.heap (refuseIfOverridden (.ref e) "__setattr__") () := typ.andThen (.of_peek X (by kernel_rfl))
  have obj := under59 (prog := prog) X I.at_ (T := "object") (by kernel_rfl)
  have hs : findIn (hd.heap_39 w.params) (.ref 59) "__setattr__" = some (some (.builtin "object.__setattr__")) := by kernel_rfl
  refine set_plain X I hs (codeAny_call_builtin S.slot.plain S.entry ?_)
  refine @check_slot (model prog w) _ _ { s with toks := s.toks + 1 } "object.__setattr__" "object" "__setattr__" (.ref e) [.str name s.toks, v] [] _ S.kind S.split obj (S.args (.ref e) (.str name s.toks) v) ?_
  rw [osa_eq]
  refine wpAny_bind (free.at (wpAny_bind (typ.at (wpAny_bind ((looks_findIn X ht).at (wpAny_bind (wpAny_pure ?_)))))))
  refine wpAny_bind (wpAny_pure (wpAny_bind (wpAny_mono h ?_ fun _ _ z => z)))
  rintro _ s₁ ⟨dx, rfl, z⟩
  exact wpAny_mono z (fun _ _ y => y.1 ▸ y.2) fun _ _ y => y
/-- the first field: the exception gets its dict -/
theorem set_new {Q : Unit → Shared → Prop} (F : Fr h₀ L s.heap m) (X₀ : (hd.heap_39 w.params).In h₀) (N : News h₀ L s.heap ((e, excO 59 t0 none) :: news)) (hr : ∀ p ∈ news, p.1 ≠ e)
    (ht : findIn (hd.heap_39 w.params) (.ref 59) name = some none)
    (h : ∀ dx h', Fr h₀ L h' m → News h₀ L h' ((e, excO 59 t0 (some dx)) :: (dx, dictOf [⟨PyData.keyHash w.params name, .str name (s.toks + 1), v⟩] 1) :: news) → (∀ p ∈ news, p.1 < dx) → e < dx → Q () { s with heap := h', toks := s.toks + 2 }) :
    wpAny (model prog w) A (setAttr (.ref e) name v) Q E s := by
  have X := X₀.keeps F.keep
  have he := (N _ (.head _)).1
  have low : ∀ p ∈ (e, excO 59 t0 none) :: news, p.1 < s.heap.objs.size := fun p hp => Heap.lt_size (N p hp).1
  have ne := Nat.ne_of_gt (low _ (.head _))
  have N1 := N.push F (dictOf [] 0)
  obtain ⟨F2, N2⟩ := news_upd (pre := [(s.heap.objs.size, dictOf [] 0)]) (o' := excO 59 t0 (some s.heap.objs.size)) (f := fun o => { o with dict := some s.heap.objs.size }) (F.push (dictOf [] 0)) N1 (List.forall_mem_singleton.mpr ne) hr rfl rfl
  refine set_way (od := none) X ⟨he, rfl, rfl, trivial⟩ ht ?_
  show wpAny _ _ (instanceDict e true) _ _ _
  unfold instanceDict
  refine wpAny_bind (wpAny_loadPart he ?_)
  refine wpAny_bind ((looks_clsIn (M := model prog w) (C := 59) X rfl).at ?_)
  refine wpAny_bind (wpAny_alloc (wpAny_bind (wpAny_update (N1 _ (.tail _ (.head _))).1 (wpAny_pure ⟨_, rfl, ?_⟩))))
  refine stored F2 N2 (List.forall_mem_cons.mpr ⟨ne.symm, fun p hp => Nat.ne_of_lt (low p (.tail _ hp))⟩) (fun _ hp => nomatch hp) (fun _ hp => nomatch hp) (Nat.zero_le _) fun h' F3 N3 => ?_
  exact ⟨rfl, h _ h' F3 (fun p hp => N3 p ((List.Perm.swap _ _ _).mem_iff.mp hp)) (fun p hp => low p (.tail _ hp)) (low _ (.head _))⟩
/-- the second field -/
theorem set_at {dx : Addr} {x : DictEntry} {Q : Unit → Shared → Prop} (F : Fr h₀ L s.heap m) (X₀ : (hd.heap_39 w.params).In h₀) (N : News h₀ L s.heap ((e, excO 59 t0 (some dx)) :: (dx, dictOf [x] 1) :: news)) (hr : ∀ p ∈ news, p.1 < dx) (hne : e < dx)
    (h1 : x.key.isStr name = false) (h2 : x.refKey = false) (ht : findIn (hd.heap_39 w.params) (.ref 59) name = some none)
    (h : ∀ h', Fr h₀ L h' m → News h₀ L h' ((e, excO 59 t0 (some dx)) :: (dx, dictOf [x, ⟨PyData.keyHash w.params name, .str name (s.toks + 1), v⟩] 2) :: news) → Q () { s with heap := h', toks := s.toks + 2 }) :
    wpAny (model prog w) A (setAttr (.ref e) name v) Q E s := by
  have X := X₀.keeps F.keep
  have he := (N _ (.head _)).1
  refine set_way (od := some (dictOf [x] 1)) X ⟨he, rfl, rfl, (N _ (.tail _ (.head _))).1⟩ ht ?_
  show wpAny _ _ (instanceDict e true) _ _ _
  unfold instanceDict
  refine wpAny_bind (wpAny_loadPart he (wpAny_bind ((looks_clsIn (M := model prog w) (C := 59) X rfl).at (wpAny_pure ⟨dx, rfl, ?_⟩))))
  refine stored (s := { s with toks := s.toks + 1 }) F (fun p hp => N p ((List.Perm.swap _ _ _).mem_iff.mp hp)) (List.forall_mem_cons.mpr ⟨Nat.ne_of_lt hne, fun p hp => Nat.ne_of_lt (hr p hp)⟩) (List.forall_mem_singleton.mpr h1) (List.forall_mem_singleton.mpr h2) (Nat.le_of_ble_eq_true rfl) fun h' F3 N3 => ?_
  exact ⟨rfl, h h' F3 fun p hp => N3 p ((List.Perm.swap _ _ _).mem_iff.mp hp)⟩
end
end
section
open PySem.Calls Builtin
set_option maxRecDepth 100000
/-- what a raise asks of the value behind it: a WireFault that is whole -/
def Thrown (w : World) (E : Value → Shared → Prop) (v : Value) (s : Shared) : Prop :=
  (hd.heap_39 w.params).In s.heap ∧ ∃ e t0 dc, v = .ref e ∧ s.heap.get? e = some (excO 59 t0 dc) ∧ E (.ref e) s
section
variable {prog : Program} {w : World} {A : Around} {E : Value → Shared → Prop} {s : Shared} {env : Env}
theorem Thrown.intro {e t0 : Addr} {dc : Option Addr} (X : (hd.heap_39 w.params).In s.heap) (he : s.heap.get? e = some (excO 59 t0 dc)) (z : E (.ref e) s) : Thrown w E (.ref e) s := ⟨X, e, t0, dc, rfl, he, z⟩
theorem raise_59 {x : PySem.Expr} {pos : Pos} {Q : Flow → Shared → Prop} (hh : A.handled = none) (h : wpAny (model prog w) A (eval x env) (Thrown w E) E s) : wpAny (model prog w) A (exec (.Raise (some x) none pos) env) Q E s := by
  show wpAny _ _ (standAt pos >>= fun _ => raiseStmt env (some (eval x env >>= fun v => standAt pos >>= fun _ => pure v)) none) _ _ _
  refine wpAny_bind (wpAny_standAt (wpAny_bind (wpAny_bind (wpAny_mono h ?_ fun _ _ y => y))))
  rintro _ ⟨hp, g, d, t, os⟩ ⟨X, e, t0, dc, rfl, he, z⟩
  have typ := kind59 (prog := prog) (w := w) he
  have obj : Looks (model prog w) hp (isType (.ref e)) false := (Looks.ld he).andThen .now
  have exc : Looks (model prog w) hp (isExcClass (.ref e)) false := obj.andThen .now
  have val : Looks (model prog w) hp (excFromValue (.ref e) "exceptions must derive from BaseException") (.ref e) := exc.andThen ((under59 X he (T := "BaseException") (by kernel_rfl)).andThen .now)
  have top : Looks (model prog w) hp (typeOf (.ref 59)) (.type "type") := .of_peek X (by kernel_rfl)
  have same : Looks (model prog w) hp (raisedInstance (.ref e)) (.ref e) := typ.andThen (top.andThen .now)
  refine wpAny_bind (wpAny_standAt (wpAny_pure (wpAny_bind (wpAny_pure (wpAny_bind (wpAny_holding (val.at ?_)))))))
  refine wpAny_bind (obj.at (wpAny_bind (same.at (wpAny_bind (wpAny_bind (wpAny_field he rfl (x := .none) rfl ?_))))))
  exact wpAny_pure (wpAny_raiseNew_none hh z)
end
end
section
open PySem.Calls
set_option maxRecDepth 100000
/-- a WireFault with its traceback -/
abbrev excV (t : Addr) (dc : Option Addr) (tb : Value) : Obj := { cls := .ref 59, dict := dc, data := .fields #[.ref t, tb, .none, .none, .bool false, .none] }
/-- the exception stands in the heap, outside of the ground B, under the frames l -/
structure Here (B : Heap) (l : List Env) (e t : Addr) (dc : Option Addr) (tb : Value) (h : Heap) : Prop where
  ground : B.StaysIn h
  fresh : B.get? e = none
  frames : h.FunFrames B l
  exc : h.get? e = some (excV t dc tb)
/-- it is under way: the head of its traceback bears the mark fl -/
def Flies (B : Heap) (l : List Env) (e t : Addr) (dc : Option Addr) (fl : Value) (h : Heap) : Prop :=
  ∃ T o ts, Here B l e t dc (.ref T) h ∧ (T ≠ e ∧ B.get? T = none) ∧ (h.get? T = some o ∧ o.data = .fields ts) ∧ ts[3]? = some fl
section
variable {M : Model} {A : Around} {E : Value → Shared → Prop} {s : Shared} {B h h' : Heap} {env : Env} {outer l : List Env} {L e t x : Addr} {dc : Option Addr} {tb fl : Value}
/-- a change of one record that the ground does not know -/
theorem one_record {o : Obj} {ts : Array Value} (hx : h.get? x = some o) (ho : o.data = .fields ts) (hB : B.get? x = none) (only : ∀ b, b ≠ x → h'.get? b = h.get? b) :
    (B.StaysIn h → B.StaysIn h') ∧ (h.FunFrames B l → h'.FunFrames B l) ∧ h.UpToSlots h' := by
  have far : ∀ b y, h.get? b = some y → (∀ vs, y.data ≠ .fields vs) → b ≠ x := by
    rintro b y hb hn rfl
    exact hn ts (by rw [← ho]; exact congrArg Obj.data (Option.some.inj (hb.symm.trans hx)))
  refine ⟨fun k b y q => ?_, fun k => k.of_keeps fun b y hb hn => ⟨y, ?_, rfl⟩, fun b y hb hn => ⟨y.slots, ?_⟩⟩
  · rw [only b (by rintro rfl; rw [hB] at q; cases q)]
    exact k b y q
  · rw [only b (far b y hb hn)]; exact hb
  · rw [only b (far b y hb hn)]; exact hb
/-- the reads and the write that a mark goes through -/
theorem mark_rules (R : Flies B l e t dc fl s.heap) : ∃ T : Addr,
    (∀ P : Value → Shared → Prop, P (.ref T) s → wpAny M A (field (.ref e) 1) P E s) ∧ (∀ P : Value → Shared → Prop, P fl s → wpAny M A (field (.ref T) 3) P E s) ∧
    ∀ (v : Value) (P : Unit → Shared → Prop), (∀ h', Flies B l e t dc v h' → s.heap.UpToSlots h' → P () { s with heap := h' }) → wpAny M A (setField (.ref T) 3 v) P E s := by
  obtain ⟨T, o, ts, H, ⟨hne, hB⟩, ⟨hT, hd⟩, h3⟩ := R
  obtain ⟨hlt, h3'⟩ := Array.getElem?_eq_some_iff.mp h3
  refine ⟨T, fun P q => wpAny_field H.exc rfl rfl q, fun P q => wpAny_field hT hd h3 q, fun v P k => wpAny_setField hT hd hlt ?_⟩
  have only : ∀ b, b ≠ T → (s.heap.update T (Obj.mapFields (·.setIfInBounds 3 v))).get? b = s.heap.get? b := fun b q => Heap.get?_update_other _ _ (Ne.symm q)
  obtain ⟨r1, r2, r3⟩ := one_record (l := l) hT hd hB only
  have hd' := Obj.data_mapFields hd (·.setIfInBounds 3 v)
  exact k _ ⟨T, _, _, ⟨r1 H.ground, H.fresh, r2 H.frames, (only e hne.symm).trans H.exc⟩, ⟨hne, hB⟩, ⟨Heap.get?_update_self _ hT (Obj.isFreed_of_fields hd'), hd'⟩, by simp [hlt]⟩ r3
theorem lands (R : Flies B l e t dc fl s.heap) {Q : Unit → Shared → Prop} (h : ∀ h', Flies B l e t dc .none h' → s.heap.UpToSlots h' → Q () { s with heap := h' }) : wpAny M A (setFlight (.ref e) none) Q E s := by
  obtain ⟨T, r1, -, w⟩ := mark_rules (M := M) (A := A) (E := E) R
  exact wpAny_bind (r1 _ (w _ _ h))
theorem Here.grow (H : Here B l e t dc tb h) (k : ∀ b o, h.get? b = some o → h'.get? b = some o) : Here B l e t dc tb h' :=
  ⟨fun b o q => k b o (H.ground b o q), H.fresh, H.frames.of_keeps fun b o hb _ => ⟨o, k b o hb, rfl⟩, k _ _ H.exc⟩
theorem Here.slots (H : Here B l e t dc tb h) (S : Heap.SlotsOnly (l.filterMap (·.frame)) h h') : Here B l e t dc tb h' ∧ h.UpToSlots h' := by
  refine ⟨⟨fun b o q => ?_, H.fresh, H.frames.of_slotsOnly S, ?_⟩, fun b o hb _ => S.2.2 b o hb⟩
  · rw [S.2.1 b fun hm => by rw [(H.frames.mem hm).1] at q; cases q]
    exact H.ground b o q
  · rw [S.2.1 e fun hm => ?_]
    · exact H.exc
    · obtain ⟨_, o, ho, hn⟩ := H.frames.mem hm
      exact hn _ (congrArg Obj.data (Option.some.inj (ho.symm.trans H.exc)))
/-- a new head of the traceback -/
theorem entered {head : Value} {hadNext : Bool} {Q : Unit → Shared → Prop} (hfr : A.frames = some (env :: outer)) (hf : env.frame = some L) (H : Here B (env :: outer) e t dc tb s.heap)
    (h : ∀ h', Flies B (env :: outer) e t dc (rawInt L) h' → s.heap.UpToSlots h' → Q () { s with heap := h' }) :
    wpAny M A (frameOf env >>= fun a => entryPlaceOf L hadNext >>= fun pl => EntryCells.newEntry head a .none (rawInt L) .none pl >>= fun b => setField (.ref e) 1 b) Q E s := by
  refine wpAny_bind (wpAny_frameOf_fun hfr H.frames hf fun h₁ S => wpAny_bind (wpAny_entryPlaceOf fun pl hpl => wpAny_bind (wpAny_newObj_type ?_ (hpl.sizeOk5 _ _ _ _ _))))
  obtain ⟨H1, u1⟩ := H.slots S
  have H2 := fun o => H1.grow (h' := h₁.push o) fun b y q => Heap.get?_push_of_some o q
  have hne : h₁.objs.size ≠ e := Nat.ne_of_gt (Heap.lt_size H1.exc)
  refine wpAny_setField (H2 _).exc rfl (by simp) ?_
  have only : ∀ o b, b ≠ e → ((h₁.push o).update e (Obj.mapFields (·.setIfInBounds 1 (.ref h₁.objs.size)))).get? b = (h₁.push o).get? b := fun o b q => Heap.get?_update_other _ _ (Ne.symm q)
  obtain ⟨r1, r2, r3⟩ := one_record (l := env :: outer) (H2 _).exc rfl H1.fresh (only _)
  refine h _ ⟨h₁.objs.size, _, _, ⟨r1 (H2 _).ground, H1.fresh, r2 (H2 _).frames, Heap.get?_update_self _ (H2 _).exc rfl⟩, ⟨hne, H1.ground.fresh⟩, ⟨(only _ _ hne).trans (Heap.get?_push_size h₁ rfl), rfl⟩, ?_⟩ (u1.trans ((Heap.UpToSlots.of_keeps fun b y q => Heap.get?_push_of_some _ q).trans r3))
  simp
theorem noted_first {Q : Unit → Shared → Prop} (hfr : A.frames = some (env :: outer)) (hf : env.frame = some L) (H : Here B (env :: outer) e t dc .none s.heap)
    (h : ∀ h', Flies B (env :: outer) e t dc (rawInt L) h' → s.heap.UpToSlots h' → Q () { s with heap := h' }) : wpAny M A (noteFrame (.ref e) env) Q E s := by
  unfold noteFrame
  rw [hf]
  exact wpAny_bind (wpAny_field H.exc rfl (x := .none) rfl (entered hfr hf H h))
theorem noted_on {Q : Unit → Shared → Prop} (hfr : A.frames = some (env :: outer)) (hf : env.frame = some L) (R : Flies B (env :: outer) e t dc .none s.heap)
    (h : ∀ h', Flies B (env :: outer) e t dc (rawInt L) h' → s.heap.UpToSlots h' → Q () { s with heap := h' }) : wpAny M A (noteFrame (.ref e) env) Q E s := by
  obtain ⟨T, r1, r2, w⟩ := mark_rules (M := M) (A := A) (E := E) R
  unfold noteFrame
  rw [hf]
  refine wpAny_bind (r1 _ (wpAny_bind (r2 _ (wpAny_bind (w _ _ ?_)))))
  rintro h₁ ⟨_, _, _, H, _⟩ u
  exact entered hfr hf H fun h' R' u' => h h' R' (u.trans u')
end
end
section
open PySem.Calls
set_option maxRecDepth 100000
/-- a ground that bears the base and what is to be kept -/
structure Ground (base B : Heap) (news : List (Addr × Obj)) : Prop where
  under : base.StaysIn B
  kept : ∀ q ∈ news, B.get? q.1 = some q.2
  apart : ∀ q ∈ news, base.get? q.1 = none
/-- a WireFault between two frames -/
def Carried (base : Heap) (l : List Env) (e t : Addr) (dc : Option Addr) (news : List (Addr × Obj)) (h : Heap) : Prop := ∃ B, Ground base B news ∧ Flies B l e t dc .none h
section
variable {M : Model} {A : Around} {E : Value → Shared → Prop} {s : Shared} {base g h : Heap} {outer : List Env} {L a e t : Addr} {dc : Option Addr} {m : Str → Option Value} {name : Str} {scope : Scope} {cd : Value} {Q : Unit → Shared → Prop} {news : List (Addr × Obj)}
/-- the heap less the exception and the frames is a ground -/
theorem hidden (K : Below A base outer g) (F : Fr g L h m) (N : News g L h ((e, excO 59 t dc) :: news)) (hr : ∀ p ∈ news, p.1 ≠ e) (hk : scope.kind = .function) :
    ∃ B, Ground base B news ∧ Here B (envOf name scope L a cd :: outer) e t dc .none h := by
  have K' := K.push (name := name) (a := a) (cd := cd) F hk
  have old : ∀ b ∈ e :: (envOf name scope L a cd :: outer).filterMap (·.frame), base.get? b = none :=
    List.forall_mem_cons.mpr ⟨fresh_of_stays K.stays (N _ (.head _)).2.2, fun b hb => (K'.frames.mem hb).1⟩
  refine ⟨hideAll h (e :: (envOf name scope L a cd :: outer).filterMap (·.frame)), ⟨fun b o q => ?_, fun q hq => ?_, fun q hq => fresh_of_stays K.stays (N q (.tail _ hq)).2.2⟩,
    ⟨fun b o => of_hideAll _, hideAll_none _ (.head _), funFrames_hide K'.frames fun v hv b hb => .tail _ (List.mem_filterMap.mpr ⟨v, hv, hb⟩), (N _ (.head _)).1⟩⟩
  · exact hideAll_get _ (K'.stays b o q) fun hm => by rw [old b hm] at q; cases q
  · have P := N q (.tail _ hq)
    refine hideAll_get _ P.1 fun hm => ?_
    rcases List.mem_cons.mp hm with z | z
    · exact hr q hq z
    · rcases List.mem_cons.mp (show q.1 ∈ L :: outer.filterMap (·.frame) from z) with z | z
      · exact P.2.1 z
      · obtain ⟨o, ho, -⟩ := (K.frames.mem z).2
        rw [P.2.2] at ho
        cases ho
theorem left_by (K : Below A base outer g) (F : Fr g L s.heap m) (N : News g L s.heap ((e, excO 59 t dc) :: news)) (hr : ∀ p ∈ news, p.1 ≠ e)
    (hQ : ∀ h', Carried base outer e t dc news h' → g.UpToSlots h' → Q () { s with heap := h' }) (hk : scope.kind = .function := by rfl) :
    wpAny M (A.deeper (envOf name scope L a cd)) (leaving (envOf name scope L a cd) (.ref e)) Q E s := by
  obtain ⟨B, G, H⟩ := hidden (name := name) (a := a) (cd := cd) K F N hr hk
  refine wpAny_bind (noted_first (K.push (name := name) (a := a) (cd := cd) F hk).stack rfl H fun h₁ R₁ u₁ => lands R₁ fun h₂ R₂ u₂ => ?_)
  obtain ⟨T, o, ts, H₂, c⟩ := R₂
  exact hQ h₂ ⟨B, G, T, o, ts, ⟨H₂.ground, H₂.fresh, H₂.frames.2.2, H₂.exc⟩, c⟩ ((Heap.UpToSlots.of_keeps F.keep).trans (u₁.trans u₂))
end
section
variable {prog : Program} {w : World} {A : Around} {E : Value → Shared → Prop} {s : Shared} {h₀ h : Heap} {env : Env} {outer : List Env} {L e t dx : Addr} {m : Str → Option Value} {n x : Str} {b₀ : Stmt} {suite : List Stmt} {pos np : Pos} {rest : List ExceptHandler} {Q : Flow → Shared → Prop} {news : List (Addr × Obj)}
/-- the handler that names WireFault takes it -/
theorem taken (hfr : A.frames = some (env :: outer)) (hf : env.frame = some L) (F : Fr h₀ L h m) (hsm : h.UpToSlots s.heap) (R : Carried h₀ (env :: outer) e t (some dx) news s.heap) (X : (hd.heap_39 w.params).In h₀)
    (hev : ∀ h' (P E' : Value → Shared → Prop), Fr h₀ L h' m → P (.ref 59) { s with heap := h' } → wpAny (model prog w) (A.mark (some (.ref e))) (eval (.Name x np) env) P E' { s with heap := h' })
    (k : ∀ h' tb (E₁ E₂ : Value → Shared → Prop), Fr h₀ L h' m → News h₀ L h' ((e, excV t (some dx) tb) :: news) →
      wpAny (model prog w) (A.mark (some (.ref e))) (storeName env n (.ref e)) (fun _ s₂ => wpAny (model prog w) (A.mark (some (.ref e))) (execs (b₀ :: suite) env)
        (fun f s₄ => wpAny (model prog w) A (do bindName env n .none; unbindBehindTheSuite env n pos) (fun _ s₅ => Q f s₅) E s₄) E₂ s₂) E₁ { s with heap := h' }) :
    wpAny (model prog w) A (noteFrame (.ref e) env) (fun _ s₂ => wpAny (model prog w) A (setFlight (.ref e) none) (fun _ s₃ =>
        wpAny (model prog w) A (handleBy (.ref e) env (.ExceptHandler (some (.Name x np)) (some n) (b₀ :: suite) pos :: rest)) Q E s₃) E s₂) E s := by
  obtain ⟨B, G, R⟩ := R
  have back : ∀ {h'}, Flies B (env :: outer) e t (some dx) .none h' → h.UpToSlots h' → Fr h₀ L h' m := fun ⟨_, _, _, H, _⟩ u => F.of_stays (fun b o q => H.ground b o (G.under b o q)) u
  refine noted_on hfr hf R fun h₁ R₁ u₁ => lands R₁ fun h₂ R₂ u₂ => ?_
  have u := hsm.trans (u₁.trans u₂)
  have F₂ := back R₂ u
  have X₂ := X.keeps F₂.keep
  obtain ⟨_, _, _, H₂, _⟩ := id R₂
  refine wpAny_handleBy_cons (codeAny_handlers_test (hev h₂ _ _ F₂ ?_)) (by intro q; cases q)
  have hC := X₂ _ _ (show (hd.heap_39 w.params).lookup 59 = some _ from rfl)
  refine wpAny_excMatches_sub_self hC H₂.exc rfl (by decide +kernel) (codeAny_handlers_suite_as ?_)
  refine lands R₂ fun h₃ R₃ u₃ => ?_
  have F₃ := back R₃ (u.trans u₃)
  obtain ⟨T, _, _, H₃, _⟩ := R₃
  have off : ∀ q ∈ news, q.1 ≠ L := fun q hq z => by
    have hL := (H₃.frames.mem (b := L) (List.mem_filterMap.mpr ⟨env, .head _, hf⟩)).1
    rw [← z, G.kept q hq] at hL
    cases hL
  exact k h₃ (.ref T) _ _ F₃ (News.more F₃ (fun q hq => ⟨H₃.ground _ _ (G.kept q hq), off q hq, G.apart q hq⟩) H₃.exc (fun es n q => by cases q) (fresh_of_stays G.under H₃.fresh))
end
end
section
open PySem.Calls
set_option maxRecDepth 100000
section
variable (P : Params)
theorem wf_atN : findIn (hd.heap_39 P) (.ref 59) (PySem.Str.ofString "at") = some none := by with_unfolding_all rfl
theorem wf_whatN : findIn (hd.heap_39 P) (.ref 59) (PySem.Str.ofString "what") = some none := by with_unfolding_all rfl
end
section
variable {prog : Program} {w : World} {A : Around} {E : Value → Shared → Prop} {s : Shared} {h₀ : Heap} {L : Addr} {m : Str → Option Value} {news : List (Addr × Obj)} {Q : Value → Shared → Prop} {a b : Value}
theorem call_wf (F : Fr h₀ L s.heap m) (X₀ : (hd.heap_39 w.params).In h₀) (N : News h₀ L s.heap news)
    (h : ∀ e t0 h', Fr h₀ L h' m → News h₀ L h' ((e, excO 59 t0 none) :: (t0, tupO [a, b]) :: news) → (∀ p ∈ (t0, tupO [a, b]) :: news, p.1 ≠ e) →
      codeAny (model prog w) (A.under (.builtin "type.__call__" ⟨[.ref 59, a, b], []⟩)) (.call (.ref 36) ⟨[.ref e, a, b], []⟩) (InitBack e fun r s' => match r with | .ok (.ret v) => Q v s' | .ok _ => False | .error e => E e s') { s with heap := h' }) :
    wpAny (model prog w) A (call (.ref 59) [a, b]) Q E s := by
  have N1 := (N.push F (tupO [a, b])).push (F.push _) (excO 59 s.heap.objs.size none)
  rw [Heap.size_push] at N1
  refine wpAny_call (made (X₀.keeps F.keep) (by rw [sizeLine_eq]; exact Nat.le_of_ble_eq_true rfl) (h _ _ _ ((F.push _).push _) N1 ?_))
  exact List.forall_mem_cons.mpr ⟨Nat.ne_of_lt (Nat.lt_succ_self _), fun p hp => Nat.ne_of_lt (Nat.lt_succ_of_lt (Heap.lt_size (N p hp).1))⟩
end
end
section
open PySem.Calls
abbrev one (c : Nat) : PySem.Str := ⟨#[c]⟩
section
variable {prog : Program} {w : World} {A : Around} {E : Value → Shared → Prop} {s : Shared} {value slice : PySem.Expr} {b : Array UInt8} {t ti : Tok} {Q : Value → Shared → Prop} {i : Int}
theorem item_at (h0 : 0 ≤ i) (h1 : i < (b.size : Int)) (hz : b.size ≤ 1000) (h : ∀ c t' k, b[i.toNat]? = some c → Q (.int (c.toNat : Int) t') { s with toks := k })
    (hs : subscripted slice false (.bytes b t) (.int i ti) = operate [.bytes b t, .int i ti] (getItem (.bytes b t) (.int i ti)) := by with_unfolding_all rfl)
    (ht : ∀ r, letTemporaryGo value (.bytes b t) r = pure () := by intro _; with_unfolding_all rfl) : wpAny (model prog w) A (subscriptTail value slice (.bytes b t) (.int i ti)) Q E s := by
  have hlt : i.toNat < b.size := by omega
  have hc : b[i.toNat]? = some b[i.toNat] := by simp [hlt]
  refine KBw.item_K (ks := KBw.bInts b) rfl (by rw [KBw.ints_length]; omega) h0 (by rw [KBw.ints_length]; exact h1) (fun t' k _ _ => ?_) hs ht
  have e : (KBw.bInts b).getD i.toNat 0 = ((b[i.toNat]).toNat : Int) := by
    rw [List.getD_eq_getElem?_getD, KBw.ints_get hc]
    rfl
  rw [e]
  exact h _ _ _ hc
end
theorem glue_codes : ∀ (l : List Nat) (x : Nat), PySem.Str.join (PySem.Str.ofString "") ((x :: l).map one) = ⟨(x :: l).toArray⟩ := by
  intro l
  induction l with
  | nil => intro x; rfl
  | cons y r ih =>
    intro x
    show one x ++ PySem.Str.ofString "" ++ PySem.Str.join (PySem.Str.ofString "") ((y :: r).map one) = _
    rw [ih]
    apply Str.ext'
    rw [Str.cps_append, Str.cps_append]
    have z : (PySem.Str.ofString "").cps = #[] := by decide
    rw [z]
    simp
theorem join_codes (l : List Nat) : PySem.Txt.join (PySem.Str.ofString "") (l.map one) = ⟨l.toArray⟩ := by
  show Builtin.Str.glued (PySem.Str.ofString "") (l.map one) = _
  rw [StrLaws.glued_eq_join]
  cases l with
  | nil => rfl
  | cons x r => exact glue_codes r x
theorem one_len (c : Nat) : (one c).length = 1 := rfl
section
variable {prog : Program} {w : World} {A : Around} {E : Value → Shared → Prop} {s : Shared} {t : Tok} {Q : Value → Shared → Prop} {D : Addr} {arr : Array Value} {acc : List Nat}
theorem join_arr (hl : s.heap.IsList D arr) (hc : StrsAre arr.toList (acc.map one)) (hn : acc.length ≤ 1000) (h : ∀ t' k, Q (.str ⟨acc.toArray⟩ t') { s with toks := k }) :
    wpAny (model prog w) A (call (.builtin "str.join") [.str (PySem.Str.ofString "") t, .ref D]) Q E s := by
  have hl' : s.heap.IsList D arr.toList.toArray := by rw [Array.toArray_toList]; exact hl
  have hc' : CarriedAll arr.toList (acc.map fun a => PyData.str (one a)) := by
    have := hc.carried
    rwa [List.map_map] at this
  refine KT.join_1 (g := one) hl' hc' (fun a _ => one_len a) (by omega) fun t' k _ => ?_
  rw [join_codes]
  exact h t' k
theorem push_codes {c : Nat} {t : Tok} (hc : StrsAre arr.toList (acc.map one)) : StrsAre (arr.push (.str (one c) t)).toList ((acc ++ [c]).map one) := by
  rw [Array.toList_push, List.map_append]
  exact kct_snoc hc
end
section
variable {bs : Array UInt8} {n : Nat} {acc : List Nat} {c d : UInt8}
theorem qt_n (hc : bs[((n : Nat) + 0 : Int).toNat]? = some c) : ∃ h : n < bs.size, bs[n] = c := by
  have e : ((n : Nat) + 0 : Int).toNat = n := by omega
  rw [e] at hc
  exact Array.getElem?_eq_some_iff.mp hc
theorem qt_n1 (hc : bs[((n : Nat) + 1 + 0 : Int).toNat]? = some d) : ∃ h : n + 1 < bs.size, bs[n + 1] = d := by
  have e : ((n : Nat) + 1 + 0 : Int).toNat = n + 1 := by omega
  rw [e] at hc
  exact Array.getElem?_eq_some_iff.mp hc
theorem q_quote (hc : bs[((n : Nat) + 0 : Int).toNat]? = some c) (h : (c.toNat : Int) = 34) : rd bs n acc = (some acc, n + 1) := by
  obtain ⟨hl, he⟩ := qt_n hc
  have h' : c.toNat = 34 := by omega
  rw [rd]
  simp [hl, he, h']
theorem q_end (h : ¬ ((n : Int) + 0 < (bs.size : Int))) : rd bs n acc = (none, n) := by
  have : ¬ n < bs.size := by omega
  rw [rd]
  simp [this]
theorem q_low (hc : bs[((n : Nat) + 0 : Int).toNat]? = some c) (h1 : (c.toNat : Int) ≠ 34) (h2 : (c.toNat : Int) ≠ 92) (h3 : ¬ 32 ≤ (c.toNat : Int)) : rd bs n acc = (none, n + 1) := by
  obtain ⟨hl, he⟩ := qt_n hc
  have e1 : c.toNat ≠ 34 := by omega
  have e2 : c.toNat ≠ 92 := by omega
  have e3 : c.toNat < 32 := by omega
  rw [rd]
  simp [hl, he, e1, e2, e3]
theorem q_high (hc : bs[((n : Nat) + 0 : Int).toNat]? = some c) (h1 : (c.toNat : Int) ≠ 34) (h2 : (c.toNat : Int) ≠ 92) (h3 : ¬ (c.toNat : Int) < 127) : rd bs n acc = (none, n + 1) := by
  obtain ⟨hl, he⟩ := qt_n hc
  have e1 : c.toNat ≠ 34 := by omega
  have e2 : c.toNat ≠ 92 := by omega
  have e3 : 126 < c.toNat := by omega
  rw [rd]
  simp [hl, he, e1, e2, e3]
theorem q_good (hc : bs[((n : Nat) + 0 : Int).toNat]? = some c) (h1 : (c.toNat : Int) ≠ 34) (h2 : (c.toNat : Int) ≠ 92) (h3 : 32 ≤ (c.toNat : Int)) (h4 : (c.toNat : Int) < 127) : rd bs n acc = rd bs (n + 1) (acc ++ [c.toNat]) := by
  obtain ⟨hl, he⟩ := qt_n hc
  have e1 : c.toNat ≠ 34 := by omega
  have e2 : c.toNat ≠ 92 := by omega
  have e3 : ¬ c.toNat < 32 := by omega
  have e4 : ¬ 126 < c.toNat := by omega
  rw [rd]
  simp [hl, he, e1, e2, e3, e4]
theorem q_escEnd (hc : bs[((n : Nat) + 0 : Int).toNat]? = some c) (h1 : (c.toNat : Int) ≠ 34) (h2 : (c.toNat : Int) = 92) (h3 : ¬ ((n : Int) + 1 + 0 < (bs.size : Int))) : rd bs n acc = (none, n + 1) := by
  obtain ⟨hl, he⟩ := qt_n hc
  have e2 : c.toNat = 92 := by omega
  have e3 : ¬ n + 1 < bs.size := by omega
  rw [rd]
  simp [hl, he, e2, e3]
theorem q_escBad (hc : bs[((n : Nat) + 0 : Int).toNat]? = some c) (h1 : (c.toNat : Int) ≠ 34) (h2 : (c.toNat : Int) = 92) (hd : bs[((n : Nat) + 1 + 0 : Int).toNat]? = some d) (h3 : (([34, 92] : List Int).any fun x => x == (d.toNat : Int)) = false) : rd bs n acc = (none, n + 2) := by
  obtain ⟨hl, he⟩ := qt_n hc
  obtain ⟨hl', he'⟩ := qt_n1 hd
  have e2 : c.toNat = 92 := by omega
  have e3 : ¬ (34 : Int) = d.toNat ∧ ¬ (92 : Int) = d.toNat := by simpa using h3
  have e4 : d.toNat ≠ 34 := by omega
  have e5 : d.toNat ≠ 92 := by omega
  rw [rd]
  simp [hl, he, e2, hl', he', e4, e5]
theorem q_esc (hc : bs[((n : Nat) + 0 : Int).toNat]? = some c) (h1 : (c.toNat : Int) ≠ 34) (h2 : (c.toNat : Int) = 92) (hd : bs[((n : Nat) + 1 + 0 : Int).toNat]? = some d) (h3 : (([34, 92] : List Int).any fun x => x == (d.toNat : Int)) = true) : rd bs n acc = rd bs (n + 2) (acc ++ [d.toNat]) := by
  obtain ⟨hl, he⟩ := qt_n hc
  obtain ⟨hl', he'⟩ := qt_n1 hd
  have e2 : c.toNat = 92 := by omega
  have e3 : (34 : Int) = d.toNat ∨ (92 : Int) = d.toNat := by simpa using h3
  have e4 : d.toNat = 34 ∨ d.toNat = 92 := by omega
  rw [rd]
  simp [hl, he, e2, hl', he', e4]
theorem q_no1 (h3 : (([34, 92] : List Int).any fun x => x == (d.toNat : Int)) = true) (h : ¬ 32 ≤ (d.toNat : Int)) : False := by
  have e3 : (34 : Int) = d.toNat ∨ (92 : Int) = d.toNat := by simpa using h3
  omega
theorem q_no2 (h3 : (([34, 92] : List Int).any fun x => x == (d.toNat : Int)) = true) (h : ¬ (d.toNat : Int) < 127) : False := by
  have e3 : (34 : Int) = d.toNat ∨ (92 : Int) = d.toNat := by simpa using h3
  omega
end
end
section
local macro_rules | `(tactic| k_room) => `(tactic| ktr_room)
local macro_rules | `(tactic| walk_at "getMethod type:Exception") => `(tactic| (k_here; refine' method_type ?F ?X ?m (by decide +kernel) ?e ?h ?_; (case F => k_asm); (case X => k_asm); (case m => kernel_rfl); (case e => k_dflt k_is); (case h => k_handed)))
local macro_rules | `(tactic| walk_at "call builtin:Exception.__init__") => `(tactic| (k_here; k_dflt (refine' init_59 ?k1 ?k2 ?k3 ?k4 ?k5 ?_; (case k1 => k_asm); (case k2 => k_asm); (case k3 => k_asm); (case k4 => assumption); (case k5 => rw [sizeLine_eq]; exact Nat.le_of_ble_eq_true rfl); k_whole; intro t' h' F' N' l1 l2; (try k_sweep))))
local macro_rules | `(tactic| walk_at "setAttr ref") => `(tactic| (k_here; k_dflt (first
  | (refine' set_new ?k1 ?k2 ?k3 ?k4 ?k5 ?_; (case k1 => k_asm); (case k2 => k_asm); (case k3 => k_asm); (case k4 => assumption); (case k5 => with_reducible exact wf_whatN _); k_whole; intro d' h' F' N' l1 l2; (try k_sweep))
  | (refine' set_at ?k1 ?k2 ?k3 ?k4 ?k6 ?k7 ?k8 ?k5 ?_; (case k1 => k_asm); (case k2 => k_asm); (case k3 => k_asm); (case k4 => assumption); (case k6 => assumption); (case k7 => kernel_rfl); (case k8 => kernel_rfl); (case k5 => with_reducible exact wf_atN _); k_whole; intro h' F' N'; (try k_sweep)))))
abbrev excD (w : World) (what : Value) (ka kb : Tok) (p : Int) (tp : Tok) : Obj :=
  dictOf [{ hash := PyData.keyHash w.params (PySem.Str.ofString "what"), key := Value.str (PySem.Str.ofString "what") ka, val := what },
    { hash := PyData.keyHash w.params (PySem.Str.ofString "at"), key := Value.str (PySem.Str.ofString "at") kb, val := Value.int p tp }] 2
theorem drop2 {h₀ h : Heap} {L : Addr} {x y z u : Addr × Obj} {news : List (Addr × Obj)} (N : News h₀ L h (x :: y :: z :: u :: news)) : News h₀ L h (x :: y :: news) := fun p hp => N p (by
  rcases List.mem_cons.mp hp with rfl | hp
  · exact .head _
  · rcases List.mem_cons.mp hp with rfl | hp
    · exact .tail _ (.head _)
    · exact .tail _ (.tail _ (.tail _ (.tail _ hp))))
theorem apart2 {e d : Addr} {y : Obj} {z u : Addr × Obj} {news : List (Addr × Obj)} (l : e < d) (l1 : ∀ p ∈ z :: u :: news, p.1 ≠ e) : ∀ q ∈ (d, y) :: news, q.1 ≠ e := fun q hq => by
  rcases List.mem_cons.mp hq with rfl | hq
  · exact Nat.ne_of_gt l
  · exact l1 q (.tail _ (.tail _ hq))
set_option maxRecDepth 100000 in
set_option maxHeartbeats 8000000 in
theorem wf_make (w : World) (mean : ExcName → Option Value) (mg mb : Str → Option Value)
    (dp un : Nat) (gd : Option (List Code)) (cn : Str) (cs : Scope) (a : Addr) (ccd : Value) (cl : List (Str × Addr)) (outer : List Env) (A₀ : Around) (base h₀ : Heap) (L : Addr)
    (m : Str → Option Value) (s : Shared) (Q E : Value → Shared → Prop) (what : Str) (tw tp : Tok) (p : Int) (news : List (Addr × Obj))
    (B : Below A₀ base outer h₀) (F : Fr h₀ L s.heap m) (X : (hd.heap_39 w.params).In h₀)
    (N : News h₀ L s.heap news)
    (T : Top hd.view_39 (looseW hd.view_39 [Str.ofString "PostError"]) mean mg mb h₀)
    (hk : cs.kind = .function) (hd' : dp + 4 < recursionLimit) (hu : un + 40 < cLine)
    (ret : ∀ e t1 d' ka kb h' tk', Fr h₀ L h' m → News h₀ L h' ((e, excO 59 t1 (some d')) :: (d', excD w (.str what tw) ka kb p tp) :: news) → (∀ q ∈ (d', excD w (.str what tw) ka kb p tp) :: news, q.1 ≠ e) → Q (.ref e) { s with heap := h', toks := tk' }) :
    wpAny (model PySem.Challenge.rw_or0031_01.row.prog w) (ktrTop dp un gd cn cs L a ccd cl outer) (call (.ref 59) [.str what tw, .int p tp]) Q E s := by
  (w_top off; revert X; k_fill; intro X)
  obtain ⟨ck, c1, c2, c3⟩ := cs
  obtain rfl : ck = .function := hk
  k_dflt (refine' call_wf ?k1 ?k2 ?k3 ?_; (case k1 => k_asm); (case k2 => k_asm); (case k3 => k_asm); k_whole; intro e' t' h' F' N' l1)
  k_dflt k_enter
  k_steps
  exact ret _ _ _ _ _ _ _ (by k_asm) (drop2 (by k_asm)) (apart2 (by assumption) (by assumption))
end
section
local macro_rules | `(tactic| k_all) => `(tactic| assumption)
local macro_rules | `(tactic| k_room) => `(tactic| ktr_room)
local macro_rules | `(tactic| walk_at "subscriptTail") => `(tactic| (k_here; (with_reducible show wpAny _ _ (subscriptTail _ _ (Value.bytes _ _) (Value.int _ _)) _ _ _); (refine item_at (by omega) (by omega) (by omega) ?_); intro c' t' k' hc'))
local macro_rules | `(tactic| walk_at "exec Raise some none") => `(tactic| (k_here; k_dflt (refine raise_59 (by rfl) ?_)))
local macro_rules | `(tactic| walk_at "call ref") => `(tactic| (k_here; (with_reducible show wpAny _ _ (call (Value.ref 59) [_, _]) _ _ _); k_dflt (refine' wf_make _ _ _ _ _ _ _ _ _ _ _ _ _ _ _ _ _ _ _ _ _ _ _ _ _ _ ?k1 ?k2 ?k3 ?k4 ?k5 ?k6 ?k7 ?k8 ?_; (case k1 => k_asm); (case k2 => k_asm); (case k3 => k_asm); (case k4 => k_asm); (case k5 => k_asm); (case k6 => first | assumption | exact rfl); (case k7 => ktr_room); (case k8 => ktr_units); intro e' t' d' ka' kb' h' tk' F' N' l1; (try dsimp only))))
local macro_rules | `(tactic| walk_at "Thrown") => `(tactic| (k_here; k_dflt (refine' Thrown.intro ?k1 ?k2 ?_; (case k1 => exact Frag.In.keeps (by k_asm) (Fr.keep (by k_asm))); (case k2 => exact (News.get (by k_asm) (List.Mem.head _))))))
local macro_rules | `(tactic| walk_at "call builtin:str.join") => `(tactic| (k_here; k_dflt (refine' join_arr ?k1 ?k2 ?k3 ?_; (case k1 => exact News.isList (by k_asm) (by k_mem)); (case k2 => assumption); (case k3 => omega); k_whole); intro t' k'))
local macro_rules | `(tactic| walk_at "KswEnd") => `(tactic| (refine Hold.intro ?_))
local macro_rules | `(tactic| walk_at "leaving ref") => `(tactic| (k_here; k_dflt (refine' left_by ?k1 ?k2 ?k3 ?k4 ?_; (case k1 => assumption); (case k2 => k_asm); (case k3 => k_asm); (case k4 => assumption); k_whole; intro h' R' U'; (try dsimp only))))
abbrev curD (w : World) (bs : Array UInt8) (t k1 k2 k3 : Tok) (i : Int) (ti t3 : Tok) : Obj :=
  dictOf [{ hash := PyData.keyHash w.params (PySem.Str.ofString "data"), key := Value.str (PySem.Str.ofString "data") k1, val := Value.bytes bs t },
    { hash := PyData.keyHash w.params (PySem.Str.ofString "at"), key := Value.str (PySem.Str.ofString "at") k2, val := Value.int i ti },
    { hash := PyData.keyHash w.params (PySem.Str.ofString "end"), key := Value.str (PySem.Str.ofString "end") k3, val := Value.int (bs.size : Int) t3 }] 3
set_option maxRecDepth 100000 in
set_option maxHeartbeats 8000000 in
theorem take_spec (w : World) (mean : ExcName → Option Value) (mg mb : Str → Option Value)
    (dp un : Nat) (gd : Option (List Code)) (cn : Str) (cs : Scope) (a : Addr) (ccd : Value) (cl : List (Str × Addr)) (outer : List Env) (A₀ : Around) (base h₀ : Heap) (L : Addr)
    (m : Str → Option Value) (s : Shared) (Q E : Value → Shared → Prop) (bs : Array UInt8) (at0 : Nat) (t k1 k2 k3 ti t3 : Tok) (cu dx : Addr) (rest : List (Addr × Obj))
    (B : Below A₀ base outer h₀) (F : Fr h₀ L s.heap m) (X : (hd.heap_39 w.params).In h₀)
    (N : News h₀ L s.heap ((cu, instObj 150 dx) :: (dx, curD w bs t k1 k2 k3 at0 ti t3) :: rest))
    (T : Top hd.view_39 (looseW hd.view_39 [Str.ofString "PostError"]) mean mg mb h₀)
    (hk : cs.kind = .function) (hd' : dp + 9 < recursionLimit) (hu : un + 80 < cLine)
    (hne : @Ne Nat cu dx) (hrest : ∀ p ∈ rest, p.1 ≠ dx)
    (hat : at0 ≤ bs.size) (hsz : bs.size ≤ 1000)
    (ret : ∀ l p t' ti' h' tk', Fr h₀ L h' m → News h₀ L h' ((cu, instObj 150 dx) :: (dx, curD w bs t k1 k2 k3 p ti' t3) :: rest) → (rd bs at0 []).1 = some l → p = ((rd bs at0 []).2 : Int) → Q (.str ⟨l.toArray⟩ t') { s with heap := h', toks := tk' })
    (out : ∀ e tt dx' ka kb what p tp nw g h' tk', Carried base (envX cn cs L a ccd cl :: outer) e tt (some dx') ((dx', excD w what ka kb p tp) :: nw) h' → Fr h₀ L g m → g.UpToSlots h' → (rd bs at0 []).1 = none → p = ((rd bs at0 []).2 : Int) → E (.ref e) { s with heap := h', toks := tk' }) :
    wpAny (model PySem.Challenge.rw_or0031_01.row.prog w) (ktrTop dp un gd cn cs L a ccd cl outer) (call (.ref 68) [.ref cu]) Q E s := by
  (w_top off; revert X; k_fill; intro X)
  obtain ⟨ck, c1, c2, c3⟩ := cs
  obtain rfl : ck = .function := hk
  refine wpAny_call ?_
  k_dflt k_enter
  iterate 14 (first | (with_reducible show wpAny _ _ (exec (Stmt.While _ _ _ _) _) _ _ _) | walk1 | (k_unfold; (try dsimp only)))
  (rename Fr _ _ _ _ => lF'); (rename News _ _ _ _ => lN'); (rename_i sg _ lS _)
  obtain ⟨lS1, lS2, lS3⟩ := lS
  have hsg : ∀ p ∈ rest, p.1 ≠ sg := fun p hp => Nat.ne_of_lt (kst_ltOf lS3 p hp)
  refine' ksw_while (fun c : Nat × List Nat × Array Value × Tok × Nat => (sg, W.listOf c.2.2.1 c.2.2.2.2) :: (cu, instObj 150 dx) :: (dx, curD w bs t k1 k2 k3 (c.1 : Int) c.2.2.2.1 t3) :: rest) (fun _ => []) (fun _ => True) [PySem.Str.ofString "code"]
    (fun c => c.1 ≤ bs.size ∧ c.2.1.length ≤ c.1 ∧ StrsAre c.2.2.1.toList (c.2.1.map one) ∧ rd bs c.1 c.2.1 = rd bs at0 []) (fun c => bs.size - c.1) ⟨at0, [], #[], ti, 0⟩ lF' lN' trivial (List.forall_mem_nil _) ⟨hat, Nat.zero_le _, .nil, rfl⟩ ?_
  clear lF' lN'
  rintro ⟨n, acc, arr, tA, nA⟩ u h tk - ⟨hn, hl, hstr, hrd⟩ kF kN
  dsimp only at kF kN hn hl hstr hrd
  all_goals (try k_fold)
  k_steps
  all_goals first
    | exact absurd (by assumption) (fun h => q_no1 (by assumption) h)
    | exact absurd (by assumption) (fun h => q_no2 (by assumption) h)
    | (have e := hrd.symm.trans (q_quote (by assumption) (by assumption))
       exact ret _ _ _ _ _ _ (by k_asm) (News.tail' (by k_asm)) (by rw [e]) (by first | (rw [e]; done) | (rw [e]; (dsimp only); omega)))
    | (have e := hrd.symm.trans (q_end (by assumption))
       exact out _ _ _ _ _ _ _ _ _ _ _ _ (by assumption) (by k_asm) (by assumption) (by rw [e]) (by first | (rw [e]; done) | (rw [e]; (dsimp only); omega)))
    | (have e := hrd.symm.trans (q_escEnd (by assumption) (by assumption) (by assumption) (by assumption))
       exact out _ _ _ _ _ _ _ _ _ _ _ _ (by assumption) (by k_asm) (by assumption) (by rw [e]) (by first | (rw [e]; done) | (rw [e]; (dsimp only); omega)))
    | (have e := hrd.symm.trans (q_escBad (by assumption) (by assumption) (by assumption) (by assumption) (by assumption))
       exact out _ _ _ _ _ _ _ _ _ _ _ _ (by assumption) (by k_asm) (by assumption) (by rw [e]) (by first | (rw [e]; done) | (rw [e]; (dsimp only); omega)))
    | (have e := hrd.symm.trans (q_low (by assumption) (by assumption) (by assumption) (by assumption))
       exact out _ _ _ _ _ _ _ _ _ _ _ _ (by assumption) (by k_asm) (by assumption) (by rw [e]) (by first | (rw [e]; done) | (rw [e]; (dsimp only); omega)))
    | (have e := hrd.symm.trans (q_high (by assumption) (by assumption) (by assumption) (by assumption))
       exact out _ _ _ _ _ _ _ _ _ _ _ _ (by assumption) (by k_asm) (by assumption) (by rw [e]) (by first | (rw [e]; done) | (rw [e]; (dsimp only); omega)))
    | (have e := (q_good (by assumption) (by assumption) (by assumption) (by assumption) (by assumption)).symm.trans hrd
       exact ksw_end (n + 1, _, _, _, _) (by k_asm) (by k_asm) (fun _ h9 => h9) trivial (List.forall_mem_nil _) (by (intro z h2 h3; (simp only [List.contains_cons, List.contains_nil, Bool.or_false, beq_eq_false_iff_ne, ne_eq] at h3); (simp [kstB, h3]; done))) ⟨by (dsimp only); omega, by (dsimp only); (simp only [List.length_append, List.length_cons, List.length_nil]); omega, push_codes (by assumption), e⟩ (by (dsimp only); omega))
    | (have e := (q_esc (by assumption) (by assumption) (by assumption) (by assumption) (by assumption)).symm.trans hrd
       exact ksw_end (n + 2, _, _, _, _) (by k_asm) (News.tail' (by k_asm)) (fun _ h9 => h9) trivial (List.forall_mem_nil _) (by (intro z h2 h3; (simp only [List.contains_cons, List.contains_nil, Bool.or_false, beq_eq_false_iff_ne, ne_eq] at h3); (simp [kstB, h3]; done))) ⟨by (dsimp only); omega, by (dsimp only); (simp only [List.length_append, List.length_cons, List.length_nil]); omega, push_codes (by assumption), e⟩ (by (dsimp only); omega))
end
section
local macro_rules | `(tactic| k_all) => `(tactic| assumption)
local macro_rules | `(tactic| k_room) => `(tactic| ktr_room)
set_option maxRecDepth 100000 in
set_option maxHeartbeats 8000000 in
theorem cur_make (w : World) (mean : ExcName → Option Value) (mg mb : Str → Option Value)
    (dp un : Nat) (gd : Option (List Code)) (cn : Str) (cs : Scope) (a : Addr) (ccd : Value) (cl : List (Str × Addr)) (outer : List Env) (A₀ : Around) (base h₀ : Heap) (L : Addr)
    (m : Str → Option Value) (s : Shared) (Q E : Value → Shared → Prop) (bs : Array UInt8) (at0 : Nat) (t t2 : Tok) (news : List (Addr × Obj))
    (B : Below A₀ base outer h₀) (F : Fr h₀ L s.heap m) (X : (hd.heap_39 w.params).In h₀)
    (N : News h₀ L s.heap news)
    (T : Top hd.view_39 (looseW hd.view_39 [Str.ofString "PostError"]) mean mg mb h₀)
    (hk : cs.kind = .function) (hd' : dp + 3 < recursionLimit) (hu : un + 20 < cLine)
    (hsz : bs.size ≤ 1000)
    (ret : ∀ x dx k1 k2 k3 t3 h' tk', Fr h₀ L h' m → News h₀ L h' ((x, instObj 150 dx) :: (dx, curD w bs t k1 k2 k3 (at0 : Int) t2 t3) :: news) → @Ne Nat x dx → (∀ p ∈ news, p.1 ≠ dx) → Q (.ref x) { s with heap := h', toks := tk' }) :
    wpAny (model PySem.Challenge.rw_or0031_01.row.prog w) (ktrTop dp un gd cn cs L a ccd cl outer) (call (.ref 150) [.bytes bs t, .int at0 t2]) Q E s := by
  (w_top off; revert X; k_fill; intro X)
  obtain ⟨ck, c1, c2, c3⟩ := cs
  obtain rfl : ck = .function := hk
  k_dflt (refine' call_cls ?k1 ?k2 ?k3 ?k4 ?k5 ?k6 ?_; (case k1 => k_asm); (case k2 => k_asm); (case k3 => k_asm); (case k4 => k_is); (case k5 => k_is); (case k6 => k_is); k_whole; intro x' d' h' F' N' l1 l2)
  have hne : @Ne Nat x' d' := Nat.ne_of_gt l2
  have hap : ∀ p ∈ news, p.1 ≠ d' := fun p hp => Nat.ne_of_lt (l1 p hp)
  clear l1
  k_dflt k_enter
  k_steps
  exact ret _ _ _ _ _ _ _ _ (by k_asm) (by k_asm) hne hap
section
variable {prog : Program} {w : World} {A : Around} {h₀ : Heap} {L : Addr} {m : Str → Option Value} {env : Env} {elt : Expr} {x : Str} {scope : Scope} {cl : List (Str × Addr)} {s : Shared} {Fin : List Value → List (Addr × Obj) → Prop}
/-- a turn of the comprehension: an octet, and the tape one place on -/
def TapeEl (led : Int → Tok → List (Addr × Obj)) (k : Int) (y : Value) (news' : List (Addr × Obj)) : Prop := ∃ v t' tv, y = .int v tv ∧ 0 ≤ v ∧ v < 256 ∧ news' = led (k + 1) t'
/-- a comprehension over a range, by a relation of its own between the turn, what is made and the ledger -/
theorem rest_by {n : Nat} (Rel : Nat → List Value → List (Addr × Obj) → Prop)
    (turn : ∀ (i : Nat) tk2 I oI C oC D m₂ ys nw h tk (E' : Value → Shared → Prop), i < n → Rel i ys nw → LCg.NsObj oC m₂ → m₂ x = some (.int (i : Int) tk2) → Fr h₀ L h m → News h₀ L h ((I, oI) :: (C, oC) :: (D, LCg.lst ys) :: nw) → LCg.Off3 I C D nw → ((@Ne Nat I C) ∧ (@Ne Nat I D) ∧ (@Ne Nat C D)) →
      wpAny (model prog w) A (eval elt (compEnvC scope cl C env)) (LCg.CompEnd h₀ L m { s with heap := h, toks := tk } I oI C oC D (LCg.lst ys) (fun _ => True) fun y => Rel (i + 1) (ys ++ [y])) E' { s with heap := h, toks := tk })
    (fin : ∀ ys nw, Rel n ys nw → Fin ys nw) : ∀ (j i : Nat) (ys : List Value) (nw : List (Addr × Obj)), i + j = n → Rel i ys nw →
    LCg.CompRest prog w A h₀ L m env elt x scope cl s (fun _ => True) (fun i v => ∃ t, v = .int (0 + (i : Int)) t) Fin j i ys nw
  | 0, _, ys, nw, e, r => .zero (fin ys nw (e ▸ r))
  | j + 1, i, ys, nw, e, r => .succ (by
      rintro _ I oI C oC D m₂ h tk E' ⟨t2, rfl⟩ hC hx F N off ne
      refine wpAny_mono (turn i t2 I oI C oC D m₂ ys nw h tk E' (by omega) r hC (hx.trans (by rw [Int.zero_add])) F N off ne) ?_ fun _ _ z => z
      rintro y s₂ ⟨h', tk', nw', e', F', N', off', hS, r'⟩
      exact ⟨h', tk', nw', e', F', N', off', hS, rest_by Rel turn fin j (i + 1) _ nw' (by omega) r'⟩)
theorem tape_rest {n : Nat} (led : Int → Tok → List (Addr × Obj)) (a0 : Int) (t0 : Tok)
    (turn : ∀ (i : Nat) k t tk2 I oI C oC D m₂ ys h tk (E' : Value → Shared → Prop), i < n → k = a0 + (i : Int) → LCg.NsObj oC m₂ → m₂ x = some (.int (i : Int) tk2) → Fr h₀ L h m → News h₀ L h ((I, oI) :: (C, oC) :: (D, LCg.lst ys) :: led k t) → LCg.Off3 I C D (led k t) → ((@Ne Nat I C) ∧ (@Ne Nat I D) ∧ (@Ne Nat C D)) →
      wpAny (model prog w) A (eval elt (compEnvC scope cl C env)) (LCg.CompEnd h₀ L m { s with heap := h, toks := tk } I oI C oC D (LCg.lst ys) (fun _ => True) (TapeEl led k)) E' { s with heap := h, toks := tk })
    (fin : ∀ ys ks t', IntsAre ys ks → (∀ k ∈ ks, 0 ≤ k ∧ k < 256) → ks.length = n → Fin ys (led (a0 + (n : Int)) t')) :
    LCg.CompRest prog w A h₀ L m env elt x scope cl s (fun _ => True) (fun i v => ∃ t, v = .int (0 + (i : Int)) t) Fin n 0 [] (led a0 t0) := by
  refine rest_by (fun i ys nw => ∃ ks t, IntsAre ys ks ∧ (∀ k ∈ ks, 0 ≤ k ∧ k < 256) ∧ ks.length = i ∧ nw = led (a0 + (i : Int)) t) ?_ ?_ n 0 [] _ (Nat.zero_add n) ⟨[], t0, .nil, nofun, rfl, by simp⟩
  · rintro i tk2 I oI C oC D m₂ ys _ h tk E' hi ⟨ks, t, hy, hk, hl, rfl⟩ hC hx F N off ne
    refine wpAny_mono (turn i _ t tk2 I oI C oC D m₂ ys h tk E' hi rfl hC hx F N off ne) ?_ fun _ _ z => z
    rintro y s₂ ⟨h', tk', nw', e', F', N', off', hS, v, t', tv, rfl, h0, h1, hn⟩
    refine ⟨h', tk', nw', e', F', N', off', hS, ks ++ [v], t', hy.append (.cons v tv .nil), List.forall_mem_append.mpr ⟨hk, List.forall_mem_singleton.mpr ⟨h0, h1⟩⟩, by rw [List.length_append, hl]; rfl, ?_⟩
    rw [hn, Int.natCast_succ, Int.add_assoc]
  · rintro ys _ ⟨ks, t, hy, hk, hl, rfl⟩
    exact fin ys ks t hy hk hl
end
end
section
open PySem.Calls PyProof.V PySem.Spec
section
variable {prog : Program} {w : World} {A : Around} {E : Value → Shared → Prop} {s : Shared} {value slice : PySem.Expr} {t u tv : Tok} {h₀ : Heap} {L D : Addr} {m : PySem.Str → Option Value} {news : List (Addr × Obj)} {Q : Value → Shared → Prop}
theorem picked_xy : ∀ v : Nat, v < 3 → (KBy.picked #[120, 121] none (some (v : Int))).size = v
  | 0, _ => by decide +kernel
  | 1, _ => by decide +kernel
  | 2, _ => by decide +kernel
  | n + 3, h => absurd h (by omega)
theorem cut_xy {v : Nat} (hF : Fr h₀ L s.heap m) (hN : News h₀ L s.heap news) (hv : (v : Int) < 3)
    (h : ∀ b h' t' k, b.size = v → Fr h₀ L h' m → News h₀ L h' news → Q (.bytes b t') { s with heap := h', toks := k })
    (hs : subscripted slice false (.bytes #[120, 121] t) (.ref s.heap.objs.size) = operate [.ref s.heap.objs.size, .bytes #[120, 121] t] (getItem (.bytes #[120, 121] t) (.ref s.heap.objs.size)) := by with_unfolding_all rfl)
    (ht : ∀ r, letTemporaryGo value (.bytes #[120, 121] t) r = pure () := by intro _; with_unfolding_all rfl) :
    wpAny (model prog w) A (subscriptTail value slice (.bytes #[120, 121] t) (.ref s.heap.objs.size)) Q E { s with heap := s.heap.push { cls := .type "slice", data := .fields #[.none, .int (v : Int) tv, .none] } } :=
  KBc.slice_K hF hN rfl .none (.int _ _) (by decide) (fun h' t' k F' N' _ => h _ _ _ _ (picked_xy v (by omega)) F' N') hs ht
theorem add_any {b c : Array UInt8} {k l : Nat} (hb : b.size = k) (hc : c.size = l) (hk : k ≤ 1000) (hl : l ≤ 1000) (h : ∀ d t' tk, d.size = k + l → Q (.bytes d t') { s with toks := tk }) :
    wpAny (model prog w) A (binaryOp .Add (.bytes b t) (.bytes c u)) Q E s :=
  KBy.add_bytes (by omega) fun t' tk => h _ t' tk (by rw [Array.size_append, hb, hc])
theorem make_any {vs : List Value} {ns : List Int} {n : Nat} (F : Fr h₀ L s.heap m) (N : News h₀ L s.heap news) (hh : A.handled = none) (hl : s.heap.IsList D vs.toArray) (hi : IntsAre vs ns) (hr : ∀ k ∈ ns, 0 ≤ k ∧ k < 256) (hn : ns.length = n) (hz : n ≤ 1000)
    (h : ∀ b h' t' k, b.size = n → Fr h₀ L h' m → News h₀ L h' news → Q (.bytes b t') { s with heap := h', toks := k }) : wpAny (model prog w) A (call (.type "bytes") [.ref D]) Q E s :=
  KBa.make_K F N hh hl hi hr (by omega) fun h' t' k F' N' _ => h _ _ _ _ (by simp [byteArr, hn]) F' N'
end
/-- the cells: a list of one to sixty-three ints -/
def CellsQ (h₀ : Heap) (L : Addr) (m : Str → Option Value) (news : List (Addr × Obj)) (s : Shared) (v : Value) (s' : Shared) : Prop :=
  ∃ ce vs ns n2 h' tk, v = .ref ce ∧ s' = { s with heap := h', toks := tk } ∧ Fr h₀ L h' m ∧ News h₀ L h' ((ce, listOf vs.toArray n2) :: news) ∧ IntsAre vs ns ∧ 0 < ns.length ∧ ns.length ≤ 63 ∧ (∀ p ∈ news, p.1 < ce)
theorem cells_cut {M : Model} {A : Around} {E : Value → Shared → Prop} {s : Shared} {h₀ : Heap} {L : Addr} {m : Str → Option Value} {news : List (Addr × Obj)} {x : Sem Value} {Q : Value → Shared → Prop} (F : Fr h₀ L s.heap m) (N : News h₀ L s.heap news)
    (h1 : wpAny M A x (CellsQ h₀ L m news s) E s)
    (h2 : ∀ ce vs ns n2 h' tk, Fr h₀ L h' m → News h₀ L h' ((ce, listOf vs.toArray n2) :: news) → IntsAre vs ns → 0 < ns.length → ns.length ≤ 63 → (∀ p ∈ news, p.1 < ce) → Q (.ref ce) { s with heap := h', toks := tk }) : wpAny M A x Q E s :=
  wpAny_mono h1 (fun v s' hq => by
    obtain ⟨ce, vs, ns, n2, h', tk, rfl, rfl, a, b, c, d, e, f⟩ := hq
    exact h2 ce vs ns n2 h' tk a b c d e f) fun _ _ y => y
theorem CellsQ.intro2 {h₀ : Heap} {L : Addr} {m : Str → Option Value} {s : Shared} {ce dy dx : Addr} {oy ox : Obj} {vs : List Value} {ns : List Int} {n2 : Nat} {h' : Heap} {tk : Nat} (F : Fr h₀ L h' m) (N : News h₀ L h' [(ce, listOf vs.toArray n2), (dy, oy), (dx, ox)]) (hi : IntsAre vs ns) (h0 : 0 < ns.length) (h1 : ns.length ≤ 63) (l : dy < ce ∧ dx < ce) :
    CellsQ h₀ L m [(dx, ox)] s (.ref ce) { s with heap := h', toks := tk } :=
  ⟨ce, vs, ns, n2, h', tk, rfl, rfl, F, fun p hp => N p ((List.mem_cons.mp hp).elim (fun e => e ▸ List.Mem.head _) (fun e => .tail _ (.tail _ e))), hi, h0, h1, List.forall_mem_singleton.mpr l.2⟩
theorem CellsQ.intro3 {h₀ : Heap} {L : Addr} {m : Str → Option Value} {s : Shared} {ce dz dy dx : Addr} {oz oy ox : Obj} {k : Int} {t : Tok} {n2 : Nat} {h' : Heap} {tk : Nat} (F : Fr h₀ L h' m) (N : News h₀ L h' [(ce, listOf #[.int k t] n2), (dz, oz), (dy, oy), (dx, ox)]) (l : dz < ce ∧ dy < ce ∧ dx < ce) :
    CellsQ h₀ L m [(dx, ox)] s (.ref ce) { s with heap := h', toks := tk } :=
  ⟨ce, [.int k t], [k], n2, h', tk, rfl, rfl, F, fun p hp => N p ((List.mem_cons.mp hp).elim (fun e => e ▸ List.Mem.head _) (fun e => .tail _ (.tail _ (.tail _ e)))), .cons k t .nil, Nat.le.refl, Nat.le_of_ble_eq_true rfl, List.forall_mem_singleton.mpr l.2.2⟩
/-- the last octet: a quote or nothing; what lies behind is forgotten -/
def LastQ (h₀ : Heap) (L : Addr) (m : Str → Option Value) (s : Shared) (v : Value) (s' : Shared) : Prop :=
  ∃ b t h' tk, v = .bytes b t ∧ s' = { s with heap := h', toks := tk } ∧ Fr h₀ L h' m ∧ b.size ≤ 1
theorem LastQ.intro {h₀ : Heap} {L : Addr} {m : Str → Option Value} {s : Shared} {b : Array UInt8} {t : Tok} {h' : Heap} {tk : Nat} (F : Fr h₀ L h' m) (hb : b.size ≤ 1) : LastQ h₀ L m s (.bytes b t) { s with heap := h', toks := tk } := ⟨b, t, h', tk, rfl, rfl, F, hb⟩
theorem last_cut {M : Model} {A : Around} {E : Value → Shared → Prop} {s : Shared} {h₀ : Heap} {L : Addr} {m : Str → Option Value} {x : Sem Value} {Q : Value → Shared → Prop} (_F : Fr h₀ L s.heap m)
    (h1 : wpAny M A x (LastQ h₀ L m s) E s)
    (h2 : ∀ b t h' tk, Fr h₀ L h' m → News h₀ L h' [] → b.size ≤ 1 → Q (.bytes b t) { s with heap := h', toks := tk }) : wpAny M A x Q E s :=
  wpAny_mono h1 (fun v s' hq => by
    obtain ⟨b, t, h', tk, rfl, rfl, c, e⟩ := hq
    exact h2 b t h' tk c (fun p hp => nomatch hp) e) fun _ _ y => y
section
variable {prog : Program} {w : World} {A : Around} {E : Value → Shared → Prop} {s : Shared} {h₀ : Heap} {L e dx t : Addr} {m : Str → Option Value} {news : List (Addr × Obj)} {Q : Value → Shared → Prop} {what tb : Value} {ka kb tp : Tok} {p : Int} {expr : Bool}
/-- the field «at» of a WireFault, read through the base's own __getattribute__ -/
theorem get_at59 (F : Fr h₀ L s.heap m) (X₀ : (hd.heap_39 w.params).In h₀) (N : News h₀ L s.heap news) (h1 : (e, excV t (some dx) tb) ∈ news) (h2 : (dx, excD w what ka kb p tp) ∈ news) (h : Q (.int p tp) { s with toks := s.toks + 1 }) :
    wpAny (model prog w) A (getAttr (.ref e) (PySem.Str.ofString "at") expr) Q E s := by
  have X := X₀.keeps F.keep
  have I : InstAt s.heap e (excV t (some dx) tb) 59 (some (excD w what ka kb p tp)) := ⟨(N _ h1).1, rfl, rfl, (N _ h2).1⟩
  have typ := I.type (M := model prog w)
  have way := looks_findIn (M := model prog w) X (t := .ref 59) (name := "__getattribute__") (r := some (.builtin "BaseException.__getattribute__")) (by kernel_rfl)
  have hook := looks_findIn (M := model prog w) X (t := .ref 59) (name := "__getattr__") (r := none) (by kernel_rfl)
  have base : Looks (model prog w) s.heap (isInstance (.ref e) (.type "BaseException")) true := typ.andThen (looks_subIn X (by kernel_rfl))
  have got := looks_find (M := model prog w) X I (findObj_own (by with_unfolding_all rfl) (wf_atN _) (by with_unfolding_all rfl) (by with_unfolding_all rfl))
  have G := PySem.F.excAttr_ValueError.ga
  have run : codeAny (model prog w) A (.call (.builtin "BaseException.__getattribute__") ⟨[.ref e, .str (PySem.Str.ofString "at") s.toks], []⟩) (fun r s' => r = .ok (.ret (.int p tp)) ∧ Q (.int p tp) s') { s with toks := s.toks + 1 } := by
    refine codeAny_call_builtin G.plain PySem.F.entry_bexc_ga ?_
    refine @check_slot (model prog w) _ _ { s with toks := s.toks + 1 } "BaseException.__getattribute__" "BaseException" "__getattribute__" (.ref e) [.str (PySem.Str.ofString "at") s.toks] [] _ (by decide +kernel) (by decide +kernel) base (PySem.F.args_bexc_ga _ _) ?_
    exact wpAny_bind (wpAny_pure (wpAny_bind (wpAny_pure (wpAny_bind (typ.at (wpAny_bind (got.at (wpAny_pure ⟨rfl, h⟩))))))))
  unfold getAttr getAttrBy
  refine wpAny_bind (wpAny_mkText (wpAny_holding (wpAny_bind (typ.at (wpAny_bind (way.at ?_))))))
  show wpAny _ _ (getAttrByItsOwn _ _ _ _ _ _) _ _ _
  refine wpAny_bind (hook.at (wpAny_bind (wpAny_attempt (wpAny_holding ?_))))
  have bare : callGetattribute (.ref e) (.str (PySem.Str.ofString "at") s.toks) (.builtin "BaseException.__getattribute__") expr = boundAndCalled (.builtin "BaseException.__getattribute__") (.ref e) (.str (PySem.Str.ofString "at") s.toks) := by cases expr <;> rfl
  rw [bare]
  unfold boundAndCalled
  rw [G.bind]
  refine wpAny_bind (wpAny_pure (wpAny_call (codeAny_mono run ?_)))
  rintro _ s' ⟨rfl, z⟩
  show wpAny _ _ (handedOut _) _ _ _
  rw [handedOut_of rfl]
  exact wpAny_pure z
end
end
section
local macro_rules | `(tactic| walk_at "eval BoolOp") => `(tactic| (k_here; (with_reducible show wpAny _ _ (eval (Expr.BoolOp BoolOp.Or _ _) _) _ _ _); (fail_if_success (with_reducible show wpAny _ _ _ (CellsQ _ _ _ _ _) _ _)); k_dflt (refine' cells_cut ?F ?N ?h1 ?h2; (case F => k_asm); (case N => k_asm); (case' h2 => (intro ce' vs' ns' n2' h' tk' F' N' hI' hp' hq' l1'; (try k_sweep))))))
local macro_rules | `(tactic| walk_at "CellsQ") => `(tactic| refine Hold.intro ?_)
local macro_rules | `(tactic| walk_at "CompSrc") => `(tactic| refine Hold.intro ?_)
local macro_rules | `(tactic| walk_at "CompEnd") => `(tactic| refine Hold.intro ?_)
local macro_rules | `(tactic| walk_at "call ref") => `(tactic| (k_here; (with_reducible show wpAny _ _ (call (Value.ref 161) [_, _]) _ _ _); k_dflt (refine' draw_call _ _ _ _ _ _ _ _ _ _ _ _ _ _ _ _ _ _ _ _ _ _ _ _ _ _ _ _ _ _ _ _ _ ?B ?F ?X ?N ?U ?mem ?T ?hk ?hd ?hu ?hi ?hne ?l1 ?l2 ?a1 ?a2 ?m1 ?m2 ?_; (case B => k_asm); (case F => k_asm); (case X => k_asm); (case N => k_asm); (case U => (intro t1; k_upd)); (case mem => k_mem); (case T => k_asm); (case hk => first | assumption | exact rfl); (case hd => first | ktr_room | k_room); (case hu => ktr_units); (case hi => assumption); (case hne => (refine neN ?_; omega)); (case l1 => assumption); (case l2 => assumption); (case a1 => omega); (case a2 => omega); (case m1 => omega); (case m2 => omega)); intro v' t1' t3' h' tk' hv' F' N'; (try k_sweep); (try dsimp only at N')))
local macro_rules | `(tactic| walk_at "subscriptTail") => `(tactic| (k_here; (with_reducible show wpAny _ _ (subscriptTail _ _ (Value.bytes _ _) (Value.int _ _)) _ _ _); (refine item_at (by omega) (by first | omega | ((simp only [List.size_toArray, List.length_cons, List.length_nil]); omega)) (by first | omega | ((simp only [List.size_toArray, List.length_cons, List.length_nil]); omega)) ?_); intro c' t' k' hc'))
local macro_rules | `(tactic| walk_at "call type:bytes") => `(tactic| (k_here; k_dflt (refine' make_any ?F ?N rfl ?l ?i ?r ?n ?z ?_; (case F => k_asm); (case N => k_asm); (case l => exact News.isList (by k_asm) (by k_mem)); (case i => assumption); (case r => assumption); (case n => assumption); (case z => omega)); intro b' h' t' k' hb' F' N'; (try k_sweep)))
local macro_rules | `(tactic| walk_at "subscriptTail") => `(tactic| (k_here; (with_reducible show wpAny _ _ (subscriptTail _ (Expr.Slice _ _ none _) (Value.bytes _ _) (Value.ref _)) _ _ _); (with_reducible rename Fr _ _ _ _ => F'); (with_reducible rename News _ _ _ _ => N'); (refine cut_xy (s := ⟨_, _, _, _, _⟩) F' N' (by omega) ?_); intro b' h' t' k' hb' F' N'; (try k_sweep)))
local macro_rules | `(tactic| walk_at "binaryOp Add bytes bytes") => `(tactic| (k_here; (refine add_any (by first | assumption | rfl) (by first | assumption | rfl) (by omega) (by omega) ?_); intro d' t' k' hd'))
local macro_rules | `(tactic| walk_at "LastQ") => `(tactic| refine Hold.intro ?_)
local macro_rules | `(tactic| walk_at "eval IfExp") => `(tactic| (k_here; (with_reducible show wpAny _ _ (eval (Expr.IfExp _ (Expr.Constant (Const.bytes _) _ _) _ _) _) _ _ _); (fail_if_success (with_reducible show wpAny _ _ _ (LastQ _ _ _ _) _ _)); k_dflt (refine' last_cut ?F ?h1 ?h2; (case F => k_asm); (case' h2 => (intro b' t' h' tk' F' N' hb'; (try k_sweep))))))
local macro_rules | `(tactic| walk_at "call ref") => `(tactic| (k_here; (with_reducible show wpAny _ _ (call (Value.ref 168) [_, _]) _ _ _); k_dflt (refine' read_spec _ _ _ _ _ _ _ _ _ _ _ _ _ _ _ _ _ _ _ _ _ _ _ _ _ _ ?B ?F ?X ?N ?T ?hk ?hd ?hu ?a1 ?a2 ?_; (case B => k_asm); (case F => k_asm); (case X => k_asm); (case N => k_asm); (case T => k_asm); (case hk => first | assumption | exact rfl); (case hd => first | ktr_room | k_room); (case hu => ktr_units); (case a1 => omega); (case a2 => omega)); intro r' v1' p' t3' h' tk' F' N' hv' hp'; subst hp'; (try k_sweep); split at hv' <;> (first | subst hv' | (obtain ⟨t4', hv'⟩ := hv'; subst hv')); (all_goals (try dsimp only))))
local macro_rules | `(tactic| walk_at "LastQ") => `(tactic| (k_here; exact LastQ.intro (by k_asm) (by first | decide | exact Nat.le_of_ble_eq_true rfl)))
local macro_rules | `(tactic| walk_at "call ref") => `(tactic| (k_here; (with_reducible show wpAny _ _ (call (Value.ref 150) [_, _]) _ _ _); k_dflt (refine' cur_make _ _ _ _ _ _ _ _ _ _ _ _ _ _ _ _ _ _ _ _ _ _ _ _ _ _ ?B ?F ?X ?N ?T ?hk ?hd ?hu ?a1 ?_; (case B => k_asm); (case F => k_asm); (case X => k_asm); (case N => k_asm); (case T => k_asm); (case hk => first | assumption | exact rfl); (case hd => first | ktr_room | k_room); (case hu => ktr_units); (case a1 => omega)); intro x' d' ka' kb' kc' t3' h' tk' F' N' ne' ap'; (try k_sweep); (try dsimp only)))
local macro_rules | `(tactic| walk_at "exec Try") => `(tactic| refine Hold.intro ?_)
local macro_rules | `(tactic| walk_at "call ref") => `(tactic| (k_here; (with_reducible show wpAny _ _ (call (Value.ref 68) [_]) _ _ _); k_dflt (refine' take_spec _ _ _ _ _ _ _ _ _ _ _ _ _ _ _ _ _ _ _ _ _ _ _ _ _ _ _ _ _ _ _ _ ?B ?F ?X ?N ?T ?hk ?hd ?hu ?ne ?ap ?a1 ?a2 ?ret ?out; (case B => k_asm); (case F => k_asm); (case X => k_asm); (case N => k_asm); (case T => k_asm); (case hk => first | assumption | exact rfl); (case hd => first | ktr_room | k_room); (case hu => ktr_units); (case ne => assumption); (case ap => assumption); (case a1 => omega); (case a2 => omega); (case' ret => (intro l' p' t' ti' h' tk' F' N' hl' hp'; subst hp'; (try k_sweep); (try dsimp only); (first | exact absurd (hl'.symm.trans (show _ = none by assumption)) (by intro h9; cases h9) | (obtain rfl := Option.some.inj (hl'.symm.trans (by assumption)))))); (case' out => (intro e' tt' d' ka' kb' what' p' tp' nw' g' h' tk' R' Fg' U' hn' hp'; subst hp'; (try dsimp only); (try (exact absurd (hn'.symm.trans (show _ = some _ by assumption)) (by intro h9; cases h9))))))))
local macro_rules | `(tactic| walk_at "noteFrame ref") => `(tactic| (k_here; (rename Carried _ _ _ _ _ _ _ => rkX); k_dflt (refine' taken ?hfr ?hf ?F ?U ?R ?X ?hev ?_; (case hfr => exact rfl); (case hf => exact rfl); (case R => exact rkX); (case U => assumption); (case F => assumption); (case X => k_asm); (case hev => (intro h9 P9 E9 F9 hP9; walk1; exact hP9))); intro h' tb' E1' E2' F' N'; (try k_sweep); (try k_fold)))
local macro_rules | `(tactic| walk_at "getAttr ref") => `(tactic| (k_here; k_dflt (refine' get_at59 ?F ?X ?N ?h1 ?h2 ?_; (case F => k_asm); (case X => k_asm); (case N => k_asm); (case h1 => k_mem); (case h2 => k_mem); k_whole)))
set_option maxRecDepth 100000 in
set_option maxHeartbeats 2000000 in
theorem mainT : PySem.Challenge.rw_or0031_01.Holds := hd (by
  w_top off
  k_go0
  all_goals (try k_fold)
  k_steps
  rotate_left 1
  · exact CellsQ.intro2 (by k_asm) (by k_asm) (by assumption) (by assumption) (by (simp only [List.length_take]; omega)) (by assumption)
  · exact CellsQ.intro3 (by k_asm) (by k_asm) (by assumption)
  show LCg.CompSrc _ _ _ _ _ _ _ _ _ _ _ _ _ _
  k_dflt (refine' LCg.CompSrc.range (by rfl) (by k_asm) (by k_asm) (by assumption) (small_one (by omega) (by omega) (by omega) (by omega)) (rangeSize_nat _ _) (by rw [sizeLine_eq]; omega) ?_)
  intro g'
  refine' tape_rest (fun k t => [(_, W.listOf #[.ref _, .int k t] 0), (_, W.listOf _ _), (_, _)]) _ _ ?turn ?fin
  case turn =>
    intro i k t tk2 I oI C oC D m₂ ys h tk E' hi hk hC hx F N off ne
    simp only [LCg.Off3, and_true] at off
    (try k_fold)
    k_steps
    all_goals exact LCg.CompEnd.intro (by k_asm) (by k_asm) _ (fun _ h9 => h9) (by (simp only [LCg.Off3, and_true]; exact off)) trivial ⟨_, _, _, rfl, Int.natCast_nonneg _, Int.ofNat_lt.mpr (UInt8.toNat_lt _), rfl⟩
  case fin =>
    intro ys ks t' hy hk hl
    k_steps
    all_goals (show wpAny _ _ _ _ _ _)
    all_goals (refine wpAny_Try_except ?_)
    all_goals (iterate 14 (first | (k_here; with_reducible show wpAny _ _ (call (Value.ref 68) [_]) _ _ _) | walk1 | (k_unfold; (try dsimp only))))
    all_goals (walk_at "call ref")
    k_steps
    all_goals (try dsimp only)
    k_steps
    (with_reducible rename Fr _ _ _ _ => lF'); (with_reducible rename News _ _ _ _ => lN')
    k_dflt (refine' wpAny_nameGoes ?hl (Fr.ns lF') ?hp ?_; (case hl => exact rfl); (case hp => exact rfl)); intro h' m' hn' hs'; (have F' := Fr.set lF' hn' hs'); (have N' := News.set lN' hs'); clear lF' lN'
    (try dsimp only)
    k_steps)
end
end Mine
theorem PySem.Challenge.cw_or0031_01_holds : PySem.Challenge.rw_or0031_01.Holds :=
  Mine.mainT
