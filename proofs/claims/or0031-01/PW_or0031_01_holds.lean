import PyProof.Rows.All
import Wide.All
import OpenK.AllK
import Wide.FinOn
import Lean
import PySem.Challenge.RW_or0031_01
/-! The law of take_quoted: the law draws octets, reads them by its own reader, and then by the program's reader.
Each part stands in a section of its own, so that its lines of the walk end with it. -/
open PySem PySem.W PyProof.Rows
set_option Elab.async false
set_option rowWalk.seconds 0
namespace Mine
set_option maxRecDepth 100000 in
set_option maxHeartbeats 8000000 in
open_top hd for PySem.Challenge.rw_or0031_01
section
local macro_rules | `(tactic| k_all) => `(tactic| assumption)
set_option maxRecDepth 100000 in
set_option maxHeartbeats 8000000 in
theorem draw_spec (w : World) (mean : ExcName → Option Value) (mg mb : Str → Option Value)
    (dp un : Nat) (gd : Option (List Code)) (cn : Str) (cs : Scope) (a : Addr) (ccd : Value) (cl : List (Str × Addr)) (outer : List Env) (A₀ : Around) (base h₀ : Heap) (L : Addr)
    (m : Str → Option Value) (s : Shared) (Q E : Value → Shared → Prop) (tp ce : Addr) (ats many : Int) (t t2 : Tok) (vs : List Value) (ns : List Int) (n1 n2 : Nat) (rest : List (Addr × Obj))
    (B : Below A₀ base outer h₀) (F : Fr h₀ L s.heap m) (X : (hd.heap_39 w.params).In h₀)
    (N : News h₀ L s.heap ((tp, listOf #[.ref ce, .int ats t] n1) :: (ce, listOf vs.toArray n2) :: rest))
    (T : Top hd.view_39 (looseW hd.view_39 [Str.ofString "PostError"]) mean mg mb h₀)
    (hk : cs.kind = .function) (hd' : dp + 1 < recursionLimit) (hu : un + 8 < cLine)
    (hi : IntsAre vs ns) (hne : @Ne Nat ce tp) (hrest : ∀ p ∈ rest, p.1 ≠ tp)
    (hlen : 0 < ns.length) (hlen2 : ns.length ≤ 63) (hat : 0 ≤ ats) (hat2 : ats ≤ 1000) (hm : 0 < many) (hm2 : many ≤ 1000)
    (ret : ∀ (v : Nat) t1 t3 h' tk', (v : Int) < many → Fr h₀ L h' m → News h₀ L h' ((tp, listOf #[.ref ce, .int (ats + 1) t1] n1) :: (ce, listOf vs.toArray n2) :: rest) → Q (.int (v : Int) t3) { s with heap := h', toks := tk' }) :
    wpAny (model PySem.Challenge.rw_or0031_01.row.prog w) (ktrTop dp un gd cn cs L a ccd cl outer) (call (.ref 161) [.ref tp, .int many t2]) Q E s := by
  (w_top off; revert X; k_fill; intro X)
  refine wpAny_call ?_
  k_dflt ktr_enter
  k_steps
  have back : ∀ (v : Int) t1 t3 h' tk', 0 ≤ v → v < many → Fr h₀ L h' m → News h₀ L h' ((tp, listOf #[.ref ce, .int (ats + 1) t1] n1) :: (ce, listOf vs.toArray n2) :: rest) → Q (.int v t3) { s with heap := h', toks := tk' } := fun v t1 t3 h' tk' h0 h1 F' N' => by
    obtain ⟨k, rfl⟩ := Int.eq_ofNat_of_zero_le h0
    exact ret k t1 t3 h' tk' h1 F' N'
  exact back _ _ _ _ _ (Int.fmod_nonneg_of_pos _ hm) (Int.fmod_lt_of_pos _ hm) (by k_asm) (by k_asm)

theorem upd_parts {d : Addr} {o o' : Obj} {l l' : List (Addr × Obj)} (U : Upd d o o' l l') : (d, o) ∈ l ∧ (∀ p ∈ l', p = (d, o') ∨ (p ∈ l ∧ p.1 ≠ d)) := by
  obtain ⟨pre, post, rfl, rfl, h1, h2⟩ := U.split
  refine ⟨by simp, fun p hp => ?_⟩
  rcases List.mem_append.mp hp with q | q
  · exact .inr ⟨List.mem_append_left _ q, h1 p q⟩
  · rcases List.mem_cons.mp q with rfl | q
    · exact .inl rfl
    · exact .inr ⟨List.mem_append_right _ (.tail _ q), h2 p q⟩

/-- the draw over any ledger that bears the tape -/
theorem draw_call (w : World) (mean : ExcName → Option Value) (mg mb : Str → Option Value)
    (dp un : Nat) (gd : Option (List Code)) (cn : Str) (cs : Scope) (a : Addr) (ccd : Value) (cl : List (Str × Addr)) (outer : List Env) (A₀ : Around) (base h₀ : Heap) (L : Addr)
    (m : Str → Option Value) (s : Shared) (Q E : Value → Shared → Prop) (tp ce : Addr) (ats many : Int) (t t2 : Tok) (vs : List Value) (ns : List Int) (n1 n2 : Nat) (news : List (Addr × Obj)) (up : Tok → List (Addr × Obj))
    (B : Below A₀ base outer h₀) (F : Fr h₀ L s.heap m) (X : (hd.heap_39 w.params).In h₀)
    (N : News h₀ L s.heap news) (U : ∀ t1, Upd tp (listOf #[.ref ce, .int ats t] n1) (listOf #[.ref ce, .int (ats + 1) t1] n1) news (up t1)) (hmem : (ce, listOf vs.toArray n2) ∈ news)
    (T : Top hd.view_39 (looseW hd.view_39 [Str.ofString "PostError"]) mean mg mb h₀)
    (hk : cs.kind = .function) (hd' : dp + 1 < recursionLimit) (hu : un + 8 < cLine)
    (hi : IntsAre vs ns) (hne : @Ne Nat ce tp)
    (hlen : 0 < ns.length) (hlen2 : ns.length ≤ 63) (hat : 0 ≤ ats) (hat2 : ats ≤ 1000) (hm : 0 < many) (hm2 : many ≤ 1000)
    (ret : ∀ (v : Nat) t1 t3 h' tk', (v : Int) < many → Fr h₀ L h' m → News h₀ L h' (up t1) → Q (.int (v : Int) t3) { s with heap := h', toks := tk' }) :
    wpAny (model PySem.Challenge.rw_or0031_01.row.prog w) (ktrTop dp un gd cn cs L a ccd cl outer) (call (.ref 161) [.ref tp, .int many t2]) Q E s := by
  refine draw_spec w mean mg mb dp un gd cn cs a ccd cl outer A₀ base h₀ L m s Q E tp ce ats many t t2 vs ns n1 n2 (news.filter fun p => p.1 != tp) B F X (fun p hp => N p ?_) T hk hd' hu hi hne (fun p hp => by simpa using (List.mem_filter.mp hp).2) hlen hlen2 hat hat2 hm hm2
    fun v t1 t3 h' tk' hv F' N' => ret v t1 t3 h' tk' hv F' fun p hp => N' p ?_
  · rcases List.mem_cons.mp hp with rfl | hp
    · exact (upd_parts (U t)).1
    · rcases List.mem_cons.mp hp with rfl | hp
      · exact hmem
      · exact (List.mem_filter.mp hp).1
  · rcases (upd_parts (U t1)).2 p hp with rfl | ⟨q1, q2⟩
    · exact .head _
    · exact .tail _ (.tail _ (List.mem_filter.mpr ⟨q1, by simpa using q2⟩))
end
section
open PySem.Calls PyProof.V PySem.Spec
theorem picked_in (b : Array UInt8) {i j : Int} {c : UInt8} (h0 : 0 ≤ i) (hj : j = i + 1) (hc : b[i.toNat]? = some c) : KBy.picked b (some i) (some j) = #[c] := by
  have hn : i = ((i.toNat : Nat) : Int) := by omega
  have hlt : i.toNat < b.size := (Array.getElem?_eq_some_iff.mp hc).1
  have hj' : j = ((i.toNat + 1 : Nat) : Int) := by omega
  rw [KBc.picked_eq, hj']
  generalize hk : i.toNat = k at *
  subst hn
  simp only [Option.elim, clipAt_nat]
  rw [Nat.min_eq_left (by omega), Nat.min_eq_left (by omega)]
  have e : k + 1 - k = 1 := by omega
  rw [e]
  have hl : k < b.toList.length := by simpa using hlt
  have hg : b.toList[k] = c := by
    have := (Array.getElem?_eq_some_iff.mp hc).2
    simpa using this
  rw [List.drop_eq_getElem_cons hl, hg]
  rfl
theorem picked_out (b : Array UInt8) {i j : Int} (h0 : (b.size : Int) ≤ i) (hj : j = i + 1) : KBy.picked b (some i) (some j) = #[] := by
  have hn : i = ((i.toNat : Nat) : Int) := by omega
  have hj' : j = ((i.toNat + 1 : Nat) : Int) := by omega
  rw [KBc.picked_eq, hj']
  generalize hk : i.toNat = k at *
  subst hn
  simp only [Option.elim, clipAt_nat]
  rw [Nat.min_eq_right (by omega), Nat.min_eq_right (by omega)]
  simp
section
variable {prog : Program} {w : World} {A : Around} {E : Value → Shared → Prop} {s : Shared} {value slice : PySem.Expr} {b : Array UInt8} {t ti tj : Tok} {h₀ : Heap} {L : Addr} {m : PySem.Str → Option Value} {news : List (Addr × Obj)} {Q : Value → Shared → Prop} {i j : Int}
theorem cut_in (hF : Fr h₀ L s.heap m) (hN : News h₀ L s.heap news) (h0 : 0 ≤ i) (h1 : i < (b.size : Int)) (hj : j = i + 1) (hz : b.size ≤ 16777216)
    (h : ∀ c h' t' k, b[i.toNat]? = some c → Fr h₀ L h' m → News h₀ L h' news → Q (.bytes #[c] t') { s with heap := h', toks := k })
    (hs : subscripted slice false (.bytes b t) (.ref s.heap.objs.size) = operate [.ref s.heap.objs.size, .bytes b t] (getItem (.bytes b t) (.ref s.heap.objs.size)) := by with_unfolding_all rfl)
    (ht : ∀ r, letTemporaryGo value (.bytes b t) r = pure () := by intro _; with_unfolding_all rfl) :
    wpAny (model prog w) A (subscriptTail value slice (.bytes b t) (.ref s.heap.objs.size)) Q E { s with heap := s.heap.push { cls := .type "slice", data := .fields #[.int i ti, .int j tj, .none] } } := by
  have hlt : i.toNat < b.size := by omega
  have hc : b[i.toNat]? = some b[i.toNat] := by simp [hlt]
  refine KBc.slice_K hF hN rfl (.int i _) (.int j _) (by rw [KBw.ints_length]; exact hz) (fun h' t' k F' N' _ => ?_) hs ht
  rw [picked_in b h0 hj hc]
  exact h _ _ _ _ hc F' N'
theorem cut_out (hF : Fr h₀ L s.heap m) (hN : News h₀ L s.heap news) (h1 : (b.size : Int) ≤ i) (hj : j = i + 1) (hz : b.size ≤ 16777216)
    (h : ∀ h' t' k, Fr h₀ L h' m → News h₀ L h' news → Q (.bytes #[] t') { s with heap := h', toks := k })
    (hs : subscripted slice false (.bytes b t) (.ref s.heap.objs.size) = operate [.ref s.heap.objs.size, .bytes b t] (getItem (.bytes b t) (.ref s.heap.objs.size)) := by with_unfolding_all rfl)
    (ht : ∀ r, letTemporaryGo value (.bytes b t) r = pure () := by intro _; with_unfolding_all rfl) :
    wpAny (model prog w) A (subscriptTail value slice (.bytes b t) (.ref s.heap.objs.size)) Q E { s with heap := s.heap.push { cls := .type "slice", data := .fields #[.int i ti, .int j tj, .none] } } := by
  refine KBc.slice_K hF hN rfl (.int i _) (.int j _) (by rw [KBw.ints_length]; exact hz) (fun h' t' k F' N' _ => ?_) hs ht
  rw [picked_out b h1 hj]
  exact h _ _ _ F' N'
theorem cut_any (hF : Fr h₀ L s.heap m) (hN : News h₀ L s.heap news) (h0 : 0 ≤ i) (hj : j = i + 1) (hz : b.size ≤ 16777216)
    (h1 : i < (b.size : Int) → ∀ c h' t' k, b[i.toNat]? = some c → Fr h₀ L h' m → News h₀ L h' news → Q (.bytes #[c] t') { s with heap := h', toks := k })
    (h2 : (b.size : Int) ≤ i → ∀ h' t' k, Fr h₀ L h' m → News h₀ L h' news → Q (.bytes #[] t') { s with heap := h', toks := k })
    (hs : subscripted slice false (.bytes b t) (.ref s.heap.objs.size) = operate [.ref s.heap.objs.size, .bytes b t] (getItem (.bytes b t) (.ref s.heap.objs.size)) := by with_unfolding_all rfl)
    (ht : ∀ r, letTemporaryGo value (.bytes b t) r = pure () := by intro _; with_unfolding_all rfl) :
    wpAny (model prog w) A (subscriptTail value slice (.bytes b t) (.ref s.heap.objs.size)) Q E { s with heap := s.heap.push { cls := .type "slice", data := .fields #[.int i ti, .int j tj, .none] } } := by
  rcases Int.lt_or_le i (b.size : Int) with q | q
  · exact cut_in hF hN h0 q hj hz (h1 q) hs ht
  · exact cut_out hF hN q hj hz (h2 q) hs ht
end
end
section
def Hold (P : Prop) : Prop := P
theorem Hold.intro {P : Prop} (h : Hold P) : P := h
def rd (bs : Array UInt8) (i : Nat) (acc : List Nat) : Option (List Nat) × Nat :=
  if h : i < bs.size then
    let c := bs[i].toNat
    if c = 34 then (some acc, i + 1)
    else if c = 92 then
      if h2 : i + 1 < bs.size then
        let d := bs[i + 1].toNat
        if d = 34 ∨ d = 92 then rd bs (i + 2) (acc ++ [d])
        else (none, i + 2)
      else (none, i + 1)
    else if c < 32 ∨ 126 < c then (none, i + 1)
    else rd bs (i + 1) (acc ++ [c])
  else (none, i)
termination_by bs.size - i
theorem b_eq {c d : UInt8} (h : (#[c].toList == #[d].toList) = true) : c = d := by simpa using h
theorem b_ne {c d : UInt8} (h : (#[c].toList == #[d].toList) = false) : c ≠ d := by simpa using h
theorem b_eq' {c d : UInt8} (h : (#[c].toList != #[d].toList) = false) : c = d := by simpa using h
theorem b_ne' {c d : UInt8} (h : (#[c].toList != #[d].toList) = true) : c ≠ d := by simpa using h
theorem u_ne {c : UInt8} {k : Nat} (hk : k < 256) (h : c ≠ k.toUInt8) : c.toNat ≠ k := by
  intro e
  apply h
  apply UInt8.toNat_inj.mp
  rw [e]
  simp
  omega
section
variable {bs : Array UInt8} {n : Nat} {acc : List Nat} {c d : UInt8}
theorem at_n (hc : bs[((n : Nat) : Int).toNat]? = some c) : ∃ h : n < bs.size, bs[n] = c := by
  rw [Int.toNat_natCast] at hc
  exact Array.getElem?_eq_some_iff.mp hc
theorem at_n1 (hc : bs[((n : Nat) + 1 : Int).toNat]? = some d) : ∃ h : n + 1 < bs.size, bs[n + 1] = d := by
  have e : ((n : Nat) + 1 : Int).toNat = n + 1 := by omega
  rw [e] at hc
  exact Array.getElem?_eq_some_iff.mp hc
theorem rd_quote (hc : bs[((n : Nat) : Int).toNat]? = some c) (h : (#[c].toList == #[34].toList) = true) : rd bs n acc = (some acc, n + 1) := by
  obtain ⟨hl, he⟩ := at_n hc
  have := b_eq h
  subst this
  rw [rd]
  simp [hl, he]
theorem rd_escEnd (hc : bs[((n : Nat) : Int).toNat]? = some c) (h1 : (#[c].toList == #[34].toList) = false) (h2 : (#[c].toList == #[92].toList) = true) (q : (bs.size : Int) ≤ (n : Int) + 1) : rd bs n acc = (none, n + 1) := by
  obtain ⟨hl, he⟩ := at_n hc
  have := b_eq h2
  subst this
  have : ¬ n + 1 < bs.size := by omega
  rw [rd]
  simp [hl, he, this]
theorem rd_escBad (hc : bs[((n : Nat) : Int).toNat]? = some c) (h1 : (#[c].toList == #[34].toList) = false) (h2 : (#[c].toList == #[92].toList) = true) (hd : bs[((n : Nat) + 1 : Int).toNat]? = some d)
    (h3 : (#[d].toList != #[34].toList) = true) (h4 : (#[d].toList != #[92].toList) = true) : rd bs n acc = (none, n + 2) := by
  obtain ⟨hl, he⟩ := at_n hc
  obtain ⟨hl', he'⟩ := at_n1 hd
  have := b_eq h2
  subst this
  have e3 := u_ne (k := 34) (by decide) (b_ne' h3)
  have e4 := u_ne (k := 92) (by decide) (b_ne' h4)
  rw [rd]
  simp [hl, he, hl', he', e3, e4]
theorem rd_esc34 (hc : bs[((n : Nat) : Int).toNat]? = some c) (h1 : (#[c].toList == #[34].toList) = false) (h2 : (#[c].toList == #[92].toList) = true) (hd : bs[((n : Nat) + 1 : Int).toNat]? = some d)
    (h3 : (#[d].toList != #[34].toList) = false) : rd bs n acc = rd bs (n + 2) (acc ++ [d.toNat]) := by
  obtain ⟨hl, he⟩ := at_n hc
  obtain ⟨hl', he'⟩ := at_n1 hd
  have := b_eq h2
  subst this
  have := b_eq' h3
  subst this
  rw [rd]
  simp [hl, he, hl', he']
theorem rd_esc92 (hc : bs[((n : Nat) : Int).toNat]? = some c) (h1 : (#[c].toList == #[34].toList) = false) (h2 : (#[c].toList == #[92].toList) = true) (hd : bs[((n : Nat) + 1 : Int).toNat]? = some d)
    (h3 : (#[d].toList != #[92].toList) = false) : rd bs n acc = rd bs (n + 2) (acc ++ [d.toNat]) := by
  obtain ⟨hl, he⟩ := at_n hc
  obtain ⟨hl', he'⟩ := at_n1 hd
  have := b_eq h2
  subst this
  have := b_eq' h3
  subst this
  rw [rd]
  simp [hl, he, hl', he']
theorem rd_low (hc : bs[((n : Nat) : Int).toNat]? = some c) (h1 : (#[c].toList == #[34].toList) = false) (h2 : (#[c].toList == #[92].toList) = false) (h3 : ((([c].getD (Int.toNat 0) 0).toNat : Nat) : Int) < 32) : rd bs n acc = (none, n + 1) := by
  obtain ⟨hl, he⟩ := at_n hc
  have e3 := u_ne (k := 34) (by decide) (b_ne h1)
  have e4 := u_ne (k := 92) (by decide) (b_ne h2)
  have h3' : c.toNat < 32 := by have h := h3; simp at h; omega
  rw [rd]
  simp [hl, he, e3, e4, h3']
theorem rd_high (hc : bs[((n : Nat) : Int).toNat]? = some c) (h1 : (#[c].toList == #[34].toList) = false) (h2 : (#[c].toList == #[92].toList) = false) (h3 : 126 < ((([c].getD (Int.toNat 0) 0).toNat : Nat) : Int)) : rd bs n acc = (none, n + 1) := by
  obtain ⟨hl, he⟩ := at_n hc
  have e3 := u_ne (k := 34) (by decide) (b_ne h1)
  have e4 := u_ne (k := 92) (by decide) (b_ne h2)
  have h3' : 126 < c.toNat := by have h := h3; simp at h; omega
  rw [rd]
  simp [hl, he, e3, e4, h3']
theorem rd_good (hc : bs[((n : Nat) : Int).toNat]? = some c) (h1 : (#[c].toList == #[34].toList) = false) (h2 : (#[c].toList == #[92].toList) = false) (h3 : ¬ ((([c].getD (Int.toNat 0) 0).toNat : Nat) : Int) < 32) (h4 : ¬ 126 < ((([c].getD (Int.toNat 0) 0).toNat : Nat) : Int)) :
    rd bs n acc = rd bs (n + 1) (acc ++ [c.toNat]) := by
  obtain ⟨hl, he⟩ := at_n hc
  have e3 := u_ne (k := 34) (by decide) (b_ne h1)
  have e4 := u_ne (k := 92) (by decide) (b_ne h2)
  have h3' : ¬ c.toNat < 32 := by have h := h3; simp at h; omega
  have h4' : ¬ 126 < c.toNat := by have h := h4; simp at h; omega
  rw [rd]
  simp [hl, he, e3, e4, h3', h4']
theorem rd_end (h : ¬ ((n : Int) < (bs.size : Int))) : rd bs n acc = (none, n) := by
  have : ¬ n < bs.size := by omega
  rw [rd]
  simp [this]
theorem no34l (h : (#[d].toList != #[34].toList) = false) (h3 : ((([d].getD (Int.toNat 0) 0).toNat : Nat) : Int) < 32) : False := by
  have := b_eq' h
  subst this
  revert h3
  decide
theorem no34h (h : (#[d].toList != #[34].toList) = false) (h3 : 126 < ((([d].getD (Int.toNat 0) 0).toNat : Nat) : Int)) : False := by
  have := b_eq' h
  subst this
  revert h3
  decide
theorem no92l (h : (#[d].toList != #[92].toList) = false) (h3 : ((([d].getD (Int.toNat 0) 0).toNat : Nat) : Int) < 32) : False := by
  have := b_eq' h
  subst this
  revert h3
  decide
theorem no92h (h : (#[d].toList != #[92].toList) = false) (h3 : 126 < ((([d].getD (Int.toNat 0) 0).toNat : Nat) : Int)) : False := by
  have := b_eq' h
  subst this
  revert h3
  decide
theorem app_chr : (⟨acc.toArray⟩ : PySem.Str) ++ (⟨#[((([c].getD (Int.toNat 0) 0).toNat : Nat) : Int).toNat]⟩ : PySem.Str) = ⟨(acc ++ [c.toNat]).toArray⟩ := by
  apply Str.ext'
  rw [Str.cps_append]
  simp
theorem tx_of {m' : PySem.Str → Option Value} {y : PySem.Str} {S S' : PySem.Str} {t : Tok} (hm : m' y = some (.str S t)) (e : S = S') : m' y = some (.str S' t) := e ▸ hm
end

local macro_rules | `(tactic| walk_at "subscriptTail") => `(tactic| (k_here; (with_reducible show wpAny _ _ (subscriptTail _ (Expr.Slice _ _ none _) (Value.bytes _ _) (Value.ref _)) _ _ _); (with_reducible rename Fr _ _ _ _ => F'); (with_reducible rename News _ _ _ _ => N'); (first
  | ((refine cut_in (s := ⟨_, _, _, _, _⟩) F' N' (by omega) (by omega) (by first | rfl | omega) (by omega) ?_); intro c' h' t' k' hc' F' N'; (try k_sweep))
  | ((refine cut_out (s := ⟨_, _, _, _, _⟩) F' N' (by omega) (by first | rfl | omega) (by omega) ?_); intro h' t' k' F' N'; (try k_sweep))
  | ((refine cut_any (s := ⟨_, _, _, _, _⟩) F' N' (by omega) (by first | rfl | omega) (by omega) ?ka ?kb); (case' ka => (intro q' c' h' t' k' hc' F' N'; (try k_sweep))); (case' kb => (intro q' h' t' k' F' N'; (try k_sweep)))))))
local macro_rules | `(tactic| walk_at "KswEnd") => `(tactic| (refine Hold.intro ?_))
set_option maxRecDepth 100000 in
set_option maxHeartbeats 8000000 in
theorem read_spec (w : World) (mean : ExcName → Option Value) (mg mb : Str → Option Value)
    (dp un : Nat) (gd : Option (List Code)) (cn : Str) (cs : Scope) (a : Addr) (ccd : Value) (cl : List (Str × Addr)) (outer : List Env) (A₀ : Around) (base h₀ : Heap) (L : Addr)
    (m : Str → Option Value) (s : Shared) (Q E : Value → Shared → Prop) (bs : Array UInt8) (at0 : Nat) (t t2 : Tok) (news : List (Addr × Obj))
    (B : Below A₀ base outer h₀) (F : Fr h₀ L s.heap m) (X : (hd.heap_39 w.params).In h₀)
    (N : News h₀ L s.heap news)
    (T : Top hd.view_39 (looseW hd.view_39 [Str.ofString "PostError"]) mean mg mb h₀)
    (hk : cs.kind = .function) (hd' : dp + 1 < recursionLimit) (hu : un + 8 < cLine)
    (hat : at0 ≤ bs.size) (hsz : bs.size ≤ 1000)
    (ret : ∀ r v1 p t3 h' tk', Fr h₀ L h' m → News h₀ L h' ((r, { cls := .type "tuple", data := .seq #[v1, .int p t3] }) :: news) →
       (match (rd bs at0 []).1 with | none => v1 = .none | some l => ∃ t4, v1 = .str ⟨l.toArray⟩ t4) → p = ((rd bs at0 []).2 : Int) → Q (.ref r) { s with heap := h', toks := tk' }) :
    wpAny (model PySem.Challenge.rw_or0031_01.row.prog w) (ktrTop dp un gd cn cs L a ccd cl outer) (call (.ref 168) [.bytes bs t, .int at0 t2]) Q E s := by
  (w_top off; revert X; k_fill; intro X)
  refine wpAny_call ?_
  k_dflt ktr_enter
  iterate 6 walk1
  (rename Fr _ _ _ _ => lF'); (rename News _ _ _ _ => lN')
  refine' ksw_while (fun _ : Nat × List Nat × Tok × Tok => news) (fun c => [(PySem.Str.ofString "at", .int c.1 c.2.2.1), (PySem.Str.ofString "text", .str ⟨c.2.1.toArray⟩ c.2.2.2)]) (fun _ => True) [PySem.Str.ofString "sign"]
    (fun c => c.1 ≤ bs.size ∧ c.2.1.length ≤ c.1 ∧ rd bs c.1 c.2.1 = rd bs at0 []) (fun c => bs.size - c.1) ⟨at0, [], ?tA, ?tT⟩ lF' lN' trivial ?kk ⟨hat, Nat.zero_le _, rfl⟩ ?_
  case kk => exact List.forall_mem_cons.mpr ⟨by with_unfolding_all rfl, List.forall_mem_cons.mpr ⟨by with_unfolding_all rfl, List.forall_mem_nil _⟩⟩
  clear lF' lN'
  rintro ⟨n, acc, tA, tT⟩ u h tk - ⟨hn, hl, hrd⟩ kF kN
  dsimp only at kF kN hn hl hrd
  all_goals (try k_fold)
  k_steps
  all_goals first
    | exact absurd (by assumption) (fun h => no34l (by assumption) h)
    | exact absurd (by assumption) (fun h => no34h (by assumption) h)
    | exact absurd (by assumption) (fun h => no92l (by assumption) h)
    | exact absurd (by assumption) (fun h => no92h (by assumption) h)
    | (have e := hrd.symm.trans (rd_quote (by assumption) (by assumption))
       exact ret _ _ _ _ _ _ (by k_asm) (by k_asm) (by rw [e]; exact ⟨_, rfl⟩) (by rw [e]; rfl))
    | (have e := hrd.symm.trans (rd_escEnd (by assumption) (by assumption) (by assumption) (by assumption))
       exact ret _ _ _ _ _ _ (by k_asm) (by k_asm) (by rw [e]) (by rw [e]; (dsimp only); split <;> omega))
    | (have e := hrd.symm.trans (rd_escBad (by assumption) (by assumption) (by assumption) (by assumption) (by assumption) (by assumption))
       exact ret _ _ _ _ _ _ (by k_asm) (by k_asm) (by rw [e]) (by rw [e]; (dsimp only); split <;> omega))
    | (have e := hrd.symm.trans (rd_low (by assumption) (by assumption) (by assumption) (by assumption))
       exact ret _ _ _ _ _ _ (by k_asm) (by k_asm) (by rw [e]) (by rw [e]; rfl))
    | (have e := hrd.symm.trans (rd_high (by assumption) (by assumption) (by assumption) (by assumption))
       exact ret _ _ _ _ _ _ (by k_asm) (by k_asm) (by rw [e]) (by rw [e]; rfl))
    | (have e := hrd.symm.trans (rd_end (by assumption))
       exact ret _ _ _ _ _ _ (by k_asm) (by k_asm) (by rw [e]) (by rw [e]))
    | (have e := (rd_good (by assumption) (by assumption) (by assumption) (by assumption) (by assumption)).symm.trans hrd
       exact ksw_end (_, _, _, _) (by k_asm) (by k_asm) (fun _ h9 => List.mem_cons_of_mem _ h9) trivial (List.forall_mem_cons.mpr ⟨by with_unfolding_all rfl, List.forall_mem_cons.mpr ⟨tx_of (by with_unfolding_all rfl) app_chr, List.forall_mem_nil _⟩⟩) (by (intro z h2 h3; (simp only [List.forall_mem_cons, List.not_mem_nil, false_implies, implies_true, and_true, ne_eq] at h2); (simp only [List.contains_cons, List.contains_nil, Bool.or_false, Bool.or_eq_false_iff, beq_eq_false_iff_ne, ne_eq] at h3); (simp [kstB, h2, h3]; done))) ⟨by (dsimp only); omega, by (dsimp only); (simp only [List.length_append, List.length_cons, List.length_nil]); omega, e⟩ (by (dsimp only); omega))
    | (have e := (rd_esc34 (by assumption) (by assumption) (by assumption) (by assumption) (by assumption)).symm.trans hrd
       exact ksw_end (_, _, _, _) (by k_asm) (by k_asm) (fun _ h9 => List.mem_cons_of_mem _ h9) trivial (List.forall_mem_cons.mpr ⟨by with_unfolding_all rfl, List.forall_mem_cons.mpr ⟨tx_of (by with_unfolding_all rfl) app_chr, List.forall_mem_nil _⟩⟩) (by (intro z h2 h3; (simp only [List.forall_mem_cons, List.not_mem_nil, false_implies, implies_true, and_true, ne_eq] at h2); (simp only [List.contains_cons, List.contains_nil, Bool.or_false, Bool.or_eq_false_iff, beq_eq_false_iff_ne, ne_eq] at h3); (simp [kstB, h2, h3]; done))) ⟨by (dsimp only); omega, by (dsimp only); (simp only [List.length_append, List.length_cons, List.length_nil]); omega, e⟩ (by (dsimp only); omega))
    | (have e := (rd_esc92 (by assumption) (by assumption) (by assumption) (by assumption) (by assumption)).symm.trans hrd
       exact ksw_end (_, _, _, _) (by k_asm) (by k_asm) (fun _ h9 => List.mem_cons_of_mem _ h9) trivial (List.forall_mem_cons.mpr ⟨by with_unfolding_all rfl, List.forall_mem_cons.mpr ⟨tx_of (by with_unfolding_all rfl) app_chr, List.forall_mem_nil _⟩⟩) (by (intro z h2 h3; (simp only [List.forall_mem_cons, List.not_mem_nil, false_implies, implies_true, and_true, ne_eq] at h2); (simp only [List.contains_cons, List.contains_nil, Bool.or_false, Bool.or_eq_false_iff, beq_eq_false_iff_ne, ne_eq] at h3); (simp [kstB, h2, h3]; done))) ⟨by (dsimp only); omega, by (dsimp only); (simp only [List.length_append, List.length_cons, List.length_nil]); omega, e⟩ (by (dsimp only); omega))
end
section
open PySem.Calls Builtin Builtin.ObjectAttr
set_option maxRecDepth 100000
/-- an exception of an own class, and the list of its arguments -/
abbrev excO (C t : Addr) (d : Option Addr) : Obj := { cls := .ref C, dict := d, data := .fields #[.ref t, .none, .none, .none, .bool false, .none] }
abbrev tupO (vs : List Value) : Obj := { cls := .type "tuple", data := .seq vs.toArray }
section
variable {prog : Program} {w : World} {M : Model} {A : Around} {E : Value → Shared → Prop} {R : Result → Shared → Prop} {K : Frag} {h : Heap} {g : Array GenState} {d : Drawn} {t : Nat} {os : OsState}
variable {nm q : Str} {C N : Addr} {bs bm bmB : List Value} {hdct : Bool} {sn : List Str} {sub : List Value} {ab : Bool} {col : Option Bool} {dd : Option Addr} {k0 k1 k2 k3 k5 : Option Value} {B newId initId : String}

theorem new_checks (F : ExcBaseFacts B newId initId bmB) (hB : bm.contains (.type B) = true) {rest : List Value} {Q : Unit → Shared → Prop} (hC : h.get? C = some (excClassObj nm q C N bs bm hdct sn sub ab col dd k0 k1 k2 k3 k5 newId))
    (hq : Q () ⟨h, g, d, t, os⟩) : wpAny M A (checkBuiltinCall newId ⟨.ref C :: rest, []⟩) Q E ⟨h, g, d, t, os⟩ := by
  have e : (Value.ref C :: bm).contains (.type B) = true := by rw [List.contains_cons, hB, Bool.or_true]
  have e' := F.noStar
  simp only [checkBuiltinCall, F.newKind, F.newSplit, F.newRow]
  repeat (first | refine wpAny_loadPart_at hC ?_ | (refine wpAny_isSubtype_exc hC ?_; rw [e]) | refine wpAny_staticBase_exc hC ?_ | refine wpAny_madeBy_exc hC ?_ | simp only [bne_self_eq_false, Bool.false_eq_true, if_false] | wp_step)
  exact hq

theorem new_runs (F : ExcBaseFacts B newId initId bmB) (hB : bm.contains (.type B) = true) (hA : bm.contains (.type "AttributeError") = false) (hNm : bm.contains (.type "NameError") = false) {rest : List Value}
    (hC : h.get? C = some (excClassObj nm q C N bs bm hdct sn sub ab col dd k0 k1 k2 k3 k5 newId)) (hrest : rest.length ≤ sizeLine)
    (hq : R (.ok (.ret (.ref (h.objs.size + 1)))) ⟨(h.push (tupO rest)).push (excO C h.objs.size none), g, d, t, os⟩) :
    codeAny (model prog w) A (.builtin newId ⟨.ref C :: rest, []⟩) R ⟨h, g, d, t, os⟩ := by
  have e0 := F.ends
  have e1 : (Value.ref C :: bm).contains (.type B) = true := by rw [List.contains_cons, hB, Bool.or_true]
  have e2 : (Value.ref C :: bm).contains (.type "AttributeError") = false := by rw [List.contains_cons, hA]; rfl
  have e3 : (Value.ref C :: bm).contains (.type "NameError") = false := by rw [List.contains_cons, hNm]; rfl
  refine codeAny_builtinAt F.entry ?_
  unfold Builtin.«BaseException.__new__»
  refine PySem.wpAt_bind ?_
  show PySem.wpAt _ _ _ (stack >>= _) _ _ _
  refine PySem.wpAt_bind (PySem.wpAt_stack fun p below => PySem.wpAt_of_wpAny ?_)
  wp_walk
  refine PySem.wpAt_of_wpAny ?_
  rw [F.owner]
  repeat (first | with_reducible refine wpAny_madeHere_exc F.canon hC ?_ | with_reducible refine wpAny_loadPart_at hC ?_ | (with_reducible refine wpAny_isSubtype_exc hC ?_; first | rw [e1] | rw [e2] | rw [e3]) | wp_step)
  show R _ _
  rw [Heap.size_push]
  exact hq

theorem make_exc (F : ExcBaseFacts B newId initId bmB) (hB : bm.contains (.type B) = true) (hA : bm.contains (.type "AttributeError") = false) (hNm : bm.contains (.type "NameError") = false) {rest : List Value} {fI : Addr}
    (X : K.In h) (hC : h.get? C = some (excClassObj nm q C N bs bm hdct sn sub ab col dd k0 k1 k2 k3 k5 newId)) (hi : findIn K (.ref C) "__init__" = some (some (.ref fI))) (hf : typeIn K (.ref fI) = some (.type "function")) (hrest : rest.length ≤ sizeLine)
    (hq : codeAny (model prog w) (A.under (.builtin "type.__call__" ⟨.ref C :: rest, []⟩)) (.call (.ref fI) ⟨.ref (h.objs.size + 1) :: rest, []⟩) (InitBack (h.objs.size + 1) R) ⟨(h.push (tupO rest)).push (excO C h.objs.size none), g, d, t, os⟩) :
    codeAny (model prog w) A (.call (.ref C) ⟨rest, []⟩) R ⟨h, g, d, t, os⟩ := by
  have f1 := tc_lookup
  have f2 := tc_bind (.ref C)
  have hT : (⟨h, g, d, t, os⟩ : Shared).TypeIs (.ref C) "type" := ⟨_, hC, rfl⟩
  refine codeAny_of_tree ?_
  show wpAny _ _ (callAny (.ref C) _) _ _ _
  repeat (any_goals (first | assumption | with_reducible refine wpAny_loadPart_at hC ?_ | wp_step))
  refine ⟨rfl, ?_⟩
  refine codeAny_call_builtin_at (Code.quiet_builtin _ (by decide +kernel)) entry_typeCall (wpAny_check_type_call_sub hC ?_)
  unfold Builtin.«type.__call__»
  repeat (first | with_reducible refine wpAny_loadPart_at hC ?_ | with_reducible refine wpAny_madeBy_exc hC ?_ | wp_step)
  refine codeAny_call_builtin_code (Code.quiet_builtin _ F.quiet) (new_checks F hB hC ?_)
  refine new_runs F hB hA hNm hC hrest ?_
  show wpAny _ _ _ _ _ _
  have keep : ∀ b o, h.get? b = some o → ((h.push (tupO rest)).push (excO C h.objs.size none)).get? b = some o := fun b o e => Heap.get?_push_of_some _ (Heap.get?_push_of_some _ e)
  have hC₁ := keep _ _ hC
  have X₁ := X.keeps keep
  have hget : ((h.push (tupO rest)).push (excO C h.objs.size none)).get? (h.objs.size + 1) = some (excO C h.objs.size none) := by heap_get
  have hcC : (Value.ref C :: bm).contains (.ref C) = true := by simp
  unfold isInstance
  repeat (first | with_reducible refine wpAny_loadPart_at hget ?_ | wp_step)
  show wpAny _ _ (isSubtype (.ref C) (.ref C)) _ _ ⟨(h.push (tupO rest)).push (excO C h.objs.size none), g, d, t, os⟩
  refine wpAny_isSubtype_exc hC₁ ?_
  rw [hcC]
  repeat wp_step
  show wpAny _ _ (typeLookup (.ref C) _) _ _ ⟨(h.push (tupO rest)).push (excO C h.objs.size none), g, d, t, os⟩
  refine (looks_findIn X₁ hi).at ?_
  dsimp only
  refine wpAny_holding (wpAny_bind ((bind_fn X₁ _ hf).at ?_))
  refine wpAny_bind (wpAny_call (codeAny_mono hq fun r s' z => ?_))
  rcases r with e | (v | _ | _ | _) <;> first | exact z | exact z.elim | skip
  obtain ⟨rfl, z⟩ := z
  wp_walk
  exact z
end
end
section
open PySem.Calls Builtin Builtin.ObjectAttr
set_option maxRecDepth 100000
section
variable {prog : Program} {w : World} {M : Model} {A : Around} {E : Value → Shared → Prop} {R : Result → Shared → Prop} {K : Frag} {h : Heap} {g : Array GenState} {d : Drawn} {t : Nat} {os : OsState}
variable {nm q : Str} {C N : Addr} {bs bm bmB : List Value} {hdct : Bool} {sn : List Str} {sub : List Value} {ab : Bool} {col : Option Bool} {dd : Option Addr} {k0 k1 k2 k3 k5 : Option Value} {B newId initId : String}

theorem init_checks (F : ExcBaseFacts B newId initId bmB) (hB : bm.contains (.type B) = true) {e : Addr} {oe : Obj} {rest : List Value} {Q : Unit → Shared → Prop}
    (hC : h.get? C = some (excClassObj nm q C N bs bm hdct sn sub ab col dd k0 k1 k2 k3 k5 newId)) (he : h.get? e = some oe) (hcls : oe.cls = .ref C) (hq : Q () ⟨h, g, d, t, os⟩) :
    wpAny M A (checkBuiltinCall initId ⟨.ref e :: rest, []⟩) Q E ⟨h, g, d, t, os⟩ := by
  have e1 : (Value.ref C :: bm).contains (.type B) = true := by rw [List.contains_cons, hB, Bool.or_true]
  have e2 := F.noStar
  simp only [checkBuiltinCall, F.initKind, F.initSplit, F.initRow]
  repeat (first | (with_reducible refine wpAny_loadPart_at he ?_; rw [hcls]) | with_reducible refine wpAny_loadPart_at hC ?_ | (with_reducible refine wpAny_isSubtype_exc hC ?_; rw [e1]) | wp_step)
  refine wpAny_onRaise ?_
  rw [show ∀ (a b : String) (n : Nat), Bind.check ⟨.positional, "*", B, .self, [⟨"args", .varPos, false⟩]⟩ a b n (List.map (fun x => x.fst) ({ pos := Value.ref e :: rest } : Args).kw) = pure () from
    fun a b n => check_star_args _ _ _ _ _ _]
  exact wpAny_pure hq

theorem init_runs (F : ExcBaseFacts B newId initId bmB) (hB : bm.contains (.type B) = true) {e t0 : Addr} {dc : Option Addr} {rest : List Value}
    (hC : h.get? C = some (excClassObj nm q C N bs bm hdct sn sub ab col dd k0 k1 k2 k3 k5 newId)) (he : h.get? e = some (excO C t0 dc)) (hrest : rest.length ≤ sizeLine)
    (hq : R (.ok (.ret .none)) ⟨(h.push (tupO rest)).update e (Obj.mapFields (·.setIfInBounds 0 (.ref h.objs.size))), g, d, t, os⟩) :
    codeAny (model prog w) A (.call (.builtin initId) ⟨.ref e :: rest, []⟩) R ⟨h, g, d, t, os⟩ := by
  refine codeAny_call_builtin F.init.plain F.initEntry (init_checks F hB hC he rfl ?_)
  have he' : (h.push (tupO rest)).get? e = some (excO C t0 dc) := Heap.get?_push_of_some _ he
  unfold Builtin.«BaseException.__init__»
  wp_walk
  exact hq
end
section
variable {prog : Program} {w : World} {M : Model} {A : Around} {E : Value → Shared → Prop} {R : Result → Shared → Prop} {K : Frag} {s : Shared} {h₀ : Heap} {L e C : Addr} {m : Str → Option Value} {news pre post : List (Addr × Obj)}
variable {nm q : Str} {N₀ : Addr} {bs bm bmB : List Value} {hdct : Bool} {sn : List Str} {sub : List Value} {ab : Bool} {col : Option Bool} {dd : Option Addr} {k0 k1 k2 k3 k5 : Option Value} {B newId initId : String}

theorem init_K (Fb : ExcBaseFacts B newId initId bmB) (hB : bm.contains (.type B) = true) {t0 : Addr} {dc : Option Addr} {rest : List Value} {Q : Value → Shared → Prop}
    (F : Fr h₀ L s.heap m) (X₀ : K.In h₀) (hK : K.lookup C = some (excClassObj nm q C N₀ bs bm hdct sn sub ab col dd k0 k1 k2 k3 k5 newId)) (N : News h₀ L s.heap ((e, excO C t0 dc) :: news)) (hr : ∀ p ∈ news, p.1 ≠ e) (hrest : rest.length ≤ sizeLine)
    (h : ∀ t1 h', Fr h₀ L h' m → News h₀ L h' ((e, excO C t1 dc) :: (t1, tupO rest) :: news) → (∀ p ∈ (t1, tupO rest) :: news, p.1 ≠ e) → (∀ p ∈ news, p.1 < t1) → Q .none { s with heap := h' }) :
    wpAny (model prog w) A (call (.builtin initId) (.ref e :: rest)) Q E s := by
  have hC := (X₀.keeps F.keep) _ _ hK
  have he := (N _ (.head _)).1
  have hlt := Heap.lt_size he
  obtain ⟨hp, g, d, t, os⟩ := s
  refine wpAny_call (init_runs Fb hB hC he hrest ?_)
  have F1 := F.push (tupO rest)
  have N1 := N.push F (tupO rest)
  obtain ⟨F2, N2⟩ := news_upd (pre := [(hp.objs.size, tupO rest)]) (d := e) (o := excO C t0 dc) (o' := excO C hp.objs.size dc) (f := Obj.mapFields (·.setIfInBounds 0 (.ref hp.objs.size))) F1 N1
    (fun p hp' => by rw [List.mem_singleton.mp hp']; exact Nat.ne_of_gt hlt) hr rfl rfl
  refine h hp.objs.size _ F2 (fun p hp' => N2 p ?_) (fun p hp' => ?_) fun p hp' => Heap.lt_size (N p (.tail _ hp')).1
  · rcases List.mem_cons.mp hp' with rfl | hp'
    · exact .tail _ (.head _)
    · rcases List.mem_cons.mp hp' with rfl | hp'
      · exact .head _
      · exact .tail _ (.tail _ hp')
  · rcases List.mem_cons.mp hp' with rfl | hp'
    · exact Nat.ne_of_gt hlt
    · exact hr p hp'

theorem store_in {dx : Addr} {es es' : List DictEntry} {n n' : Nat} {name : Str} {tk : Tok} {v : Value} {Q : PySem.Fin → Shared → Prop} (F : Fr h₀ L s.heap m) (N : News h₀ L s.heap (pre ++ (dx, dictOf es n) :: post)) (h1 : ∀ p ∈ pre, p.1 ≠ dx) (h2 : ∀ p ∈ post, p.1 ≠ dx)
    (hl : (getL name es).isSome = true) (e : (putL name (PyData.keyHash w.params name) (.str name s.toks) v es, putN name es n) = (es', n')) (hz : es'.length ≤ 1000)
    (h : ∀ h', Fr h₀ L h' m → News h₀ L h' (pre ++ (dx, dictOf es' n') :: post) → Q (.done (.ret .none)) { s with heap := h', toks := s.toks + 1 }) :
    wpAny (model prog w) A (storeInDict dx (.str name tk) name v) Q E s := by
  obtain ⟨e1, e2⟩ := Prod.mk.inj e
  have ep : Obj.putName name (PyData.keyHash w.params name) (.str name s.toks) v (dictOf es n) = dictOf es' n' := by rw [putName_dict, e1, e2]
  obtain ⟨U1, U2⟩ := news_upd (f := Obj.putName name (PyData.keyHash w.params name) (.str name s.toks) v) F N h1 h2 ep rfl
  have D := (N (dx, dictOf es n) (by simp)).1
  have D' := (U2 (dx, dictOf es' n') (by simp)).1
  have c : (!es.toArray.any (·.key.isStr name) && es.toArray.any (·.refKey)) = false := by
    rw [← Array.any_toList, ← Array.any_toList]
    unfold getL at hl
    split at hl
    · rename_i en he
      rw [List.any_eq_true.mpr ⟨en, List.mem_of_find?_eq_some he, List.find?_some he⟩]; rfl
    · split at hl
      · cases hl
      · rename_i z; rw [Bool.not_eq_true] at z; rw [z, Bool.and_false]
  refine wpAny_bind (wpAny_pure (wpAny_bind ?_))
  unfold nsSet
  refine wpAny_bind (wpAny_bind (wpAny_askSetting (wpAny_pure (wpAny_bind (wpAny_mkText (wpAny_bind (wpAny_loadPart D ?_)))))))
  dsimp only
  rw [aRefKeyMayBeTheName_at, c]
  refine wpAny_updatePart D ?_
  refine wpAny_bind (wpAny_lookBehind D' (pastItsLine_dict (by rw [List.size_toArray, sizeLine_eq]; omega)) ?_)
  exact wpAny_pure (h _ U1 U2)

theorem osa_run {x : Addr} {ox : Obj} {od : Option Obj} {name : Str} {tk : Tok} {v : Value} {cd : ClassData} (X : K.In s.heap) (I : InstAt s.heap x ox C od) (hc : clsIn K C = some cd) (hpass : ∀ self, refuseLoop self "__setattr__" cd.mro = pure ()) (hob : cd.mro.contains (.type "object") = true)
    (ht : findIn K (.ref C) name = some none)
    (h : wpAny (model prog w) A.in1 (storeInOwnDict (.ref x) (.ref C) (.str name tk) name v false)
      (fun fin s' => match fin with | .done f => R (.ok f) s' | .again c' => c'.quiet = true ∧ codeAny (model prog w) A c' R s') (fun e s' => R (.error e) s') s) :
    codeAny (model prog w) A (.call (.builtin "object.__setattr__") ⟨[.ref x, .str name tk, v], []⟩) R s := by
  have SF := PySem.F.store_object
  have ne : cd.mro.isEmpty = false := by cases q : cd.mro with | nil => rw [q] at hob; cases hob | cons _ _ => rfl
  have sub : Looks (model prog w) s.heap (isInstance (.ref x) (.type "object")) true := I.type.andThen (looks_mroIn X (by unfold mroIn; rw [hc, Option.bind_some, if_neg (by rw [ne]; decide), hob]))
  refine codeAny_call_builtin SF.slot.plain SF.entry (@check_slot (model prog w) _ _ s "object.__setattr__" "object" "__setattr__" (.ref x) [.str name tk, v] [] _ SF.kind SF.split sub (SF.args (.ref x) (.str name tk) v) ?_)
  have hm : Looks (model prog w) s.heap (mroOf (.ref C)) cd.mro := (looks_clsIn X hc).andThen .now
  rw [osa_eq, refuse_eq]
  refine wpAny_bind (wpAny_bind (I.type.here (wpAny_bind (hm.here ?_))))
  rw [hpass]
  exact wpAny_pure (wpAny_bind (I.type.here (wpAny_bind ((looks_findIn X ht).here (wpAny_bind (wpAny_pure h))))))
end
end
section
open PySem.Calls Builtin Builtin.ObjectAttr
set_option maxRecDepth 100000
section
variable {prog : Program} {w : World} {M : Model} {A : Around} {E : Value → Shared → Prop} {R : Result → Shared → Prop} {K : Frag} {s : Shared} {h₀ : Heap} {L e C t0 : Addr} {m : Str → Option Value} {news pre post : List (Addr × Obj)} {name : Str} {v : Value} {cd : ClassData}

/-- the first field: the exception gets its dict -/
theorem set_new {Q : Unit → Shared → Prop} (F : Fr h₀ L s.heap m) (X₀ : K.In h₀) (N : News h₀ L s.heap ((e, excO C t0 none) :: news)) (hr : ∀ p ∈ news, p.1 ≠ e)
    (hc : clsIn K C = some cd) (hd : cd.hasDict = true) (hpass : ∀ self, refuseLoop self "__setattr__" cd.mro = pure ()) (hob : cd.mro.contains (.type "object") = true)
    (hs : findIn K (.ref C) "__setattr__" = some (some (.builtin "object.__setattr__"))) (ht : findIn K (.ref C) name = some none)
    (h : ∀ dx h', Fr h₀ L h' m → News h₀ L h' ((e, excO C t0 (some dx)) :: (dx, dictOf [⟨PyData.keyHash w.params name, .str name (s.toks + 1), v⟩] 1) :: news) → (∀ p ∈ news, p.1 < dx) → e < dx → Q () { s with heap := h', toks := s.toks + 2 }) :
    wpAny (model prog w) A (setAttr (.ref e) name v) Q E s := by
  have X := X₀.keeps F.keep
  have D := N _ (.head _)
  have hlt := Heap.lt_size D.1
  have I : InstAt s.heap e (excO C t0 none) C none := ⟨D.1, rfl, rfl, trivial⟩
  refine set_plain X I hs (osa_run (s := { s with toks := s.toks + 1 }) X I hc hpass hob ht ?_)
  have LC := looks_clsIn (M := model prog w) X hc
  obtain ⟨hp, g, d, t, os⟩ := s
  have F1 := F.push (dictOf [] 0)
  have N1 := N.push F (dictOf [] 0)
  have hne : hp.objs.size ≠ e := Nat.ne_of_gt hlt
  obtain ⟨F2, N2⟩ := news_upd (pre := [(hp.objs.size, dictOf [] 0)]) (d := e) (o := excO C t0 none) (o' := excO C t0 (some hp.objs.size)) (f := fun o => { o with dict := some hp.objs.size }) F1 N1
    (fun p hp' => by rw [List.mem_singleton.mp hp']; exact hne) hr rfl rfl
  refine wpAny_bind (wpAny_pure (wpAny_bind ?_))
  unfold ownDictForStores instanceDict
  refine wpAny_bind (wpAny_loadPart D.1 ?_)
  dsimp only
  refine wpAny_bind (LC.at ?_)
  rw [hd]
  have D1 : (hp.push (dictOf [] 0)).get? e = some (excO C t0 none) := (N1 _ (.tail _ (.head _))).1
  refine wpAny_bind (wpAny_alloc (wpAny_bind (wpAny_update D1 (wpAny_pure ?_))))
  refine store_in (pre := [(e, excO C t0 (some hp.objs.size))]) (post := news) F2 (fun p hp' => N2 p ?_) (fun p hp' => by rw [List.mem_singleton.mp hp']; exact hne.symm) (fun p hp' => Nat.ne_of_lt (Heap.lt_size (N p (.tail _ hp')).1)) (es := []) (n := 0) rfl rfl (Nat.le_of_ble_eq_true rfl) fun h' F3 N3 => ?_
  · rcases List.mem_cons.mp hp' with rfl | hp'
    · exact .tail _ (.head _)
    · rcases List.mem_cons.mp hp' with rfl | hp'
      · exact .head _
      · exact .tail _ (.tail _ hp')
  · exact h hp.objs.size h' F3 N3 (fun p hp' => Heap.lt_size (N p (.tail _ hp')).1) hlt

/-- one field more -/
theorem set_old {dx : Addr} {es es' : List DictEntry} {n n' : Nat} {Q : Unit → Shared → Prop} (F : Fr h₀ L s.heap m) (X₀ : K.In h₀) (N : News h₀ L s.heap ((e, excO C t0 (some dx)) :: (dx, dictOf es n) :: news)) (hr : ∀ p ∈ news, p.1 < dx) (hne : e < dx)
    (hc : clsIn K C = some cd) (hd : cd.hasDict = true) (hpass : ∀ self, refuseLoop self "__setattr__" cd.mro = pure ()) (hob : cd.mro.contains (.type "object") = true)
    (hs : findIn K (.ref C) "__setattr__" = some (some (.builtin "object.__setattr__"))) (ht : findIn K (.ref C) name = some none)
    (hl : (getL name es).isSome = true) (he : (putL name (PyData.keyHash w.params name) (.str name (s.toks + 1)) v es, putN name es n) = (es', n')) (hz : es'.length ≤ 1000)
    (h : ∀ h', Fr h₀ L h' m → News h₀ L h' ((e, excO C t0 (some dx)) :: (dx, dictOf es' n') :: news) → Q () { s with heap := h', toks := s.toks + 2 }) :
    wpAny (model prog w) A (setAttr (.ref e) name v) Q E s := by
  have X := X₀.keeps F.keep
  have D := N _ (.head _)
  have D2 := N _ (.tail _ (.head _))
  have I : InstAt s.heap e (excO C t0 (some dx)) C (some (dictOf es n)) := ⟨D.1, rfl, rfl, D2.1⟩
  refine set_plain X I hs (osa_run (s := { s with toks := s.toks + 1 }) X I hc hpass hob ht ?_)
  have LC := looks_clsIn (M := model prog w) X hc
  obtain ⟨hp, g, d, t, os⟩ := s
  refine wpAny_bind (wpAny_pure (wpAny_bind ?_))
  unfold ownDictForStores instanceDict
  refine wpAny_bind (wpAny_loadPart D.1 ?_)
  dsimp only
  refine wpAny_bind (LC.at ?_)
  rw [hd]
  refine wpAny_pure (a := some dx) ?_
  exact store_in (pre := [(e, excO C t0 (some dx))]) (post := news) F N (fun p hp' => by rw [List.mem_singleton.mp hp']; exact Nat.ne_of_lt hne) (fun p hp' => Nat.ne_of_lt (hr p hp')) hl he hz fun h' F3 N3 => h h' F3 N3

theorem get_exc {ox : Obj} {od : Option Obj} {expr : Bool} {Q : Value → Shared → Prop} (X : K.In s.heap) (I : InstAt s.heap e ox C od) (hga : findIn K (.ref C) "__getattribute__" = some (some (.builtin "BaseException.__getattribute__"))) (hb : findIn K (.ref C) "__getattr__" = some none)
    (hi : subIn K (.ref C) (.type "BaseException") = some true) (hf : findObj K C od name = some (.value v)) (hh : handedIn v = true) (h : Q v { s with toks := s.toks + 1 }) :
    wpAny (model prog w) A (getAttr (.ref e) name expr) Q E s := by
  have S := PySem.F.excAttr_ValueError.ga
  obtain ⟨hp, g, d, t, os⟩ := s
  have L0 := I.type (M := model prog w)
  have L1 := looks_findIn (M := model prog w) X hga
  have L2 := looks_findIn (M := model prog w) X hb
  have L3 := looks_find (M := model prog w) X I hf
  unfold getAttr getAttrBy
  refine wpAny_bind (wpAny_mkText (wpAny_holding (wpAny_bind (L0.at (wpAny_bind (L1.at ?_))))))
  dsimp only
  have hno : (Value.builtin "BaseException.__getattribute__" == Value.builtin "object.__getattribute__") = false := by decide +kernel
  rw [if_neg (by rw [hno, Bool.and_false]; decide)]
  refine wpAny_bind (L2.at (wpAny_bind (wpAny_attempt (wpAny_holding ?_))))
  unfold callGetattribute
  rw [show (expr && onTheHeap (Value.builtin "BaseException.__getattribute__")) = false from Bool.and_false _, if_neg (by decide)]
  unfold boundAndCalled
  rw [S.bind]
  refine wpAny_bind (wpAny_pure ?_)
  show wpAny _ _ (call (.builtin "BaseException.__getattribute__") [.ref e, .str name t]) _ _ _
  refine wpAny_call ?_
  refine codeAny_call_builtin S.plain PySem.F.entry_bexc_ga ?_
  refine @check_slot (model prog w) _ _ ⟨hp, g, d, t + 1, os⟩ "BaseException.__getattribute__" "BaseException" "__getattribute__" (.ref e) [.str name t] [] _ (by decide +kernel) (by decide +kernel) (L0.andThen (looks_subIn X hi)) (PySem.F.args_bexc_ga (.ref e) (.str name t)) ?_
  refine wpAny_bind (wpAny_pure (wpAny_bind (wpAny_pure (wpAny_bind (L0.at (wpAny_bind (L3.at ?_)))))))
  refine wpAny_pure ?_
  show wpAny _ _ (handedOut v) _ _ _
  rw [handedOut_of hh]
  exact wpAny_pure h
end
end
section
open PySem.Calls Builtin Builtin.ObjectAttr
set_option maxRecDepth 100000
section
variable {M : Model} {A : Around} {E : Value → Shared → Prop} {s : Shared} {env : Env} {C : Addr} {oc : Obj}
/-- what a raise of an own exception asks of the value that is made -/
def OwnRaised (C : Addr) (oc : Obj) (E : Value → Shared → Prop) (v : Value) (s₁ : Shared) : Prop :=
  ∃ a t0 dc, v = .ref a ∧ s₁.heap.get? C = some oc ∧ s₁.heap.get? a = some (excO C t0 dc) ∧ E (.ref a) s₁
theorem OwnRaised.intro {a t0 : Addr} {dc : Option Addr} {s₁ : Shared} (h1 : s₁.heap.get? C = some oc) (h2 : s₁.heap.get? a = some (excO C t0 dc)) (h3 : E (.ref a) s₁) : OwnRaised C oc E (.ref a) s₁ := ⟨a, t0, dc, rfl, h1, h2, h3⟩
variable {nm q : Str} {N : Addr} {bs bm : List Value} {hdct : Bool} {sn : List Str} {sub : List Value} {ab : Bool} {col : Option Bool} {dd : Option Addr} {k0 k1 k2 k3 k5 : Option Value} {newId : String}
theorem raise_own {x : Expr} {pos : Pos} {Q : Flow → Shared → Prop} (hh : A.handled = none) (hbase : bm.contains (.type "BaseException") = true)
    (h : wpAny M A (eval x env) (OwnRaised C (excClassObj nm q C N bs bm hdct sn sub ab col dd k0 k1 k2 k3 k5 newId) E) E s) : wpAny M A (exec (.Raise (some x) none pos) env) Q E s := by
  have hcB : (Value.ref C :: bm).contains (.type "BaseException") = true := by rw [List.contains_cons, hbase, Bool.or_true]
  show wpAny M A (do standAt pos; raiseStmt env (some (do let v ← eval x env; standAt pos; pure v)) none) Q E s
  refine wpAny_bind (wpAny_standAt ?_)
  unfold raiseStmt
  dsimp only
  refine wpAny_bind (wpAny_bind (wpAny_mono h (fun v s₁ h₁ => wpAny_bind (wpAny_standAt (wpAny_pure ?_))) fun _ _ x => x))
  obtain ⟨a, t0, dc, rfl, hC, he, hE⟩ := h₁
  obtain ⟨hp, g, d, tk, os⟩ := s₁
  repeat (first | with_reducible refine wpAny_loadPart_at he ?_ | with_reducible refine wpAny_loadPart_at hC ?_ | (with_reducible refine wpAny_isSubtype_exc hC ?_; rw [hcB]) | wp_step)
  exact wpAny_raiseNew_none hh hE
end
end
section
open PySem.Calls
set_option maxRecDepth 100000
abbrev excV (C t : Addr) (dc : Option Addr) (tb : Value) : Obj := { cls := .ref C, dict := dc, data := .fields #[.ref t, tb, .none, .none, .bool false, .none] }
/-- an own exception under way: its object whole but for the traceback -/
def FlyD (B : Heap) (l : List Env) (e C t : Addr) (dc : Option Addr) (fl : Value) (h : Heap) : Prop :=
  B.StaysIn h ∧ B.get? e = none ∧ h.FunFrames B l ∧ ∃ T oT ts, h.get? e = some (excV C t dc (.ref T)) ∧ B.get? T = none ∧ T ≠ e ∧ h.get? T = some oT ∧ oT.data = .fields ts ∧ ts[3]? = some fl
section
variable {M : Model} {A : Around} {E : Value → Shared → Prop} {s : Shared} {B : Heap} {env : Env} {outer l : List Env} {L e C t : Addr} {dc : Option Addr} {tb head fl : Value} {hadNext : Bool} {Q : Unit → Shared → Prop}
theorem put_tb (x : Value) : Obj.mapFields (·.setIfInBounds 1 x) (excV C t dc tb) = excV C t dc x := rfl

theorem entry_D (hfr : A.frames = some (env :: outer)) (hl : s.heap.FunFrames B (env :: outer)) (hf : env.frame = some L) (he : s.heap.get? e = some (excV C t dc tb)) (hkb : B.StaysIn s.heap) (hen : B.get? e = none)
    (h : ∀ h', FlyD B (env :: outer) e C t dc (rawInt L) h' → s.heap.UpToSlots h' → Q () { s with heap := h' }) :
    wpAny M A (do let a ← frameOf env; let pl ← entryPlaceOf L hadNext; let b ← EntryCells.newEntry head a .none (rawInt L) .none pl; setField (.ref e) 1 b) Q E s := by
  have off : e ∉ (env :: outer).filterMap (·.frame) := fun hm => by
    obtain ⟨_, o, ho, hnf⟩ := hl.mem hm
    rw [he] at ho
    cases ho
    exact hnf _ rfl
  refine wpAny_bind (wpAny_frameOf_fun hfr hl hf fun h₁ S => ?_)
  refine wpAny_bind (wpAny_entryPlaceOf fun pl hpl => ?_)
  unfold EntryCells.newEntry newFields
  refine wpAny_bind (wpAny_newObj_type ?_ (hpl.sizeOk5 _ _ _ _ _))
  have he₁ : h₁.get? e = some (excV C t dc tb) := (S.2.1 e off).trans he
  have kb₁ : B.StaysIn h₁ := fun b o q => (S.2.1 b fun hm => by rw [(hl.mem hm).1] at q; cases q).trans (hkb b o q)
  generalize htb : ({ cls := Value.type "traceback", dict := none, data := .fields ([head, .ref L, .none, rawInt L, .none] ++ (if pl.isEmpty then List.replicate 6 Value.none else pl)).toArray } : Obj) = oT
  have hts : ∃ ts, oT.data = .fields ts ∧ ts[3]? = some (rawInt L) := by
    subst htb
    exact ⟨_, rfl, by rcases hpl with rfl | ⟨_, _, _, _, _, _, _, rfl⟩ <;> simp⟩
  have hfree : oT.isFreed = false := by subst htb; rfl
  obtain ⟨ts, hd, h3⟩ := hts
  have hTe : h₁.objs.size ≠ e := Nat.ne_of_gt (Heap.lt_size he₁)
  have he₂ := Heap.get?_push_of_some (h := h₁) oT he₁
  refine wpAny_setField he₂ rfl (by simp) ?_
  have hT : ((h₁.push oT).update e (Obj.mapFields (·.setIfInBounds 1 (Value.ref h₁.objs.size)))).get? h₁.objs.size = some oT :=
    (Heap.get?_update_other (h₁.push oT) (Obj.mapFields (·.setIfInBounds 1 (Value.ref h₁.objs.size))) (Ne.symm hTe)).trans (Heap.get?_push_size h₁ hfree)
  have keep : ∀ b o, b ≠ e → h₁.get? b = some o → ((h₁.push oT).update e (Obj.mapFields (·.setIfInBounds 1 (Value.ref h₁.objs.size)))).get? b = some o := fun b o hbe hb => by
    rw [Heap.get?_update_other _ _ (Ne.symm hbe)]
    exact Heap.get?_push_of_some _ hb
  have noE : ∀ b o, s.heap.get? b = some o → (∀ vs, o.data ≠ .fields vs) → b ≠ e := fun b o hb hnf q => by
    rw [q, he] at hb
    cases hb
    exact hnf _ rfl
  refine h _ ⟨fun b o q => keep b o (fun z => by rw [z, hen] at q; cases q) (kb₁ b o q), hen, hl.of_keeps fun b o hb hnf => ?_, h₁.objs.size, oT, ts, ?_, kb₁.fresh, hTe, hT, hd, h3⟩ fun b o hb hnf => ?_
  · obtain ⟨sl, hs⟩ := S.2.2 b o hb
    exact ⟨_, keep b _ (noE b o hb hnf) hs, rfl⟩
  · exact (Heap.get?_update_self _ he₂ rfl).trans (congrArg some (put_tb _))
  · obtain ⟨sl, hs⟩ := S.2.2 b o hb
    exact ⟨sl, keep b _ (noE b o hb hnf) hs⟩

theorem note_new (hfr : A.frames = some (env :: outer)) (hl : s.heap.FunFrames B (env :: outer)) (hf : env.frame = some L) (he : s.heap.get? e = some (excV C t dc .none)) (hkb : B.StaysIn s.heap) (hen : B.get? e = none)
    (h : ∀ h', FlyD B (env :: outer) e C t dc (rawInt L) h' → s.heap.UpToSlots h' → Q () { s with heap := h' }) : wpAny M A (noteFrame (.ref e) env) Q E s := by
  unfold noteFrame
  simp only [hf]
  refine wpAny_bind (wpAny_field he rfl (x := .none) rfl ?_)
  rw [if_neg (by decide)]
  exact entry_D hfr hl hf he hkb hen h

theorem note_on (hfr : A.frames = some (env :: outer)) (hf : env.frame = some L) (hx : FlyD B (env :: outer) e C t dc .none s.heap)
    (h : ∀ h', FlyD B (env :: outer) e C t dc (rawInt L) h' → s.heap.UpToSlots h' → Q () { s with heap := h' }) : wpAny M A (noteFrame (.ref e) env) Q E s := by
  obtain ⟨hkb, hen, hl, T, oT, ts, he, hnT, hTe, hT, hd, h3⟩ := hx
  unfold noteFrame
  simp only [hf]
  refine wpAny_bind (wpAny_field he rfl (x := .ref T) rfl ?_)
  rw [if_pos (show (Value.ref T != Value.none) = true from by simp)]
  refine wpAny_bind (wpAny_field hT hd h3 ?_)
  rw [if_neg (show ¬ ((Value.none == rawInt L) = true) from by simp [rawInt])]
  refine wpAny_bind (wpAny_setField hT hd (Array.getElem?_eq_some_iff.mp h3).1 ?_)
  have other : ∀ b, b ≠ T → (s.heap.update T (Obj.mapFields (·.setIfInBounds 3 Value.none))).get? b = s.heap.get? b := fun b hb => Heap.get?_update_other _ _ (Ne.symm hb)
  have noT : ∀ b o, s.heap.get? b = some o → (∀ vs, o.data ≠ .fields vs) → b ≠ T := fun b o hb hnf q => by
    rw [q, hT] at hb
    cases hb
    exact hnf ts hd
  exact entry_D hfr (hl.of_keeps fun b o hb hnf => ⟨o, (other b (noT b o hb hnf)).trans hb, rfl⟩) hf ((other e (Ne.symm hTe)).trans he)
    (fun b o q => (other b fun z => by rw [z, hnT] at q; cases q).trans (hkb b o q)) hen
    fun h' x1 x2 => h h' x1 fun b o hb hnf => x2 b o ((other b (noT b o hb hnf)).trans hb) hnf

theorem land_D (hx : FlyD B l e C t dc fl s.heap) (h : ∀ h', FlyD B l e C t dc .none h' → s.heap.UpToSlots h' → Q () { s with heap := h' }) : wpAny M A (setFlight (.ref e) none) Q E s := by
  obtain ⟨hkb, hen, hl, T, oT, ts, he, hnT, hTe, hT, hd, h3⟩ := hx
  have hsz : 3 < ts.size := (Array.getElem?_eq_some_iff.mp h3).1
  have other : ∀ b, b ≠ T → (s.heap.update T (Obj.mapFields (·.setIfInBounds 3 ((none : Option Addr).elim Value.none fun f => rawInt f)))).get? b = s.heap.get? b := fun b hb => Heap.get?_update_other _ _ (Ne.symm hb)
  have noT : ∀ b o, s.heap.get? b = some o → (∀ vs, o.data ≠ .fields vs) → b ≠ T := fun b o hb hnf q => by
    rw [q, hT] at hb
    cases hb
    exact hnf ts hd
  unfold setFlight
  refine wpAny_bind (wpAny_field he rfl (x := .ref T) rfl ?_)
  rw [if_pos (show (Value.ref T != Value.none) = true from by simp)]
  refine wpAny_setField hT hd hsz (h _ ⟨fun b o q => (other b fun z => by rw [z, hnT] at q; cases q).trans (hkb b o q), hen, hl.of_keeps fun b o hb hnf => ⟨o, (other b (noT b o hb hnf)).trans hb, rfl⟩, T, _, _, (other e (Ne.symm hTe)).trans he, hnT, hTe,
    Heap.get?_update_self _ hT (Obj.isFreed_of_fields (Obj.data_mapFields hd _)), Obj.data_mapFields hd _, by simp [hsz]⟩ fun b o hb hnf => ⟨o.slots, (other b (noT b o hb hnf)).trans hb⟩)
end
end
section
open PySem.Calls
set_option maxRecDepth 100000
def RaisedD (base : Heap) (l : List Env) (e C t : Addr) (dc : Option Addr) (news : List (Addr × Obj)) (h : Heap) : Prop :=
  ∃ B, base.StaysIn B ∧ (∀ q ∈ news, B.get? q.1 = some q.2 ∧ base.get? q.1 = none) ∧ FlyD B l e C t dc .none h
section
variable {M : Model} {A : Around} {E : Value → Shared → Prop} {s' : Shared} {base g : Heap} {outer : List Env} {L a e C t : Addr} {dc : Option Addr} {m : Str → Option Value} {name : Str} {scope : Scope} {cd : Value} {Q : Unit → Shared → Prop} {news : List (Addr × Obj)}
theorem leave_D (K : Below A base outer g) (F : Fr g L s'.heap m) (N : News g L s'.heap ((e, excO C t dc) :: news)) (hr : ∀ p ∈ news, p.1 ≠ e)
    (hQ : ∀ h', RaisedD base outer e C t dc news h' → g.UpToSlots h' → Q () { s' with heap := h' }) (hk : scope.kind = .function := by rfl) :
    wpAny M (A.deeper (envOf name scope L a cd)) (leaving (envOf name scope L a cd) (.ref e)) Q E s' := by
  have K' := K.push (name := name) (a := a) (cd := cd) F hk
  obtain ⟨he, heL, heg⟩ := N _ (.head _)
  have heb : base.get? e = none := fresh_of_stays K.stays heg
  generalize has : (e :: (envOf name scope L a cd :: outer).filterMap (·.frame)) = as
  have hin : ∀ env ∈ (envOf name scope L a cd :: outer), ∀ b, env.frame = some b → b ∈ as := fun env hv b hb => by
    rw [← has]
    exact .tail _ (List.mem_filterMap.mpr ⟨env, hv, hb⟩)
  have hem : e ∈ as := by rw [← has]; exact .head _
  have off : ∀ b, b ∈ as → b = e ∨ b ∈ (envOf name scope L a cd :: outer).filterMap (·.frame) := fun b hb => by
    rw [← has] at hb
    exact List.mem_cons.mp hb
  have st : base.StaysIn (hideAll s'.heap as) := fun b o q => hideAll_get _ (K'.stays b o q) fun hm => by
    rcases off b hm with z | z
    · rw [z, heb] at q; cases q
    · rw [(K'.frames.mem z).1] at q; cases q
  have hl : ∀ q ∈ news, (hideAll s'.heap as).get? q.1 = some q.2 ∧ base.get? q.1 = none := fun q hq => by
    have Nq := N q (.tail _ hq)
    refine ⟨hideAll_get _ Nq.1 fun hm => ?_, fresh_of_stays K.stays Nq.2.2⟩
    rcases off _ hm with z | z
    · exact hr q hq z
    · obtain ⟨env, hv, hf⟩ := List.mem_filterMap.mp z
      rcases List.mem_cons.mp hv with rfl | hv
      · exact Nq.2.1 (Option.some.inj hf).symm
      · obtain ⟨o, ho, _⟩ := (K.frames.mem (List.mem_filterMap.mpr ⟨env, hv, hf⟩)).2
        rw [Nq.2.2] at ho; cases ho
  unfold leaving
  refine wpAny_bind (note_new (B := hideAll s'.heap as) K'.stack (funFrames_hide K'.frames hin) rfl he (fun b o q => of_hideAll _ q) (hideAll_none _ hem) fun h₁ x₁ u₁ => ?_)
  refine land_D x₁ fun h₂ x₂ u₂ => ?_
  obtain ⟨y1, y2, ⟨_, _, y3⟩, y4⟩ := x₂
  exact hQ h₂ ⟨_, st, hl, y1, y2, y3, y4⟩ ((Heap.UpToSlots.of_keeps F.keep).trans (u₁.trans u₂))
end
section
variable {prog : Program} {w : World} {A : Around} {E : Value → Shared → Prop} {s' : Shared} {h₀ h : Heap} {env : Env} {outer : List Env} {L e C t dx : Addr} {m : Str → Option Value} {n x : Str} {b₀ : Stmt} {suite : List Stmt} {pos np : Pos} {rest : List ExceptHandler} {Q : Flow → Shared → Prop} {news : List (Addr × Obj)} {KF : Frag}
variable {nm q : Str} {N₀ : Addr} {bs bm : List Value} {hdct : Bool} {sn : List Str} {sub : List Value} {ab : Bool} {col : Option Bool} {dd : Option Addr} {k0 k1 k2 k3 k5 : Option Value} {newId : String}
theorem catch_D (hfr : A.frames = some (env :: outer)) (hf : env.frame = some L) (F : Fr h₀ L h m) (hsm : h.UpToSlots s'.heap) (R : RaisedD h₀ (env :: outer) e C t (some dx) news s'.heap)
    (X : KF.In h₀) (hK : KF.lookup C = some (excClassObj nm q C N₀ bs bm hdct sn sub ab col dd k0 k1 k2 k3 k5 newId)) (hbase : bm.contains (.type "BaseException") = true)
    (hev : ∀ h' (P E' : Value → Shared → Prop), Fr h₀ L h' m → P (.ref C) { s' with heap := h' } → wpAny (model prog w) (A.mark (some (.ref e))) (eval (.Name x np) env) P E' { s' with heap := h' })
    (k : ∀ h' tb (E₁ E₂ : Value → Shared → Prop), Fr h₀ L h' m → News h₀ L h' ((e, excV C t (some dx) tb) :: news) →
      wpAny (model prog w) (A.mark (some (.ref e))) (storeName env n (.ref e)) (fun _ s₂ => wpAny (model prog w) (A.mark (some (.ref e))) (execs (b₀ :: suite) env)
        (fun f s₄ => wpAny (model prog w) A (do bindName env n .none; unbindBehindTheSuite env n pos) (fun _ s₅ => Q f s₅) E s₄) E₂ s₂) E₁ { s' with heap := h' }) :
    wpAny (model prog w) A (noteFrame (.ref e) env) (fun _ s₂ => wpAny (model prog w) A (setFlight (.ref e) none) (fun _ s₃ =>
        wpAny (model prog w) A (handleBy (.ref e) env (.ExceptHandler (some (.Name x np)) (some n) (b₀ :: suite) pos :: rest)) Q E s₃) E s₂) E s' := by
  obtain ⟨B, hB, hl, hx⟩ := R
  have hL : B.get? L = none := by
    obtain ⟨_, ⟨L', _, hf', hn', _⟩, _⟩ := hx.2.2.1
    rw [hf] at hf'
    cases hf'
    exact hn'
  refine note_on hfr hf hx fun h₄ x₄ u₄ => ?_
  refine land_D x₄ fun h₅ x₅ u₅ => ?_
  have F₅ : Fr h₀ L h₅ m := F.of_stays (fun b o q => x₅.1 b o (hB b o q)) (hsm.trans (u₄.trans u₅))
  have hC := (X.keeps F₅.keep) _ _ hK
  obtain ⟨T₅, _, _, he₅, _⟩ := x₅.2.2.2
  refine wpAny_handleBy_cons (codeAny_handlers_test (hev h₅ _ _ F₅ ?_)) (by intro q; cases q)
  refine wpAny_excMatches_sub_self hC he₅ rfl hbase (codeAny_handlers_suite_as ?_)
  refine land_D x₅ fun h₆ x₆ u₆ => ?_
  have F₆ : Fr h₀ L h₆ m := F.of_stays (fun b o q => x₆.1 b o (hB b o q)) (hsm.trans (u₄.trans (u₅.trans u₆)))
  obtain ⟨T₆, _, _, he₆, _⟩ := x₆.2.2.2
  have N₆ : News h₀ L h₆ news := fun q hq => ⟨x₆.1 _ _ (hl q hq).1, (fun z => by have := (hl q hq).1; rw [z, hL] at this; cases this), (hl q hq).2⟩
  exact k h₆ (.ref T₆) _ _ F₆ (News.more F₆ N₆ he₆ (fun es n q => by cases q) (fresh_of_stays hB x₆.2.1))
end
end
section
open PySem.Calls
set_option maxRecDepth 100000
abbrev wfBm : List Value := [.ref 46, .type "Exception", .type "BaseException", .type "object"]
abbrev wfObj : Obj := excClassObj (PySem.Str.ofString "WireFault") (PySem.Str.ofString "WireFault") 59 58 [.ref 46] wfBm true [] [] false none none (some (.ref 50)) none (some (.str (PySem.Str.ofString "WireFault") 236)) (some (.str (PySem.Str.ofString "WireFault") 244)) (some (.bool true)) "Exception.__new__"
abbrev wfCd : ClassData := { name := PySem.Str.ofString "WireFault", bases := [.ref 46], mro := .ref 59 :: wfBm, ns := 58, qualname := PySem.Str.ofString "WireFault" }
section
variable (P : Params)
theorem wf_at : (hd.heap_39 P).lookup 59 = some wfObj := rfl
theorem wf_cls : clsIn (hd.heap_39 P) 59 = some wfCd := rfl
theorem wf_init : findIn (hd.heap_39 P) (.ref 59) "__init__" = some (some (.ref 36)) := by with_unfolding_all rfl
theorem wf_initT : typeIn (hd.heap_39 P) (.ref 36) = some (.type "function") := by with_unfolding_all rfl
theorem wf_sa : findIn (hd.heap_39 P) (.ref 59) "__setattr__" = some (some (.builtin "object.__setattr__")) := by with_unfolding_all rfl
theorem wf_ga : findIn (hd.heap_39 P) (.ref 59) "__getattribute__" = some (some (.builtin "BaseException.__getattribute__")) := by with_unfolding_all rfl
theorem wf_hook : findIn (hd.heap_39 P) (.ref 59) "__getattr__" = some none := by with_unfolding_all rfl
theorem wf_atN : findIn (hd.heap_39 P) (.ref 59) (PySem.Str.ofString "at") = some none := by with_unfolding_all rfl
theorem wf_whatN : findIn (hd.heap_39 P) (.ref 59) (PySem.Str.ofString "what") = some none := by with_unfolding_all rfl
theorem wf_sub : subIn (hd.heap_39 P) (.ref 59) (.type "BaseException") = some true := by with_unfolding_all rfl
theorem wf_pass (self : Value) : refuseLoop self "__setattr__" wfCd.mro = pure () := by
  show refuseLoop self "__setattr__" (.ref 59 :: .ref 46 :: _) = pure ()
  rw [refuseLoop_ref, refuseLoop_ref]
  exact PySem.F.store_Exception.passes self
theorem wf_ob : wfCd.mro.contains (.type "object") = true := by decide +kernel
end
section
variable {prog : Program} {w : World} {A : Around} {E : Value → Shared → Prop} {s : Shared} {h₀ : Heap} {L : Addr} {m : Str → Option Value} {news : List (Addr × Obj)} {Q : Value → Shared → Prop} {a b : Value}
theorem call_wf (F : Fr h₀ L s.heap m) (X₀ : (hd.heap_39 w.params).In h₀) (N : News h₀ L s.heap news)
    (h : ∀ e t0 h', Fr h₀ L h' m → News h₀ L h' ((e, excO 59 t0 none) :: (t0, tupO [a, b]) :: news) → (∀ p ∈ (t0, tupO [a, b]) :: news, p.1 ≠ e) →
      codeAny (model prog w) (A.under (.builtin "type.__call__" ⟨[.ref 59, a, b], []⟩)) (.call (.ref 36) ⟨[.ref e, a, b], []⟩) (InitBack e fun r s' => match r with | .ok (.ret v) => Q v s' | .ok _ => False | .error e => E e s') { s with heap := h' }) :
    wpAny (model prog w) A (call (.ref 59) [a, b]) Q E s := by
  have X := X₀.keeps F.keep
  obtain ⟨hp, g, d, t, os⟩ := s
  have N1 := (N.push F (tupO [a, b])).push (F.push _) (excO 59 hp.objs.size none)
  rw [Heap.size_push] at N1
  refine wpAny_call (make_exc PySem.F.excBase_Exception (by decide +kernel) (by decide +kernel) (by decide +kernel) X (X _ _ (wf_at w.params)) (wf_init w.params) (wf_initT w.params) (by rw [sizeLine_eq]; exact Nat.le_of_ble_eq_true rfl) ?_)
  refine h _ hp.objs.size _ ((F.push _).push _) N1 fun p hp' => ?_
  rcases List.mem_cons.mp hp' with rfl | hp'
  · exact Nat.ne_of_lt (Nat.lt_succ_self _)
  · exact Nat.ne_of_lt (Nat.lt_succ_of_lt (Heap.lt_size (N p hp').1))
end
end
section
open PySem.Calls
abbrev one (c : Nat) : PySem.Str := ⟨#[c]⟩
section
variable {prog : Program} {w : World} {A : Around} {E : Value → Shared → Prop} {s : Shared} {value slice : PySem.Expr} {b : Array UInt8} {t ti : Tok} {Q : Value → Shared → Prop} {i : Int}
theorem item_at (h0 : 0 ≤ i) (h1 : i < (b.size : Int)) (hz : b.size ≤ 1000) (h : ∀ c t' k, b[i.toNat]? = some c → Q (.int (c.toNat : Int) t') { s with toks := k })
    (hs : subscripted slice false (.bytes b t) (.int i ti) = operate [.bytes b t, .int i ti] (getItem (.bytes b t) (.int i ti)) := by with_unfolding_all rfl)
    (ht : ∀ r, letTemporaryGo value (.bytes b t) r = pure () := by intro _; with_unfolding_all rfl) : wpAny (model prog w) A (subscriptTail value slice (.bytes b t) (.int i ti)) Q E s := by
  have hlt : i.toNat < b.size := by omega
  have hc : b[i.toNat]? = some b[i.toNat] := by simp [hlt]
  refine KBw.item_K (ks := KBw.bInts b) rfl (by rw [KBw.ints_length]; omega) h0 (by rw [KBw.ints_length]; exact h1) (fun t' k _ _ => ?_) hs ht
  have e : (KBw.bInts b).getD i.toNat 0 = ((b[i.toNat]).toNat : Int) := by
    rw [List.getD_eq_getElem?_getD, KBw.ints_get hc]
    rfl
  rw [e]
  exact h _ _ _ hc
end
theorem glue_codes : ∀ (l : List Nat) (x : Nat), PySem.Str.join (PySem.Str.ofString "") ((x :: l).map one) = ⟨(x :: l).toArray⟩ := by
  intro l
  induction l with
  | nil => intro x; rfl
  | cons y r ih =>
    intro x
    show one x ++ PySem.Str.ofString "" ++ PySem.Str.join (PySem.Str.ofString "") ((y :: r).map one) = _
    rw [ih]
    apply Str.ext'
    rw [Str.cps_append, Str.cps_append]
    have z : (PySem.Str.ofString "").cps = #[] := by decide
    rw [z]
    simp
theorem join_codes (l : List Nat) : PySem.Txt.join (PySem.Str.ofString "") (l.map one) = ⟨l.toArray⟩ := by
  show Builtin.Str.glued (PySem.Str.ofString "") (l.map one) = _
  rw [StrLaws.glued_eq_join]
  cases l with
  | nil => rfl
  | cons x r => exact glue_codes r x
theorem one_len (c : Nat) : (one c).length = 1 := rfl
section
variable {prog : Program} {w : World} {A : Around} {E : Value → Shared → Prop} {s : Shared} {t : Tok} {Q : Value → Shared → Prop} {D : Addr} {arr : Array Value} {acc : List Nat}
theorem join_arr (hl : s.heap.IsList D arr) (hc : StrsAre arr.toList (acc.map one)) (hn : acc.length ≤ 1000) (h : ∀ t' k, Q (.str ⟨acc.toArray⟩ t') { s with toks := k }) :
    wpAny (model prog w) A (call (.builtin "str.join") [.str (PySem.Str.ofString "") t, .ref D]) Q E s := by
  have hl' : s.heap.IsList D arr.toList.toArray := by rw [Array.toArray_toList]; exact hl
  have hc' : CarriedAll arr.toList (acc.map fun a => PyData.str (one a)) := by
    have := hc.carried
    rwa [List.map_map] at this
  refine KT.join_1 (g := one) hl' hc' (fun a _ => one_len a) (by omega) fun t' k _ => ?_
  rw [join_codes]
  exact h t' k
theorem push_codes {c : Nat} {t : Tok} (hc : StrsAre arr.toList (acc.map one)) : StrsAre (arr.push (.str (one c) t)).toList ((acc ++ [c]).map one) := by
  rw [Array.toList_push, List.map_append]
  exact kct_snoc hc
end
section
variable {bs : Array UInt8} {n : Nat} {acc : List Nat} {c d : UInt8}
theorem qt_n (hc : bs[((n : Nat) + 0 : Int).toNat]? = some c) : ∃ h : n < bs.size, bs[n] = c := by
  have e : ((n : Nat) + 0 : Int).toNat = n := by omega
  rw [e] at hc
  exact Array.getElem?_eq_some_iff.mp hc
theorem qt_n1 (hc : bs[((n : Nat) + 1 + 0 : Int).toNat]? = some d) : ∃ h : n + 1 < bs.size, bs[n + 1] = d := by
  have e : ((n : Nat) + 1 + 0 : Int).toNat = n + 1 := by omega
  rw [e] at hc
  exact Array.getElem?_eq_some_iff.mp hc
theorem q_quote (hc : bs[((n : Nat) + 0 : Int).toNat]? = some c) (h : (c.toNat : Int) = 34) : rd bs n acc = (some acc, n + 1) := by
  obtain ⟨hl, he⟩ := qt_n hc
  have h' : c.toNat = 34 := by omega
  rw [rd]
  simp [hl, he, h']
theorem q_end (h : ¬ ((n : Int) + 0 < (bs.size : Int))) : rd bs n acc = (none, n) := by
  have : ¬ n < bs.size := by omega
  rw [rd]
  simp [this]
theorem q_low (hc : bs[((n : Nat) + 0 : Int).toNat]? = some c) (h1 : (c.toNat : Int) ≠ 34) (h2 : (c.toNat : Int) ≠ 92) (h3 : ¬ 32 ≤ (c.toNat : Int)) : rd bs n acc = (none, n + 1) := by
  obtain ⟨hl, he⟩ := qt_n hc
  have e1 : c.toNat ≠ 34 := by omega
  have e2 : c.toNat ≠ 92 := by omega
  have e3 : c.toNat < 32 := by omega
  rw [rd]
  simp [hl, he, e1, e2, e3]
theorem q_high (hc : bs[((n : Nat) + 0 : Int).toNat]? = some c) (h1 : (c.toNat : Int) ≠ 34) (h2 : (c.toNat : Int) ≠ 92) (h3 : ¬ (c.toNat : Int) < 127) : rd bs n acc = (none, n + 1) := by
  obtain ⟨hl, he⟩ := qt_n hc
  have e1 : c.toNat ≠ 34 := by omega
  have e2 : c.toNat ≠ 92 := by omega
  have e3 : 126 < c.toNat := by omega
  rw [rd]
  simp [hl, he, e1, e2, e3]
theorem q_good (hc : bs[((n : Nat) + 0 : Int).toNat]? = some c) (h1 : (c.toNat : Int) ≠ 34) (h2 : (c.toNat : Int) ≠ 92) (h3 : 32 ≤ (c.toNat : Int)) (h4 : (c.toNat : Int) < 127) : rd bs n acc = rd bs (n + 1) (acc ++ [c.toNat]) := by
  obtain ⟨hl, he⟩ := qt_n hc
  have e1 : c.toNat ≠ 34 := by omega
  have e2 : c.toNat ≠ 92 := by omega
  have e3 : ¬ c.toNat < 32 := by omega
  have e4 : ¬ 126 < c.toNat := by omega
  rw [rd]
  simp [hl, he, e1, e2, e3, e4]
theorem q_escEnd (hc : bs[((n : Nat) + 0 : Int).toNat]? = some c) (h1 : (c.toNat : Int) ≠ 34) (h2 : (c.toNat : Int) = 92) (h3 : ¬ ((n : Int) + 1 + 0 < (bs.size : Int))) : rd bs n acc = (none, n + 1) := by
  obtain ⟨hl, he⟩ := qt_n hc
  have e2 : c.toNat = 92 := by omega
  have e3 : ¬ n + 1 < bs.size := by omega
  rw [rd]
  simp [hl, he, e2, e3]
theorem q_escBad (hc : bs[((n : Nat) + 0 : Int).toNat]? = some c) (h1 : (c.toNat : Int) ≠ 34) (h2 : (c.toNat : Int) = 92) (hd : bs[((n : Nat) + 1 + 0 : Int).toNat]? = some d) (h3 : (([34, 92] : List Int).any fun x => x == (d.toNat : Int)) = false) : rd bs n acc = (none, n + 2) := by
  obtain ⟨hl, he⟩ := qt_n hc
  obtain ⟨hl', he'⟩ := qt_n1 hd
  have e2 : c.toNat = 92 := by omega
  have e3 : ¬ (34 : Int) = d.toNat ∧ ¬ (92 : Int) = d.toNat := by simpa using h3
  have e4 : d.toNat ≠ 34 := by omega
  have e5 : d.toNat ≠ 92 := by omega
  rw [rd]
  simp [hl, he, e2, hl', he', e4, e5]
theorem q_esc (hc : bs[((n : Nat) + 0 : Int).toNat]? = some c) (h1 : (c.toNat : Int) ≠ 34) (h2 : (c.toNat : Int) = 92) (hd : bs[((n : Nat) + 1 + 0 : Int).toNat]? = some d) (h3 : (([34, 92] : List Int).any fun x => x == (d.toNat : Int)) = true) : rd bs n acc = rd bs (n + 2) (acc ++ [d.toNat]) := by
  obtain ⟨hl, he⟩ := qt_n hc
  obtain ⟨hl', he'⟩ := qt_n1 hd
  have e2 : c.toNat = 92 := by omega
  have e3 : (34 : Int) = d.toNat ∨ (92 : Int) = d.toNat := by simpa using h3
  have e4 : d.toNat = 34 ∨ d.toNat = 92 := by omega
  rw [rd]
  simp [hl, he, e2, hl', he', e4]
theorem q_no1 (h3 : (([34, 92] : List Int).any fun x => x == (d.toNat : Int)) = true) (h : ¬ 32 ≤ (d.toNat : Int)) : False := by
  have e3 : (34 : Int) = d.toNat ∨ (92 : Int) = d.toNat := by simpa using h3
  omega
theorem q_no2 (h3 : (([34, 92] : List Int).any fun x => x == (d.toNat : Int)) = true) (h : ¬ (d.toNat : Int) < 127) : False := by
  have e3 : (34 : Int) = d.toNat ∨ (92 : Int) = d.toNat := by simpa using h3
  omega
end
end
section
local macro_rules | `(tactic| k_room) => `(tactic| ktr_room)
local macro_rules | `(tactic| k_enter) => `(tactic| (refine' code_def ?k1 ?k2 ?k3 ?k4 ?k5 ?kA ?kF ?kK ?k6 ?k7 ?k8 ?k9 ?kB ?_ ?c2 ?c3 ?c4 ?c5; (case kA => exact rfl); (case kF => exact rfl); (case kK => first | assumption | exact rfl); (case k1 => k_asm); (case k2 => k_asm); (case k3 => k_asm); (case k4 => k_asm); (case k5 => k_asm); (case k6 => k_is); (case k7 => k_is); (case k8 => k_room); (case k9 => first | exact BindsTo.of_eq rfl | exact binds_K (by k_in) rfl (by k_is) rfl rfl rfl); (case c5 => decide); (case kB => exact locs rfl); (case c2 => exact rfl); (case c3 => exact rfl); (case c4 => exact rfl); k_whole; intro g' L' h' FG' F' N' B' X' T'; (try dsimp only); (try k_lift B'); (try k_fold)))
local macro_rules | `(tactic| walk_at "getMethod type:Exception") => `(tactic| (k_here; refine' method_type ?F ?X ?m (by decide +kernel) ?e ?h ?_; (case F => k_asm); (case X => k_asm); (case m => kernel_rfl); (case e => k_dflt k_is); (case h => k_handed)))
local macro_rules | `(tactic| walk_at "call builtin:Exception.__init__") => `(tactic| (k_here; k_dflt (refine' init_K PySem.F.excBase_Exception ?kb ?k1 ?k2 (wf_at _) ?k3 ?k4 ?k5 ?_; (case kb => decide +kernel); (case k1 => k_asm); (case k2 => k_asm); (case k3 => k_asm); (case k4 => assumption); (case k5 => rw [sizeLine_eq]; exact Nat.le_of_ble_eq_true rfl); k_whole; intro t' h' F' N' l1 l2; (try k_sweep))))
local macro_rules | `(tactic| walk_at "setAttr ref") => `(tactic| (k_here; k_dflt (first
  | (refine' set_new ?k1 ?k2 ?k3 ?k4 (wf_cls _) rfl wf_pass wf_ob (wf_sa _) ?k5 ?_; (case k1 => k_asm); (case k2 => k_asm); (case k3 => k_asm); (case k4 => assumption); (case k5 => with_reducible exact wf_whatN _); k_whole; intro d' h' F' N' l1 l2; (try k_sweep))
  | (refine' set_old ?k1 ?k2 ?k3 ?k4 ?k6 (wf_cls _) rfl wf_pass wf_ob (wf_sa _) ?k5 ?k7 ?k8 ?k9 ?_; (case k1 => k_asm); (case k2 => k_asm); (case k3 => k_asm); (case k4 => assumption); (case k6 => assumption); (case k5 => with_reducible exact wf_atN _); (case k7 => k_get); (case k8 => k_put); (case k9 => exact Nat.le_of_ble_eq_true rfl); k_whole; intro h' F' N'; (try k_sweep)))))
abbrev excD (w : World) (what : Value) (ka kb : Tok) (p : Int) (tp : Tok) : Obj :=
  dictOf [{ hash := PyData.keyHash w.params (PySem.Str.ofString "what"), key := Value.str (PySem.Str.ofString "what") ka, val := what },
    { hash := PyData.keyHash w.params (PySem.Str.ofString "at"), key := Value.str (PySem.Str.ofString "at") kb, val := Value.int p tp }] 2
theorem drop2 {h₀ h : Heap} {L : Addr} {x y z u : Addr × Obj} {news : List (Addr × Obj)} (N : News h₀ L h (x :: y :: z :: u :: news)) : News h₀ L h (x :: y :: news) := fun p hp => N p (by
  rcases List.mem_cons.mp hp with rfl | hp
  · exact .head _
  · rcases List.mem_cons.mp hp with rfl | hp
    · exact .tail _ (.head _)
    · exact .tail _ (.tail _ (.tail _ (.tail _ hp))))
theorem apart2 {e d : Addr} {y : Obj} {z u : Addr × Obj} {news : List (Addr × Obj)} (l : e < d) (l1 : ∀ p ∈ z :: u :: news, p.1 ≠ e) : ∀ q ∈ (d, y) :: news, q.1 ≠ e := fun q hq => by
  rcases List.mem_cons.mp hq with rfl | hq
  · exact Nat.ne_of_gt l
  · exact l1 q (.tail _ (.tail _ hq))
set_option maxRecDepth 100000 in
set_option maxHeartbeats 8000000 in
theorem wf_make (w : World) (mean : ExcName → Option Value) (mg mb : Str → Option Value)
    (dp un : Nat) (gd : Option (List Code)) (cn : Str) (cs : Scope) (a : Addr) (ccd : Value) (cl : List (Str × Addr)) (outer : List Env) (A₀ : Around) (base h₀ : Heap) (L : Addr)
    (m : Str → Option Value) (s : Shared) (Q E : Value → Shared → Prop) (what : Str) (tw tp : Tok) (p : Int) (news : List (Addr × Obj))
    (B : Below A₀ base outer h₀) (F : Fr h₀ L s.heap m) (X : (hd.heap_39 w.params).In h₀)
    (N : News h₀ L s.heap news)
    (T : Top hd.view_39 (looseW hd.view_39 [Str.ofString "PostError"]) mean mg mb h₀)
    (hk : cs.kind = .function) (hd' : dp + 4 < recursionLimit) (hu : un + 40 < cLine)
    (ret : ∀ e t1 d' ka kb h' tk', Fr h₀ L h' m → News h₀ L h' ((e, excO 59 t1 (some d')) :: (d', excD w (.str what tw) ka kb p tp) :: news) → (∀ q ∈ (d', excD w (.str what tw) ka kb p tp) :: news, q.1 ≠ e) → Q (.ref e) { s with heap := h', toks := tk' }) :
    wpAny (model PySem.Challenge.rw_or0031_01.row.prog w) (ktrTop dp un gd cn cs L a ccd cl outer) (call (.ref 59) [.str what tw, .int p tp]) Q E s := by
  (w_top off; revert X; k_fill; intro X)
  k_dflt (refine' call_wf ?k1 ?k2 ?k3 ?_; (case k1 => k_asm); (case k2 => k_asm); (case k3 => k_asm); k_whole; intro e' t' h' F' N' l1)
  k_dflt k_enter
  k_steps
  exact ret _ _ _ _ _ _ _ (by k_asm) (drop2 (by k_asm)) (apart2 (by assumption) (by assumption))
end
section
local macro_rules | `(tactic| k_all) => `(tactic| assumption)
local macro_rules | `(tactic| k_room) => `(tactic| ktr_room)
local macro_rules | `(tactic| k_enter) => `(tactic| (refine' code_def ?k1 ?k2 ?k3 ?k4 ?k5 ?kA ?kF ?kK ?k6 ?k7 ?k8 ?k9 ?kB ?_ ?c2 ?c3 ?c4 ?c5; (case kA => exact rfl); (case kF => exact rfl); (case kK => first | assumption | exact rfl); (case k1 => k_asm); (case k2 => k_asm); (case k3 => k_asm); (case k4 => k_asm); (case k5 => k_asm); (case k6 => k_is); (case k7 => k_is); (case k8 => k_room); (case k9 => first | exact BindsTo.of_eq rfl | exact binds_K (by k_in) rfl (by k_is) rfl rfl rfl); (case c5 => decide); (case kB => exact locs rfl); (case c2 => exact rfl); (case c3 => exact rfl); (case c4 => exact rfl); k_whole; intro g' L' h' FG' F' N' B' X' T'; (try dsimp only); (try k_lift B'); (try k_fold)))
local macro_rules | `(tactic| walk_at "subscriptTail") => `(tactic| (k_here; (with_reducible show wpAny _ _ (subscriptTail _ _ (Value.bytes _ _) (Value.int _ _)) _ _ _); (refine item_at (by omega) (by omega) (by omega) ?_); intro c' t' k' hc'))
local macro_rules | `(tactic| walk_at "exec Raise some none") => `(tactic| (k_here; k_dflt (refine raise_own (C := 59) (nm := PySem.Str.ofString "WireFault") (q := PySem.Str.ofString "WireFault") (N := 58) (bs := [.ref 46]) (bm := wfBm) (hdct := true) (sn := []) (sub := []) (ab := false) (col := none) (dd := none) (k0 := some (.ref 50)) (k1 := none) (k2 := some (.str (PySem.Str.ofString "WireFault") 236)) (k3 := some (.str (PySem.Str.ofString "WireFault") 244)) (k5 := some (.bool true)) (newId := "Exception.__new__") (by rfl) (by decide +kernel) ?_)))
local macro_rules | `(tactic| walk_at "call ref") => `(tactic| (k_here; (with_reducible show wpAny _ _ (call (Value.ref 59) [_, _]) _ _ _); k_dflt (refine' wf_make _ _ _ _ _ _ _ _ _ _ _ _ _ _ _ _ _ _ _ _ _ _ _ _ _ _ ?k1 ?k2 ?k3 ?k4 ?k5 ?k6 ?k7 ?k8 ?_; (case k1 => k_asm); (case k2 => k_asm); (case k3 => k_asm); (case k4 => k_asm); (case k5 => k_asm); (case k6 => first | assumption | exact rfl); (case k7 => ktr_room); (case k8 => ktr_units); intro e' t' d' ka' kb' h' tk' F' N' l1; (try dsimp only))))
local macro_rules | `(tactic| walk_at "OwnRaised") => `(tactic| (k_here; k_dflt (refine' OwnRaised.intro ?k1 ?k2 ?_; (case k1 => exact (Frag.In.keeps (by k_asm) (Fr.keep (by k_asm))) _ _ (wf_at _)); (case k2 => exact (News.get (by k_asm) (List.Mem.head _))))))
local macro_rules | `(tactic| walk_at "call builtin:str.join") => `(tactic| (k_here; k_dflt (refine' join_arr ?k1 ?k2 ?k3 ?_; (case k1 => exact News.isList (by k_asm) (by k_mem)); (case k2 => assumption); (case k3 => omega); k_whole); intro t' k'))
local macro_rules | `(tactic| walk_at "KswEnd") => `(tactic| (refine Hold.intro ?_))
local macro_rules | `(tactic| walk_at "leaving ref") => `(tactic| (k_here; k_dflt (refine' leave_D ?k1 ?k2 ?k3 ?k4 ?_; (case k1 => assumption); (case k2 => k_asm); (case k3 => k_asm); (case k4 => assumption); k_whole; intro h' R' U'; (try dsimp only))))
abbrev curD (w : World) (bs : Array UInt8) (t k1 k2 k3 : Tok) (i : Int) (ti t3 : Tok) : Obj :=
  dictOf [{ hash := PyData.keyHash w.params (PySem.Str.ofString "data"), key := Value.str (PySem.Str.ofString "data") k1, val := Value.bytes bs t },
    { hash := PyData.keyHash w.params (PySem.Str.ofString "at"), key := Value.str (PySem.Str.ofString "at") k2, val := Value.int i ti },
    { hash := PyData.keyHash w.params (PySem.Str.ofString "end"), key := Value.str (PySem.Str.ofString "end") k3, val := Value.int (bs.size : Int) t3 }] 3
theorem drop1 {h₀ h : Heap} {L : Addr} {x : Addr × Obj} {news : List (Addr × Obj)} (N : News h₀ L h (x :: news)) : News h₀ L h news := fun p hp => N p (.tail _ hp)
theorem drop2b {h₀ h : Heap} {L : Addr} {x y : Addr × Obj} {news : List (Addr × Obj)} (N : News h₀ L h (x :: y :: news)) : News h₀ L h news := fun p hp => N p (.tail _ (.tail _ hp))
set_option maxRecDepth 100000 in
set_option maxHeartbeats 8000000 in
theorem take_spec (w : World) (mean : ExcName → Option Value) (mg mb : Str → Option Value)
    (dp un : Nat) (gd : Option (List Code)) (cn : Str) (cs : Scope) (a : Addr) (ccd : Value) (cl : List (Str × Addr)) (outer : List Env) (A₀ : Around) (base h₀ : Heap) (L : Addr)
    (m : Str → Option Value) (s : Shared) (Q E : Value → Shared → Prop) (bs : Array UInt8) (at0 : Nat) (t k1 k2 k3 ti t3 : Tok) (cu dx : Addr) (rest : List (Addr × Obj))
    (B : Below A₀ base outer h₀) (F : Fr h₀ L s.heap m) (X : (hd.heap_39 w.params).In h₀)
    (N : News h₀ L s.heap ((cu, instObj 150 dx) :: (dx, curD w bs t k1 k2 k3 at0 ti t3) :: rest))
    (T : Top hd.view_39 (looseW hd.view_39 [Str.ofString "PostError"]) mean mg mb h₀)
    (hk : cs.kind = .function) (hd' : dp + 9 < recursionLimit) (hu : un + 80 < cLine)
    (hne : @Ne Nat cu dx) (hrest : ∀ p ∈ rest, p.1 ≠ dx)
    (hat : at0 ≤ bs.size) (hsz : bs.size ≤ 1000)
    (ret : ∀ l p t' ti' h' tk', Fr h₀ L h' m → News h₀ L h' ((cu, instObj 150 dx) :: (dx, curD w bs t k1 k2 k3 p ti' t3) :: rest) → (rd bs at0 []).1 = some l → p = ((rd bs at0 []).2 : Int) → Q (.str ⟨l.toArray⟩ t') { s with heap := h', toks := tk' })
    (out : ∀ e tt dx' ka kb what p tp nw g h' tk', RaisedD base (envX cn cs L a ccd cl :: outer) e 59 tt (some dx') ((dx', excD w what ka kb p tp) :: nw) h' → Fr h₀ L g m → g.UpToSlots h' → (rd bs at0 []).1 = none → p = ((rd bs at0 []).2 : Int) → E (.ref e) { s with heap := h', toks := tk' }) :
    wpAny (model PySem.Challenge.rw_or0031_01.row.prog w) (ktrTop dp un gd cn cs L a ccd cl outer) (call (.ref 68) [.ref cu]) Q E s := by
  (w_top off; revert X; k_fill; intro X)
  refine wpAny_call ?_
  k_dflt k_enter
  iterate 14 (first | (with_reducible show wpAny _ _ (exec (Stmt.While _ _ _ _) _) _ _ _) | walk1 | (k_unfold; (try dsimp only)))
  (rename Fr _ _ _ _ => lF'); (rename News _ _ _ _ => lN'); (rename_i sg _ lS _)
  obtain ⟨lS1, lS2, lS3⟩ := lS
  have hsg : ∀ p ∈ rest, p.1 ≠ sg := fun p hp => Nat.ne_of_lt (kst_ltOf lS3 p hp)
  refine' ksw_while (fun c : Nat × List Nat × Array Value × Tok × Nat => (sg, W.listOf c.2.2.1 c.2.2.2.2) :: (cu, instObj 150 dx) :: (dx, curD w bs t k1 k2 k3 (c.1 : Int) c.2.2.2.1 t3) :: rest) (fun _ => []) (fun _ => True) [PySem.Str.ofString "code"]
    (fun c => c.1 ≤ bs.size ∧ c.2.1.length ≤ c.1 ∧ StrsAre c.2.2.1.toList (c.2.1.map one) ∧ rd bs c.1 c.2.1 = rd bs at0 []) (fun c => bs.size - c.1) ⟨at0, [], #[], ti, 0⟩ lF' lN' trivial (List.forall_mem_nil _) ⟨hat, Nat.zero_le _, .nil, rfl⟩ ?_
  clear lF' lN'
  rintro ⟨n, acc, arr, tA, nA⟩ u h tk - ⟨hn, hl, hstr, hrd⟩ kF kN
  dsimp only at kF kN hn hl hstr hrd
  all_goals (try k_fold)
  k_steps
  all_goals first
    | exact absurd (by assumption) (fun h => q_no1 (by assumption) h)
    | exact absurd (by assumption) (fun h => q_no2 (by assumption) h)
    | (have e := hrd.symm.trans (q_quote (by assumption) (by assumption))
       exact ret _ _ _ _ _ _ (by k_asm) (drop1 (by k_asm)) (by rw [e]) (by first | (rw [e]; done) | (rw [e]; (dsimp only); omega)))
    | (have e := hrd.symm.trans (q_end (by assumption))
       exact out _ _ _ _ _ _ _ _ _ _ _ _ (by assumption) (by k_asm) (by assumption) (by rw [e]) (by first | (rw [e]; done) | (rw [e]; (dsimp only); omega)))
    | (have e := hrd.symm.trans (q_escEnd (by assumption) (by assumption) (by assumption) (by assumption))
       exact out _ _ _ _ _ _ _ _ _ _ _ _ (by assumption) (by k_asm) (by assumption) (by rw [e]) (by first | (rw [e]; done) | (rw [e]; (dsimp only); omega)))
    | (have e := hrd.symm.trans (q_escBad (by assumption) (by assumption) (by assumption) (by assumption) (by assumption))
       exact out _ _ _ _ _ _ _ _ _ _ _ _ (by assumption) (by k_asm) (by assumption) (by rw [e]) (by first | (rw [e]; done) | (rw [e]; (dsimp only); omega)))
    | (have e := hrd.symm.trans (q_low (by assumption) (by assumption) (by assumption) (by assumption))
       exact out _ _ _ _ _ _ _ _ _ _ _ _ (by assumption) (by k_asm) (by assumption) (by rw [e]) (by first | (rw [e]; done) | (rw [e]; (dsimp only); omega)))
    | (have e := hrd.symm.trans (q_high (by assumption) (by assumption) (by assumption) (by assumption))
       exact out _ _ _ _ _ _ _ _ _ _ _ _ (by assumption) (by k_asm) (by assumption) (by rw [e]) (by first | (rw [e]; done) | (rw [e]; (dsimp only); omega)))
    | (have e := (q_good (by assumption) (by assumption) (by assumption) (by assumption) (by assumption)).symm.trans hrd
       exact ksw_end (n + 1, _, _, _, _) (by k_asm) (by k_asm) (fun _ h9 => h9) trivial (List.forall_mem_nil _) (by (intro z h2 h3; (simp only [List.contains_cons, List.contains_nil, Bool.or_false, beq_eq_false_iff_ne, ne_eq] at h3); (simp [kstB, h3]; done))) ⟨by (dsimp only); omega, by (dsimp only); (simp only [List.length_append, List.length_cons, List.length_nil]); omega, push_codes (by assumption), e⟩ (by (dsimp only); omega))
    | (have e := (q_esc (by assumption) (by assumption) (by assumption) (by assumption) (by assumption)).symm.trans hrd
       exact ksw_end (n + 2, _, _, _, _) (by k_asm) (drop1 (by k_asm)) (fun _ h9 => h9) trivial (List.forall_mem_nil _) (by (intro z h2 h3; (simp only [List.contains_cons, List.contains_nil, Bool.or_false, beq_eq_false_iff_ne, ne_eq] at h3); (simp [kstB, h3]; done))) ⟨by (dsimp only); omega, by (dsimp only); (simp only [List.length_append, List.length_cons, List.length_nil]); omega, push_codes (by assumption), e⟩ (by (dsimp only); omega))
end
section
local macro_rules | `(tactic| k_all) => `(tactic| assumption)
local macro_rules | `(tactic| k_room) => `(tactic| ktr_room)
local macro_rules | `(tactic| k_enter) => `(tactic| (refine' code_def ?k1 ?k2 ?k3 ?k4 ?k5 ?kA ?kF ?kK ?k6 ?k7 ?k8 ?k9 ?kB ?_ ?c2 ?c3 ?c4 ?c5; (case kA => exact rfl); (case kF => exact rfl); (case kK => first | assumption | exact rfl); (case k1 => k_asm); (case k2 => k_asm); (case k3 => k_asm); (case k4 => k_asm); (case k5 => k_asm); (case k6 => k_is); (case k7 => k_is); (case k8 => k_room); (case k9 => first | exact BindsTo.of_eq rfl | exact binds_K (by k_in) rfl (by k_is) rfl rfl rfl); (case c5 => decide); (case kB => exact locs rfl); (case c2 => exact rfl); (case c3 => exact rfl); (case c4 => exact rfl); k_whole; intro g' L' h' FG' F' N' B' X' T'; (try dsimp only); (try k_lift B'); (try k_fold)))
set_option maxRecDepth 100000 in
set_option maxHeartbeats 8000000 in
theorem cur_make (w : World) (mean : ExcName → Option Value) (mg mb : Str → Option Value)
    (dp un : Nat) (gd : Option (List Code)) (cn : Str) (cs : Scope) (a : Addr) (ccd : Value) (cl : List (Str × Addr)) (outer : List Env) (A₀ : Around) (base h₀ : Heap) (L : Addr)
    (m : Str → Option Value) (s : Shared) (Q E : Value → Shared → Prop) (bs : Array UInt8) (at0 : Nat) (t t2 : Tok) (news : List (Addr × Obj))
    (B : Below A₀ base outer h₀) (F : Fr h₀ L s.heap m) (X : (hd.heap_39 w.params).In h₀)
    (N : News h₀ L s.heap news)
    (T : Top hd.view_39 (looseW hd.view_39 [Str.ofString "PostError"]) mean mg mb h₀)
    (hk : cs.kind = .function) (hd' : dp + 3 < recursionLimit) (hu : un + 20 < cLine)
    (hsz : bs.size ≤ 1000)
    (ret : ∀ x dx k1 k2 k3 t3 h' tk', Fr h₀ L h' m → News h₀ L h' ((x, instObj 150 dx) :: (dx, curD w bs t k1 k2 k3 (at0 : Int) t2 t3) :: news) → @Ne Nat x dx → (∀ p ∈ news, p.1 ≠ dx) → Q (.ref x) { s with heap := h', toks := tk' }) :
    wpAny (model PySem.Challenge.rw_or0031_01.row.prog w) (ktrTop dp un gd cn cs L a ccd cl outer) (call (.ref 150) [.bytes bs t, .int at0 t2]) Q E s := by
  (w_top off; revert X; k_fill; intro X)
  k_dflt (refine' call_cls ?k1 ?k2 ?k3 ?k4 ?k5 ?k6 ?_; (case k1 => k_asm); (case k2 => k_asm); (case k3 => k_asm); (case k4 => k_is); (case k5 => k_is); (case k6 => k_is); k_whole; intro x' d' h' F' N' l1 l2)
  have hne : @Ne Nat x' d' := Nat.ne_of_gt l2
  have hap : ∀ p ∈ news, p.1 ≠ d' := fun p hp => Nat.ne_of_lt (l1 p hp)
  clear l1
  k_dflt k_enter
  k_steps
  exact ret _ _ _ _ _ _ _ _ (by k_asm) (by k_asm) hne hap
section
variable {prog : Program} {w : World} {A : Around} {h₀ : Heap} {L : Addr} {m : Str → Option Value} {env : Env} {elt : Expr} {x : Str} {scope : Scope} {cl : List (Str × Addr)} {s : Shared} {Fin : List Value → List (Addr × Obj) → Prop}
/-- a turn of the comprehension: an octet, and the tape one place on -/
def TapeEl (led : Int → Tok → List (Addr × Obj)) (k : Int) (y : Value) (news' : List (Addr × Obj)) : Prop := ∃ v t' tv, y = .int v tv ∧ 0 ≤ v ∧ v < 256 ∧ news' = led (k + 1) t'
theorem tape_rest {n : Nat} (led : Int → Tok → List (Addr × Obj)) (a0 : Int) (t0 : Tok)
    (turn : ∀ (i : Nat) k t tk2 I oI C oC D m₂ ys h tk (E' : Value → Shared → Prop), i < n → k = a0 + (i : Int) → LCg.NsObj oC m₂ → m₂ x = some (.int (i : Int) tk2) → Fr h₀ L h m → News h₀ L h ((I, oI) :: (C, oC) :: (D, LCg.lst ys) :: led k t) → LCg.Off3 I C D (led k t) → ((@Ne Nat I C) ∧ (@Ne Nat I D) ∧ (@Ne Nat C D)) →
      wpAny (model prog w) A (eval elt (compEnvC scope cl C env)) (LCg.CompEnd h₀ L m { s with heap := h, toks := tk } I oI C oC D (LCg.lst ys) (fun _ => True) (TapeEl led k)) E' { s with heap := h, toks := tk })
    (fin : ∀ ys ks t', IntsAre ys ks → (∀ k ∈ ks, 0 ≤ k ∧ k < 256) → ks.length = n → Fin ys (led (a0 + (n : Int)) t')) :
    LCg.CompRest prog w A h₀ L m env elt x scope cl s (fun _ => True) (fun i v => ∃ t, v = .int (0 + (i : Int)) t) Fin n 0 [] (led a0 t0) := by
  have key : ∀ (j i : Nat) (ys : List Value) (ks : List Int) (t : Tok), i + j = n → IntsAre ys ks → (∀ k ∈ ks, 0 ≤ k ∧ k < 256) → ks.length = i →
      LCg.CompRest prog w A h₀ L m env elt x scope cl s (fun _ => True) (fun i v => ∃ t, v = .int (0 + (i : Int)) t) Fin j i ys (led (a0 + (i : Int)) t) := by
    intro j
    induction j with
    | zero =>
      intro i ys ks t hi hy hk hl
      have e : i = n := by omega
      subst e
      exact LCg.CompRest.zero (fin ys ks t hy hk hl)
    | succ j ih =>
      intro i ys ks t hi hy hk hl
      refine LCg.CompRest.succ ?_
      intro v I oI C oC D m₂ h tk E' hv hC hx F N off ne
      obtain ⟨t2, hv'⟩ := hv
      rw [hv', show (0 : Int) + (i : Int) = (i : Int) from Int.zero_add _] at hx
      refine wpAny_mono (turn i (a0 + (i : Int)) t t2 I oI C oC D m₂ ys h tk E' (by omega) rfl hC hx F N off ne) (fun y s₂ hq => ?_) fun _ _ e => e
      obtain ⟨h', tk', nw, e, F', N', off', hS, v', t', tv, hy', h0, h1, hn⟩ := hq
      refine ⟨h', tk', nw, e, F', N', off', hS, ?_⟩
      rw [hy', hn, show a0 + (i : Int) + 1 = a0 + ((i + 1 : Nat) : Int) by omega]
      refine ih (i + 1) _ (ks ++ [v']) t' (by omega) (IntsAre.append hy (.cons v' tv .nil)) (fun k hk' => ?_) (by rw [List.length_append, List.length_singleton, hl])
      rcases List.mem_append.mp hk' with q | q
      · exact hk k q
      · rw [List.mem_singleton.mp q]
        exact ⟨h0, h1⟩
  have := key n 0 [] [] t0 (by omega) .nil (fun k hk => nomatch hk) rfl
  simpa using this
end
end
section
open PySem.Calls PyProof.V PySem.Spec
section
variable {prog : Program} {w : World} {A : Around} {E : Value → Shared → Prop} {s : Shared} {value slice : PySem.Expr} {t u tv : Tok} {h₀ : Heap} {L D : Addr} {m : PySem.Str → Option Value} {news : List (Addr × Obj)} {Q : Value → Shared → Prop}
theorem picked_xy : ∀ v : Nat, v < 3 → (KBy.picked #[120, 121] none (some (v : Int))).size = v
  | 0, _ => by decide +kernel
  | 1, _ => by decide +kernel
  | 2, _ => by decide +kernel
  | n + 3, h => absurd h (by omega)
theorem cut_xy {v : Nat} (hF : Fr h₀ L s.heap m) (hN : News h₀ L s.heap news) (hv : (v : Int) < 3)
    (h : ∀ b h' t' k, b.size = v → Fr h₀ L h' m → News h₀ L h' news → Q (.bytes b t') { s with heap := h', toks := k })
    (hs : subscripted slice false (.bytes #[120, 121] t) (.ref s.heap.objs.size) = operate [.ref s.heap.objs.size, .bytes #[120, 121] t] (getItem (.bytes #[120, 121] t) (.ref s.heap.objs.size)) := by with_unfolding_all rfl)
    (ht : ∀ r, letTemporaryGo value (.bytes #[120, 121] t) r = pure () := by intro _; with_unfolding_all rfl) :
    wpAny (model prog w) A (subscriptTail value slice (.bytes #[120, 121] t) (.ref s.heap.objs.size)) Q E { s with heap := s.heap.push { cls := .type "slice", data := .fields #[.none, .int (v : Int) tv, .none] } } :=
  KBc.slice_K hF hN rfl .none (.int _ _) (by decide) (fun h' t' k F' N' _ => h _ _ _ _ (picked_xy v (by omega)) F' N') hs ht
theorem add_any {b c : Array UInt8} {k l : Nat} (hb : b.size = k) (hc : c.size = l) (hk : k ≤ 1000) (hl : l ≤ 1000) (h : ∀ d t' tk, d.size = k + l → Q (.bytes d t') { s with toks := tk }) :
    wpAny (model prog w) A (binaryOp .Add (.bytes b t) (.bytes c u)) Q E s :=
  KBy.add_bytes (by omega) fun t' tk => h _ t' tk (by rw [Array.size_append, hb, hc])
theorem make_any {vs : List Value} {ns : List Int} {n : Nat} (F : Fr h₀ L s.heap m) (N : News h₀ L s.heap news) (hh : A.handled = none) (hl : s.heap.IsList D vs.toArray) (hi : IntsAre vs ns) (hr : ∀ k ∈ ns, 0 ≤ k ∧ k < 256) (hn : ns.length = n) (hz : n ≤ 1000)
    (h : ∀ b h' t' k, b.size = n → Fr h₀ L h' m → News h₀ L h' news → Q (.bytes b t') { s with heap := h', toks := k }) : wpAny (model prog w) A (call (.type "bytes") [.ref D]) Q E s :=
  KBa.make_K F N hh hl hi hr (by omega) fun h' t' k F' N' _ => h _ _ _ _ (by simp [byteArr, hn]) F' N'
end
/-- the cells: a list of one to sixty-three ints -/
def CellsQ (h₀ : Heap) (L : Addr) (m : Str → Option Value) (news : List (Addr × Obj)) (s : Shared) (v : Value) (s' : Shared) : Prop :=
  ∃ ce vs ns n2 h' tk, v = .ref ce ∧ s' = { s with heap := h', toks := tk } ∧ Fr h₀ L h' m ∧ News h₀ L h' ((ce, listOf vs.toArray n2) :: news) ∧ IntsAre vs ns ∧ 0 < ns.length ∧ ns.length ≤ 63 ∧ (∀ p ∈ news, p.1 < ce)
theorem cells_cut {M : Model} {A : Around} {E : Value → Shared → Prop} {s : Shared} {h₀ : Heap} {L : Addr} {m : Str → Option Value} {news : List (Addr × Obj)} {x : Sem Value} {Q : Value → Shared → Prop} (F : Fr h₀ L s.heap m) (N : News h₀ L s.heap news)
    (h1 : wpAny M A x (CellsQ h₀ L m news s) E s)
    (h2 : ∀ ce vs ns n2 h' tk, Fr h₀ L h' m → News h₀ L h' ((ce, listOf vs.toArray n2) :: news) → IntsAre vs ns → 0 < ns.length → ns.length ≤ 63 → (∀ p ∈ news, p.1 < ce) → Q (.ref ce) { s with heap := h', toks := tk }) : wpAny M A x Q E s :=
  wpAny_mono h1 (fun v s' hq => by
    obtain ⟨ce, vs, ns, n2, h', tk, rfl, rfl, a, b, c, d, e, f⟩ := hq
    exact h2 ce vs ns n2 h' tk a b c d e f) fun _ _ y => y
theorem CellsQ.intro2 {h₀ : Heap} {L : Addr} {m : Str → Option Value} {s : Shared} {ce dy dx : Addr} {oy ox : Obj} {vs : List Value} {ns : List Int} {n2 : Nat} {h' : Heap} {tk : Nat} (F : Fr h₀ L h' m) (N : News h₀ L h' [(ce, listOf vs.toArray n2), (dy, oy), (dx, ox)]) (hi : IntsAre vs ns) (h0 : 0 < ns.length) (h1 : ns.length ≤ 63) (l : dy < ce ∧ dx < ce) :
    CellsQ h₀ L m [(dx, ox)] s (.ref ce) { s with heap := h', toks := tk } :=
  ⟨ce, vs, ns, n2, h', tk, rfl, rfl, F, fun p hp => N p ((List.mem_cons.mp hp).elim (fun e => e ▸ List.Mem.head _) (fun e => .tail _ (.tail _ e))), hi, h0, h1, List.forall_mem_singleton.mpr l.2⟩
theorem CellsQ.intro3 {h₀ : Heap} {L : Addr} {m : Str → Option Value} {s : Shared} {ce dz dy dx : Addr} {oz oy ox : Obj} {k : Int} {t : Tok} {n2 : Nat} {h' : Heap} {tk : Nat} (F : Fr h₀ L h' m) (N : News h₀ L h' [(ce, listOf #[.int k t] n2), (dz, oz), (dy, oy), (dx, ox)]) (l : dz < ce ∧ dy < ce ∧ dx < ce) :
    CellsQ h₀ L m [(dx, ox)] s (.ref ce) { s with heap := h', toks := tk } :=
  ⟨ce, [.int k t], [k], n2, h', tk, rfl, rfl, F, fun p hp => N p ((List.mem_cons.mp hp).elim (fun e => e ▸ List.Mem.head _) (fun e => .tail _ (.tail _ (.tail _ e)))), .cons k t .nil, Nat.le.refl, Nat.le_of_ble_eq_true rfl, List.forall_mem_singleton.mpr l.2.2⟩
/-- the last octet: a quote or nothing; what lies behind is forgotten -/
def LastQ (h₀ : Heap) (L : Addr) (m : Str → Option Value) (s : Shared) (v : Value) (s' : Shared) : Prop :=
  ∃ b t h' tk, v = .bytes b t ∧ s' = { s with heap := h', toks := tk } ∧ Fr h₀ L h' m ∧ b.size ≤ 1
theorem LastQ.intro {h₀ : Heap} {L : Addr} {m : Str → Option Value} {s : Shared} {b : Array UInt8} {t : Tok} {h' : Heap} {tk : Nat} (F : Fr h₀ L h' m) (hb : b.size ≤ 1) : LastQ h₀ L m s (.bytes b t) { s with heap := h', toks := tk } := ⟨b, t, h', tk, rfl, rfl, F, hb⟩
theorem last_cut {M : Model} {A : Around} {E : Value → Shared → Prop} {s : Shared} {h₀ : Heap} {L : Addr} {m : Str → Option Value} {x : Sem Value} {Q : Value → Shared → Prop} (_F : Fr h₀ L s.heap m)
    (h1 : wpAny M A x (LastQ h₀ L m s) E s)
    (h2 : ∀ b t h' tk, Fr h₀ L h' m → News h₀ L h' [] → b.size ≤ 1 → Q (.bytes b t) { s with heap := h', toks := tk }) : wpAny M A x Q E s :=
  wpAny_mono h1 (fun v s' hq => by
    obtain ⟨b, t, h', tk, rfl, rfl, c, e⟩ := hq
    exact h2 b t h' tk c (fun p hp => nomatch hp) e) fun _ _ y => y
section
variable {prog : Program} {w : World} {A : Around} {E : Value → Shared → Prop} {s : Shared} {h₀ : Heap} {L e dx t : Addr} {m : Str → Option Value} {news : List (Addr × Obj)} {Q : Value → Shared → Prop} {what tb : Value} {ka kb tp : Tok} {p : Int} {expr : Bool}
theorem get_at59 (F : Fr h₀ L s.heap m) (X₀ : (hd.heap_39 w.params).In h₀) (N : News h₀ L s.heap news) (h1 : (e, excV 59 t (some dx) tb) ∈ news) (h2 : (dx, excD w what ka kb p tp) ∈ news) (h : Q (.int p tp) { s with toks := s.toks + 1 }) :
    wpAny (model prog w) A (getAttr (.ref e) (PySem.Str.ofString "at") expr) Q E s :=
  get_exc (X₀.keeps F.keep) (C := 59) (ox := excV 59 t (some dx) tb) (od := some (excD w what ka kb p tp)) ⟨(N _ h1).1, rfl, rfl, (N _ h2).1⟩ (wf_ga _) (wf_hook _) (wf_sub _)
    (findObj_own (by with_unfolding_all rfl) (wf_atN _) (by with_unfolding_all rfl) (by with_unfolding_all rfl)) rfl h
end
end
section
local macro_rules | `(tactic| walk_at "eval BoolOp") => `(tactic| (k_here; (with_reducible show wpAny _ _ (eval (Expr.BoolOp BoolOp.Or _ _) _) _ _ _); (fail_if_success (with_reducible show wpAny _ _ _ (CellsQ _ _ _ _ _) _ _)); k_dflt (refine' cells_cut ?F ?N ?h1 ?h2; (case F => k_asm); (case N => k_asm); (case' h2 => (intro ce' vs' ns' n2' h' tk' F' N' hI' hp' hq' l1'; (try k_sweep))))))
local macro_rules | `(tactic| walk_at "CellsQ") => `(tactic| refine Hold.intro ?_)
local macro_rules | `(tactic| walk_at "CompSrc") => `(tactic| refine Hold.intro ?_)
local macro_rules | `(tactic| walk_at "CompEnd") => `(tactic| refine Hold.intro ?_)
local macro_rules | `(tactic| walk_at "call ref") => `(tactic| (k_here; (with_reducible show wpAny _ _ (call (Value.ref 161) [_, _]) _ _ _); k_dflt (refine' draw_call _ _ _ _ _ _ _ _ _ _ _ _ _ _ _ _ _ _ _ _ _ _ _ _ _ _ _ _ _ _ _ _ _ ?B ?F ?X ?N ?U ?mem ?T ?hk ?hd ?hu ?hi ?hne ?l1 ?l2 ?a1 ?a2 ?m1 ?m2 ?_; (case B => k_asm); (case F => k_asm); (case X => k_asm); (case N => k_asm); (case U => (intro t1; k_upd)); (case mem => k_mem); (case T => k_asm); (case hk => first | assumption | exact rfl); (case hd => first | ktr_room | k_room); (case hu => ktr_units); (case hi => assumption); (case hne => (refine neN ?_; omega)); (case l1 => assumption); (case l2 => assumption); (case a1 => omega); (case a2 => omega); (case m1 => omega); (case m2 => omega)); intro v' t1' t3' h' tk' hv' F' N'; (try k_sweep); (try dsimp only at N')))
local macro_rules | `(tactic| walk_at "subscriptTail") => `(tactic| (k_here; (with_reducible show wpAny _ _ (subscriptTail _ _ (Value.bytes _ _) (Value.int _ _)) _ _ _); (refine item_at (by omega) (by first | omega | ((simp only [List.size_toArray, List.length_cons, List.length_nil]); omega)) (by first | omega | ((simp only [List.size_toArray, List.length_cons, List.length_nil]); omega)) ?_); intro c' t' k' hc'))
local macro_rules | `(tactic| walk_at "call type:bytes") => `(tactic| (k_here; k_dflt (refine' make_any ?F ?N rfl ?l ?i ?r ?n ?z ?_; (case F => k_asm); (case N => k_asm); (case l => exact News.isList (by k_asm) (by k_mem)); (case i => assumption); (case r => assumption); (case n => assumption); (case z => omega)); intro b' h' t' k' hb' F' N'; (try k_sweep)))
local macro_rules | `(tactic| walk_at "subscriptTail") => `(tactic| (k_here; (with_reducible show wpAny _ _ (subscriptTail _ (Expr.Slice _ _ none _) (Value.bytes _ _) (Value.ref _)) _ _ _); (with_reducible rename Fr _ _ _ _ => F'); (with_reducible rename News _ _ _ _ => N'); (refine cut_xy (s := ⟨_, _, _, _, _⟩) F' N' (by omega) ?_); intro b' h' t' k' hb' F' N'; (try k_sweep)))
local macro_rules | `(tactic| walk_at "binaryOp Add bytes bytes") => `(tactic| (k_here; (refine add_any (by first | assumption | rfl) (by first | assumption | rfl) (by omega) (by omega) ?_); intro d' t' k' hd'))
local macro_rules | `(tactic| walk_at "LastQ") => `(tactic| refine Hold.intro ?_)
local macro_rules | `(tactic| walk_at "eval IfExp") => `(tactic| (k_here; (with_reducible show wpAny _ _ (eval (Expr.IfExp _ (Expr.Constant (Const.bytes _) _ _) _ _) _) _ _ _); (fail_if_success (with_reducible show wpAny _ _ _ (LastQ _ _ _ _) _ _)); k_dflt (refine' last_cut ?F ?h1 ?h2; (case F => k_asm); (case' h2 => (intro b' t' h' tk' F' N' hb'; (try k_sweep))))))
local macro_rules | `(tactic| walk_at "call ref") => `(tactic| (k_here; (with_reducible show wpAny _ _ (call (Value.ref 168) [_, _]) _ _ _); k_dflt (refine' read_spec _ _ _ _ _ _ _ _ _ _ _ _ _ _ _ _ _ _ _ _ _ _ _ _ _ _ ?B ?F ?X ?N ?T ?hk ?hd ?hu ?a1 ?a2 ?_; (case B => k_asm); (case F => k_asm); (case X => k_asm); (case N => k_asm); (case T => k_asm); (case hk => first | assumption | exact rfl); (case hd => first | ktr_room | k_room); (case hu => ktr_units); (case a1 => omega); (case a2 => omega)); intro r' v1' p' t3' h' tk' F' N' hv' hp'; subst hp'; (try k_sweep); split at hv' <;> (first | subst hv' | (obtain ⟨t4', hv'⟩ := hv'; subst hv')); (all_goals (try dsimp only))))
local macro_rules | `(tactic| walk_at "LastQ") => `(tactic| (k_here; exact LastQ.intro (by k_asm) (by first | decide | exact Nat.le_of_ble_eq_true rfl)))
local macro_rules | `(tactic| walk_at "call ref") => `(tactic| (k_here; (with_reducible show wpAny _ _ (call (Value.ref 150) [_, _]) _ _ _); k_dflt (refine' cur_make _ _ _ _ _ _ _ _ _ _ _ _ _ _ _ _ _ _ _ _ _ _ _ _ _ _ ?B ?F ?X ?N ?T ?hk ?hd ?hu ?a1 ?_; (case B => k_asm); (case F => k_asm); (case X => k_asm); (case N => k_asm); (case T => k_asm); (case hk => first | assumption | exact rfl); (case hd => first | ktr_room | k_room); (case hu => ktr_units); (case a1 => omega)); intro x' d' ka' kb' kc' t3' h' tk' F' N' ne' ap'; (try k_sweep); (try dsimp only)))
local macro_rules | `(tactic| walk_at "exec Try") => `(tactic| refine Hold.intro ?_)
local macro_rules | `(tactic| walk_at "call ref") => `(tactic| (k_here; (with_reducible show wpAny _ _ (call (Value.ref 68) [_]) _ _ _); k_dflt (refine' take_spec _ _ _ _ _ _ _ _ _ _ _ _ _ _ _ _ _ _ _ _ _ _ _ _ _ _ _ _ _ _ _ _ ?B ?F ?X ?N ?T ?hk ?hd ?hu ?ne ?ap ?a1 ?a2 ?ret ?out; (case B => k_asm); (case F => k_asm); (case X => k_asm); (case N => k_asm); (case T => k_asm); (case hk => first | assumption | exact rfl); (case hd => first | ktr_room | k_room); (case hu => ktr_units); (case ne => assumption); (case ap => assumption); (case a1 => omega); (case a2 => omega); (case' ret => (intro l' p' t' ti' h' tk' F' N' hl' hp'; subst hp'; (try k_sweep); (try dsimp only); (first | exact absurd (hl'.symm.trans (show _ = none by assumption)) (by intro h9; cases h9) | (obtain rfl := Option.some.inj (hl'.symm.trans (by assumption)))))); (case' out => (intro e' tt' d' ka' kb' what' p' tp' nw' g' h' tk' R' Fg' U' hn' hp'; subst hp'; (try dsimp only); (try (exact absurd (hn'.symm.trans (show _ = some _ by assumption)) (by intro h9; cases h9))))))))
local macro_rules | `(tactic| walk_at "noteFrame ref") => `(tactic| (k_here; (rename RaisedD _ _ _ _ _ _ _ _ => rkX); k_dflt (refine' catch_D ?hfr ?hf ?F ?U ?R ?X (wf_at _) ?hb ?hev ?_; (case hfr => exact rfl); (case hf => exact rfl); (case R => exact rkX); (case U => assumption); (case F => assumption); (case X => k_asm); (case hb => decide +kernel); (case hev => (intro h9 P9 E9 F9 hP9; walk1; exact hP9))); intro h' tb' E1' E2' F' N'; (try k_sweep); (try k_fold)))
local macro_rules | `(tactic| walk_at "getAttr ref") => `(tactic| (k_here; k_dflt (refine' get_at59 ?F ?X ?N ?h1 ?h2 ?_; (case F => k_asm); (case X => k_asm); (case N => k_asm); (case h1 => k_mem); (case h2 => k_mem); k_whole)))
set_option maxRecDepth 100000 in
set_option maxHeartbeats 2000000 in
theorem mainT : PySem.Challenge.rw_or0031_01.Holds := hd (by
  w_top off
  k_go0
  all_goals (try k_fold)
  k_steps
  rotate_left 1
  · exact CellsQ.intro2 (by k_asm) (by k_asm) (by assumption) (by assumption) (by (simp only [List.length_take]; omega)) (by assumption)
  · exact CellsQ.intro3 (by k_asm) (by k_asm) (by assumption)
  show LCg.CompSrc _ _ _ _ _ _ _ _ _ _ _ _ _ _
  k_dflt (refine' LCg.CompSrc.range (by rfl) (by k_asm) (by k_asm) (by assumption) (small_one (by omega) (by omega) (by omega) (by omega)) (rangeSize_nat _ _) (by rw [sizeLine_eq]; omega) ?_)
  intro g'
  refine' tape_rest (fun k t => [(_, W.listOf #[.ref _, .int k t] 0), (_, W.listOf _ _), (_, _)]) _ _ ?turn ?fin
  case turn =>
    intro i k t tk2 I oI C oC D m₂ ys h tk E' hi hk hC hx F N off ne
    simp only [LCg.Off3, and_true] at off
    (try k_fold)
    k_steps
    all_goals exact LCg.CompEnd.intro (by k_asm) (by k_asm) _ (fun _ h9 => h9) (by (simp only [LCg.Off3, and_true]; exact off)) trivial ⟨_, _, _, rfl, Int.natCast_nonneg _, Int.ofNat_lt.mpr (UInt8.toNat_lt _), rfl⟩
  case fin =>
    intro ys ks t' hy hk hl
    k_steps
    all_goals (show wpAny _ _ _ _ _ _)
    all_goals (refine wpAny_Try_except ?_)
    all_goals (iterate 14 (first | (k_here; with_reducible show wpAny _ _ (call (Value.ref 68) [_]) _ _ _) | walk1 | (k_unfold; (try dsimp only))))
    all_goals (walk_at "call ref")
    k_steps
    all_goals (try dsimp only)
    k_steps
    (with_reducible rename Fr _ _ _ _ => lF'); (with_reducible rename News _ _ _ _ => lN')
    k_dflt (refine' wpAny_nameGoes ?hl (Fr.ns lF') ?hp ?_; (case hl => exact rfl); (case hp => exact rfl)); intro h' m' hn' hs'; (have F' := Fr.set lF' hn' hs'); (have N' := News.set lN' hs'); clear lF' lN'
    (try dsimp only)
    k_steps)
end
end Mine
theorem PySem.Challenge.cw_or0031_01_holds : PySem.Challenge.rw_or0031_01.Holds :=
  Mine.mainT
