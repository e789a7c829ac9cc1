import PyProof.Rows.All
import Wide.All
import OpenK.AllK
import Wide.FinOn
import KE.KxDecode
import KE.BytesMake
import KE.KxPercent
import Lean
import PySem.Challenge.RW_or0070_01
set_option Elab.async false
set_option maxRecDepth 100000
set_option maxHeartbeats 8000000
set_option linter.all false
namespace Mine
local macro_rules | `(tactic| omega) => `(tactic| ((fail_if_success (fail_if_success (omega (splitDisjunctions := true)))); first | lia | omega (splitDisjunctions := true)))
local macro_rules | `(tactic| walk_at $s:str) => `(tactic| k_extra $s)
local macro_rules | `(tactic| units_room) => `(tactic| k_extra "units_room")
local macro_rules | `(tactic| k_room) => `(tactic| k_extra "k_room")
local macro_rules | `(tactic| k_all) => `(tactic| k_extra "k_all")
local macro_rules | `(tactic| k_ne) => `(tactic| k_extra "k_ne")
local macro_rules | `(tactic| ktr_room) => `(tactic| k_extra "ktr_room")
local macro_rules | `(tactic| ktr_units) => `(tactic| k_extra "ktr_units")
local macro_rules | `(tactic| kwd_less) => `(tactic| k_extra "kwd_less")
section
open PySem PySem.W PyProof.Rows
section
local macro_rules | `(tactic| refine $_) => `(tactic| assumption)
/-- names the part of the state that the walk knows, and the text's view: the constants pre.heap_* and pre.view_* -/
theorem pre (h : OpenRow.Holds PySem.Challenge.rw_or0070_01.row) : True := by
  have : OpenRow.Holds PySem.Challenge.rw_or0070_01.row := by k_head
  trivial
end
end

section
open PySem PySem.W PyProof.Rows PySem.Calls
abbrev Led := List (Addr × Obj)
/-- the contract of a function: from any frame of a caller, with the ledger `news`, the call comes back with a value and a ledger of which R holds -/
def Con (w : World) (r : Nat) (f : Addr) (vs : List Value) (news : Led) (R : Value → Led → Prop) : Prop :=
  ∀ (dp un : Nat) (gd : Option (List Code)) (cn : Str) (cs : Scope) (a : Addr) (ccd : Value) (cl : List (Str × Addr)) (outer : List Env) (A₀ : Around) (base h₀ : Heap) (L : Addr) (m : Str → Option Value) (s : Shared)
    (mean : ExcName → Option Value) (mg mb : Str → Option Value) (Q E : Value → Shared → Prop),
    Below A₀ base outer h₀ → Fr h₀ L s.heap m → (pre.heap_1 w.params).In h₀ → News h₀ L s.heap news →
    Top pre.view_1 (looseW pre.view_1 [Str.ofString "PostError", Str.ofString "CHARSETS"]) mean mg mb h₀ → cs.kind = .function →
    dp + 10 + r < recursionLimit → un + 200 + 8 * r < cLine →
    (∀ v h' tk' news', R v news' → Fr h₀ L h' m → News h₀ L h' news' → Q v { s with heap := h', toks := tk' }) →
    wpAny (model PySem.Challenge.rw_or0070_01.row.prog w) (ktrTop dp un gd cn cs L a ccd cl outer) (call (.ref f) vs) Q E s

theorem Con.mk5 {w : World} {r : Nat} {f : Addr} {vs : List Value} {news : Led} {R : Value → Led → Prop}
    (h : ∀ (dp un : Nat) (gd : Option (List Code)) (cn : Str) (cs : Scope) (a : Addr) (ccd : Value) (cl : List (Str × Addr)) (outer : List Env) (A₀ : Around) (base h₀ : Heap) (L : Addr) (m : Str → Option Value) (hp0 : Heap) (gn0 dr0) (tk0 : Nat) (os0)
      (mean : ExcName → Option Value) (mg mb : Str → Option Value) (Q E : Value → Shared → Prop),
      Below A₀ base outer h₀ → Fr h₀ L hp0 m → (pre.heap_1 w.params).In h₀ → News h₀ L hp0 news →
      Top pre.view_1 (looseW pre.view_1 [Str.ofString "PostError", Str.ofString "CHARSETS"]) mean mg mb h₀ → cs.kind = .function →
      dp + 10 + r < recursionLimit → un + 200 + 8 * r < cLine →
      (∀ v h' tk' news', R v news' → Fr h₀ L h' m → News h₀ L h' news' → Q v ⟨h', gn0, dr0, tk', os0⟩) →
      wpAny (model PySem.Challenge.rw_or0070_01.row.prog w) (ktrTop dp un gd cn cs L a ccd cl outer) (call (.ref f) vs) Q E ⟨hp0, gn0, dr0, tk0, os0⟩) : Con w r f vs news R :=
  fun dp un gd cn cs a ccd cl outer A₀ base h₀ L m s mean mg mb Q E => h dp un gd cn cs a ccd cl outer A₀ base h₀ L m s.heap s.gens s.drawn s.toks s.os mean mg mb Q E

section
variable {w : World} {r : Nat} {f : Addr} {vs : List Value} {news news' news₁ : Led} {R : Value → Led → Prop}
  {dp un : Nat} {gd : Option (List Code)} {cn : Str} {cs : Scope} {a : Addr} {ccd : Value} {cl : List (Str × Addr)} {outer : List Env} {A₀ : Around} {base h₀ : Heap} {L : Addr} {m : Str → Option Value} {s : Shared}
  {mean : ExcName → Option Value} {mg mb : Str → Option Value} {Q E : Value → Shared → Prop}
/-- a contract whose ledger stays as it is -/
theorem Con.use {P : Value → Prop} (C : Con w r f vs news (fun v n' => n' = news ∧ P v)) (B : Below A₀ base outer h₀) (F : Fr h₀ L s.heap m) (X : (pre.heap_1 w.params).In h₀) (N : News h₀ L s.heap news)
    (T : Top pre.view_1 (looseW pre.view_1 [Str.ofString "PostError", Str.ofString "CHARSETS"]) mean mg mb h₀) (hk : cs.kind = .function) (hd : dp + 10 + r < recursionLimit) (hu : un + 200 + 8 * r < cLine)
    (ret : ∀ v h' tk', P v → Fr h₀ L h' m → News h₀ L h' news → Q v { s with heap := h', toks := tk' }) :
    wpAny (model PySem.Challenge.rw_or0070_01.row.prog w) (ktrTop dp un gd cn cs L a ccd cl outer) (call (.ref f) vs) Q E s :=
  C _ _ _ _ _ _ _ _ _ _ _ _ _ _ _ _ _ _ _ _ B F X N T hk hd hu (fun v h' tk' n' hR F' N' => by obtain ⟨rfl, hP⟩ := hR; exact ret v h' tk' hP F' N')
/-- a contract of which any ledger comes back -/
theorem Con.useR (C : Con w r f vs news₁ R) (B : Below A₀ base outer h₀) (F : Fr h₀ L s.heap m) (X : (pre.heap_1 w.params).In h₀) (N : News h₀ L s.heap news) (hs : ∀ p ∈ news₁, p ∈ news)
    (T : Top pre.view_1 (looseW pre.view_1 [Str.ofString "PostError", Str.ofString "CHARSETS"]) mean mg mb h₀) (hk : cs.kind = .function) (hd : dp + 10 + r < recursionLimit) (hu : un + 200 + 8 * r < cLine)
    (ret : ∀ v h' tk' n', R v n' → Fr h₀ L h' m → News h₀ L h' n' → Q v { s with heap := h', toks := tk' }) :
    wpAny (model PySem.Challenge.rw_or0070_01.row.prog w) (ktrTop dp un gd cn cs L a ccd cl outer) (call (.ref f) vs) Q E s :=
  C _ _ _ _ _ _ _ _ _ _ _ _ _ _ _ _ _ _ _ _ B F X (fun p hp => N p (hs p hp)) T hk hd hu (fun v h' tk' n' hR F' N' => ret v h' tk' n' hR F' N')
/-- a contract that turns one object d of the ledger, x standing beside -/
theorem Con.useU {x d : Addr} {ox o o' : Obj} {P : Value → Prop} (C : ∀ rest : Led, (∀ q ∈ rest, q.1 ≠ d) → Con w r f vs ((x, ox) :: (d, o) :: rest) (fun v n' => n' = (x, ox) :: (d, o') :: rest ∧ P v)) (hx : (x, ox) ∈ news) (U : Upd d o o' news news')
    (B : Below A₀ base outer h₀) (F : Fr h₀ L s.heap m) (X : (pre.heap_1 w.params).In h₀) (N : News h₀ L s.heap news)
    (T : Top pre.view_1 (looseW pre.view_1 [Str.ofString "PostError", Str.ofString "CHARSETS"]) mean mg mb h₀) (hk : cs.kind = .function) (hd : dp + 10 + r < recursionLimit) (hu : un + 200 + 8 * r < cLine)
    (ret : ∀ v h' tk', P v → Fr h₀ L h' m → News h₀ L h' news' → Q v { s with heap := h', toks := tk' }) :
    wpAny (model PySem.Challenge.rw_or0070_01.row.prog w) (ktrTop dp un gd cn cs L a ccd cl outer) (call (.ref f) vs) Q E s := by
  obtain ⟨pre, post, rfl, rfl, a1, a2⟩ := U.split
  refine C (pre ++ post) (fun q hq => (List.mem_append.mp hq).elim (a1 q) (a2 q)) _ _ _ _ _ _ _ _ _ _ _ _ _ _ _ _ _ _ _ _ B F X (fun p hp => ?_) T hk hd hu (fun v h' tk' n' hR F' N' => ?_)
  · rcases List.mem_cons.mp hp with rfl | hp
    · exact N _ hx
    · rcases List.mem_cons.mp hp with rfl | hp
      · exact N _ (List.mem_append.mpr (.inr (.head _)))
      · exact N _ ((List.mem_append.mp hp).elim (fun h => List.mem_append.mpr (.inl h)) fun h => List.mem_append.mpr (.inr (.tail _ h)))
  · obtain ⟨rfl, hP⟩ := hR
    refine ret v h' tk' hP F' fun p hp => N' p ?_
    rcases List.mem_append.mp hp with h | h
    · exact .tail _ (.tail _ (List.mem_append.mpr (.inl h)))
    · rcases List.mem_cons.mp h with rfl | h
      · exact .tail _ (.head _)
      · exact .tail _ (.tail _ (List.mem_append.mpr (.inr h)))
end

theorem room_lt {dp r r' : Nat} (h : dp + 10 + r < recursionLimit) (hr : Nat.ble (r' + 1) r = true) : dp + 1 + 10 + r' < recursionLimit := by
  have := Nat.le_of_ble_eq_true hr
  omega
theorem room_same {dp r r' : Nat} (h : dp + 10 + r < recursionLimit) (hr : Nat.ble r' r = true) : dp + 10 + r' < recursionLimit := by
  have := Nat.le_of_ble_eq_true hr
  omega
theorem units_lt {un r r' : Nat} (h : un + 200 + 8 * r < cLine) (hr : Nat.ble (3 + 8 * r') (8 * r) = true) : un + 3 + 200 + 8 * r' < cLine := by
  have := Nat.le_of_ble_eq_true hr
  omega
theorem ne_lt {a b : Nat} (h : a < b) : @Ne Addr a b := Nat.ne_of_lt h
theorem ne_gt {a b : Nat} (h : b < a) : @Ne Addr a b := Nat.ne_of_gt h
abbrev wireObj (dx : Addr) : Obj := instObj 686 dx
abbrev wireDict (w : World) (data : Array UInt8) (td ta : Tok) (kd ka : Tok) (at' : Int) : Obj :=
  dictOf [⟨PyData.keyHash w.params (Str.ofString "data"), .str (Str.ofString "data") kd, .bytes data td⟩, ⟨PyData.keyHash w.params (Str.ofString "at"), .str (Str.ofString "at") ka, .int at' ta⟩] 2

/-- the wire: the instance and its dict, at place i -/
abbrev wire (w : World) (x d : Addr) (b : Array UInt8) (td kd ka ta : Tok) (i : Nat) (rest : Led) : Led := (x, wireObj d) :: (d, wireDict w b td ta kd ka (i : Int)) :: rest
/-- a contract that moves the wire to the place j -/
abbrev WCon (w : World) (r : Nat) (f : Addr) (vs : List Value) (x d : Addr) (b : Array UInt8) (td kd ka ta : Tok) (i j : Nat) (P : Value → Prop) : Prop :=
  ∀ rest : Led, (∀ q ∈ rest, q.1 ≠ d) → Con w r f vs (wire w x d b td kd ka ta i rest) (fun v n' => (∃ ta', n' = wire w x d b td kd ka ta' j rest) ∧ P v)
theorem WCon.use {w : World} {r : Nat} {f : Addr} {vs : List Value} {x d : Addr} {b : Array UInt8} {td kd ka ta : Tok} {i j : Nat} {P : Value → Prop} {news : Led} {news' : Tok → Led}
  {dp un : Nat} {gd : Option (List Code)} {cn : Str} {cs : Scope} {a : Addr} {ccd : Value} {cl : List (Str × Addr)} {outer : List Env} {A₀ : Around} {base h₀ : Heap} {L : Addr} {m : Str → Option Value} {s : Shared}
  {mean : ExcName → Option Value} {mg mb : Str → Option Value} {Q E : Value → Shared → Prop}
  (C : WCon w r f vs x d b td kd ka ta i j P) (hx : (x, wireObj d) ∈ news) (U : ∀ ta', Upd d (wireDict w b td ta kd ka (i : Int)) (wireDict w b td ta' kd ka (j : Int)) news (news' ta'))
  (B : Below A₀ base outer h₀) (F : Fr h₀ L s.heap m) (X : (pre.heap_1 w.params).In h₀) (N : News h₀ L s.heap news)
  (T : Top pre.view_1 (looseW pre.view_1 [Str.ofString "PostError", Str.ofString "CHARSETS"]) mean mg mb h₀) (hk : cs.kind = .function) (hd : dp + 10 + r < recursionLimit) (hu : un + 200 + 8 * r < cLine)
  (ret : ∀ v ta' h' tk', P v → Fr h₀ L h' m → News h₀ L h' (news' ta') → Q v { s with heap := h', toks := tk' }) :
  wpAny (model PySem.Challenge.rw_or0070_01.row.prog w) (ktrTop dp un gd cn cs L a ccd cl outer) (call (.ref f) vs) Q E s := by
  obtain ⟨pre, post, rfl, _, a1, a2⟩ := (U 0).split
  refine C (pre ++ post) (fun q hq => (List.mem_append.mp hq).elim (a1 q) (a2 q)) _ _ _ _ _ _ _ _ _ _ _ _ _ _ _ _ _ _ _ _ B F X (fun p hp => ?_) T hk hd hu (fun v h' tk' n' hR F' N' => ?_)
  · rcases List.mem_cons.mp hp with rfl | hp
    · exact N _ hx
    · rcases List.mem_cons.mp hp with rfl | hp
      · exact N _ (List.mem_append.mpr (.inr (.head _)))
      · exact N _ ((List.mem_append.mp hp).elim (fun h => List.mem_append.mpr (.inl h)) fun h => List.mem_append.mpr (.inr (.tail _ h)))
  · obtain ⟨⟨ta', rfl⟩, hP⟩ := hR
    refine ret v ta' h' tk' hP F' fun p hp => N' p ?_
    obtain ⟨pre', post', e1, e2, b1, b2⟩ := (U ta').split
    have hlen : pre' = pre ∧ post' = post := by
      have key : ∀ (p1 p2 q1 q2 : Led) (o : Obj), (∀ z ∈ p1, z.1 ≠ d) → (∀ z ∈ p2, z.1 ≠ d) → p1 ++ (d, o) :: q1 = p2 ++ (d, o) :: q2 → p1 = p2 ∧ q1 = q2 := by
        intro p1
        induction p1 with
        | nil =>
          intro p2 q1 q2 o _ h2 e
          cases p2 with
          | nil => simp at e; exact ⟨rfl, e⟩
          | cons z p2 => simp only [List.nil_append, List.cons_append, List.cons.injEq] at e; exact absurd (congrArg Prod.fst e.1).symm (h2 z (.head _))
        | cons z p1 ih =>
          intro p2 q1 q2 o h1 h2 e
          cases p2 with
          | nil => simp only [List.nil_append, List.cons_append, List.cons.injEq] at e; exact absurd (congrArg Prod.fst e.1) (h1 z (.head _))
          | cons y p2 =>
            simp only [List.cons_append, List.cons.injEq] at e
            obtain ⟨i1, i2⟩ := ih p2 q1 q2 o (fun z hz => h1 z (.tail _ hz)) (fun z hz => h2 z (.tail _ hz)) e.2
            exact ⟨by rw [e.1, i1], i2⟩
      exact key _ _ _ _ _ b1 a1 e1.symm
    obtain ⟨rfl, rfl⟩ := hlen
    rw [e2] at hp
    rcases List.mem_append.mp hp with h | h
    · exact .tail _ (.tail _ (List.mem_append.mpr (.inl h)))
    · rcases List.mem_cons.mp h with rfl | h
      · exact .tail _ (.head _)
      · exact .tail _ (.tail _ (List.mem_append.mpr (.inr h)))
theorem bInts_inj {b c : Array UInt8} (h : KBw.bInts b = KBw.bInts c) : b = c := by
  unfold KBw.bInts at h
  have hinj : ∀ (l m : List UInt8), l.map (fun c => ((c.toNat : Nat) : Int)) = m.map (fun c => ((c.toNat : Nat) : Int)) → l = m := by
    intro l
    induction l with
    | nil => intro m h; cases m with | nil => rfl | cons _ _ => simp at h
    | cons a l ih =>
      intro m h
      cases m with
      | nil => simp at h
      | cons e m =>
        simp only [List.map_cons, List.cons.injEq] at h
        rw [ih m h.2, UInt8.toNat_inj.mp (by omega : a.toNat = e.toNat)]
  exact Array.ext' (hinj _ _ h)
theorem picked_at {b : Array UInt8} {ks : List Int} (hk : KBw.bInts b = ks) {i j : Nat} (hij : i ≤ j) (hj : j ≤ ks.length) :
    KBw.bInts (KBy.picked b (some (i : Int)) (some (j : Int))) = (ks.drop i).take (j - i) := by
  rw [KBc.ints_picked hk]
  have e1 : min i ks.length = i := by omega
  have e2 : min j ks.length = j := by omega
  simp only [Option.elim, clipAt_nat, e1, e2]
theorem ne_bytes {b c : Array UInt8} {ks ls : List Int} (hb : KBw.bInts b = ks) (hc : KBw.bInts c = ls) : (b.toList != c.toList) = decide (ks ≠ ls) := by
  subst hb hc
  by_cases h : b = c
  · subst h; simp
  · have h1 : b.toList ≠ c.toList := fun e => h (Array.ext' e)
    have h2 : KBw.bInts b ≠ KBw.bInts c := fun e => h (bInts_inj e)
    simp [h1, h2]
section
variable {w : World} {r : Nat} {f : Addr} {vs : List Value} {news news' news₁ : Led} {R : Value → Led → Prop}
  {dp un : Nat} {gd : Option (List Code)} {cn : Str} {cs : Scope} {a : Addr} {ccd : Value} {cl : List (Str × Addr)} {outer : List Env} {A₀ : Around} {base h₀ : Heap} {L : Addr} {m : Str → Option Value} {hp5 : Heap} {gn5 : Array GenState} {dr5 : Drawn} {tk5 : Nat} {os5 : OsState}
  {mean : ExcName → Option Value} {mg mb : Str → Option Value} {Q E : Value → Shared → Prop}
theorem Con.use5 {P : Value → Prop} (C : Con w r f vs news (fun v n' => n' = news ∧ P v)) (B : Below A₀ base outer h₀) (F : Fr h₀ L hp5 m) (X : (pre.heap_1 w.params).In h₀) (N : News h₀ L hp5 news)
    (T : Top pre.view_1 (looseW pre.view_1 [Str.ofString "PostError", Str.ofString "CHARSETS"]) mean mg mb h₀) (hk : cs.kind = .function) (hd : dp + 10 + r < recursionLimit) (hu : un + 200 + 8 * r < cLine)
    (ret : ∀ v h' tk', P v → Fr h₀ L h' m → News h₀ L h' news → Q v ⟨h', gn5, dr5, tk', os5⟩) :
    wpAny (model PySem.Challenge.rw_or0070_01.row.prog w) (ktrTop dp un gd cn cs L a ccd cl outer) (call (.ref f) vs) Q E ⟨hp5, gn5, dr5, tk5, os5⟩ :=
  Con.use (s := ⟨hp5, gn5, dr5, tk5, os5⟩) C B F X N T hk hd hu ret
theorem Con.useR5 (C : Con w r f vs news₁ R) (B : Below A₀ base outer h₀) (F : Fr h₀ L hp5 m) (X : (pre.heap_1 w.params).In h₀) (N : News h₀ L hp5 news) (hs : ∀ p ∈ news₁, p ∈ news)
    (T : Top pre.view_1 (looseW pre.view_1 [Str.ofString "PostError", Str.ofString "CHARSETS"]) mean mg mb h₀) (hk : cs.kind = .function) (hd : dp + 10 + r < recursionLimit) (hu : un + 200 + 8 * r < cLine)
    (ret : ∀ v h' tk' n', R v n' → Fr h₀ L h' m → News h₀ L h' n' → Q v ⟨h', gn5, dr5, tk', os5⟩) :
    wpAny (model PySem.Challenge.rw_or0070_01.row.prog w) (ktrTop dp un gd cn cs L a ccd cl outer) (call (.ref f) vs) Q E ⟨hp5, gn5, dr5, tk5, os5⟩ :=
  Con.useR (s := ⟨hp5, gn5, dr5, tk5, os5⟩) C B F X N hs T hk hd hu ret
theorem Con.useU5 {x d : Addr} {ox o o' : Obj} {P : Value → Prop} (C : ∀ rest : Led, (∀ q ∈ rest, q.1 ≠ d) → Con w r f vs ((x, ox) :: (d, o) :: rest) (fun v n' => n' = (x, ox) :: (d, o') :: rest ∧ P v)) (hx : (x, ox) ∈ news) (U : Upd d o o' news news')
    (B : Below A₀ base outer h₀) (F : Fr h₀ L hp5 m) (X : (pre.heap_1 w.params).In h₀) (N : News h₀ L hp5 news)
    (T : Top pre.view_1 (looseW pre.view_1 [Str.ofString "PostError", Str.ofString "CHARSETS"]) mean mg mb h₀) (hk : cs.kind = .function) (hd : dp + 10 + r < recursionLimit) (hu : un + 200 + 8 * r < cLine)
    (ret : ∀ v h' tk', P v → Fr h₀ L h' m → News h₀ L h' news' → Q v ⟨h', gn5, dr5, tk', os5⟩) :
    wpAny (model PySem.Challenge.rw_or0070_01.row.prog w) (ktrTop dp un gd cn cs L a ccd cl outer) (call (.ref f) vs) Q E ⟨hp5, gn5, dr5, tk5, os5⟩ :=
  Con.useU (s := ⟨hp5, gn5, dr5, tk5, os5⟩) C hx U B F X N T hk hd hu ret
end
theorem WCon.use5 {w : World} {r : Nat} {f : Addr} {vs : List Value} {x d : Addr} {b : Array UInt8} {td kd ka ta : Tok} {i j : Nat} {P : Value → Prop} {news : Led} {news' : Tok → Led}
  {dp un : Nat} {gd : Option (List Code)} {cn : Str} {cs : Scope} {a : Addr} {ccd : Value} {cl : List (Str × Addr)} {outer : List Env} {A₀ : Around} {base h₀ : Heap} {L : Addr} {m : Str → Option Value} {hp5 : Heap} {gn5 : Array GenState} {dr5 : Drawn} {tk5 : Nat} {os5 : OsState}
  {mean : ExcName → Option Value} {mg mb : Str → Option Value} {Q E : Value → Shared → Prop}
  (C : WCon w r f vs x d b td kd ka ta i j P) (hx : (x, wireObj d) ∈ news) (U : ∀ ta', Upd d (wireDict w b td ta kd ka (i : Int)) (wireDict w b td ta' kd ka (j : Int)) news (news' ta'))
  (B : Below A₀ base outer h₀) (F : Fr h₀ L hp5 m) (X : (pre.heap_1 w.params).In h₀) (N : News h₀ L hp5 news)
  (T : Top pre.view_1 (looseW pre.view_1 [Str.ofString "PostError", Str.ofString "CHARSETS"]) mean mg mb h₀) (hk : cs.kind = .function) (hd : dp + 10 + r < recursionLimit) (hu : un + 200 + 8 * r < cLine)
  (ret : ∀ v ta' h' tk', P v → Fr h₀ L h' m → News h₀ L h' (news' ta') → Q v ⟨h', gn5, dr5, tk', os5⟩) :
  wpAny (model PySem.Challenge.rw_or0070_01.row.prog w) (ktrTop dp un gd cn cs L a ccd cl outer) (call (.ref f) vs) Q E ⟨hp5, gn5, dr5, tk5, os5⟩ :=
  WCon.use (s := ⟨hp5, gn5, dr5, tk5, os5⟩) C hx U B F X N T hk hd hu ret
section
variable {M : Model} {A : Around} {E : Value → Shared → Prop} {env : Env} {hp : Heap} {gn : Array GenState} {dr : Drawn} {tk : Nat} {os : OsState}
theorem xs_int {i : Int} {k : Nat} {pos : Pos} {Q : Value → Shared → Prop} (h : Q (.int i tk) ⟨hp, gn, dr, tk + 1, os⟩) : wpAny M A (eval (.Constant (.int i) k pos) env) Q E ⟨hp, gn, dr, tk, os⟩ := wpAny_Constant_int h
theorem xs_str {x : Str} {k : Nat} {pos : Pos} {Q : Value → Shared → Prop} (h : Q (.str x tk) ⟨hp, gn, dr, tk + 1, os⟩) : wpAny M A (eval (.Constant (.str x) k pos) env) Q E ⟨hp, gn, dr, tk, os⟩ := Calls.Constant_str h
theorem xs_add {prog : Program} {w : World} {a b : Int} {t u : Tok} {Q : Value → Shared → Prop} (h : Q (.int (a + b) tk) ⟨hp, gn, dr, tk + 1, os⟩) : wpAny (model prog w) A (binaryOp .Add (.int a t) (.int b u)) Q E ⟨hp, gn, dr, tk, os⟩ := add_int h
theorem xs_store {h₀ : Heap} {L a : Addr} {cn : Str} {cs : Scope} {ccd : Value} {cl : List (Str × Addr)} {m : Str → Option Value} {news : Led} {x : Str} {v : Value} {Q : Unit → Shared → Prop} {E : Value → Shared → Prop} (F : Fr h₀ L hp m) (N : News h₀ L hp news)
    (h : ∀ h', Fr h₀ L h' (fun y => if y = x then some v else m y) → News h₀ L h' news → Q () ⟨h', gn, dr, tk + 1, os⟩)
    (hk : cs.kind = .function := by rfl) (hx : (envX cn cs L a ccd cl).kindOf x = some .local := by rfl) : wpAny M A (storeName (envX cn cs L a ccd cl) x v) Q E ⟨hp, gn, dr, tk, os⟩ := storeX_L F N h hk hx
theorem xs_tuple {h₀ : Heap} {L : Addr} {m : Str → Option Value} {news : Led} {vs : List Value} {Q : Value → Shared → Prop} (F : Fr h₀ L hp m) (N : News h₀ L hp news)
    (h : ∀ D h', Fr h₀ L h' m → News h₀ L h' ((D, ({ cls := .type "tuple", data := .seq vs.toArray } : Obj)) :: news) → (∀ p ∈ news, p.1 < D) → Q (.ref D) ⟨h', gn, dr, tk, os⟩) (hz : vs.length ≤ sizeLine) : wpAny M A (newTuple vs) Q E ⟨hp, gn, dr, tk, os⟩ := kup_newTuple F N h hz
theorem xs_bytes {x : List UInt8} {k : Nat} {pos : Pos} {Q : Value → Shared → Prop} (h : Q (.bytes x.toArray tk) ⟨hp, gn, dr, tk + 1, os⟩) : wpAny M A (eval (.Constant (.bytes x) k pos) env) Q E ⟨hp, gn, dr, tk, os⟩ := Constant_bytes h
theorem xs_sub {prog : Program} {w : World} {a b : Int} {t u : Tok} {Q : Value → Shared → Prop} (h : Q (.int (a - b) tk) ⟨hp, gn, dr, tk + 1, os⟩) : wpAny (model prog w) A (binaryOp .Sub (.int a t) (.int b u)) Q E ⟨hp, gn, dr, tk, os⟩ := sub_int h
theorem xs_mod {prog : Program} {w : World} {a b : Int} {t u : Tok} {Q : Value → Shared → Prop} (hb : b ≠ 0) (h : Q (.int (a.fmod b) tk) ⟨hp, gn, dr, tk + 1, os⟩) : wpAny (model prog w) A (binaryOp .Mod (.int a t) (.int b u)) Q E ⟨hp, gn, dr, tk, os⟩ := mod_int' hb h
theorem xs_list {h₀ : Heap} {L : Addr} {m : Str → Option Value} {news : Led} {vs : List Value} {Q : Value → Shared → Prop} (F : Fr h₀ L hp m) (N : News h₀ L hp news)
    (h : ∀ l h', Fr h₀ L h' m → News h₀ L h' ((l, W.listOf vs.toArray 0) :: news) → (∀ p ∈ news, p.1 < l) → Q (.ref l) ⟨h', gn, dr, tk, os⟩) (hsz : vs.length ≤ sizeLine := by size_fits) : wpAny M A (newList vs) Q E ⟨hp, gn, dr, tk, os⟩ := newList_K F N h hsz
end
end

section
open PySem PySem.W PyProof.Rows PySem.Calls
def Hold (P : Prop) : Prop := P
theorem Hold.out {P : Prop} (h : Hold P) : P := h
theorem Hold.in {P : Prop} (h : P) : Hold P := h
section
variable {prog : Program} {w : World} {A : Around} {E : Value → Shared → Prop} {s : Shared}
theorem contains_bytes_int {k : Int} {b : Array UInt8} {t u : Tok} {Q : Bool → Shared → Prop} (h0 : 0 ≤ k) (h1 : k < 256) (h : Q (b.contains k.toNat.toUInt8) s) : wpAny (model prog w) A (contains (.bytes b u) (.int k t)) Q E s := by
  have hT := typeIs_bytes s b u
  have hb : ∀ (P : Fin → Shared → Prop) (E' : Value → Shared → Prop) (A' : Around), P (.done (.ret (.bool (b.contains k.toNat.toUInt8)))) s → wpAny (model prog w) A' (Builtin.«bytes.__contains__» ⟨[.bytes b u, .int k t], []⟩) P E' s := by
    intro P E' A' hP
    have e : Builtin.«bytes.__contains__» ⟨[.bytes b u, .int k t], []⟩ = (Builtin.Bytes.containsIn "bytes.__contains__" (.bytes b u) (.int k t) >>= fun r => ret (.bool r)) := rfl
    rw [e]
    refine wpAny_bind ?_
    unfold Builtin.Bytes.containsIn
    refine wpAny_bind (wpAny_of_eq (a := Except.ok k) rfl ?_)
    refine wpAny_bind (wpAny_of_eq (a := some b) KBy.buffer_eq ?_)
    dsimp only
    rw [if_neg (by simp only [Bool.or_eq_true, decide_eq_true_eq]; omega)]
    exact wpAny_pure (wpAny_pure hP)
  unfold contains
  refine wpAny_holding ?_
  refine wpAny_bind (wpAny_specialOf hT FB.slot_bytes_contains.lookup ?_)
  rw [if_neg (by decide)]
  exact wpAny_bind (wpAny_callSpecialUnlessNone?_slot (name := Str.ofString "__contains__") hT FB.slot_bytes_contains
    (wpAny_call_entry FB.slot_bytes_contains hT FB.entry_bytes_contains (hb _ _ _ ⟨_, rfl, wpAny_truthy_bool h⟩) (FB.args_bytes_contains_2 _ _)))
theorem in_bytes_K {k : Int} {b : Array UInt8} {t u : Tok} {Q : Value → Shared → Prop} (h0 : 0 ≤ k) (h1 : k < 256) (h : Q (.bool (b.contains k.toNat.toUInt8)) s) : wpAny (model prog w) A (compareOp .In (.int k t) (.bytes b u)) Q E s := by
  show wpAny _ _ (do return .bool (← contains (.bytes b u) (.int k t))) Q E s
  exact wpAny_bind (contains_bytes_int h0 h1 (wpAny_pure h))
theorem notin_bytes_K {k : Int} {b : Array UInt8} {t u : Tok} {Q : Value → Shared → Prop} (h0 : 0 ≤ k) (h1 : k < 256) (h : Q (.bool (!b.contains k.toNat.toUInt8)) s) : wpAny (model prog w) A (compareOp .NotIn (.int k t) (.bytes b u)) Q E s := by
  show wpAny _ _ (do return .bool (!(← contains (.bytes b u) (.int k t)))) Q E s
  exact wpAny_bind (contains_bytes_int h0 h1 (wpAny_pure h))
end
end

section
open PySem PySem.W PyProof.Rows PySem.Calls PySem.Spec
theorem lookup_bytes_bytes : typeLookup (.type "bytes") "__bytes__" = pure (some (.builtin "bytes.__bytes__")) := by rw [typeLookup_type, builtinLookup_eq_fast]; kernel_rfl
section
variable {prog : Program} {w : World} {A : Around} {E : Value → Shared → Prop} {s : Shared}
theorem new_bytes_bytes {b : Array UInt8} {t : Tok} {Q : Value → Shared → Prop} (hQ : Q (.bytes b t) s) :
    codeAny (model prog w) A (.call (.builtin "bytes.__new__") ⟨[.type "bytes", .bytes b t], []⟩) (wants Q E) s := by
  refine codeAny_of_tree ?_
  show wpAny _ A.in1 (do checkBuiltinCall "bytes.__new__" ⟨[.type "bytes", .bytes b t], []⟩; again (.builtin "bytes.__new__" ⟨[.type "bytes", .bytes b t], []⟩)) _ _ s
  refine wpAny_bind (wpAny_of_eq (F.bm_newCall _) (wpAny_pure ⟨plainId_quiet F.bm_plain _, codeAny_builtin F.bm_entry ?_⟩))
  rw [Around.under_plainId F.bm_plain _]
  have hT : s.TypeIs (.bytes b t) "bytes" := typeIs_bytes s b t
  unfold Builtin.«bytes.__new__»
  refine wpAny_bind (wpAny_of_eq (a := true) rfl ?_)
  refine bm_if_false rfl ?_
  refine wpAny_bind (wpAny_of_eq F.bm_sub ?_)
  refine bm_if_false rfl ?_
  refine wpAny_bind (wpAny_of_eq (F.bm_bind _) ?_)
  refine wpAny_bind (wpAny_of_eq (a := ()) rfl ?_)
  refine wpAny_bind (wpAny_of_eq (a := ()) rfl ?_)
  refine bm_if_false rfl ?_
  refine wpAny_bind (wpAny_specialOf hT lookup_bytes_bytes ?_)
  refine wpAny_bind (wpAny_rule ?_)
  refine wpAny_bind (wpAny_typeOf hT ?_)
  refine bm_if_true rfl ?_
  exact wpAny_of_eq (a := Fin.done (.ret (.bytes b t))) rfl hQ
theorem call_bytes_bytes {b : Array UInt8} {t : Tok} {Q : Value → Shared → Prop} (hQ : Q (.bytes b t) s) : wpAny (model prog w) A (call (.type "bytes") [.bytes b t]) Q E s := by
  refine callType_codes (Q₁ := fun obj s₁ => s₁.TypeIs obj "bytes" ∧ Q obj s₁) F.bm_called (F.bm_typeCall _) F.entry_object_init
    (new_bytes_bytes ⟨typeIs_bytes _ _ _, hQ⟩) fun obj s₁ h₁ => ?_
  exact ⟨h₁.1, F.args_object_init_2 obj _, object_init_meets F.bm_called.init.lookup F.bm_called.made (by decide) prog w A.in1 _ s₁ ⟨h₁.1, rfl, h₁.2⟩⟩
end
end

section
open PySem PySem.W PyProof.Rows PySem.Calls PyProof.Rows.LCg
section
variable {prog : Program} {w : World} {A : Around} {E : Value → Shared → Prop} {s : Shared} {h₀ : Heap} {L : Addr} {m : Str → Option Value} {env : Env}
theorem comp_inv {elt : Expr} {x : Str} {scope : Scope} {cl : List (Str × Addr)} {S : Led → Prop} {P : Nat → Value → Prop} {Fin : List Value → Led → Prop} (n : Nat) (J : Nat → List Value → Led → Prop)
    (step : ∀ i ys news, i < n → J i ys news → ∀ v I oI C oC D m₂ h tk (E' : Value → Shared → Prop), P i v → NsObj oC m₂ → m₂ x = some v → Fr h₀ L h m → News h₀ L h ((I, oI) :: (C, oC) :: (D, lst ys) :: news) → Off3 I C D news → ((@Ne Nat I C) ∧ (@Ne Nat I D) ∧ (@Ne Nat C D)) →
      wpAny (model prog w) A (eval elt (compEnvC scope cl C env)) (CompEnd h₀ L m { s with heap := h, toks := tk } I oI C oC D (lst ys) S (fun y news' => J (i + 1) (ys ++ [y]) news')) E' { s with heap := h, toks := tk })
    (fin : ∀ ys news, J n ys news → Fin ys news) : ∀ k i ys news, i + k = n → J i ys news → CompRest prog w A h₀ L m env elt x scope cl s S P Fin k i ys news := by
  intro k
  induction k with
  | zero => intro i ys news e hJ; exact CompRest.zero (fin ys news (by rw [← e, Nat.add_zero]; exact hJ))
  | succ k ih =>
    intro i ys news e hJ
    refine CompRest.succ fun v I oI C oC D m₂ h tk E' hP hn hx F N off ne => ?_
    refine wpAny_mono (step i ys news (by omega) hJ v I oI C oC D m₂ h tk E' hP hn hx F N off ne) (fun y s₂ z => ?_) fun _ _ z => z
    obtain ⟨h', tk', news', e1, F', N', off', hS, hJ'⟩ := z
    exact ⟨h', tk', news', e1, F', N', off', hS, ih (i + 1) (ys ++ [y]) news' (by omega) hJ'⟩

def SrcW (prog : Program) (w : World) (A : Around) (h₀ : Heap) (L : Addr) (m : Str → Option Value) (env : Env) (elt : Expr) (x : Str) (scope : Scope) (cl : List (Str × Addr)) (Fin : Shared → List Value → Led → Prop) (n : Nat) (P : Nat → Value → Prop) (s₁ : Shared) : Prop :=
  ∃ news, A.handled = none ∧ Fr h₀ L s₁.heap m ∧ News h₀ L s₁.heap news ∧ n ≤ sizeLine ∧ ∀ g, CompRest prog w A h₀ L m env elt x scope cl { s₁ with heap := g } (fun _ => True) P (Fin { s₁ with heap := g }) n 0 [] news

theorem comp_block {elt iter : Expr} {x : Str} {px : Pos} {scope : Scope} {cl : List (Str × Addr)} {pos : Pos} {Q : Value → Shared → Prop} {s₁ : Shared} {n : Nat} {P : Nat → Value → Prop} {St : Nat → Heap → Prop} {o : Obj}
    (hcell : ∀ y ∈ scope.names, y.2 ≠ .cell) (hkind : scope.kind = .function) (hx : scope.names.lookup x = some .local)
    (W : Walks prog w A s₁.heap.objs.size [s₁.heap.objs.size] [s₁.heap.objs.size] n P St) (hst : St 0 (s₁.heap.push o)) (hIo : ∀ i h, St i h → ∃ o, h.get? s₁.heap.objs.size = some o)
    (R : SrcW prog w A h₀ L m env elt x scope cl (fun s₂ => FinE h₀ L m s₂ Q) n P s₁)
    {RR : Value → Addr → Result → Shared → Prop}
    (hRR : ∀ D C h tk m' ys news', Fr h₀ L h m → News h₀ L h ((D, lst ys) :: news') → Off1 D news' → h.Ns C m' → h₀.get? C = none → h₀.get? D = none → C ≠ L → D ≠ L → C ≠ D → (∀ p ∈ news', p.1 ≠ C) → FinE h₀ L m { s₁ with heap := s₁.heap.push o } Q ys news' → RR (.ref D) C (.ok .next) { s₁ with heap := h, toks := tk }) :
    wpAny (model prog w) A (newList []) (fun acc s₃ => wpAny (model prog w) A (newFunctionEnv scope env.globals cl [] env.qual none .none (some env)) (fun cenv s₄ =>
      codeAny (model prog w) A (.compStart (.ListComp elt [⟨.Name x px, iter, [], 0⟩] scope pos) 0 (.ref s₁.heap.objs.size) acc { cenv with scope := relabel scope env }) (RR acc cenv.locals) s₄) E s₃) E { s₁ with heap := s₁.heap.push o } := by
  obtain ⟨news, hh, F, N, hsz, R⟩ := R
  refine block_U (h₀ := h₀) (L := L) (m := m) W hsz hIo (fun i h h' o' nw st e e' _ _ _ => W.frame i h h' st fun b hb o₂ ho₂ => ?_) hcell hkind hx hst (fun b hb => ?_)
    (F.keeps fun _ _ e => Heap.get?_push_of_some _ e) (N.grown fun _ _ e => Heap.get?_push_of_some _ e) (Nat.ne_of_lt F.ns.lt) (next_is_new F) (fun p hp => Nat.ne_of_lt (Heap.lt_size (N p hp).1)) trivial (R _) ?_
  · rw [List.mem_singleton.mp hb] at ho₂ ⊢
    rw [e] at ho₂
    cases ho₂
    exact e'
  · rw [List.mem_singleton.mp hb]
    show s₁.heap.objs.size < (s₁.heap.push _).objs.size
    rw [Heap.size_push]; exact Nat.lt_succ_self _
  · intro D C h tk m' ys news' F' N' o1 hn hC₀ hD₀ hCL hDL hCD offC fin
    exact hRR D C h tk m' ys news' F' N' o1 hn hC₀ hD₀ hCL hDL hCD offC fin

def SrcB (prog : Program) (w : World) (A : Around) (h₀ : Heap) (L : Addr) (m : Str → Option Value) (env : Env) (elt : Expr) (x : Str) (scope : Scope) (cl : List (Str × Addr)) (Q : Value → Shared → Prop) (xv : Value) (s₁ : Shared) : Prop :=
  ∃ b t, xv = .bytes b t ∧ SrcW prog w A h₀ L m env elt x scope cl (fun s₂ => FinE h₀ L m s₂ Q) b.size (fun i v => ∃ c u, b[i]? = some c ∧ v = .int (c.toNat : Int) u) s₁
theorem ListComp_B {elt iter : Expr} {x : Str} {px : Pos} {scope : Scope} {cl : List (Str × Addr)} {pos : Pos} {Q : Value → Shared → Prop} (F₀ : Fr h₀ L s.heap m)
    (hclos : closureFor scope env = pure cl) (hcell : ∀ y ∈ scope.names, y.2 ≠ .cell) (hkind : scope.kind = .function)
    (hnames : ∀ y ∈ scope.names, y.2 = .local → scope.names.lookup y.1 = some .local) (hx : scope.names.lookup x = some .local)
    (h : wpAny (model prog w) A (eval iter env) (SrcB prog w A h₀ L m env elt x scope cl Q) E s)
    (hs : ∀ x, foldedSetIterable iter env x = pure x := by intro _; rfl) :
    wpAny (model prog w) A (eval (.ListComp elt [⟨.Name x px, iter, [], 0⟩] scope pos) env) Q E s := by
  rw [eval_ListComp]
  refine wpAny_comprehension_free (use := none) rfl hs hclos hkind hnames (wpAny_mono h (fun xv s₁ h₁ => ?_) fun _ _ e => e)
  obtain ⟨b, t, rfl, R⟩ := h₁
  have hh := R.choose_spec.1
  refine KBw.pyIter_bytes ?_
  refine comp_block (o := { cls := .type "bytes_iterator", data := .fields #[.bytes b t, .int 0 0] }) hcell hkind hx (KBw.walks hh s₁.heap.objs.size b t) ⟨_, Heap.get?_push_size _ rfl, rfl, rfl⟩ (fun i h st => by obtain ⟨o, e, _⟩ := st; exact ⟨o, e⟩) R ?_
  intro D C h tk m' ys news' F' N' o1 hn hC₀ hD₀ hCL hDL hCD offC fin
  refine ⟨m', hn, fun h'' hs'' => fin D h'' tk (F'.change hs'' hCL hC₀) (fun p hp => ?_) o1⟩
  refine ⟨hs''.extBut _ _ ?_ (N' p hp).1, (N' p hp).2⟩
  rcases List.mem_cons.mp hp with rfl | hp
  · exact Ne.symm hCD
  · exact offC p hp

def SrcS (prog : Program) (w : World) (A : Around) (h₀ : Heap) (L : Addr) (m : Str → Option Value) (env : Env) (elt : Expr) (x : Str) (scope : Scope) (cl : List (Str × Addr)) (Q : Value → Shared → Prop) (xv : Value) (s₁ : Shared) : Prop :=
  ∃ b t, xv = .str b t ∧ SrcW prog w A h₀ L m env elt x scope cl (fun s₂ => FinE h₀ L m s₂ Q) b.cps.size (SignAt b) s₁
theorem ListComp_S {elt iter : Expr} {x : Str} {px : Pos} {scope : Scope} {cl : List (Str × Addr)} {pos : Pos} {Q : Value → Shared → Prop} (F₀ : Fr h₀ L s.heap m)
    (hclos : closureFor scope env = pure cl) (hcell : ∀ y ∈ scope.names, y.2 ≠ .cell) (hkind : scope.kind = .function)
    (hnames : ∀ y ∈ scope.names, y.2 = .local → scope.names.lookup y.1 = some .local) (hx : scope.names.lookup x = some .local)
    (h : wpAny (model prog w) A (eval iter env) (SrcS prog w A h₀ L m env elt x scope cl Q) E s)
    (hs : ∀ x, foldedSetIterable iter env x = pure x := by intro _; rfl) :
    wpAny (model prog w) A (eval (.ListComp elt [⟨.Name x px, iter, [], 0⟩] scope pos) env) Q E s := by
  rw [eval_ListComp]
  refine wpAny_comprehension_free (use := none) rfl hs hclos hkind hnames (wpAny_mono h (fun xv s₁ h₁ => ?_) fun _ _ e => e)
  obtain ⟨b, t, rfl, R⟩ := h₁
  have hh := R.choose_spec.1
  cases ha : b.cps.all (· < 128)
  · refine wpAny_pyIter_wide ha (comp_block (o := { cls := .type "str_iterator", data := .fields #[.str b t, .int 0 0] }) hcell hkind hx (Walks.strWide hh _ b t) ⟨_, Heap.get?_push_size _ rfl, rfl, rfl⟩ (fun i h st => by obtain ⟨o, e, _⟩ := st; exact ⟨o, e⟩) R ?_)
    intro D C h tk m' ys news' F' N' o1 hn hC₀ hD₀ hCL hDL hCD offC fin
    refine ⟨m', hn, fun h'' hs'' => fin D h'' tk (F'.change hs'' hCL hC₀) (fun p hp => ?_) o1⟩
    refine ⟨hs''.extBut _ _ ?_ (N' p hp).1, (N' p hp).2⟩
    rcases List.mem_cons.mp hp with rfl | hp
    · exact Ne.symm hCD
    · exact offC p hp
  · refine wpAny_pyIter_ascii ha (comp_block (o := { cls := .type "str_ascii_iterator", data := .fields #[.str b t, .int 0 0] }) hcell hkind hx (Walks.strAscii hh _ b t) ⟨_, Heap.get?_push_size _ rfl, rfl, rfl⟩ (fun i h st => by obtain ⟨o, e, _⟩ := st; exact ⟨o, e⟩) R ?_)
    intro D C h tk m' ys news' F' N' o1 hn hC₀ hD₀ hCL hDL hCD offC fin
    refine ⟨m', hn, fun h'' hs'' => fin D h'' tk (F'.change hs'' hCL hC₀) (fun p hp => ?_) o1⟩
    refine ⟨hs''.extBut _ _ ?_ (N' p hp).1, (N' p hp).2⟩
    rcases List.mem_cons.mp hp with rfl | hp
    · exact Ne.symm hCD
    · exact offC p hp
end
end

open PySem PySem.W PyProof.Rows PySem.Calls PyProof.Rows.LCg
example : True := by ((k_with "units_room" => ((ktr_units))); (k_with "k_room" => ((ktr_room))); (k_with "k_all" => (first | assumption | exact fun q hq => Nat.ne_of_lt (ktn_ltOf (by assumption) q hq))); (k_with "exec While BoolOp cons nil" => ((k_here; k_extra "W"))); (k_with "exec While Compare cons nil" => ((k_here; k_extra "W"))); (k_with "call ref" => ((k_here; first | k_extra "C" | (k_extra "HOLD"; refine Hold.out ?_)))); (k_with "eval ListComp" => ((k_here; k_extra "L"))); (k_with "pyIter ref" => ((k_here; k_extra "F"))); (k_with "exec For Name Call cons nil" => ((k_here; k_extra "FOR"; (rename Fr _ _ _ _ => lF'); (with_unfolding_all refine' For_invVF lF' ?k1 ?k2 ?_; (case k1 => exact rfl); (case k2 => exact rfl); k_whole)))); (k_with "exec For Name Name cons nil" => ((k_here; k_extra "FOR"; (rename Fr _ _ _ _ => lF'); (with_unfolding_all refine' For_invVF lF' ?k1 ?k2 ?_; (case k1 => exact rfl); (case k2 => exact rfl); k_whole)))); (k_with "compareOp In int bytes" => ((k_here; refine in_bytes_K (by omega) (by omega) ?_))); (k_with "compareOp NotIn int bytes" => ((k_here; refine notin_bytes_K (by omega) (by omega) ?_))); (k_with "pyIter bytes" => ((k_here; k_extra "FB"))); (k_with "call type:bytes" => ((k_here; (with_reducible show wpAny _ _ (call (Value.type "bytes") [Value.bytes _ _]) _ _ _); refine call_bytes_bytes ?_))); (k_with "NE1" => (first | with_reducible assumption | exact And.right (by with_reducible assumption) | exact And.right (And.right (by with_reducible assumption)) | exact And.right (And.right (And.right (by with_reducible assumption))))); (k_with "NE2" => (first | with_reducible assumption | exact And.right (by with_reducible assumption) | exact And.right (And.right (by with_reducible assumption)) | exact And.right (And.right (And.right (by with_reducible assumption))) | exact And.right (And.right (And.right (And.right (by k_extra "NE1")))))); (k_with "NE3" => (first | with_reducible assumption | exact And.right (by with_reducible assumption) | exact And.right (And.right (by with_reducible assumption)) | exact And.right (And.right (And.right (by with_reducible assumption))) | exact And.right (And.right (And.right (And.right (by k_extra "NE2")))))); (k_with "kwd_less" => (first | with_reducible assumption | exact And.left (by k_extra "NE3") | exact And.right (by k_extra "NE3"))); (k_with "k_ne" => (((try dsimp only); first | with_reducible assumption | exact Ne.symm (by with_reducible assumption) | (refine ne_gt ?_; kwd_less) | (refine ne_lt ?_; kwd_less) | kwd_less | (refine Ne.symm ?_; kwd_less)))); (k_with "ktr_room" => (first | exact room_lt (by assumption) (by rfl) | exact room_same (by assumption) (by rfl))); (k_with "ktr_units" => (exact units_lt (by assumption) (by rfl))); (k_with "eval Constant bytes" => ((refine xs_bytes ?_))); (k_with "binaryOp Sub int int" => ((refine xs_sub ?_))); (k_with "binaryOp Mod int int" => ((k_here; refine xs_mod (by decide) ?_))); (k_with "newList" => ((k_here; k_dflt (refine' xs_list ?xlF ?xlN ?_; (case xlF => k_asm); (case xlN => k_asm); k_whole); intro _ _ _ _ xll; (try k_lt xll); (try k_sweep)))); (k_with "eval Constant int" => ((refine xs_int ?_))); (k_with "eval Constant str" => ((refine xs_str ?_))); (k_with "binaryOp Add int int" => ((refine xs_add ?_))); (k_with "storeName" => ((k_here; k_dflt (refine' xs_store ?xsF ?xsN ?_ ?xsa ?xsb; (case xsF => k_asm); (case xsN => k_asm); (case xsa => rfl); (case xsb => rfl); k_whole; intro _ _ _; (try k_sweep))))); (k_with "newTuple" => ((k_here; kup_bare; k_dflt (refine' xs_tuple ?xtF ?xtN ?_ ?xtz; (case xtF => k_asm); (case xtN => k_asm); (case xtz => kmk_size)); intro _ _ _ _ xtl; (try k_lt xtl); (try k_sweep)))); trivial)
section
example : True := by ((k_with_none; (k_with "units_room" => ((ktr_units))); (k_with "k_room" => ((ktr_room))); (k_with "k_all" => (first | assumption | exact fun q hq => Nat.ne_of_lt (ktn_ltOf (by assumption) q hq))); (k_with "exec While BoolOp cons nil" => ((k_here; k_extra "W"))); (k_with "exec While Compare cons nil" => ((k_here; k_extra "W"))); (k_with "call ref" => ((k_here; first | k_extra "C" | (k_extra "HOLD"; refine Hold.out ?_)))); (k_with "eval ListComp" => ((k_here; k_extra "L"))); (k_with "pyIter ref" => ((k_here; k_extra "F"))); (k_with "exec For Name Call cons nil" => ((k_here; k_extra "FOR"; (rename Fr _ _ _ _ => lF'); (with_unfolding_all refine' For_invVF lF' ?k1 ?k2 ?_; (case k1 => exact rfl); (case k2 => exact rfl); k_whole)))); (k_with "exec For Name Name cons nil" => ((k_here; k_extra "FOR"; (rename Fr _ _ _ _ => lF'); (with_unfolding_all refine' For_invVF lF' ?k1 ?k2 ?_; (case k1 => exact rfl); (case k2 => exact rfl); k_whole)))); (k_with "compareOp In int bytes" => ((k_here; refine in_bytes_K (by omega) (by omega) ?_))); (k_with "compareOp NotIn int bytes" => ((k_here; refine notin_bytes_K (by omega) (by omega) ?_))); (k_with "pyIter bytes" => ((k_here; k_extra "FB"))); (k_with "call type:bytes" => ((k_here; (with_reducible show wpAny _ _ (call (Value.type "bytes") [Value.bytes _ _]) _ _ _); refine call_bytes_bytes ?_))); (k_with "NE1" => (first | with_reducible assumption | exact And.right (by with_reducible assumption) | exact And.right (And.right (by with_reducible assumption)) | exact And.right (And.right (And.right (by with_reducible assumption))))); (k_with "NE2" => (first | with_reducible assumption | exact And.right (by with_reducible assumption) | exact And.right (And.right (by with_reducible assumption)) | exact And.right (And.right (And.right (by with_reducible assumption))) | exact And.right (And.right (And.right (And.right (by k_extra "NE1")))))); (k_with "NE3" => (first | with_reducible assumption | exact And.right (by with_reducible assumption) | exact And.right (And.right (by with_reducible assumption)) | exact And.right (And.right (And.right (by with_reducible assumption))) | exact And.right (And.right (And.right (And.right (by k_extra "NE2")))))); (k_with "kwd_less" => (first | with_reducible assumption | exact And.left (by k_extra "NE3") | exact And.right (by k_extra "NE3"))); (k_with "k_ne" => (((try dsimp only); first | with_reducible assumption | exact Ne.symm (by with_reducible assumption) | (refine ne_gt ?_; kwd_less) | (refine ne_lt ?_; kwd_less) | kwd_less | (refine Ne.symm ?_; kwd_less)))); (k_with "ktr_room" => (first | exact room_lt (by assumption) (by rfl) | exact room_same (by assumption) (by rfl))); (k_with "ktr_units" => (exact units_lt (by assumption) (by rfl))); (k_with "eval Constant bytes" => ((refine xs_bytes ?_))); (k_with "binaryOp Sub int int" => ((refine xs_sub ?_))); (k_with "binaryOp Mod int int" => ((k_here; refine xs_mod (by decide) ?_))); (k_with "newList" => ((k_here; k_dflt (refine' xs_list ?xlF ?xlN ?_; (case xlF => k_asm); (case xlN => k_asm); k_whole); intro _ _ _ _ xll; (try k_lt xll); (try k_sweep)))); (k_with "eval Constant int" => ((refine xs_int ?_))); (k_with "eval Constant str" => ((refine xs_str ?_))); (k_with "binaryOp Add int int" => ((refine xs_add ?_))); (k_with "storeName" => ((k_here; k_dflt (refine' xs_store ?xsF ?xsN ?_ ?xsa ?xsb; (case xsF => k_asm); (case xsN => k_asm); (case xsa => rfl); (case xsb => rfl); k_whole; intro _ _ _; (try k_sweep))))); (k_with "newTuple" => ((k_here; kup_bare; k_dflt (refine' xs_tuple ?xtF ?xtN ?_ ?xtz; (case xtF => k_asm); (case xtN => k_asm); (case xtz => kmk_size)); intro _ _ _ _ xtl; (try k_lt xtl); (try k_sweep))))); trivial)
open PySem PySem.W PyProof.Rows PySem.Calls
theorem pop0_K {prog : Program} {w : World} {A : Around} {E : Value → Shared → Prop} {s : Shared} {h₀ : Heap} {L D : Addr} {m : Str → Option Value} {news news' : Led} {n : Nat} {u : Tok} {y : Value} {q : List Value} {Q : Value → Shared → Prop}
    (F : Fr h₀ L s.heap m) (N : News h₀ L s.heap news) (U : Upd D (W.listOf (y :: q).toArray n) (W.listOf q.toArray (n + 1)) news news') (hz : q.length < 1000)
    (h : ∀ h', Fr h₀ L h' m → News h₀ L h' news' → Q y { s with heap := h' }) : wpAny (model prog w) A (call (.builtin "list.pop") [.ref D, .int 0 u]) Q E s := by
  refine kl_popAt (its := (y :: q).toArray) (k := 0) (p := []) (q := q) F N rfl ?_ rfl U ?_ h
  · simp [seqIndex?]
  · simp [sizeLine_eq]; omega
example : True := by ((k_with "call builtin:list.pop" => ((k_here; (with_reducible show wpAny _ _ (call (Value.builtin _) [Value.ref _, Value.int _ _]) _ _ _); k_dflt (refine' pop0_K ?F ?N ?U ?z ?_; (case F => k_asm); (case N => k_asm); (case U => k_upd); (case z => (simp only [List.length_cons] at *; omega))); (intro h' F' N'; (try dsimp only [List.nil_append, List.cons_append] at N'))))); trivial)

theorem take_con (w : World) (B l : Nat) (many : Int) (tm t0 : Tok) (hm : 0 < many ∧ many ≤ 10) (c0 c1 : Nat) (us : List Value) (ns : List Int) (k : Int) (rest : Led)
   (hi : IntsAre us ns) (hlen : us.length ≤ 63) (hBl : B ≠ l) (h1 : ∀ q ∈ rest, q.1 ≠ B) (h2 : ∀ q ∈ rest, q.1 ≠ l) :
   Con w 1 708 [.ref B, .int many tm] ((B, W.listOf [.ref l, .int k t0].toArray c0) :: (l, W.listOf us.toArray c1) :: rest)
    (fun v n' => ∃ j t, v = .int j t ∧ 0 ≤ j ∧ j < many ∧ ∃ us' ns' k' t' d0 d1, n' = (B, W.listOf [.ref l, .int k' t'].toArray d0) :: (l, W.listOf us'.toArray d1) :: rest ∧ IntsAre us' ns' ∧ us'.length ≤ 63) := by
  refine Con.mk5 ?_
  k_fill
  intro dp un gd cn cs a ccd cl outer A₀ base h₀ L m hp0 gn0 dr0 tk0 os0 mean mg mb Q E B' F X N T hcs hdp hun hret
  refine wpAny_call ?_
  have hm1 := hm.1
  have hm2 := hm.2
  cases hi with
  | nil =>
    k_dflt ktr_enter
    k_steps
    · exact hret _ _ _ _ ⟨_, _, rfl, fmod_lo _ (by omega), fmod_hi _ (by omega), _, _, _, _, _, _, rfl, .nil, by simp⟩ (by assumption) (fun p hp => (by assumption : News h₀ L _ _) p (List.mem_cons_of_mem _ hp))
  | cons n t hi =>
    k_dflt ktr_enter
    k_steps
    · exact absurd (by assumption : decide (_ = []) = true) (by simp)
    · simp only [List.length_cons] at hlen
      exact hret _ _ _ _ ⟨_, _, rfl, fmod_lo _ (by omega), fmod_hi _ (by omega), _, _, _, _, _, _, rfl, hi, by omega⟩ (by assumption) (fun p hp => (by assumption : News h₀ L _ _) p (List.mem_cons_of_mem _ hp))
end

section
example : True := by ((k_with_none; (k_with "units_room" => ((ktr_units))); (k_with "k_room" => ((ktr_room))); (k_with "k_all" => (first | assumption | exact fun q hq => Nat.ne_of_lt (ktn_ltOf (by assumption) q hq))); (k_with "exec While BoolOp cons nil" => ((k_here; k_extra "W"))); (k_with "exec While Compare cons nil" => ((k_here; k_extra "W"))); (k_with "call ref" => ((k_here; first | k_extra "C" | (k_extra "HOLD"; refine Hold.out ?_)))); (k_with "eval ListComp" => ((k_here; k_extra "L"))); (k_with "pyIter ref" => ((k_here; k_extra "F"))); (k_with "exec For Name Call cons nil" => ((k_here; k_extra "FOR"; (rename Fr _ _ _ _ => lF'); (with_unfolding_all refine' For_invVF lF' ?k1 ?k2 ?_; (case k1 => exact rfl); (case k2 => exact rfl); k_whole)))); (k_with "exec For Name Name cons nil" => ((k_here; k_extra "FOR"; (rename Fr _ _ _ _ => lF'); (with_unfolding_all refine' For_invVF lF' ?k1 ?k2 ?_; (case k1 => exact rfl); (case k2 => exact rfl); k_whole)))); (k_with "compareOp In int bytes" => ((k_here; refine in_bytes_K (by omega) (by omega) ?_))); (k_with "compareOp NotIn int bytes" => ((k_here; refine notin_bytes_K (by omega) (by omega) ?_))); (k_with "pyIter bytes" => ((k_here; k_extra "FB"))); (k_with "call type:bytes" => ((k_here; (with_reducible show wpAny _ _ (call (Value.type "bytes") [Value.bytes _ _]) _ _ _); refine call_bytes_bytes ?_))); (k_with "NE1" => (first | with_reducible assumption | exact And.right (by with_reducible assumption) | exact And.right (And.right (by with_reducible assumption)) | exact And.right (And.right (And.right (by with_reducible assumption))))); (k_with "NE2" => (first | with_reducible assumption | exact And.right (by with_reducible assumption) | exact And.right (And.right (by with_reducible assumption)) | exact And.right (And.right (And.right (by with_reducible assumption))) | exact And.right (And.right (And.right (And.right (by k_extra "NE1")))))); (k_with "NE3" => (first | with_reducible assumption | exact And.right (by with_reducible assumption) | exact And.right (And.right (by with_reducible assumption)) | exact And.right (And.right (And.right (by with_reducible assumption))) | exact And.right (And.right (And.right (And.right (by k_extra "NE2")))))); (k_with "kwd_less" => (first | with_reducible assumption | exact And.left (by k_extra "NE3") | exact And.right (by k_extra "NE3"))); (k_with "k_ne" => (((try dsimp only); first | with_reducible assumption | exact Ne.symm (by with_reducible assumption) | (refine ne_gt ?_; kwd_less) | (refine ne_lt ?_; kwd_less) | kwd_less | (refine Ne.symm ?_; kwd_less)))); (k_with "ktr_room" => (first | exact room_lt (by assumption) (by rfl) | exact room_same (by assumption) (by rfl))); (k_with "ktr_units" => (exact units_lt (by assumption) (by rfl))); (k_with "eval Constant bytes" => ((refine xs_bytes ?_))); (k_with "binaryOp Sub int int" => ((refine xs_sub ?_))); (k_with "binaryOp Mod int int" => ((k_here; refine xs_mod (by decide) ?_))); (k_with "newList" => ((k_here; k_dflt (refine' xs_list ?xlF ?xlN ?_; (case xlF => k_asm); (case xlN => k_asm); k_whole); intro _ _ _ _ xll; (try k_lt xll); (try k_sweep)))); (k_with "eval Constant int" => ((refine xs_int ?_))); (k_with "eval Constant str" => ((refine xs_str ?_))); (k_with "binaryOp Add int int" => ((refine xs_add ?_))); (k_with "storeName" => ((k_here; k_dflt (refine' xs_store ?xsF ?xsN ?_ ?xsa ?xsb; (case xsF => k_asm); (case xsN => k_asm); (case xsa => rfl); (case xsb => rfl); k_whole; intro _ _ _; (try k_sweep))))); (k_with "newTuple" => ((k_here; kup_bare; k_dflt (refine' xs_tuple ?xtF ?xtN ?_ ?xtz; (case xtF => k_asm); (case xtN => k_asm); (case xtz => kmk_size)); intro _ _ _ _ xtl; (try k_lt xtl); (try k_sweep))))); trivial)
open PySem PySem.W PyProof.Rows PySem.Calls
section
variable (w : World) (x d : Nat) (b : Array UInt8) (td kd ka ta : Tok) (i : Nat) (ks : List Int) (hk : KBw.bInts b = ks) (hlen : ks.length ≤ 4000) (hxd : x ≠ d)
include hk hlen hxd
set_option linter.unusedSectionVars false

theorem peek_con (news : Led) (h1 : i < ks.length) (hx : (x, wireObj d) ∈ news) (hd : (d, wireDict w b td ta kd ka (i : Int)) ∈ news) :
    Con w 1 530 [.ref x] news (fun v n' => n' = news ∧ ∃ t, v = .int (ks.getD i 0) t) := by
  refine Con.mk5 ?_
  k_fill
  intro dp un gd cn cs a ccd cl outer A₀ base h₀ L m hp0 gn0 dr0 tk0 os0 mean mg mb Q E B F X N T hcs hdp hun hret
  refine wpAny_call ?_
  k_dflt ktr_enter
  k_steps
  all_goals exact hret _ _ _ _ ⟨rfl, _, rfl⟩ (by assumption) (by assumption)

theorem skip_t (o : Array UInt8) (to : Tok) (os : List Int) (ho : KBw.bInts o = os) (h1 : i + os.length ≤ ks.length) (hs : (ks.drop i).take os.length = os) :
    WCon w 1 537 [.ref x, .bytes o to] x d b td kd ka ta i (i + os.length) (fun v => v = .bool true) := by
  unfold WCon
  intro rest hoff
  refine Con.mk5 ?_
  k_fill
  intro dp un gd cn cs a ccd cl outer A₀ base h₀ L m hp0 gn0 dr0 tk0 os0 mean mg mb Q E B F X N T hcs hdp hun hret
  refine wpAny_call ?_
  k_dflt ktr_enter
  k_steps
  · exfalso
    have hne := (by assumption : ((KBy.picked b (some (i:Int)) (some ((i:Int) + (os.length : Int)))).toList != o.toList) = true)
    have e := ne_bytes (picked_at hk (i := i) (j := i + os.length) (by omega) h1) ho
    rw [show i + os.length - i = os.length by omega, hs] at e
    have e2 : ((i : Int) + (os.length : Int)) = ((i + os.length : Nat) : Int) := by omega
    rw [e2, e] at hne
    simp at hne
  · exact hret _ _ _ _ ⟨⟨_, rfl⟩, rfl⟩ (by assumption) (by assumption)

theorem skip_f (o : Array UInt8) (to : Tok) (os : List Int) (ho : KBw.bInts o = os) (h1 : i + os.length ≤ ks.length) (hs : (ks.drop i).take os.length ≠ os) :
    WCon w 1 537 [.ref x, .bytes o to] x d b td kd ka ta i i (fun v => v = .bool false) := by
  unfold WCon
  intro rest hoff
  refine Con.mk5 ?_
  k_fill
  intro dp un gd cn cs a ccd cl outer A₀ base h₀ L m hp0 gn0 dr0 tk0 os0 mean mg mb Q E B F X N T hcs hdp hun hret
  refine wpAny_call ?_
  k_dflt ktr_enter
  k_steps
  · exact hret _ _ _ _ ⟨⟨_, rfl⟩, rfl⟩ (by assumption) (by assumption)
  · exfalso
    have hne := (by assumption : ((KBy.picked b (some (i:Int)) (some ((i:Int) + (os.length : Int)))).toList != o.toList) = false)
    have e := ne_bytes (picked_at hk (i := i) (j := i + os.length) (by omega) h1) ho
    rw [show i + os.length - i = os.length by omega] at e
    have e2 : ((i : Int) + (os.length : Int)) = ((i + os.length : Nat) : Int) := by omega
    rw [e2, e] at hne
    simp [hs] at hne

example : True := by ((k_with "call ref" => ((k_here; (with_reducible show wpAny _ _ (call (Value.ref 537) _) _ _ _); k_dflt (refine' WCon.use5 (skip_t w x d b td kd ka ta i ks hk hlen hxd _ _ [32] (KBw.ints_list _) (by omega) (by assumption)) ?hx ?U ?B ?F ?X ?N ?T ?hk ?hd ?hu ?_; (first | (((case N => k_asm); (case hx => k_mem); (case U => (intro _; k_upd)); (case B => k_asm); (case F => k_asm); (case X => k_asm); (case T => k_asm); (case hk => first | exact rfl | assumption); (case hd => ktr_room); (case hu => ktr_units))) | tb_rel)); intro v9 ta9 h9 tk9 hP9 F9 N9; (try subst hP9); (try dsimp only)))); trivial)
theorem space_con (h1 : i + 1 ≤ ks.length) (hs : (ks.drop i).take 1 = [32]) :
    WCon w 3 551 [.ref x] x d b td kd ka ta i (i + 1) (fun v => v = .none) := by
  unfold WCon
  intro rest hoff
  refine Con.mk5 ?_
  k_fill
  intro dp un gd cn cs a ccd cl outer A₀ base h₀ L m hp0 gn0 dr0 tk0 os0 mean mg mb Q E B F X N T hcs hdp hun hret
  refine wpAny_call ?_
  k_dflt ktr_enter
  k_steps
  · exact hret _ _ _ _ ⟨⟨_, rfl⟩, rfl⟩ (by assumption) (by assumption)
end
end

section
open PySem PySem.W PyProof.Rows PySem.Calls
example : True := by ((k_with "call ref" => ((k_here; k_extra "C"))); trivial)

section
variable (w : World) (x d : Nat) (b : Array UInt8) (td kd ka ta : Tok) (i : Nat) (ks : List Int) (hk : KBw.bInts b = ks) (hlen : ks.length ≤ 4000) (hxd : x ≠ d)
include hk hlen hxd
set_option linter.unusedSectionVars false

example : True := by ((k_with "callWith ref" => ((k_here; k_dflt (refine' callWith_K ?k1 ?k2 ?_; (case k1 => k_asm); (case k2 => assumption); k_whole)))); trivial)
theorem run_con (rf : Nat) (f : Addr) (hkeep : keepIn (pre.heap_1 w.params) (.ref f) = true) (p : Int → Bool) (hfits : ∀ (k : Int) (t : Tok) (news : Led), 0 ≤ k → k < 256 → Con w rf f [.int k t] news (fun v n' => n' = news ∧ v = .bool (p k)))
    (J : Nat) (hiJ : i ≤ J) (hJ : J < ks.length) (hp : ∀ n, i ≤ n → n < J → p (ks.getD n 0) = true) (hq : p (ks.getD J 0) = false) :
    WCon w (rf + 1) 565 [.ref x, .ref f] x d b td kd ka ta i J (fun v => ∃ t, v = .bytes (KBy.picked b (some (i : Int)) (some (J : Int))) t) := by
  unfold WCon
  intro rest hoff
  refine Con.mk5 ?_
  k_fill
  (k_with_none; (k_with "units_room" => ((ktr_units))); (k_with "k_room" => ((ktr_room))); (k_with "k_all" => (first | assumption | exact fun q hq => Nat.ne_of_lt (ktn_ltOf (by assumption) q hq))); (k_with "exec While BoolOp cons nil" => ((k_here; k_extra "W"))); (k_with "exec While Compare cons nil" => ((k_here; k_extra "W"))); (k_with "call ref" => ((k_here; first | k_extra "C" | (k_extra "HOLD"; refine Hold.out ?_)))); (k_with "eval ListComp" => ((k_here; k_extra "L"))); (k_with "pyIter ref" => ((k_here; k_extra "F"))); (k_with "exec For Name Call cons nil" => ((k_here; k_extra "FOR"; (rename Fr _ _ _ _ => lF'); (with_unfolding_all refine' For_invVF lF' ?k1 ?k2 ?_; (case k1 => exact rfl); (case k2 => exact rfl); k_whole)))); (k_with "exec For Name Name cons nil" => ((k_here; k_extra "FOR"; (rename Fr _ _ _ _ => lF'); (with_unfolding_all refine' For_invVF lF' ?k1 ?k2 ?_; (case k1 => exact rfl); (case k2 => exact rfl); k_whole)))); (k_with "compareOp In int bytes" => ((k_here; refine in_bytes_K (by omega) (by omega) ?_))); (k_with "compareOp NotIn int bytes" => ((k_here; refine notin_bytes_K (by omega) (by omega) ?_))); (k_with "pyIter bytes" => ((k_here; k_extra "FB"))); (k_with "call type:bytes" => ((k_here; (with_reducible show wpAny _ _ (call (Value.type "bytes") [Value.bytes _ _]) _ _ _); refine call_bytes_bytes ?_))); (k_with "NE1" => (first | with_reducible assumption | exact And.right (by with_reducible assumption) | exact And.right (And.right (by with_reducible assumption)) | exact And.right (And.right (And.right (by with_reducible assumption))))); (k_with "NE2" => (first | with_reducible assumption | exact And.right (by with_reducible assumption) | exact And.right (And.right (by with_reducible assumption)) | exact And.right (And.right (And.right (by with_reducible assumption))) | exact And.right (And.right (And.right (And.right (by k_extra "NE1")))))); (k_with "NE3" => (first | with_reducible assumption | exact And.right (by with_reducible assumption) | exact And.right (And.right (by with_reducible assumption)) | exact And.right (And.right (And.right (by with_reducible assumption))) | exact And.right (And.right (And.right (And.right (by k_extra "NE2")))))); (k_with "kwd_less" => (first | with_reducible assumption | exact And.left (by k_extra "NE3") | exact And.right (by k_extra "NE3"))); (k_with "k_ne" => (((try dsimp only); first | with_reducible assumption | exact Ne.symm (by with_reducible assumption) | (refine ne_gt ?_; kwd_less) | (refine ne_lt ?_; kwd_less) | kwd_less | (refine Ne.symm ?_; kwd_less)))); (k_with "ktr_room" => (first | exact room_lt (by assumption) (by rfl) | exact room_same (by assumption) (by rfl))); (k_with "ktr_units" => (exact units_lt (by assumption) (by rfl))); (k_with "eval Constant bytes" => ((refine xs_bytes ?_))); (k_with "binaryOp Sub int int" => ((refine xs_sub ?_))); (k_with "binaryOp Mod int int" => ((k_here; refine xs_mod (by decide) ?_))); (k_with "newList" => ((k_here; k_dflt (refine' xs_list ?xlF ?xlN ?_; (case xlF => k_asm); (case xlN => k_asm); k_whole); intro _ _ _ _ xll; (try k_lt xll); (try k_sweep)))); (k_with "eval Constant int" => ((refine xs_int ?_))); (k_with "eval Constant str" => ((refine xs_str ?_))); (k_with "binaryOp Add int int" => ((refine xs_add ?_))); (k_with "storeName" => ((k_here; k_dflt (refine' xs_store ?xsF ?xsN ?_ ?xsa ?xsb; (case xsF => k_asm); (case xsN => k_asm); (case xsa => rfl); (case xsb => rfl); k_whole; intro _ _ _; (try k_sweep))))); (k_with "newTuple" => ((k_here; kup_bare; k_dflt (refine' xs_tuple ?xtF ?xtN ?_ ?xtz; (case xtF => k_asm); (case xtN => k_asm); (case xtz => kmk_size)); intro _ _ _ _ xtl; (try k_lt xtl); (try k_sweep)))); (k_with "call ref" => ((k_here; k_extra "C"))); (k_with "callWith ref" => ((k_here; k_dflt (refine' callWith_K ?k1 ?k2 ?_; (case k1 => k_asm); (case k2 => assumption); k_whole)))))
  intro dp un gd cn cs a ccd cl outer A₀ base h₀ L m hp0 gn0 dr0 tk0 os0 mean mg mb Q E B F X N T hcs hdp hun hret
  refine wpAny_call ?_
  k_dflt ktr_enter
  k_with "W" => (with_reducible rename Fr _ _ _ _ => wF; with_reducible rename News _ _ _ _ => wN; refine' ksw_while (σ := Nat × Tok) (fun c => wire w x d b td kd ka c.2 c.1 rest) (fun _ => []) (fun _ => True) [] (fun c => i ≤ c.1 ∧ c.1 ≤ J) (fun c => J - c.1) (i, ta) wF wN trivial (by simp) ⟨Nat.le_refl _, hiJ⟩ ?turn; clear wF wN; intro c9 u9 h9 tk9 hf9 hp9 F9 N9; obtain ⟨c9, tc9⟩ := c9; dsimp only at hp9 N9; have hlo9 := hp9.1; have hhi9 := hp9.2; have hin9 : c9 < ks.length := Nat.lt_of_le_of_lt hhi9 hJ)
  k_with "C" => (refine' Con.use5 (hfits _ _ _ (by assumption) (by assumption)) ?B ?F ?X ?N ?T ?hk ?hd ?hu ?_; (first | (((case N => k_asm); (case B => k_asm); (case F => k_asm); (case X => k_asm); (case T => k_asm); (case hk => first | exact rfl | assumption); (case hd => ktr_room); (case hu => ktr_units))) | tb_start); intro v9 h9 tk9 hP9 F9 N9; subst hP9; try dsimp only)
  k_steps
  · have hpk := (by assumption : p (ks.getD ((c9 : Int)).toNat 0) = true)
    rw [Int.toNat_natCast] at hpk
    have hlt : c9 < J := by
      rcases Nat.lt_or_ge c9 J with h | h
      · exact h
      · have : c9 = J := by omega
        subst this; rw [hq] at hpk; cases hpk
    exact ksw_end (c9 + 1, _) (by assumption) (by assumption) (fun p hp => hp) trivial (by simp) (by ksw_same) ⟨by omega, by omega⟩ (by dsimp only; omega)
  · have hpk := (by assumption : p (ks.getD ((c9 : Int)).toNat 0) = false)
    rw [Int.toNat_natCast] at hpk
    have he : c9 = J := by
      rcases Nat.lt_or_ge c9 J with h | h
      · rw [hp c9 hlo9 h] at hpk; cases hpk
      · omega
    subst he
    exact hret _ _ _ _ ⟨⟨_, rfl⟩, _, rfl⟩ (by assumption) (by assumption)
end
end

section

example : True := by ((k_with "call builtin:str.join" => ((k_here; k_extra "J"))); (k_with "call ref" => ((k_here; k_extra "C"))); trivial)

def lowerC (c : Nat) : Nat := if 65 ≤ c ∧ c ≤ 90 then c + 32 else c
def lowerT (x : Str) : Str := ⟨x.cps.map lowerC⟩
theorem join_singles (f : Nat → Nat) : ∀ l : List Nat, Txt.join (Str.ofString "") (l.map fun c => (⟨#[f c]⟩ : Str)) = ⟨(l.map f).toArray⟩ := by
  intro l
  have key : ∀ l : List Nat, (Str.join (Str.ofString "") (l.map fun c => (⟨#[f c]⟩ : Str))).cps.toList = l.map f := by
    intro l
    induction l with
    | nil => rfl
    | cons c r ih =>
      cases r with
      | nil => rfl
      | cons e r =>
        have e2 : Str.join (Str.ofString "") ((c :: e :: r).map fun c => (⟨#[f c]⟩ : Str)) = (⟨#[f c]⟩ : Str) ++ Str.ofString "" ++ Str.join (Str.ofString "") ((e :: r).map fun c => (⟨#[f c]⟩ : Str)) := rfl
        rw [e2, PySem.W.KT.app_list, PySem.W.KT.app_list, ih]
        rfl
  show Builtin.Str.glued _ _ = _
  rw [StrLaws.glued_eq_join]
  have k := key l
  cases h : Str.join (Str.ofString "") (l.map fun c => (⟨#[f c]⟩ : Str)) with
  | mk a => rw [h] at k; dsimp only at k; rw [← k]
theorem singles_len (f : Nat → Nat) (l : List Nat) : ((l.map fun c => (⟨#[f c]⟩ : Str)).map (·.length)).sum = l.length := by
  induction l with
  | nil => rfl
  | cons c r ih => rw [List.map_cons, List.map_cons, List.sum_cons, ih, List.length_cons]; show 1 + _ = _; omega
theorem strs_step {f : Nat → Nat} {ys : List Value} {l : List Nat} {i c : Nat} {z : Str} {t : Tok} (hS : StrsAre ys ((l.take i).map fun c => (⟨#[f c]⟩ : Str))) (hc : l[i]? = some c) (hz : z = ⟨#[f c]⟩) :
    StrsAre (ys ++ [.str z t]) ((l.take (i + 1)).map fun c => (⟨#[f c]⟩ : Str)) := by
  subst hz
  rw [List.take_add_one, hc]
  simp only [Option.toList, List.map_append, List.map_cons, List.map_nil]
  exact KStt.strs_snoc hS
theorem lower_text_con (w : World) (x : Str) (t0 : Tok) (hx : x.cps.size ≤ 100) (ha : ∀ c ∈ x.cps.toList, c < 128) (news : Led) : Con w 5 159 [.str x t0] news (fun v n' => n' = news ∧ ∃ t, v = .str (lowerT x) t) := by
  refine Con.mk5 ?_
  k_fill
  (k_with_none; (k_with "units_room" => ((ktr_units))); (k_with "k_room" => ((ktr_room))); (k_with "k_all" => (first | assumption | exact fun q hq => Nat.ne_of_lt (ktn_ltOf (by assumption) q hq))); (k_with "exec While BoolOp cons nil" => ((k_here; k_extra "W"))); (k_with "exec While Compare cons nil" => ((k_here; k_extra "W"))); (k_with "call ref" => ((k_here; first | k_extra "C" | (k_extra "HOLD"; refine Hold.out ?_)))); (k_with "eval ListComp" => ((k_here; k_extra "L"))); (k_with "pyIter ref" => ((k_here; k_extra "F"))); (k_with "exec For Name Call cons nil" => ((k_here; k_extra "FOR"; (rename Fr _ _ _ _ => lF'); (with_unfolding_all refine' For_invVF lF' ?k1 ?k2 ?_; (case k1 => exact rfl); (case k2 => exact rfl); k_whole)))); (k_with "exec For Name Name cons nil" => ((k_here; k_extra "FOR"; (rename Fr _ _ _ _ => lF'); (with_unfolding_all refine' For_invVF lF' ?k1 ?k2 ?_; (case k1 => exact rfl); (case k2 => exact rfl); k_whole)))); (k_with "compareOp In int bytes" => ((k_here; refine in_bytes_K (by omega) (by omega) ?_))); (k_with "compareOp NotIn int bytes" => ((k_here; refine notin_bytes_K (by omega) (by omega) ?_))); (k_with "pyIter bytes" => ((k_here; k_extra "FB"))); (k_with "call type:bytes" => ((k_here; (with_reducible show wpAny _ _ (call (Value.type "bytes") [Value.bytes _ _]) _ _ _); refine call_bytes_bytes ?_))); (k_with "NE1" => (first | with_reducible assumption | exact And.right (by with_reducible assumption) | exact And.right (And.right (by with_reducible assumption)) | exact And.right (And.right (And.right (by with_reducible assumption))))); (k_with "NE2" => (first | with_reducible assumption | exact And.right (by with_reducible assumption) | exact And.right (And.right (by with_reducible assumption)) | exact And.right (And.right (And.right (by with_reducible assumption))) | exact And.right (And.right (And.right (And.right (by k_extra "NE1")))))); (k_with "NE3" => (first | with_reducible assumption | exact And.right (by with_reducible assumption) | exact And.right (And.right (by with_reducible assumption)) | exact And.right (And.right (And.right (by with_reducible assumption))) | exact And.right (And.right (And.right (And.right (by k_extra "NE2")))))); (k_with "kwd_less" => (first | with_reducible assumption | exact And.left (by k_extra "NE3") | exact And.right (by k_extra "NE3"))); (k_with "k_ne" => (((try dsimp only); first | with_reducible assumption | exact Ne.symm (by with_reducible assumption) | (refine ne_gt ?_; kwd_less) | (refine ne_lt ?_; kwd_less) | kwd_less | (refine Ne.symm ?_; kwd_less)))); (k_with "ktr_room" => (first | exact room_lt (by assumption) (by rfl) | exact room_same (by assumption) (by rfl))); (k_with "ktr_units" => (exact units_lt (by assumption) (by rfl))); (k_with "eval Constant bytes" => ((refine xs_bytes ?_))); (k_with "binaryOp Sub int int" => ((refine xs_sub ?_))); (k_with "binaryOp Mod int int" => ((k_here; refine xs_mod (by decide) ?_))); (k_with "newList" => ((k_here; k_dflt (refine' xs_list ?xlF ?xlN ?_; (case xlF => k_asm); (case xlN => k_asm); k_whole); intro _ _ _ _ xll; (try k_lt xll); (try k_sweep)))); (k_with "eval Constant int" => ((refine xs_int ?_))); (k_with "eval Constant str" => ((refine xs_str ?_))); (k_with "binaryOp Add int int" => ((refine xs_add ?_))); (k_with "storeName" => ((k_here; k_dflt (refine' xs_store ?xsF ?xsN ?_ ?xsa ?xsb; (case xsF => k_asm); (case xsN => k_asm); (case xsa => rfl); (case xsb => rfl); k_whole; intro _ _ _; (try k_sweep))))); (k_with "newTuple" => ((k_here; kup_bare; k_dflt (refine' xs_tuple ?xtF ?xtN ?_ ?xtz; (case xtF => k_asm); (case xtN => k_asm); (case xtz => kmk_size)); intro _ _ _ _ xtl; (try k_lt xtl); (try k_sweep)))); (k_with "call builtin:str.join" => ((k_here; k_extra "J"))); (k_with "call ref" => ((k_here; k_extra "C"))))
  intro dp un gd cn cs a ccd cl outer A₀ base h₀ L m hp0 gn0 dr0 tk0 os0 mean mg mb Q E B F X N T hcs hdp hun hret
  refine wpAny_call ?_
  k_dflt ktr_enter
  k_with "L" => (k_dflt (refine' ListComp_S (by k_asm) (by with_unfolding_all rfl) (by decide) (by rfl) (by decide) (by rfl) ?_))
  k_steps
  refine ⟨_, _, rfl, news, rfl, by assumption, by assumption, by rw [sizeLine_eq]; omega, fun g => comp_inv x.cps.size (fun i ys nw => nw = news ∧ StrsAre ys ((x.cps.toList.take i).map fun c => (⟨#[lowerC c]⟩ : Str))) ?step ?fin _ _ _ _ (by omega) ⟨rfl, .nil⟩⟩
  case step =>
    intro i ys nw hi hJ v I oI C oC D m₂ h tk E' hP hn hxv F N off ne
    obtain ⟨rfl, hS⟩ := hJ
    obtain ⟨c, u, hc, rfl⟩ := hP
    have hc128 : c < 128 := ha c (by rw [← Array.getElem?_toList] at hc; exact List.mem_of_getElem? hc)
    rw [← Array.getElem?_toList] at hc
    k_steps
    all_goals refine CompEnd.intro (by assumption) (by assumption) nw (fun p hp => hp) off trivial ⟨rfl, strs_step hS hc ?_⟩
    · have e : lowerC c = ((c : Int) + 32).toNat := by unfold lowerC; rw [if_pos (by omega)]; omega
      rw [e]
    · have e : lowerC c = (c : Int).toNat := by unfold lowerC; rw [if_neg (by omega)]; omega
      rw [e]
    · have e : lowerC c = (c : Int).toNat := by unfold lowerC; rw [if_neg (by omega)]; omega
      rw [e]
  case fin =>
    intro ys nw hJ D h tk F N off
    obtain ⟨rfl, hS⟩ := hJ
    dsimp only
    have hlen : x.cps.toList.length ≤ 100 := hx
    rw [show x.cps.size = x.cps.toList.length from rfl, List.take_length] at hS
    k_steps
    refine join_list (ys := x.cps.toList.map fun c => (⟨#[lowerC c]⟩ : Str)) (News.isList (by k_asm) (List.Mem.head _)) hS (by rw [singles_len, List.length_map]; show _ + _ * 0 ≤ _; omega) ?_
    intro t9 k9
    rw [join_singles]
    have eT : (⟨(List.map lowerC x.cps.toList).toArray⟩ : Str) = lowerT x := by unfold lowerT; congr 1; apply Array.ext'; simp
    rw [eT]
    k_steps
    · exact hret _ _ _ _ ⟨rfl, _, rfl⟩ (by assumption) (fun p hp => (by assumption : News h₀ L _ _) p (List.mem_cons_of_mem _ hp))
end

section

example : True := by ((k_with "call builtin:str.join" => ((k_here; k_extra "J"))); (k_with "call ref" => ((k_here; k_extra "C"))); trivial)

def upperC (c : Nat) : Nat := if 97 ≤ c ∧ c ≤ 122 then c - 32 else c
def upperT (x : Str) : Str := ⟨x.cps.map upperC⟩
theorem lt_single {c d : Nat} : ([c] : List Nat) < [d] ↔ c < d := by
  rw [List.cons_lt_cons_iff]
  constructor
  · rintro (h | ⟨_, h⟩)
    · exact h
    · exact absurd h (by decide)
  · exact Or.inl
theorem upper_text_con (w : World) (x : Str) (t0 : Tok) (hx : x.cps.size ≤ 100) (ha : ∀ c ∈ x.cps.toList, c < 128) (news : Led) : Con w 5 164 [.str x t0] news (fun v n' => n' = news ∧ ∃ t, v = .str (upperT x) t) := by
  refine Con.mk5 ?_
  k_fill
  (k_with_none; (k_with "units_room" => ((ktr_units))); (k_with "k_room" => ((ktr_room))); (k_with "k_all" => (first | assumption | exact fun q hq => Nat.ne_of_lt (ktn_ltOf (by assumption) q hq))); (k_with "exec While BoolOp cons nil" => ((k_here; k_extra "W"))); (k_with "exec While Compare cons nil" => ((k_here; k_extra "W"))); (k_with "call ref" => ((k_here; first | k_extra "C" | (k_extra "HOLD"; refine Hold.out ?_)))); (k_with "eval ListComp" => ((k_here; k_extra "L"))); (k_with "pyIter ref" => ((k_here; k_extra "F"))); (k_with "exec For Name Call cons nil" => ((k_here; k_extra "FOR"; (rename Fr _ _ _ _ => lF'); (with_unfolding_all refine' For_invVF lF' ?k1 ?k2 ?_; (case k1 => exact rfl); (case k2 => exact rfl); k_whole)))); (k_with "exec For Name Name cons nil" => ((k_here; k_extra "FOR"; (rename Fr _ _ _ _ => lF'); (with_unfolding_all refine' For_invVF lF' ?k1 ?k2 ?_; (case k1 => exact rfl); (case k2 => exact rfl); k_whole)))); (k_with "compareOp In int bytes" => ((k_here; refine in_bytes_K (by omega) (by omega) ?_))); (k_with "compareOp NotIn int bytes" => ((k_here; refine notin_bytes_K (by omega) (by omega) ?_))); (k_with "pyIter bytes" => ((k_here; k_extra "FB"))); (k_with "call type:bytes" => ((k_here; (with_reducible show wpAny _ _ (call (Value.type "bytes") [Value.bytes _ _]) _ _ _); refine call_bytes_bytes ?_))); (k_with "NE1" => (first | with_reducible assumption | exact And.right (by with_reducible assumption) | exact And.right (And.right (by with_reducible assumption)) | exact And.right (And.right (And.right (by with_reducible assumption))))); (k_with "NE2" => (first | with_reducible assumption | exact And.right (by with_reducible assumption) | exact And.right (And.right (by with_reducible assumption)) | exact And.right (And.right (And.right (by with_reducible assumption))) | exact And.right (And.right (And.right (And.right (by k_extra "NE1")))))); (k_with "NE3" => (first | with_reducible assumption | exact And.right (by with_reducible assumption) | exact And.right (And.right (by with_reducible assumption)) | exact And.right (And.right (And.right (by with_reducible assumption))) | exact And.right (And.right (And.right (And.right (by k_extra "NE2")))))); (k_with "kwd_less" => (first | with_reducible assumption | exact And.left (by k_extra "NE3") | exact And.right (by k_extra "NE3"))); (k_with "k_ne" => (((try dsimp only); first | with_reducible assumption | exact Ne.symm (by with_reducible assumption) | (refine ne_gt ?_; kwd_less) | (refine ne_lt ?_; kwd_less) | kwd_less | (refine Ne.symm ?_; kwd_less)))); (k_with "ktr_room" => (first | exact room_lt (by assumption) (by rfl) | exact room_same (by assumption) (by rfl))); (k_with "ktr_units" => (exact units_lt (by assumption) (by rfl))); (k_with "eval Constant bytes" => ((refine xs_bytes ?_))); (k_with "binaryOp Sub int int" => ((refine xs_sub ?_))); (k_with "binaryOp Mod int int" => ((k_here; refine xs_mod (by decide) ?_))); (k_with "newList" => ((k_here; k_dflt (refine' xs_list ?xlF ?xlN ?_; (case xlF => k_asm); (case xlN => k_asm); k_whole); intro _ _ _ _ xll; (try k_lt xll); (try k_sweep)))); (k_with "eval Constant int" => ((refine xs_int ?_))); (k_with "eval Constant str" => ((refine xs_str ?_))); (k_with "binaryOp Add int int" => ((refine xs_add ?_))); (k_with "storeName" => ((k_here; k_dflt (refine' xs_store ?xsF ?xsN ?_ ?xsa ?xsb; (case xsF => k_asm); (case xsN => k_asm); (case xsa => rfl); (case xsb => rfl); k_whole; intro _ _ _; (try k_sweep))))); (k_with "newTuple" => ((k_here; kup_bare; k_dflt (refine' xs_tuple ?xtF ?xtN ?_ ?xtz; (case xtF => k_asm); (case xtN => k_asm); (case xtz => kmk_size)); intro _ _ _ _ xtl; (try k_lt xtl); (try k_sweep)))); (k_with "call builtin:str.join" => ((k_here; k_extra "J"))); (k_with "call ref" => ((k_here; k_extra "C"))))
  intro dp un gd cn cs a ccd cl outer A₀ base h₀ L m hp0 gn0 dr0 tk0 os0 mean mg mb Q E B F X N T hcs hdp hun hret
  refine wpAny_call ?_
  k_dflt ktr_enter
  k_with "L" => (k_dflt (refine' ListComp_S (by k_asm) (by with_unfolding_all rfl) (by decide) (by rfl) (by decide) (by rfl) ?_))
  k_steps
  refine ⟨_, _, rfl, news, rfl, by assumption, by assumption, by rw [sizeLine_eq]; omega, fun g => comp_inv x.cps.size (fun i ys nw => nw = news ∧ StrsAre ys ((x.cps.toList.take i).map fun c => (⟨#[upperC c]⟩ : Str))) ?step ?fin _ _ _ _ (by omega) ⟨rfl, .nil⟩⟩
  case step =>
    intro i ys nw hi hJ v I oI C oC D m₂ h tk E' hP hn hxv F N off ne
    obtain ⟨rfl, hS⟩ := hJ
    obtain ⟨c, u, hc, rfl⟩ := hP
    have hc128 : c < 128 := ha c (by rw [← Array.getElem?_toList] at hc; exact List.mem_of_getElem? hc)
    rw [← Array.getElem?_toList] at hc
    k_steps
    · have h1 : c < 97 := lt_single.mp (by assumption : (⟨#[c]⟩ : Str).cps.toList < (Str.ofString "a").cps.toList)
      refine CompEnd.intro (by assumption) (by assumption) nw (fun p hp => hp) off trivial ⟨rfl, strs_step hS hc ?_⟩
      rw [show upperC c = c by unfold upperC; rw [if_neg (by omega)]]
    · have h1 : 122 < c := lt_single.mp (by assumption : (Str.ofString "z").cps.toList < (⟨#[c]⟩ : Str).cps.toList)
      refine CompEnd.intro (by assumption) (by assumption) nw (fun p hp => hp) off trivial ⟨rfl, strs_step hS hc ?_⟩
      rw [show upperC c = c by unfold upperC; rw [if_neg (by omega)]]
    · have h1 : ¬ c < 97 := fun hlt => (by assumption : ¬ (⟨#[c]⟩ : Str).cps.toList < (Str.ofString "a").cps.toList) (lt_single.mpr hlt)
      have h2 : ¬ 122 < c := fun hlt => (by assumption : ¬ (Str.ofString "z").cps.toList < (⟨#[c]⟩ : Str).cps.toList) (lt_single.mpr hlt)
      k_steps
      refine CompEnd.intro (by assumption) (by assumption) nw (fun p hp => hp) off trivial ⟨rfl, strs_step hS hc ?_⟩
      rw [show upperC c = ((c : Int) - 32).toNat by unfold upperC; rw [if_pos (by omega)]; omega]
  case fin =>
    intro ys nw hJ D h tk F N off
    obtain ⟨rfl, hS⟩ := hJ
    dsimp only
    have hlen : x.cps.toList.length ≤ 100 := hx
    rw [show x.cps.size = x.cps.toList.length from rfl, List.take_length] at hS
    k_steps
    refine join_list (ys := x.cps.toList.map fun c => (⟨#[upperC c]⟩ : Str)) (News.isList (by k_asm) (List.Mem.head _)) hS (by rw [singles_len, List.length_map]; show _ + _ * 0 ≤ _; omega) ?_
    intro t9 k9
    rw [join_singles]
    have eT : (⟨(List.map upperC x.cps.toList).toArray⟩ : Str) = upperT x := by unfold upperT; congr 1; apply Array.ext'; simp
    rw [eT]
    k_steps
    · exact hret _ _ _ _ ⟨rfl, _, rfl⟩ (by assumption) (fun p hp => (by assumption : News h₀ L _ _) p (List.mem_cons_of_mem _ hp))
end

section

theorem getD_mem {ks : List Int} {n : Nat} (h : n < ks.length) : ks.getD n 0 ∈ ks := by
  rw [List.getD_eq_getElem?_getD, List.getElem?_eq_getElem h]; exact List.getElem_mem h
example : True := by ((k_with "call builtin:str.join" => ((k_here; k_extra "J"))); (k_with "call ref" => ((k_here; k_extra "C"))); trivial)
theorem ascii_text_con (w : World) (b : Array UInt8) (t0 : Tok) (ks : List Int) (hk : KBw.bInts b = ks) (hlen : ks.length ≤ 100) (ha : ∀ k ∈ ks, k < 128) (rest : Led) : Con w 5 169 [.bytes b t0] rest (fun v n' => n' = rest ∧ ∃ t, v = .str (KStt.txt ks) t) := by
  refine Con.mk5 ?_
  k_fill
  (k_with_none; (k_with "units_room" => ((ktr_units))); (k_with "k_room" => ((ktr_room))); (k_with "k_all" => (first | assumption | exact fun q hq => Nat.ne_of_lt (ktn_ltOf (by assumption) q hq))); (k_with "exec While BoolOp cons nil" => ((k_here; k_extra "W"))); (k_with "exec While Compare cons nil" => ((k_here; k_extra "W"))); (k_with "call ref" => ((k_here; first | k_extra "C" | (k_extra "HOLD"; refine Hold.out ?_)))); (k_with "eval ListComp" => ((k_here; k_extra "L"))); (k_with "pyIter ref" => ((k_here; k_extra "F"))); (k_with "exec For Name Call cons nil" => ((k_here; k_extra "FOR"; (rename Fr _ _ _ _ => lF'); (with_unfolding_all refine' For_invVF lF' ?k1 ?k2 ?_; (case k1 => exact rfl); (case k2 => exact rfl); k_whole)))); (k_with "exec For Name Name cons nil" => ((k_here; k_extra "FOR"; (rename Fr _ _ _ _ => lF'); (with_unfolding_all refine' For_invVF lF' ?k1 ?k2 ?_; (case k1 => exact rfl); (case k2 => exact rfl); k_whole)))); (k_with "compareOp In int bytes" => ((k_here; refine in_bytes_K (by omega) (by omega) ?_))); (k_with "compareOp NotIn int bytes" => ((k_here; refine notin_bytes_K (by omega) (by omega) ?_))); (k_with "pyIter bytes" => ((k_here; k_extra "FB"))); (k_with "call type:bytes" => ((k_here; (with_reducible show wpAny _ _ (call (Value.type "bytes") [Value.bytes _ _]) _ _ _); refine call_bytes_bytes ?_))); (k_with "NE1" => (first | with_reducible assumption | exact And.right (by with_reducible assumption) | exact And.right (And.right (by with_reducible assumption)) | exact And.right (And.right (And.right (by with_reducible assumption))))); (k_with "NE2" => (first | with_reducible assumption | exact And.right (by with_reducible assumption) | exact And.right (And.right (by with_reducible assumption)) | exact And.right (And.right (And.right (by with_reducible assumption))) | exact And.right (And.right (And.right (And.right (by k_extra "NE1")))))); (k_with "NE3" => (first | with_reducible assumption | exact And.right (by with_reducible assumption) | exact And.right (And.right (by with_reducible assumption)) | exact And.right (And.right (And.right (by with_reducible assumption))) | exact And.right (And.right (And.right (And.right (by k_extra "NE2")))))); (k_with "kwd_less" => (first | with_reducible assumption | exact And.left (by k_extra "NE3") | exact And.right (by k_extra "NE3"))); (k_with "k_ne" => (((try dsimp only); first | with_reducible assumption | exact Ne.symm (by with_reducible assumption) | (refine ne_gt ?_; kwd_less) | (refine ne_lt ?_; kwd_less) | kwd_less | (refine Ne.symm ?_; kwd_less)))); (k_with "ktr_room" => (first | exact room_lt (by assumption) (by rfl) | exact room_same (by assumption) (by rfl))); (k_with "ktr_units" => (exact units_lt (by assumption) (by rfl))); (k_with "eval Constant bytes" => ((refine xs_bytes ?_))); (k_with "binaryOp Sub int int" => ((refine xs_sub ?_))); (k_with "binaryOp Mod int int" => ((k_here; refine xs_mod (by decide) ?_))); (k_with "newList" => ((k_here; k_dflt (refine' xs_list ?xlF ?xlN ?_; (case xlF => k_asm); (case xlN => k_asm); k_whole); intro _ _ _ _ xll; (try k_lt xll); (try k_sweep)))); (k_with "eval Constant int" => ((refine xs_int ?_))); (k_with "eval Constant str" => ((refine xs_str ?_))); (k_with "binaryOp Add int int" => ((refine xs_add ?_))); (k_with "storeName" => ((k_here; k_dflt (refine' xs_store ?xsF ?xsN ?_ ?xsa ?xsb; (case xsF => k_asm); (case xsN => k_asm); (case xsa => rfl); (case xsb => rfl); k_whole; intro _ _ _; (try k_sweep))))); (k_with "newTuple" => ((k_here; kup_bare; k_dflt (refine' xs_tuple ?xtF ?xtN ?_ ?xtz; (case xtF => k_asm); (case xtN => k_asm); (case xtz => kmk_size)); intro _ _ _ _ xtl; (try k_lt xtl); (try k_sweep)))); (k_with "call builtin:str.join" => ((k_here; k_extra "J"))); (k_with "call ref" => ((k_here; k_extra "C"))))
  intro dp un gd cn cs a ccd cl outer A₀ base h₀ L m hp0 gn0 dr0 tk0 os0 mean mg mb Q E B F X N T hcs hdp hun hret
  refine wpAny_call ?_
  k_dflt ktr_enter
  k_with "L" => (k_dflt (refine' ListComp_B (by k_asm) (by with_unfolding_all rfl) (by decide) (by rfl) (by decide) (by rfl) ?_))
  k_with "FOR" => skip
  k_with "F" => ((rename Fr _ _ _ _ => lF'); (rename News _ _ _ _ => lN'); (rename IsRange _ _ _ _ _ _ _ _ => rgX); (with_unfolding_all refine' kst_range (σ := Unit) (fun _ => rest) (fun _ => []) (fun _ => True) [] (fun _ _ => True) () (by rfl) rgX (small_one (by omega) (by omega) (by omega) (by omega)) (rangeSize_nat _ _) lF' lN' trivial (List.forall_mem_nil _) trivial (fun c9 pre9 k9 t9 u9 h9 tk9 own9 e9 hlt9 off9 _ _ F9 N9 => (have hin9 : k9.toNat < ks.length := (by omega); have h09 : 0 ≤ k9 := (by omega); have hle9 : ks.getD k9.toNat 0 < 128 := ha _ (getD_mem hin9); ?_)) (fun c9 u9 h9 tk9 _ _ F9 N9 => ?_)); (all_goals (try clear lF' lN')))
  k_steps
  · exact kst_end () (by assumption) (by assumption) (fun p hp => List.mem_append_left _ hp) (fun p hp => List.mem_append_right _ hp) rfl trivial (List.forall_mem_nil _) (by intro z h1 h2 h3; simp [h1, kstB]) trivial
  have hbl : b.size = ks.length := by rw [← hk, KBw.ints_length]
  have hll : (b.toList.map UInt8.toNat).length = b.size := by simp
  refine ⟨_, _, rfl, rest, rfl, by assumption, by assumption, by rw [sizeLine_eq]; omega, fun g => comp_inv b.size (fun i ys nw => nw = rest ∧ StrsAre ys (((b.toList.map UInt8.toNat).take i).map fun c => (⟨#[id c]⟩ : Str))) ?step ?fin _ _ _ _ (by omega) ⟨rfl, .nil⟩⟩
  case step =>
    intro i ys nw hi hJ v I oI C oC D m₂ h tk E' hP hn hxv F N off ne
    obtain ⟨rfl, hS⟩ := hJ
    obtain ⟨c, u, hc, rfl⟩ := hP
    have hc2 : (b.toList.map UInt8.toNat)[i]? = some c.toNat := by simp [hc]
    have hc128 : ((c.toNat : Nat) : Int) < 128 := ha _ (by rw [← hk]; exact List.mem_of_getElem? (KBw.ints_get hc))
    have hc127 : c.toNat < 128 := by omega
    k_steps
    refine CompEnd.intro (by assumption) (by assumption) nw (fun p hp => hp) off trivial ⟨rfl, strs_step hS hc2 (by rfl)⟩
  case fin =>
    intro ys nw hJ D h tk F N off
    obtain ⟨rfl, hS⟩ := hJ
    dsimp only
    rw [← hll, List.take_length] at hS
    k_steps
    refine join_list (ys := (b.toList.map UInt8.toNat).map fun c => (⟨#[id c]⟩ : Str)) (News.isList (by k_asm) (List.Mem.head _)) hS (by rw [singles_len, hll]; show _ + _ * 0 ≤ _; omega) ?_
    intro t9 k9
    rw [join_singles]
    have eT : (⟨(List.map id (b.toList.map UInt8.toNat)).toArray⟩ : Str) = KStt.txt ks := by
      rw [← hk]; unfold KStt.txt KBw.bInts; rw [List.map_id, List.map_map]; rfl
    rw [eT]
    k_steps
    · exact hret _ _ _ _ ⟨rfl, _, rfl⟩ (by assumption) (fun p hp => (by assumption : News h₀ L _ _) p (List.mem_cons_of_mem _ hp))
end

section

example : True := by ((k_with "call ref" => ((k_here; k_extra "C"))); trivial)
def isLetter (k : Int) : Bool := decide (65 ≤ k ∧ k ≤ 90 ∨ 97 ≤ k ∧ k ≤ 122)
def isFig (k : Int) : Bool := decide (48 ≤ k ∧ k ≤ 57)
theorem letter_con (w : World) (k : Int) (t : Tok) (news : Led) (_h0 : 0 ≤ k) (_h1 : k < 256) : Con w 1 326 [.int k t] news (fun v n' => n' = news ∧ v = .bool (isLetter k)) := by
  refine Con.mk5 ?_
  k_fill
  (k_with_none; (k_with "units_room" => ((ktr_units))); (k_with "k_room" => ((ktr_room))); (k_with "k_all" => (first | assumption | exact fun q hq => Nat.ne_of_lt (ktn_ltOf (by assumption) q hq))); (k_with "exec While BoolOp cons nil" => ((k_here; k_extra "W"))); (k_with "exec While Compare cons nil" => ((k_here; k_extra "W"))); (k_with "call ref" => ((k_here; first | k_extra "C" | (k_extra "HOLD"; refine Hold.out ?_)))); (k_with "eval ListComp" => ((k_here; k_extra "L"))); (k_with "pyIter ref" => ((k_here; k_extra "F"))); (k_with "exec For Name Call cons nil" => ((k_here; k_extra "FOR"; (rename Fr _ _ _ _ => lF'); (with_unfolding_all refine' For_invVF lF' ?k1 ?k2 ?_; (case k1 => exact rfl); (case k2 => exact rfl); k_whole)))); (k_with "exec For Name Name cons nil" => ((k_here; k_extra "FOR"; (rename Fr _ _ _ _ => lF'); (with_unfolding_all refine' For_invVF lF' ?k1 ?k2 ?_; (case k1 => exact rfl); (case k2 => exact rfl); k_whole)))); (k_with "compareOp In int bytes" => ((k_here; refine in_bytes_K (by omega) (by omega) ?_))); (k_with "compareOp NotIn int bytes" => ((k_here; refine notin_bytes_K (by omega) (by omega) ?_))); (k_with "pyIter bytes" => ((k_here; k_extra "FB"))); (k_with "call type:bytes" => ((k_here; (with_reducible show wpAny _ _ (call (Value.type "bytes") [Value.bytes _ _]) _ _ _); refine call_bytes_bytes ?_))); (k_with "NE1" => (first | with_reducible assumption | exact And.right (by with_reducible assumption) | exact And.right (And.right (by with_reducible assumption)) | exact And.right (And.right (And.right (by with_reducible assumption))))); (k_with "NE2" => (first | with_reducible assumption | exact And.right (by with_reducible assumption) | exact And.right (And.right (by with_reducible assumption)) | exact And.right (And.right (And.right (by with_reducible assumption))) | exact And.right (And.right (And.right (And.right (by k_extra "NE1")))))); (k_with "NE3" => (first | with_reducible assumption | exact And.right (by with_reducible assumption) | exact And.right (And.right (by with_reducible assumption)) | exact And.right (And.right (And.right (by with_reducible assumption))) | exact And.right (And.right (And.right (And.right (by k_extra "NE2")))))); (k_with "kwd_less" => (first | with_reducible assumption | exact And.left (by k_extra "NE3") | exact And.right (by k_extra "NE3"))); (k_with "k_ne" => (((try dsimp only); first | with_reducible assumption | exact Ne.symm (by with_reducible assumption) | (refine ne_gt ?_; kwd_less) | (refine ne_lt ?_; kwd_less) | kwd_less | (refine Ne.symm ?_; kwd_less)))); (k_with "ktr_room" => (first | exact room_lt (by assumption) (by rfl) | exact room_same (by assumption) (by rfl))); (k_with "ktr_units" => (exact units_lt (by assumption) (by rfl))); (k_with "eval Constant bytes" => ((refine xs_bytes ?_))); (k_with "binaryOp Sub int int" => ((refine xs_sub ?_))); (k_with "binaryOp Mod int int" => ((k_here; refine xs_mod (by decide) ?_))); (k_with "newList" => ((k_here; k_dflt (refine' xs_list ?xlF ?xlN ?_; (case xlF => k_asm); (case xlN => k_asm); k_whole); intro _ _ _ _ xll; (try k_lt xll); (try k_sweep)))); (k_with "eval Constant int" => ((refine xs_int ?_))); (k_with "eval Constant str" => ((refine xs_str ?_))); (k_with "binaryOp Add int int" => ((refine xs_add ?_))); (k_with "storeName" => ((k_here; k_dflt (refine' xs_store ?xsF ?xsN ?_ ?xsa ?xsb; (case xsF => k_asm); (case xsN => k_asm); (case xsa => rfl); (case xsb => rfl); k_whole; intro _ _ _; (try k_sweep))))); (k_with "newTuple" => ((k_here; kup_bare; k_dflt (refine' xs_tuple ?xtF ?xtN ?_ ?xtz; (case xtF => k_asm); (case xtN => k_asm); (case xtz => kmk_size)); intro _ _ _ _ xtl; (try k_lt xtl); (try k_sweep)))); (k_with "call ref" => ((k_here; k_extra "C"))))
  intro dp un gd cn cs a ccd cl outer A₀ base h₀ L m hp0 gn0 dr0 tk0 os0 mean mg mb Q E B F X N T hcs hdp hun hret
  refine wpAny_call ?_
  k_dflt ktr_enter
  k_steps
  all_goals refine hret _ _ _ _ ⟨rfl, ?_⟩ (by assumption) (by assumption)
  all_goals first | exact congrArg Value.bool (decide_eq_decide.mpr (by omega)) | exact congrArg Value.bool (decide_eq_true (by omega)).symm | exact congrArg Value.bool (decide_eq_false (by omega)).symm
theorem fig_con (w : World) (k : Int) (t : Tok) (news : Led) (_h0 : 0 ≤ k) (_h1 : k < 256) : Con w 1 494 [.int k t] news (fun v n' => n' = news ∧ v = .bool (isFig k)) := by
  refine Con.mk5 ?_
  k_fill
  (k_with_none; (k_with "units_room" => ((ktr_units))); (k_with "k_room" => ((ktr_room))); (k_with "k_all" => (first | assumption | exact fun q hq => Nat.ne_of_lt (ktn_ltOf (by assumption) q hq))); (k_with "exec While BoolOp cons nil" => ((k_here; k_extra "W"))); (k_with "exec While Compare cons nil" => ((k_here; k_extra "W"))); (k_with "call ref" => ((k_here; first | k_extra "C" | (k_extra "HOLD"; refine Hold.out ?_)))); (k_with "eval ListComp" => ((k_here; k_extra "L"))); (k_with "pyIter ref" => ((k_here; k_extra "F"))); (k_with "exec For Name Call cons nil" => ((k_here; k_extra "FOR"; (rename Fr _ _ _ _ => lF'); (with_unfolding_all refine' For_invVF lF' ?k1 ?k2 ?_; (case k1 => exact rfl); (case k2 => exact rfl); k_whole)))); (k_with "exec For Name Name cons nil" => ((k_here; k_extra "FOR"; (rename Fr _ _ _ _ => lF'); (with_unfolding_all refine' For_invVF lF' ?k1 ?k2 ?_; (case k1 => exact rfl); (case k2 => exact rfl); k_whole)))); (k_with "compareOp In int bytes" => ((k_here; refine in_bytes_K (by omega) (by omega) ?_))); (k_with "compareOp NotIn int bytes" => ((k_here; refine notin_bytes_K (by omega) (by omega) ?_))); (k_with "pyIter bytes" => ((k_here; k_extra "FB"))); (k_with "call type:bytes" => ((k_here; (with_reducible show wpAny _ _ (call (Value.type "bytes") [Value.bytes _ _]) _ _ _); refine call_bytes_bytes ?_))); (k_with "NE1" => (first | with_reducible assumption | exact And.right (by with_reducible assumption) | exact And.right (And.right (by with_reducible assumption)) | exact And.right (And.right (And.right (by with_reducible assumption))))); (k_with "NE2" => (first | with_reducible assumption | exact And.right (by with_reducible assumption) | exact And.right (And.right (by with_reducible assumption)) | exact And.right (And.right (And.right (by with_reducible assumption))) | exact And.right (And.right (And.right (And.right (by k_extra "NE1")))))); (k_with "NE3" => (first | with_reducible assumption | exact And.right (by with_reducible assumption) | exact And.right (And.right (by with_reducible assumption)) | exact And.right (And.right (And.right (by with_reducible assumption))) | exact And.right (And.right (And.right (And.right (by k_extra "NE2")))))); (k_with "kwd_less" => (first | with_reducible assumption | exact And.left (by k_extra "NE3") | exact And.right (by k_extra "NE3"))); (k_with "k_ne" => (((try dsimp only); first | with_reducible assumption | exact Ne.symm (by with_reducible assumption) | (refine ne_gt ?_; kwd_less) | (refine ne_lt ?_; kwd_less) | kwd_less | (refine Ne.symm ?_; kwd_less)))); (k_with "ktr_room" => (first | exact room_lt (by assumption) (by rfl) | exact room_same (by assumption) (by rfl))); (k_with "ktr_units" => (exact units_lt (by assumption) (by rfl))); (k_with "eval Constant bytes" => ((refine xs_bytes ?_))); (k_with "binaryOp Sub int int" => ((refine xs_sub ?_))); (k_with "binaryOp Mod int int" => ((k_here; refine xs_mod (by decide) ?_))); (k_with "newList" => ((k_here; k_dflt (refine' xs_list ?xlF ?xlN ?_; (case xlF => k_asm); (case xlN => k_asm); k_whole); intro _ _ _ _ xll; (try k_lt xll); (try k_sweep)))); (k_with "eval Constant int" => ((refine xs_int ?_))); (k_with "eval Constant str" => ((refine xs_str ?_))); (k_with "binaryOp Add int int" => ((refine xs_add ?_))); (k_with "storeName" => ((k_here; k_dflt (refine' xs_store ?xsF ?xsN ?_ ?xsa ?xsb; (case xsF => k_asm); (case xsN => k_asm); (case xsa => rfl); (case xsb => rfl); k_whole; intro _ _ _; (try k_sweep))))); (k_with "newTuple" => ((k_here; kup_bare; k_dflt (refine' xs_tuple ?xtF ?xtN ?_ ?xtz; (case xtF => k_asm); (case xtN => k_asm); (case xtz => kmk_size)); intro _ _ _ _ xtl; (try k_lt xtl); (try k_sweep)))); (k_with "call ref" => ((k_here; k_extra "C"))))
  intro dp un gd cn cs a ccd cl outer A₀ base h₀ L m hp0 gn0 dr0 tk0 os0 mean mg mb Q E B F X N T hcs hdp hun hret
  refine wpAny_call ?_
  k_dflt ktr_enter
  k_steps
  all_goals refine hret _ _ _ _ ⟨rfl, ?_⟩ (by assumption) (by assumption)
  all_goals first | exact congrArg Value.bool (decide_eq_decide.mpr (by omega)) | exact congrArg Value.bool (decide_eq_true (by omega)).symm | exact congrArg Value.bool (decide_eq_false (by omega)).symm
theorem keep326 (w : World) : keepIn (pre.heap_1 w.params) (.ref 326) = true := by kernel_rfl
theorem keep494 (w : World) : keepIn (pre.heap_1 w.params) (.ref 494) = true := by kernel_rfl
theorem keep473 (w : World) : keepIn (pre.heap_1 w.params) (.ref 473) = true := by kernel_rfl
abbrev atomB (k : Int) : Bool := if 33 ≤ k ∧ k ≤ 126 then !#[40, 41, 123, 37, 42, 34, 92, 93].contains k.toNat.toUInt8 else if 33 ≤ k ∧ ¬k ≤ 126 then decide (k ≤ 126) else decide (33 ≤ k)
def isAstr (k : Int) : Bool := atomB k || (k == 93)
theorem astr_con (w : World) (k : Int) (t : Tok) (news : Led) (_h0 : 0 ≤ k) (_h1 : k < 256) : Con w 4 473 [.int k t] news (fun v n' => n' = news ∧ v = .bool (isAstr k)) := by
  refine Con.mk5 ?_
  k_fill
  (k_with_none; (k_with "units_room" => ((ktr_units))); (k_with "k_room" => ((ktr_room))); (k_with "k_all" => (first | assumption | exact fun q hq => Nat.ne_of_lt (ktn_ltOf (by assumption) q hq))); (k_with "exec While BoolOp cons nil" => ((k_here; k_extra "W"))); (k_with "exec While Compare cons nil" => ((k_here; k_extra "W"))); (k_with "call ref" => ((k_here; first | k_extra "C" | (k_extra "HOLD"; refine Hold.out ?_)))); (k_with "eval ListComp" => ((k_here; k_extra "L"))); (k_with "pyIter ref" => ((k_here; k_extra "F"))); (k_with "exec For Name Call cons nil" => ((k_here; k_extra "FOR"; (rename Fr _ _ _ _ => lF'); (with_unfolding_all refine' For_invVF lF' ?k1 ?k2 ?_; (case k1 => exact rfl); (case k2 => exact rfl); k_whole)))); (k_with "exec For Name Name cons nil" => ((k_here; k_extra "FOR"; (rename Fr _ _ _ _ => lF'); (with_unfolding_all refine' For_invVF lF' ?k1 ?k2 ?_; (case k1 => exact rfl); (case k2 => exact rfl); k_whole)))); (k_with "compareOp In int bytes" => ((k_here; refine in_bytes_K (by omega) (by omega) ?_))); (k_with "compareOp NotIn int bytes" => ((k_here; refine notin_bytes_K (by omega) (by omega) ?_))); (k_with "pyIter bytes" => ((k_here; k_extra "FB"))); (k_with "call type:bytes" => ((k_here; (with_reducible show wpAny _ _ (call (Value.type "bytes") [Value.bytes _ _]) _ _ _); refine call_bytes_bytes ?_))); (k_with "NE1" => (first | with_reducible assumption | exact And.right (by with_reducible assumption) | exact And.right (And.right (by with_reducible assumption)) | exact And.right (And.right (And.right (by with_reducible assumption))))); (k_with "NE2" => (first | with_reducible assumption | exact And.right (by with_reducible assumption) | exact And.right (And.right (by with_reducible assumption)) | exact And.right (And.right (And.right (by with_reducible assumption))) | exact And.right (And.right (And.right (And.right (by k_extra "NE1")))))); (k_with "NE3" => (first | with_reducible assumption | exact And.right (by with_reducible assumption) | exact And.right (And.right (by with_reducible assumption)) | exact And.right (And.right (And.right (by with_reducible assumption))) | exact And.right (And.right (And.right (And.right (by k_extra "NE2")))))); (k_with "kwd_less" => (first | with_reducible assumption | exact And.left (by k_extra "NE3") | exact And.right (by k_extra "NE3"))); (k_with "k_ne" => (((try dsimp only); first | with_reducible assumption | exact Ne.symm (by with_reducible assumption) | (refine ne_gt ?_; kwd_less) | (refine ne_lt ?_; kwd_less) | kwd_less | (refine Ne.symm ?_; kwd_less)))); (k_with "ktr_room" => (first | exact room_lt (by assumption) (by rfl) | exact room_same (by assumption) (by rfl))); (k_with "ktr_units" => (exact units_lt (by assumption) (by rfl))); (k_with "eval Constant bytes" => ((refine xs_bytes ?_))); (k_with "binaryOp Sub int int" => ((refine xs_sub ?_))); (k_with "binaryOp Mod int int" => ((k_here; refine xs_mod (by decide) ?_))); (k_with "newList" => ((k_here; k_dflt (refine' xs_list ?xlF ?xlN ?_; (case xlF => k_asm); (case xlN => k_asm); k_whole); intro _ _ _ _ xll; (try k_lt xll); (try k_sweep)))); (k_with "eval Constant int" => ((refine xs_int ?_))); (k_with "eval Constant str" => ((refine xs_str ?_))); (k_with "binaryOp Add int int" => ((refine xs_add ?_))); (k_with "storeName" => ((k_here; k_dflt (refine' xs_store ?xsF ?xsN ?_ ?xsa ?xsb; (case xsF => k_asm); (case xsN => k_asm); (case xsa => rfl); (case xsb => rfl); k_whole; intro _ _ _; (try k_sweep))))); (k_with "newTuple" => ((k_here; kup_bare; k_dflt (refine' xs_tuple ?xtF ?xtN ?_ ?xtz; (case xtF => k_asm); (case xtN => k_asm); (case xtz => kmk_size)); intro _ _ _ _ xtl; (try k_lt xtl); (try k_sweep)))); (k_with "call ref" => ((k_here; k_extra "C"))))
  intro dp un gd cn cs a ccd cl outer A₀ base h₀ L m hp0 gn0 dr0 tk0 os0 mean mg mb Q E B F X N T hcs hdp hun hret
  refine wpAny_call ?_
  k_dflt ktr_enter
  k_steps
  · have ha : atomB k = true := by assumption
    exact hret _ _ _ _ ⟨rfl, by unfold isAstr; rw [ha]; exact congrArg Value.bool ha⟩ (by assumption) (by assumption)
  · have ha : atomB k = false := by assumption
    exact hret _ _ _ _ ⟨rfl, by unfold isAstr; rw [ha, Bool.false_or]⟩ (by assumption) (by assumption)

theorem txt_size (l : List Int) : (KStt.txt l).cps.size = l.length := by simp [KStt.txt]
theorem txt_ascii {l : List Int} (h : ∀ k ∈ l, k < 128) : ∀ c ∈ (KStt.txt l).cps.toList, c < 128 := by
  intro c hc
  simp only [KStt.txt, List.mem_map] at hc
  obtain ⟨k, hk, rfl⟩ := hc
  have := h k hk
  omega
theorem seg_all {ks ls : List Int} {i J : Nat} {p : Int → Bool} (hJ : J < ks.length) (hls : (ks.drop i).take (J - i) = ls) (hall : ∀ k ∈ ls, p k = true) : ∀ n, i ≤ n → n < J → p (ks.getD n 0) = true := by
  intro n h1 h2
  refine hall _ ?_
  rw [← hls]
  have hn : n < ks.length := by omega
  rw [List.getD_eq_getElem?_getD, List.getElem?_eq_getElem hn]
  refine List.mem_of_getElem? (i := n - i) ?_
  rw [List.getElem?_take_of_lt (by omega), List.getElem?_drop, show i + (n - i) = n by omega, List.getElem?_eq_getElem hn]
  rfl
section
variable (w : World) (x d : Nat) (b : Array UInt8) (td kd ka ta : Tok) (i : Nat) (ks : List Int) (hk : KBw.bInts b = ks) (hlen : ks.length ≤ 4000) (hxd : x ≠ d)
include hk hlen hxd
set_option linter.unusedSectionVars false
theorem key_word_con (J : Nat) (ls : List Int) (bw : Array UInt8) (hbw : KBw.bInts bw = ls) (hiJ : i ≤ J) (hJ : J < ks.length) (hls : (ks.drop i).take (J - i) = ls) (hne : 0 < bw.size) (hsz : ls.length ≤ 100) (hall : ∀ k ∈ ls, isLetter k = true) (hq : isLetter (ks.getD J 0) = false) :
    WCon w 10 333 [.ref x] x d b td kd ka ta i J (fun v => ∃ t, v = .str (upperT (KStt.txt ls)) t) := by
  have hp := seg_all hJ hls hall
  have hpick : KBy.picked b (some (i : Int)) (some (J : Int)) = bw := bInts_inj (by rw [picked_at hk hiJ (Nat.le_of_lt hJ), hls, hbw])
  unfold WCon
  intro rest hoff
  refine Con.mk5 ?_
  k_fill
  (k_with_none; (k_with "units_room" => ((ktr_units))); (k_with "k_room" => ((ktr_room))); (k_with "k_all" => (first | assumption | exact fun q hq => Nat.ne_of_lt (ktn_ltOf (by assumption) q hq))); (k_with "exec While BoolOp cons nil" => ((k_here; k_extra "W"))); (k_with "exec While Compare cons nil" => ((k_here; k_extra "W"))); (k_with "call ref" => ((k_here; first | k_extra "C" | (k_extra "HOLD"; refine Hold.out ?_)))); (k_with "eval ListComp" => ((k_here; k_extra "L"))); (k_with "pyIter ref" => ((k_here; k_extra "F"))); (k_with "exec For Name Call cons nil" => ((k_here; k_extra "FOR"; (rename Fr _ _ _ _ => lF'); (with_unfolding_all refine' For_invVF lF' ?k1 ?k2 ?_; (case k1 => exact rfl); (case k2 => exact rfl); k_whole)))); (k_with "exec For Name Name cons nil" => ((k_here; k_extra "FOR"; (rename Fr _ _ _ _ => lF'); (with_unfolding_all refine' For_invVF lF' ?k1 ?k2 ?_; (case k1 => exact rfl); (case k2 => exact rfl); k_whole)))); (k_with "compareOp In int bytes" => ((k_here; refine in_bytes_K (by omega) (by omega) ?_))); (k_with "compareOp NotIn int bytes" => ((k_here; refine notin_bytes_K (by omega) (by omega) ?_))); (k_with "pyIter bytes" => ((k_here; k_extra "FB"))); (k_with "call type:bytes" => ((k_here; (with_reducible show wpAny _ _ (call (Value.type "bytes") [Value.bytes _ _]) _ _ _); refine call_bytes_bytes ?_))); (k_with "NE1" => (first | with_reducible assumption | exact And.right (by with_reducible assumption) | exact And.right (And.right (by with_reducible assumption)) | exact And.right (And.right (And.right (by with_reducible assumption))))); (k_with "NE2" => (first | with_reducible assumption | exact And.right (by with_reducible assumption) | exact And.right (And.right (by with_reducible assumption)) | exact And.right (And.right (And.right (by with_reducible assumption))) | exact And.right (And.right (And.right (And.right (by k_extra "NE1")))))); (k_with "NE3" => (first | with_reducible assumption | exact And.right (by with_reducible assumption) | exact And.right (And.right (by with_reducible assumption)) | exact And.right (And.right (And.right (by with_reducible assumption))) | exact And.right (And.right (And.right (And.right (by k_extra "NE2")))))); (k_with "kwd_less" => (first | with_reducible assumption | exact And.left (by k_extra "NE3") | exact And.right (by k_extra "NE3"))); (k_with "k_ne" => (((try dsimp only); first | with_reducible assumption | exact Ne.symm (by with_reducible assumption) | (refine ne_gt ?_; kwd_less) | (refine ne_lt ?_; kwd_less) | kwd_less | (refine Ne.symm ?_; kwd_less)))); (k_with "ktr_room" => (first | exact room_lt (by assumption) (by rfl) | exact room_same (by assumption) (by rfl))); (k_with "ktr_units" => (exact units_lt (by assumption) (by rfl))); (k_with "eval Constant bytes" => ((refine xs_bytes ?_))); (k_with "binaryOp Sub int int" => ((refine xs_sub ?_))); (k_with "binaryOp Mod int int" => ((k_here; refine xs_mod (by decide) ?_))); (k_with "newList" => ((k_here; k_dflt (refine' xs_list ?xlF ?xlN ?_; (case xlF => k_asm); (case xlN => k_asm); k_whole); intro _ _ _ _ xll; (try k_lt xll); (try k_sweep)))); (k_with "eval Constant int" => ((refine xs_int ?_))); (k_with "eval Constant str" => ((refine xs_str ?_))); (k_with "binaryOp Add int int" => ((refine xs_add ?_))); (k_with "storeName" => ((k_here; k_dflt (refine' xs_store ?xsF ?xsN ?_ ?xsa ?xsb; (case xsF => k_asm); (case xsN => k_asm); (case xsa => rfl); (case xsb => rfl); k_whole; intro _ _ _; (try k_sweep))))); (k_with "newTuple" => ((k_here; kup_bare; k_dflt (refine' xs_tuple ?xtF ?xtN ?_ ?xtz; (case xtF => k_asm); (case xtN => k_asm); (case xtz => kmk_size)); intro _ _ _ _ xtl; (try k_lt xtl); (try k_sweep)))); (k_with "call ref" => ((k_here; k_extra "C"))))
  intro dp un gd cn cs a ccd cl outer A₀ base h₀ L m hp0 gn0 dr0 tk0 os0 mean mg mb Q E B F X N T hcs hdp hun hret
  refine wpAny_call ?_
  k_dflt ktr_enter
  have hlt : ∀ k ∈ ls, k < 128 := fun k hk' => by have := hall k hk'; unfold isLetter at this; have := of_decide_eq_true this; omega
  k_with "C" => ((with_reducible show wpAny _ _ (call (Value.ref 565) _) _ _ _); k_dflt (refine' WCon.use5 (run_con w x d b td kd ka ta i ks hk hlen hxd 1 326 (keep326 w) isLetter (letter_con w) J hiJ hJ hp hq) ?hx ?U ?B ?F ?X ?N ?T ?hk ?hd ?hu ?_; (first | (((case N => k_asm); (case hx => k_mem); (case U => (intro _; k_upd)); (case B => k_asm); (case F => k_asm); (case X => k_asm); (case T => k_asm); (case hk => first | exact rfl | assumption); (case hd => ktr_room); (case hu => ktr_units))) | tb_rel)); intro v9 ta9 h9 tk9 hP9 F9 N9; obtain ⟨t9, hP9⟩ := hP9; rw [hpick] at hP9; subst hP9; (try dsimp only))
  k_with "C" => ((with_reducible show wpAny _ _ (call (Value.ref 169) _) _ _ _); k_dflt (refine' Con.use5 (ascii_text_con w bw _ ls hbw hsz hlt _) ?B ?F ?X ?N ?T ?hk ?hd ?hu ?_; (first | (((case N => k_asm); (case B => k_asm); (case F => k_asm); (case X => k_asm); (case T => k_asm); (case hk => first | exact rfl | assumption); (case hd => ktr_room); (case hu => ktr_units))) | tb_start)); intro v9 h9 tk9 hP9 F9 N9; obtain ⟨t9, hP9⟩ := hP9; subst hP9; (try dsimp only))
  k_with "C" => ((with_reducible show wpAny _ _ (call (Value.ref 164) _) _ _ _); k_dflt (refine' Con.use5 (upper_text_con w (KStt.txt ls) _ (by rw [txt_size]; exact hsz) (txt_ascii hlt) _) ?B ?F ?X ?N ?T ?hk ?hd ?hu ?_; (first | (((case N => k_asm); (case B => k_asm); (case F => k_asm); (case X => k_asm); (case T => k_asm); (case hk => first | exact rfl | assumption); (case hd => ktr_room); (case hu => ktr_units))) | tb_start)); intro v9 h9 tk9 hP9 F9 N9; obtain ⟨t9, hP9⟩ := hP9; subst hP9; (try dsimp only))
  k_steps
  · exfalso
    have hb := (by assumption : (bw.toList == (#[] : Array UInt8).toList) = true)
    have hb2 : bw.toList = [] := by simpa using hb
    have : bw.size = 0 := by rw [← Array.length_toList, hb2]; rfl
    omega
  · exact hret _ _ _ _ ⟨⟨_, rfl⟩, _, rfl⟩ (by assumption) (by assumption)
end
end

section

theorem nof_con (w : World) (bw : Array UInt8) (t0 : Tok) (c1 c2 : Int) (hbw : KBw.bInts bw = [c1, c2]) (f1 : isFig c1 = true) (f2 : isFig c2 = true) (rest : Led) : Con w 2 501 [.bytes bw t0] rest (fun v n' => n' = rest ∧ ∃ t, v = .int ((c1 - 48) * 10 + (c2 - 48)) t) := by
  have g1 := of_decide_eq_true f1
  have g2 := of_decide_eq_true f2
  refine Con.mk5 ?_
  k_fill
  (k_with_none; (k_with "units_room" => ((ktr_units))); (k_with "k_room" => ((ktr_room))); (k_with "k_all" => (first | assumption | exact fun q hq => Nat.ne_of_lt (ktn_ltOf (by assumption) q hq))); (k_with "exec While BoolOp cons nil" => ((k_here; k_extra "W"))); (k_with "exec While Compare cons nil" => ((k_here; k_extra "W"))); (k_with "call ref" => ((k_here; first | k_extra "C" | (k_extra "HOLD"; refine Hold.out ?_)))); (k_with "eval ListComp" => ((k_here; k_extra "L"))); (k_with "pyIter ref" => ((k_here; k_extra "F"))); (k_with "exec For Name Call cons nil" => ((k_here; k_extra "FOR"; (rename Fr _ _ _ _ => lF'); (with_unfolding_all refine' For_invVF lF' ?k1 ?k2 ?_; (case k1 => exact rfl); (case k2 => exact rfl); k_whole)))); (k_with "exec For Name Name cons nil" => ((k_here; k_extra "FOR"; (rename Fr _ _ _ _ => lF'); (with_unfolding_all refine' For_invVF lF' ?k1 ?k2 ?_; (case k1 => exact rfl); (case k2 => exact rfl); k_whole)))); (k_with "compareOp In int bytes" => ((k_here; refine in_bytes_K (by omega) (by omega) ?_))); (k_with "compareOp NotIn int bytes" => ((k_here; refine notin_bytes_K (by omega) (by omega) ?_))); (k_with "pyIter bytes" => ((k_here; k_extra "FB"))); (k_with "call type:bytes" => ((k_here; (with_reducible show wpAny _ _ (call (Value.type "bytes") [Value.bytes _ _]) _ _ _); refine call_bytes_bytes ?_))); (k_with "NE1" => (first | with_reducible assumption | exact And.right (by with_reducible assumption) | exact And.right (And.right (by with_reducible assumption)) | exact And.right (And.right (And.right (by with_reducible assumption))))); (k_with "NE2" => (first | with_reducible assumption | exact And.right (by with_reducible assumption) | exact And.right (And.right (by with_reducible assumption)) | exact And.right (And.right (And.right (by with_reducible assumption))) | exact And.right (And.right (And.right (And.right (by k_extra "NE1")))))); (k_with "NE3" => (first | with_reducible assumption | exact And.right (by with_reducible assumption) | exact And.right (And.right (by with_reducible assumption)) | exact And.right (And.right (And.right (by with_reducible assumption))) | exact And.right (And.right (And.right (And.right (by k_extra "NE2")))))); (k_with "kwd_less" => (first | with_reducible assumption | exact And.left (by k_extra "NE3") | exact And.right (by k_extra "NE3"))); (k_with "k_ne" => (((try dsimp only); first | with_reducible assumption | exact Ne.symm (by with_reducible assumption) | (refine ne_gt ?_; kwd_less) | (refine ne_lt ?_; kwd_less) | kwd_less | (refine Ne.symm ?_; kwd_less)))); (k_with "ktr_room" => (first | exact room_lt (by assumption) (by rfl) | exact room_same (by assumption) (by rfl))); (k_with "ktr_units" => (exact units_lt (by assumption) (by rfl))); (k_with "eval Constant bytes" => ((refine xs_bytes ?_))); (k_with "binaryOp Sub int int" => ((refine xs_sub ?_))); (k_with "binaryOp Mod int int" => ((k_here; refine xs_mod (by decide) ?_))); (k_with "newList" => ((k_here; k_dflt (refine' xs_list ?xlF ?xlN ?_; (case xlF => k_asm); (case xlN => k_asm); k_whole); intro _ _ _ _ xll; (try k_lt xll); (try k_sweep)))); (k_with "eval Constant int" => ((refine xs_int ?_))); (k_with "eval Constant str" => ((refine xs_str ?_))); (k_with "binaryOp Add int int" => ((refine xs_add ?_))); (k_with "storeName" => ((k_here; k_dflt (refine' xs_store ?xsF ?xsN ?_ ?xsa ?xsb; (case xsF => k_asm); (case xsN => k_asm); (case xsa => rfl); (case xsb => rfl); k_whole; intro _ _ _; (try k_sweep))))); (k_with "newTuple" => ((k_here; kup_bare; k_dflt (refine' xs_tuple ?xtF ?xtN ?_ ?xtz; (case xtF => k_asm); (case xtN => k_asm); (case xtz => kmk_size)); intro _ _ _ _ xtl; (try k_lt xtl); (try k_sweep)))))
  intro dp un gd cn cs a ccd cl outer A₀ base h₀ L m hp0 gn0 dr0 tk0 os0 mean mg mb Q E B F X N T hcs hdp hun hret
  refine wpAny_call ?_
  k_dflt ktr_enter
  k_with "HOLD" => skip
  k_with "FOR" => skip
  k_with "FB" => ((rename Fr _ _ _ _ => lF'); (rename News _ _ _ _ => lN'); (with_unfolding_all refine' KStb.kst_bytes (σ := Int × Tok) (fun _ => rest) (fun c => [(Str.ofString "number", .int c.1 c.2)]) (fun _ => True) [] (fun pre c => c.1 = pre.foldl (fun n k => n * 10 + k - 48) 0) (0, _) hbw rfl (by rfl) lF' lN' trivial (by intro p hp; rw [List.mem_singleton.mp hp]; rfl) rfl (fun c9 pre9 post9 n9 t9 u9 h9 tk9 own9 e9 hl9 lo9 hi9 off9 hf9 hp9 F9 N9 => ?_) (fun c9 u9 h9 tk9 hl9 hf9 hp9 F9 N9 => ?_)); (all_goals (try clear lF' lN')))
  k_steps
  · exact kst_end (c9.1 * 10 + n9 - 48, _) (by assumption) (by assumption) (fun p hp => List.mem_append_left _ hp) (fun p hp => List.mem_append_right _ hp) rfl trivial (by intro p hp; rw [List.mem_singleton.mp hp]; rfl)
      (by intro z h1 h2 h3; have h4 := h2 _ (.head _); dsimp only at h4; simp [h1, h4, kstB]) (by rw [List.foldl_append, ← hp9]; rfl)
  · have e : c9.1 = (c1 - 48) * 10 + (c2 - 48) := by rw [hp9]; simp only [List.foldl_cons, List.foldl_nil]; omega
    exact hret _ _ _ _ ⟨rfl, _, by rw [e]⟩ (by assumption) (by assumption)
end

section

theorem drop_of {ks l r : List Int} {i : Nat} (h : ks.drop i = l ++ r) : ks.drop (i + l.length) = r := by
  rw [← List.drop_drop, h, List.drop_left']
  rfl
theorem take_of {ks l r : List Int} {i : Nat} (h : ks.drop i = l ++ r) : (ks.drop i).take l.length = l := by
  rw [h, List.take_left']
  rfl
theorem len_of {ks l r : List Int} {i : Nat} (h : ks.drop i = l ++ r) (hl : 0 < l.length) : i + l.length ≤ ks.length := by
  have := congrArg List.length h
  rw [List.length_drop, List.length_append] at this
  omega
theorem getD_of {ks r : List Int} {i : Nat} {c : Int} (h : ks.drop i = c :: r) : ks.getD i 0 = c := by
  have : (ks.drop i)[0]? = some c := by rw [h]; rfl
  rw [List.getElem?_drop, Nat.add_zero] at this
  rw [List.getD_eq_getElem?_getD, this]; rfl


section
variable (w : World) (x d : Nat) (b : Array UInt8) (td kd ka ta : Tok) (i : Nat) (ks : List Int) (hk : KBw.bInts b = ks) (hlen : ks.length ≤ 4000) (hxd : x ≠ d)
include hk hlen hxd
set_option linter.unusedSectionVars false
theorem need_t (o : Array UInt8) (to : Tok) (vw : Value) (os : List Int) (ho : KBw.bInts o = os) (h1 : i + os.length ≤ ks.length) (hs : (ks.drop i).take os.length = os) :
    WCon w 2 544 [.ref x, .bytes o to, vw] x d b td kd ka ta i (i + os.length) (fun v => v = .none) := by
  unfold WCon
  intro rest hoff
  refine Con.mk5 ?_
  k_fill
  (k_with_none; (k_with "units_room" => ((ktr_units))); (k_with "k_room" => ((ktr_room))); (k_with "k_all" => (first | assumption | exact fun q hq => Nat.ne_of_lt (ktn_ltOf (by assumption) q hq))); (k_with "exec While BoolOp cons nil" => ((k_here; k_extra "W"))); (k_with "exec While Compare cons nil" => ((k_here; k_extra "W"))); (k_with "call ref" => ((k_here; first | k_extra "C" | (k_extra "HOLD"; refine Hold.out ?_)))); (k_with "eval ListComp" => ((k_here; k_extra "L"))); (k_with "pyIter ref" => ((k_here; k_extra "F"))); (k_with "exec For Name Call cons nil" => ((k_here; k_extra "FOR"; (rename Fr _ _ _ _ => lF'); (with_unfolding_all refine' For_invVF lF' ?k1 ?k2 ?_; (case k1 => exact rfl); (case k2 => exact rfl); k_whole)))); (k_with "exec For Name Name cons nil" => ((k_here; k_extra "FOR"; (rename Fr _ _ _ _ => lF'); (with_unfolding_all refine' For_invVF lF' ?k1 ?k2 ?_; (case k1 => exact rfl); (case k2 => exact rfl); k_whole)))); (k_with "compareOp In int bytes" => ((k_here; refine in_bytes_K (by omega) (by omega) ?_))); (k_with "compareOp NotIn int bytes" => ((k_here; refine notin_bytes_K (by omega) (by omega) ?_))); (k_with "pyIter bytes" => ((k_here; k_extra "FB"))); (k_with "call type:bytes" => ((k_here; (with_reducible show wpAny _ _ (call (Value.type "bytes") [Value.bytes _ _]) _ _ _); refine call_bytes_bytes ?_))); (k_with "NE1" => (first | with_reducible assumption | exact And.right (by with_reducible assumption) | exact And.right (And.right (by with_reducible assumption)) | exact And.right (And.right (And.right (by with_reducible assumption))))); (k_with "NE2" => (first | with_reducible assumption | exact And.right (by with_reducible assumption) | exact And.right (And.right (by with_reducible assumption)) | exact And.right (And.right (And.right (by with_reducible assumption))) | exact And.right (And.right (And.right (And.right (by k_extra "NE1")))))); (k_with "NE3" => (first | with_reducible assumption | exact And.right (by with_reducible assumption) | exact And.right (And.right (by with_reducible assumption)) | exact And.right (And.right (And.right (by with_reducible assumption))) | exact And.right (And.right (And.right (And.right (by k_extra "NE2")))))); (k_with "kwd_less" => (first | with_reducible assumption | exact And.left (by k_extra "NE3") | exact And.right (by k_extra "NE3"))); (k_with "k_ne" => (((try dsimp only); first | with_reducible assumption | exact Ne.symm (by with_reducible assumption) | (refine ne_gt ?_; kwd_less) | (refine ne_lt ?_; kwd_less) | kwd_less | (refine Ne.symm ?_; kwd_less)))); (k_with "ktr_room" => (first | exact room_lt (by assumption) (by rfl) | exact room_same (by assumption) (by rfl))); (k_with "ktr_units" => (exact units_lt (by assumption) (by rfl))); (k_with "eval Constant bytes" => ((refine xs_bytes ?_))); (k_with "binaryOp Sub int int" => ((refine xs_sub ?_))); (k_with "binaryOp Mod int int" => ((k_here; refine xs_mod (by decide) ?_))); (k_with "newList" => ((k_here; k_dflt (refine' xs_list ?xlF ?xlN ?_; (case xlF => k_asm); (case xlN => k_asm); k_whole); intro _ _ _ _ xll; (try k_lt xll); (try k_sweep)))); (k_with "eval Constant int" => ((refine xs_int ?_))); (k_with "eval Constant str" => ((refine xs_str ?_))); (k_with "binaryOp Add int int" => ((refine xs_add ?_))); (k_with "storeName" => ((k_here; k_dflt (refine' xs_store ?xsF ?xsN ?_ ?xsa ?xsb; (case xsF => k_asm); (case xsN => k_asm); (case xsa => rfl); (case xsb => rfl); k_whole; intro _ _ _; (try k_sweep))))); (k_with "newTuple" => ((k_here; kup_bare; k_dflt (refine' xs_tuple ?xtF ?xtN ?_ ?xtz; (case xtF => k_asm); (case xtN => k_asm); (case xtz => kmk_size)); intro _ _ _ _ xtl; (try k_lt xtl); (try k_sweep)))))
  intro dp un gd cn cs a ccd cl outer A₀ base h₀ L m hp0 gn0 dr0 tk0 os0 mean mg mb Q E B F X N T hcs hdp hun hret
  refine wpAny_call ?_
  k_dflt ktr_enter
  k_with "HOLD" => skip
  k_with "C" => ((with_reducible show wpAny _ _ (call (Value.ref 537) _) _ _ _); k_dflt (refine' WCon.use5 (skip_t w x d b td kd ka _ i ks hk hlen hxd _ _ os ho h1 hs) ?hx ?U ?B ?F ?X ?N ?T ?hk ?hd ?hu ?_; (first | (((case N => k_asm); (case hx => k_mem); (case U => (intro _; k_upd)); (case B => k_asm); (case F => k_asm); (case X => k_asm); (case T => k_asm); (case hk => first | exact rfl | assumption); (case hd => ktr_room); (case hu => ktr_units))) | tb_rel)); intro v9 ta9 h9 tk9 hP9 F9 N9; subst hP9; try dsimp only)
  k_steps
  · exact hret _ _ _ _ ⟨⟨_, rfl⟩, rfl⟩ (by assumption) (by assumption)
theorem literal_t (c1 c2 : Int) (content post : List Int) (bc : Array UInt8) (hbc : KBw.bInts bc = content) (f1 : isFig c1 = true) (f2 : isFig c2 = true) (hn : (content.length : Int) = (c1 - 48) * 10 + (c2 - 48)) (hks : ks.drop i = [123] ++ ([c1, c2] ++ ([43] ++ ([125, 13, 10] ++ (content ++ post))))) :
    WCon w 10 628 [.ref x] x d b td kd ka ta i (i + 7 + content.length) (fun v => ∃ t, v = .bytes bc t) := by
  have k1 := drop_of hks
  have k2 := drop_of k1
  have k3 := drop_of k2
  have k4 := drop_of k3
  have l1 := len_of hks (by simp)
  have l2 := len_of k1 (by simp)
  have l3 := len_of k2 (by simp)
  have l4 := len_of k3 (by simp)
  have l5 : i + 7 + content.length ≤ ks.length := by have := congrArg List.length hks; simp only [List.length_drop, List.length_append, List.length_cons, List.length_nil] at this; omega
  simp only [List.length_cons, List.length_nil, Nat.zero_add, Nat.reduceAdd] at k1 k2 k3 k4 l1 l2 l3 l4
  have hls : (ks.drop (i + 1)).take (i + 1 + 2 - (i + 1)) = [c1, c2] := by rw [show i + 1 + 2 - (i + 1) = 2 by omega]; exact take_of k1
  have hp := seg_all (by omega : i + 1 + 2 < ks.length) hls (p := isFig) (by intro k hk'; simp only [List.mem_cons, List.not_mem_nil, or_false] at hk'; rcases hk' with rfl | rfl <;> assumption)
  have hq : isFig (ks.getD (i + 1 + 2) 0) = false := by rw [getD_of k2]; rfl
  obtain ⟨bw, hbw, hpick⟩ : ∃ bw, KBw.bInts bw = [c1, c2] ∧ KBy.picked b (some ((i + 1 : Nat) : Int)) (some ((i + 1 + 2 : Nat) : Int)) = bw := ⟨_, by rw [picked_at hk (by omega) (by omega), hls], rfl⟩
  unfold WCon
  intro rest hoff
  refine Con.mk5 ?_
  k_fill
  (k_with_none; (k_with "units_room" => ((ktr_units))); (k_with "k_room" => ((ktr_room))); (k_with "k_all" => (first | assumption | exact fun q hq => Nat.ne_of_lt (ktn_ltOf (by assumption) q hq))); (k_with "exec While BoolOp cons nil" => ((k_here; k_extra "W"))); (k_with "exec While Compare cons nil" => ((k_here; k_extra "W"))); (k_with "call ref" => ((k_here; first | k_extra "C" | (k_extra "HOLD"; refine Hold.out ?_)))); (k_with "eval ListComp" => ((k_here; k_extra "L"))); (k_with "pyIter ref" => ((k_here; k_extra "F"))); (k_with "exec For Name Call cons nil" => ((k_here; k_extra "FOR"; (rename Fr _ _ _ _ => lF'); (with_unfolding_all refine' For_invVF lF' ?k1 ?k2 ?_; (case k1 => exact rfl); (case k2 => exact rfl); k_whole)))); (k_with "exec For Name Name cons nil" => ((k_here; k_extra "FOR"; (rename Fr _ _ _ _ => lF'); (with_unfolding_all refine' For_invVF lF' ?k1 ?k2 ?_; (case k1 => exact rfl); (case k2 => exact rfl); k_whole)))); (k_with "compareOp In int bytes" => ((k_here; refine in_bytes_K (by omega) (by omega) ?_))); (k_with "compareOp NotIn int bytes" => ((k_here; refine notin_bytes_K (by omega) (by omega) ?_))); (k_with "pyIter bytes" => ((k_here; k_extra "FB"))); (k_with "call type:bytes" => ((k_here; (with_reducible show wpAny _ _ (call (Value.type "bytes") [Value.bytes _ _]) _ _ _); refine call_bytes_bytes ?_))); (k_with "NE1" => (first | with_reducible assumption | exact And.right (by with_reducible assumption) | exact And.right (And.right (by with_reducible assumption)) | exact And.right (And.right (And.right (by with_reducible assumption))))); (k_with "NE2" => (first | with_reducible assumption | exact And.right (by with_reducible assumption) | exact And.right (And.right (by with_reducible assumption)) | exact And.right (And.right (And.right (by with_reducible assumption))) | exact And.right (And.right (And.right (And.right (by k_extra "NE1")))))); (k_with "NE3" => (first | with_reducible assumption | exact And.right (by with_reducible assumption) | exact And.right (And.right (by with_reducible assumption)) | exact And.right (And.right (And.right (by with_reducible assumption))) | exact And.right (And.right (And.right (And.right (by k_extra "NE2")))))); (k_with "kwd_less" => (first | with_reducible assumption | exact And.left (by k_extra "NE3") | exact And.right (by k_extra "NE3"))); (k_with "k_ne" => (((try dsimp only); first | with_reducible assumption | exact Ne.symm (by with_reducible assumption) | (refine ne_gt ?_; kwd_less) | (refine ne_lt ?_; kwd_less) | kwd_less | (refine Ne.symm ?_; kwd_less)))); (k_with "ktr_room" => (first | exact room_lt (by assumption) (by rfl) | exact room_same (by assumption) (by rfl))); (k_with "ktr_units" => (exact units_lt (by assumption) (by rfl))); (k_with "eval Constant bytes" => ((refine xs_bytes ?_))); (k_with "binaryOp Sub int int" => ((refine xs_sub ?_))); (k_with "binaryOp Mod int int" => ((k_here; refine xs_mod (by decide) ?_))); (k_with "newList" => ((k_here; k_dflt (refine' xs_list ?xlF ?xlN ?_; (case xlF => k_asm); (case xlN => k_asm); k_whole); intro _ _ _ _ xll; (try k_lt xll); (try k_sweep)))); (k_with "eval Constant int" => ((refine xs_int ?_))); (k_with "eval Constant str" => ((refine xs_str ?_))); (k_with "binaryOp Add int int" => ((refine xs_add ?_))); (k_with "storeName" => ((k_here; k_dflt (refine' xs_store ?xsF ?xsN ?_ ?xsa ?xsb; (case xsF => k_asm); (case xsN => k_asm); (case xsa => rfl); (case xsb => rfl); k_whole; intro _ _ _; (try k_sweep))))); (k_with "newTuple" => ((k_here; kup_bare; k_dflt (refine' xs_tuple ?xtF ?xtN ?_ ?xtz; (case xtF => k_asm); (case xtN => k_asm); (case xtz => kmk_size)); intro _ _ _ _ xtl; (try k_lt xtl); (try k_sweep)))))
  intro dp un gd cn cs a ccd cl outer A₀ base h₀ L m hp0 gn0 dr0 tk0 os0 mean mg mb Q E B F X N T hcs hdp hun hret
  refine wpAny_call ?_
  k_dflt ktr_enter
  k_with "HOLD" => skip
  k_with "C" => ((with_reducible show wpAny _ _ (call (Value.ref 544) _) _ _ _); k_dflt (refine' WCon.use5 (need_t w x d b td kd ka _ i ks hk hlen hxd _ _ _ [123] (KBw.ints_list _) l1 (take_of hks)) ?hx ?U ?B ?F ?X ?N ?T ?hk ?hd ?hu ?_; (first | (((case N => k_asm); (case hx => k_mem); (case U => (intro _; k_upd)); (case B => k_asm); (case F => k_asm); (case X => k_asm); (case T => k_asm); (case hk => first | exact rfl | assumption); (case hd => ktr_room); (case hu => ktr_units))) | tb_rel)); intro v9 ta9 h9 tk9 hP9 F9 N9; subst hP9; try dsimp only)
  k_with "C" => ((with_reducible show wpAny _ _ (call (Value.ref 565) _) _ _ _); k_dflt (refine' WCon.use5 (run_con w x d b td kd ka _ (i + 1) ks hk hlen hxd 1 494 (keep494 w) isFig (fig_con w) (i + 1 + 2) (by omega) (by omega) hp hq) ?hx ?U ?B ?F ?X ?N ?T ?hk ?hd ?hu ?_; (first | (((case N => k_asm); (case hx => k_mem); (case U => (intro _; k_upd)); (case B => k_asm); (case F => k_asm); (case X => k_asm); (case T => k_asm); (case hk => first | exact rfl | assumption); (case hd => ktr_room); (case hu => ktr_units))) | tb_rel)); intro v9 ta9 h9 tk9 hP9 F9 N9; obtain ⟨t9, hP9⟩ := hP9; rw [hpick] at hP9; subst hP9; (try dsimp only))
  k_with "C" => ((with_reducible show wpAny _ _ (call (Value.ref 537) _) _ _ _); k_dflt (refine' WCon.use5 (skip_t w x d b td kd ka _ (i + 1 + 2) ks hk hlen hxd _ _ [43] (KBw.ints_list _) l3 (take_of k2)) ?hx ?U ?B ?F ?X ?N ?T ?hk ?hd ?hu ?_; (first | (((case N => k_asm); (case hx => k_mem); (case U => (intro _; k_upd)); (case B => k_asm); (case F => k_asm); (case X => k_asm); (case T => k_asm); (case hk => first | exact rfl | assumption); (case hd => ktr_room); (case hu => ktr_units))) | tb_rel)); intro v9 ta9 h9 tk9 hP9 F9 N9; subst hP9; try dsimp only)
  k_with "C" => ((with_reducible show wpAny _ _ (call (Value.ref 544) _) _ _ _); k_dflt (refine' WCon.use5 (need_t w x d b td kd ka _ (i + 1 + 2 + 1) ks hk hlen hxd _ _ _ [125, 13, 10] (KBw.ints_list _) l4 (take_of k3)) ?hx ?U ?B ?F ?X ?N ?T ?hk ?hd ?hu ?_; (first | (((case N => k_asm); (case hx => k_mem); (case U => (intro _; k_upd)); (case B => k_asm); (case F => k_asm); (case X => k_asm); (case T => k_asm); (case hk => first | exact rfl | assumption); (case hd => ktr_room); (case hu => ktr_units))) | tb_rel)); intro v9 ta9 h9 tk9 hP9 F9 N9; subst hP9; try dsimp only)
  k_with "C" => ((with_reducible show wpAny _ _ (call (Value.ref 501) _) _ _ _); k_dflt (refine' Con.use5 (nof_con w bw _ c1 c2 hbw f1 f2 _) ?B ?F ?X ?N ?T ?hk ?hd ?hu ?_; (first | (((case N => k_asm); (case B => k_asm); (case F => k_asm); (case X => k_asm); (case T => k_asm); (case hk => first | exact rfl | assumption); (case hd => ktr_room); (case hu => ktr_units))) | tb_start)); intro v9 h9 tk9 hP9 F9 N9; obtain ⟨t9, hP9⟩ := hP9; subst hP9; (try dsimp only))
  k_steps
  · exact absurd (by assumption : (([c1, c2].length : Nat) : Int) = 0) (by simp)
  · exact absurd (by assumption : (10 : Int) < (([c1, c2].length : Nat) : Int)) (by simp)
  · exfalso
    have hx := (by assumption : ((ks.length : Nat) : Int) < ((i + 1 + 2 + 1 + ([125, 13, 10] : List Int).length : Nat) : Int) + ((c1 - 48) * 10 + (c2 - 48)))
    simp only [List.length_cons, List.length_nil] at hx
    omega
  · have e1 : ((i + 1 + 2 + 1 + ([125, 13, 10] : List Int).length : Nat) : Int) + ((c1 - 48) * 10 + (c2 - 48)) = ((i + 7 + content.length : Nat) : Int) := by simp only [List.length_cons, List.length_nil]; omega
    have e2 : KBy.picked b (some ((i + 1 + 2 + 1 + ([125, 13, 10] : List Int).length : Nat) : Int)) (some (((i + 1 + 2 + 1 + ([125, 13, 10] : List Int).length : Nat) : Int) + ((c1 - 48) * 10 + (c2 - 48)))) = bc := by
      rw [e1]
      refine bInts_inj ?_
      rw [picked_at hk (by simp only [List.length_cons, List.length_nil]; omega) (by omega), hbc]
      simp only [List.length_cons, List.length_nil]
      rw [show i + 7 + content.length - (i + 1 + 2 + 1 + (0 + 1 + 1 + 1)) = content.length by omega]
      exact take_of k4
    rw [e2]
    have N2 := (by assumption : News h₀ L _ ((x, wireObj d) :: (d, wireDict w b td _ kd ka (((i + 1 + 2 + 1 + ([125, 13, 10] : List Int).length : Nat) : Int) + ((c1 - 48) * 10 + (c2 - 48)))) :: rest))
    rw [e1] at N2
    exact hret _ _ _ _ ⟨⟨_, rfl⟩, _, rfl⟩ (by assumption) N2
theorem literal_f (c1 c2 : Int) (content post : List Int) (bc : Array UInt8) (hbc : KBw.bInts bc = content) (f1 : isFig c1 = true) (f2 : isFig c2 = true) (hn : (content.length : Int) = (c1 - 48) * 10 + (c2 - 48)) (hks : ks.drop i = [123] ++ ([c1, c2] ++ ([125, 13, 10] ++ (content ++ post)))) :
    WCon w 10 628 [.ref x] x d b td kd ka ta i (i + 6 + content.length) (fun v => ∃ t, v = .bytes bc t) := by
  have k1 := drop_of hks
  have k2 := drop_of k1
  have k4 := drop_of k2
  have l1 := len_of hks (by simp)
  have l2 := len_of k1 (by simp)
  have l3 := len_of k2 (by simp)
  have l5 : i + 6 + content.length ≤ ks.length := by have := congrArg List.length hks; simp only [List.length_drop, List.length_append, List.length_cons, List.length_nil] at this; omega
  simp only [List.length_cons, List.length_nil, Nat.zero_add, Nat.reduceAdd] at k1 k2 k4 l1 l2 l3
  have hls : (ks.drop (i + 1)).take (i + 1 + 2 - (i + 1)) = [c1, c2] := by rw [show i + 1 + 2 - (i + 1) = 2 by omega]; exact take_of k1
  have hp := seg_all (by omega : i + 1 + 2 < ks.length) hls (p := isFig) (by intro k hk'; simp only [List.mem_cons, List.not_mem_nil, or_false] at hk'; rcases hk' with rfl | rfl <;> assumption)
  have hq : isFig (ks.getD (i + 1 + 2) 0) = false := by rw [getD_of k2]; rfl
  have hne : (ks.drop (i + 1 + 2)).take ([43] : List Int).length ≠ [43] := by rw [k2]; simp
  obtain ⟨bw, hbw, hpick⟩ : ∃ bw, KBw.bInts bw = [c1, c2] ∧ KBy.picked b (some ((i + 1 : Nat) : Int)) (some ((i + 1 + 2 : Nat) : Int)) = bw := ⟨_, by rw [picked_at hk (by omega) (by omega), hls], rfl⟩
  unfold WCon
  intro rest hoff
  refine Con.mk5 ?_
  k_fill
  (k_with_none; (k_with "units_room" => ((ktr_units))); (k_with "k_room" => ((ktr_room))); (k_with "k_all" => (first | assumption | exact fun q hq => Nat.ne_of_lt (ktn_ltOf (by assumption) q hq))); (k_with "exec While BoolOp cons nil" => ((k_here; k_extra "W"))); (k_with "exec While Compare cons nil" => ((k_here; k_extra "W"))); (k_with "call ref" => ((k_here; first | k_extra "C" | (k_extra "HOLD"; refine Hold.out ?_)))); (k_with "eval ListComp" => ((k_here; k_extra "L"))); (k_with "pyIter ref" => ((k_here; k_extra "F"))); (k_with "exec For Name Call cons nil" => ((k_here; k_extra "FOR"; (rename Fr _ _ _ _ => lF'); (with_unfolding_all refine' For_invVF lF' ?k1 ?k2 ?_; (case k1 => exact rfl); (case k2 => exact rfl); k_whole)))); (k_with "exec For Name Name cons nil" => ((k_here; k_extra "FOR"; (rename Fr _ _ _ _ => lF'); (with_unfolding_all refine' For_invVF lF' ?k1 ?k2 ?_; (case k1 => exact rfl); (case k2 => exact rfl); k_whole)))); (k_with "compareOp In int bytes" => ((k_here; refine in_bytes_K (by omega) (by omega) ?_))); (k_with "compareOp NotIn int bytes" => ((k_here; refine notin_bytes_K (by omega) (by omega) ?_))); (k_with "pyIter bytes" => ((k_here; k_extra "FB"))); (k_with "call type:bytes" => ((k_here; (with_reducible show wpAny _ _ (call (Value.type "bytes") [Value.bytes _ _]) _ _ _); refine call_bytes_bytes ?_))); (k_with "NE1" => (first | with_reducible assumption | exact And.right (by with_reducible assumption) | exact And.right (And.right (by with_reducible assumption)) | exact And.right (And.right (And.right (by with_reducible assumption))))); (k_with "NE2" => (first | with_reducible assumption | exact And.right (by with_reducible assumption) | exact And.right (And.right (by with_reducible assumption)) | exact And.right (And.right (And.right (by with_reducible assumption))) | exact And.right (And.right (And.right (And.right (by k_extra "NE1")))))); (k_with "NE3" => (first | with_reducible assumption | exact And.right (by with_reducible assumption) | exact And.right (And.right (by with_reducible assumption)) | exact And.right (And.right (And.right (by with_reducible assumption))) | exact And.right (And.right (And.right (And.right (by k_extra "NE2")))))); (k_with "kwd_less" => (first | with_reducible assumption | exact And.left (by k_extra "NE3") | exact And.right (by k_extra "NE3"))); (k_with "k_ne" => (((try dsimp only); first | with_reducible assumption | exact Ne.symm (by with_reducible assumption) | (refine ne_gt ?_; kwd_less) | (refine ne_lt ?_; kwd_less) | kwd_less | (refine Ne.symm ?_; kwd_less)))); (k_with "ktr_room" => (first | exact room_lt (by assumption) (by rfl) | exact room_same (by assumption) (by rfl))); (k_with "ktr_units" => (exact units_lt (by assumption) (by rfl))); (k_with "eval Constant bytes" => ((refine xs_bytes ?_))); (k_with "binaryOp Sub int int" => ((refine xs_sub ?_))); (k_with "binaryOp Mod int int" => ((k_here; refine xs_mod (by decide) ?_))); (k_with "newList" => ((k_here; k_dflt (refine' xs_list ?xlF ?xlN ?_; (case xlF => k_asm); (case xlN => k_asm); k_whole); intro _ _ _ _ xll; (try k_lt xll); (try k_sweep)))); (k_with "eval Constant int" => ((refine xs_int ?_))); (k_with "eval Constant str" => ((refine xs_str ?_))); (k_with "binaryOp Add int int" => ((refine xs_add ?_))); (k_with "storeName" => ((k_here; k_dflt (refine' xs_store ?xsF ?xsN ?_ ?xsa ?xsb; (case xsF => k_asm); (case xsN => k_asm); (case xsa => rfl); (case xsb => rfl); k_whole; intro _ _ _; (try k_sweep))))); (k_with "newTuple" => ((k_here; kup_bare; k_dflt (refine' xs_tuple ?xtF ?xtN ?_ ?xtz; (case xtF => k_asm); (case xtN => k_asm); (case xtz => kmk_size)); intro _ _ _ _ xtl; (try k_lt xtl); (try k_sweep)))))
  intro dp un gd cn cs a ccd cl outer A₀ base h₀ L m hp0 gn0 dr0 tk0 os0 mean mg mb Q E B F X N T hcs hdp hun hret
  refine wpAny_call ?_
  k_dflt ktr_enter
  k_with "HOLD" => skip
  k_with "C" => ((with_reducible show wpAny _ _ (call (Value.ref 544) _) _ _ _); k_dflt (refine' WCon.use5 (need_t w x d b td kd ka _ i ks hk hlen hxd _ _ _ [123] (KBw.ints_list _) l1 (take_of hks)) ?hx ?U ?B ?F ?X ?N ?T ?hk ?hd ?hu ?_; (first | (((case N => k_asm); (case hx => k_mem); (case U => (intro _; k_upd)); (case B => k_asm); (case F => k_asm); (case X => k_asm); (case T => k_asm); (case hk => first | exact rfl | assumption); (case hd => ktr_room); (case hu => ktr_units))) | tb_rel)); intro v9 ta9 h9 tk9 hP9 F9 N9; subst hP9; try dsimp only)
  k_with "C" => ((with_reducible show wpAny _ _ (call (Value.ref 565) _) _ _ _); k_dflt (refine' WCon.use5 (run_con w x d b td kd ka _ (i + 1) ks hk hlen hxd 1 494 (keep494 w) isFig (fig_con w) (i + 1 + 2) (by omega) (by omega) hp hq) ?hx ?U ?B ?F ?X ?N ?T ?hk ?hd ?hu ?_; (first | (((case N => k_asm); (case hx => k_mem); (case U => (intro _; k_upd)); (case B => k_asm); (case F => k_asm); (case X => k_asm); (case T => k_asm); (case hk => first | exact rfl | assumption); (case hd => ktr_room); (case hu => ktr_units))) | tb_rel)); intro v9 ta9 h9 tk9 hP9 F9 N9; obtain ⟨t9, hP9⟩ := hP9; rw [hpick] at hP9; subst hP9; (try dsimp only))
  k_with "C" => ((with_reducible show wpAny _ _ (call (Value.ref 537) _) _ _ _); k_dflt (refine' WCon.use5 (skip_f w x d b td kd ka _ (i + 1 + 2) ks hk hlen hxd _ _ [43] (KBw.ints_list _) (by simp only [List.length_cons, List.length_nil]; omega) hne) ?hx ?U ?B ?F ?X ?N ?T ?hk ?hd ?hu ?_; (first | (((case N => k_asm); (case hx => k_mem); (case U => (intro _; k_upd)); (case B => k_asm); (case F => k_asm); (case X => k_asm); (case T => k_asm); (case hk => first | exact rfl | assumption); (case hd => ktr_room); (case hu => ktr_units))) | tb_rel)); intro v9 ta9 h9 tk9 hP9 F9 N9; subst hP9; try dsimp only)
  k_with "C" => ((with_reducible show wpAny _ _ (call (Value.ref 544) _) _ _ _); k_dflt (refine' WCon.use5 (need_t w x d b td kd ka _ (i + 1 + 2) ks hk hlen hxd _ _ _ [125, 13, 10] (KBw.ints_list _) l3 (take_of k2)) ?hx ?U ?B ?F ?X ?N ?T ?hk ?hd ?hu ?_; (first | (((case N => k_asm); (case hx => k_mem); (case U => (intro _; k_upd)); (case B => k_asm); (case F => k_asm); (case X => k_asm); (case T => k_asm); (case hk => first | exact rfl | assumption); (case hd => ktr_room); (case hu => ktr_units))) | tb_rel)); intro v9 ta9 h9 tk9 hP9 F9 N9; subst hP9; try dsimp only)
  k_with "C" => ((with_reducible show wpAny _ _ (call (Value.ref 501) _) _ _ _); k_dflt (refine' Con.use5 (nof_con w bw _ c1 c2 hbw f1 f2 _) ?B ?F ?X ?N ?T ?hk ?hd ?hu ?_; (first | (((case N => k_asm); (case B => k_asm); (case F => k_asm); (case X => k_asm); (case T => k_asm); (case hk => first | exact rfl | assumption); (case hd => ktr_room); (case hu => ktr_units))) | tb_start)); intro v9 h9 tk9 hP9 F9 N9; obtain ⟨t9, hP9⟩ := hP9; subst hP9; (try dsimp only))
  k_steps
  · exact absurd (by assumption : (([c1, c2].length : Nat) : Int) = 0) (by simp)
  · exact absurd (by assumption : (10 : Int) < (([c1, c2].length : Nat) : Int)) (by simp)
  · exfalso
    have hx := (by assumption : ((ks.length : Nat) : Int) < ((i + 1 + 2 + ([125, 13, 10] : List Int).length : Nat) : Int) + ((c1 - 48) * 10 + (c2 - 48)))
    simp only [List.length_cons, List.length_nil] at hx
    omega
  · have e1 : ((i + 1 + 2 + ([125, 13, 10] : List Int).length : Nat) : Int) + ((c1 - 48) * 10 + (c2 - 48)) = ((i + 6 + content.length : Nat) : Int) := by simp only [List.length_cons, List.length_nil]; omega
    have e2 : KBy.picked b (some ((i + 1 + 2 + ([125, 13, 10] : List Int).length : Nat) : Int)) (some (((i + 1 + 2 + ([125, 13, 10] : List Int).length : Nat) : Int) + ((c1 - 48) * 10 + (c2 - 48)))) = bc := by
      rw [e1]
      refine bInts_inj ?_
      rw [picked_at hk (by simp only [List.length_cons, List.length_nil]; omega) (by omega), hbc]
      simp only [List.length_cons, List.length_nil]
      rw [show i + 6 + content.length - (i + 1 + 2 + (0 + 1 + 1 + 1)) = content.length by omega]
      exact take_of k4
    rw [e2]
    have N2 := (by assumption : News h₀ L _ ((x, wireObj d) :: (d, wireDict w b td _ kd ka (((i + 1 + 2 + ([125, 13, 10] : List Int).length : Nat) : Int) + ((c1 - 48) * 10 + (c2 - 48)))) :: rest))
    rw [e1] at N2
    exact hret _ _ _ _ ⟨⟨_, rfl⟩, _, rfl⟩ (by assumption) N2
end
end

section

theorem UnrEndW_one {h₀ : Heap} {L : Addr} {I : Addr} {it : Obj} {rest : (Str → Option Value) → List (Addr × Obj) → Prop} {s₁ : Shared} {h' : Heap} {tk : Nat} {m' : Str → Option Value} {news' base : List (Addr × Obj)} (F : Fr h₀ L h' m') (N : News h₀ L h' ((I, it) :: news'))
    (l : ∀ p ∈ base, p.1 < I) (e : news'.map Prod.fst = base.map Prod.fst) (r : rest m' news') : UnrEndW h₀ L s₁ [(I, it)] rest { s₁ with heap := h', toks := tk } := by
  refine ⟨h', tk, m', news', rfl, F, N, fun p hp q hq => ?_, r⟩
  rw [List.mem_singleton.mp hq]
  have h1 : p.1 ∈ base.map Prod.fst := e ▸ List.mem_map_of_mem hp
  obtain ⟨z, hz, he⟩ := List.mem_map.mp h1
  exact Nat.ne_of_lt (he ▸ l z hz)
example : True := by ((k_with "exec For Name Tuple cons nil" => ((k_here; (rename Fr _ _ _ _ => lF'); (with_unfolding_all refine' For_turns lF' ?_; k_whole)))); (k_with "pyIter ref" => ((k_here; (with_reducible show wpAny _ _ (pyIter (Value.ref _)) (fun it s₂ => TurnsAt _ _ _ _ _ _ _ _ _ it s₂) _ _); k_extra "TI"))); (k_with "UnrEndW" => ((refine Hold.out ?_))); (k_with "setItem ref str" => ((k_here; k_extra "SI"))); trivial)
theorem news_right {h₀ h : Heap} {L : Addr} {a b : List (Addr × Obj)} (N : News h₀ L h (a ++ b)) : News h₀ L h b := fun p hp => N p (List.mem_append_right _ hp)
def csTab : List (PyData × PyData) := [(.str "us-ascii", .str "us-ascii"), (.str "ascii", .str "us-ascii"), (.str "ansi_x3.4-1968", .str "us-ascii"), (.str "iso_646.irv:1991", .str "us-ascii"), (.str "iso-ir-6", .str "us-ascii"), (.str "iso646-us", .str "us-ascii"), (.str "us", .str "us-ascii"), (.str "cp367", .str "us-ascii"), (.str "ibm367", .str "us-ascii"),
  (.str "iso-8859-1", .str "iso-8859-1"), (.str "iso_8859-1", .str "iso-8859-1"), (.str "iso_8859-1:1987", .str "iso-8859-1"), (.str "iso-ir-100", .str "iso-8859-1"), (.str "latin1", .str "iso-8859-1"), (.str "l1", .str "iso-8859-1"), (.str "cp819", .str "iso-8859-1"), (.str "ibm819", .str "iso-8859-1"),
  (.str "utf-8", .str "utf-8"), (.str "utf8", .str "utf-8")]
/-- a for loop over a tuple, by an invariant over what is left of it -/
theorem items_inv {prog : Program} {w : World} {A : Around} {E : Value → Shared → Prop} {h₀ : Heap} {env : Env} {target : Expr} {body : List Stmt} {Q : Flow → Shared → Prop} {s : Shared} {I : Addr} {keep : List (Addr × Obj)} {J : List Value → (Str → Option Value) → List (Addr × Obj) → Prop}
    (hk : ∀ r m n, J r m n → SubL keep n)
    (step : ∀ v r m n h tk it, J (v :: r) m n → it.cls = .type "tuple_iterator" → Fr h₀ env.locals h m → News h₀ env.locals h ((I, it) :: n) →
      wpAny (model prog w) A (assign target env v) (fun _ s₂ => wpAny (model prog w) A (execs body env) (UnrPostW h₀ env.locals { s with heap := h, toks := tk } [(I, it)] (J r) Q) E s₂) E { s with heap := h, toks := tk })
    (stop : ∀ m n h tk, J [] m n → Fr h₀ env.locals h m → News h₀ env.locals h n → Q .next { s with heap := h, toks := tk }) :
    ∀ vs m n, J vs m n → ItemsRest prog w A E h₀ env target body Q s [(I, "tuple_iterator")] keep (vs.map .val) m n
  | [], m, n, hJ => ItemsRest.zero fun h tk F N => stop m n h tk hJ F N
  | v :: r, m, n, hJ => ItemsRest.val fun h tk F it hit => fun N => wpAny_mono (step v r m n h tk it hJ hit F N) (fun _ s₂ h2 => wpAny_mono h2 (fun f s₃ h3 => by
      cases f with
      | ret v => exact h3
      | brk => exact h3
      | _ =>
        obtain ⟨h', tk', m', n', e, F', N', hne, hr⟩ := h3
        exact ⟨h', tk', m', n', e, F', N', hne, hk _ _ _ hr, items_inv hk step stop r m' n' hr⟩) fun _ _ x => x) fun _ _ x => x
theorem tup_inv {prog : Program} {w : World} {A : Around} {E : Value → Shared → Prop} {h₀ : Heap} {env : Env} {target : Expr} {body : List Stmt} {Q : Flow → Shared → Prop} {s : Shared} {ax : Addr} {lo : Obj} {vs : List Value} {n : Nat} {m₀ : Str → Option Value} {news : List (Addr × Obj)} (J : List Value → (Str → Option Value) → List (Addr × Obj) → Prop)
    (hh : A.handled = none) (F : Fr h₀ env.locals s.heap m₀) (N : News h₀ env.locals s.heap news) (hm : (ax, lo) ∈ news) (hc : lo.cls = .type "tuple") (hd : lo.data = .seq vs.toArray n)
    (hk : ∀ r m n, J r m n → (ax, lo) ∈ n) (h0 : J vs m₀ news)
    (step : ∀ I, (∀ p ∈ news, p.1 < I) → ∀ v r m n h tk it, J (v :: r) m n → it.cls = .type "tuple_iterator" → Fr h₀ env.locals h m → News h₀ env.locals h ((I, it) :: n) →
      wpAny (model prog w) A (assign target env v) (fun _ s₂ => wpAny (model prog w) A (execs body env) (UnrPostW h₀ env.locals { s with heap := h, toks := tk } [(I, it)] (J r) Q) E s₂) E { s with heap := h, toks := tk })
    (stop : ∀ m n h tk, J [] m n → Fr h₀ env.locals h m → News h₀ env.locals h n → Q .next { s with heap := h, toks := tk }) :
    wpAny (model prog w) A (pyIter (.ref ax)) (fun it s₂ => TurnsAt prog w A h₀ env target body Q E it s₂) E s :=
  iter_tupTurns hh F N hm hc hd fun I l => items_inv (keep := [(ax, lo)]) (fun r m n hJ => And.intro (hk r m n hJ) trivial) (step I l) stop vs m₀ news h0
def encP (p : Str × Str) : PyData × PyData := (.str p.1, .str p.2)
def csT : List (Str × Str) := [("us-ascii", "us-ascii"), ("ascii", "us-ascii"), ("ansi_x3.4-1968", "us-ascii"), ("iso_646.irv:1991", "us-ascii"), ("iso-ir-6", "us-ascii"), ("iso646-us", "us-ascii"), ("us", "us-ascii"), ("cp367", "us-ascii"), ("ibm367", "us-ascii"),
  ("iso-8859-1", "iso-8859-1"), ("iso_8859-1", "iso-8859-1"), ("iso_8859-1:1987", "iso-8859-1"), ("iso-ir-100", "iso-8859-1"), ("latin1", "iso-8859-1"), ("l1", "iso-8859-1"), ("cp819", "iso-8859-1"), ("ibm819", "iso-8859-1"),
  ("utf-8", "utf-8"), ("utf8", "utf-8")]
def sPut (c k : Str) (T : List (Str × Str)) : List (Str × Str) := if T.any (fun p => decide (p.1 = k)) then T.map (fun p => if decide (p.1 = k) then (p.1, c) else p) else T ++ [(k, c)]
theorem putD_enc (c k : Str) (T : List (Str × Str)) : PyProof.V.putD (.str k) (.str c) (T.map encP) = (sPut c k T).map encP := by
  have e1 : (T.map encP).any (fun p => PySem.Spec.same p.1 (.str k)) = T.any (fun p => decide (p.1 = k)) := by
    rw [List.any_map]; exact congrArg (fun f => T.any f) (funext fun p => PyProof.V.same_str _ _)
  unfold PyProof.V.putD sPut
  rw [e1]
  split
  · rw [List.map_map, List.map_map]
    congr 1
    funext p
    show (if PySem.Spec.same (.str p.1) (.str k) then _ else _) = encP (if decide (p.1 = k) then (p.1, c) else p)
    rw [PyProof.V.same_str]
    by_cases h : p.1 = k
    · rw [if_pos (decide_eq_true h), if_pos (decide_eq_true h)]; rfl
    · rw [if_neg (by simpa using h), if_neg (by simpa using h)]
  · rw [List.map_append]; rfl
def csPut (c : Str) (xs : List Str) (T : List (Str × Str)) : List (Str × Str) := xs.foldl (fun T p => sPut c p T) T
theorem cs1_put : csPut "us-ascii" ["us-ascii", "ascii", "ansi_x3.4-1968", "iso_646.irv:1991", "iso-ir-6", "iso646-us", "us", "cp367", "ibm367"] [] = csT.take 9 := by decide +kernel
theorem cs2_put : csPut "iso-8859-1" ["iso-8859-1", "iso_8859-1", "iso_8859-1:1987", "iso-ir-100", "latin1", "l1", "cp819", "ibm819"] (csT.take 9) = csT.take 17 := by decide +kernel
theorem cs3_put : csPut "utf-8" ["utf-8", "utf8"] (csT.take 17) = csT := by decide +kernel
theorem csTab_eq : csT.map encP = csTab := rfl
def DT (w : World) (o : Obj) (D : List (PyData × PyData)) : Prop := ∃ kvs, Obj.IsDictOf (PySem.strKind PySem.Challenge.rw_or0070_01.row.prog w) o kvs ∧ PyProof.V.FlatPairs PyData.str kvs D
def csJ (w : World) (m0 : Str → Option Value) (pre : Led) (d : Addr) (news : Led) (c : Str) (Df : List (Str × Str)) (r : List Value) (m : Str → Option Value) (n : Led) : Prop :=
  ∃ (x : Option Value) (o : Obj) (T : List (Str × Str)) (xs : List (Str × Tok)), r = xs.map (fun p => .str p.1 p.2) ∧ m = (fun y => if y = Str.ofString "alias" then x else m0 y) ∧ n = pre ++ (d, o) :: news ∧ DT w o (T.map encP) ∧ T.length + xs.length ≤ 24 ∧ csPut c (xs.map (·.1)) T = Df
def unS : List Value → List (Str × Tok)
  | .str a t :: r => (a, t) :: unS r
  | _ => []
theorem alias_none {m0 : Str → Option Value} {a : Str} (h : m0 a = none) : m0 = fun y => if y = a then none else m0 y := funext fun y => by
  by_cases e : y = a
  · rw [if_pos e, e, h]
  · rw [if_neg e]
theorem alias_again {m0 : Str → Option Value} {a : Str} {x z : Option Value} : (fun y => if y = a then x else if y = a then z else m0 y) = fun y => if y = a then x else m0 y := funext fun y => by
  by_cases e : y = a
  · rw [if_pos e, if_pos e]
  · rw [if_neg e, if_neg e, if_neg e]
theorem csJ_zero {w : World} {m m0 : Str → Option Value} {pre n : Led} {d : Addr} {news : Led} {c : Str} {Df T : List (Str × Str)} {vs : List Value} {x : Option Value} {o : Obj} {kvs : List (Str × Value)} {names : List Str}
    (hp : csPut c names T = Df) (hv : vs = (unS vs).map (fun p => .str p.1 p.2)) (hx : (unS vs).map (·.1) = names) (hm : m = fun y => if y = Str.ofString "alias" then x else m0 y) (hn : n = pre ++ (d, o) :: news)
    (hd : Obj.IsDictOf (PySem.strKind PySem.Challenge.rw_or0070_01.row.prog w) o kvs) (hf : PyProof.V.FlatPairs PyData.str kvs (T.map encP)) (hl : T.length + names.length ≤ 24) : csJ w m0 pre d news c Df vs m n :=
  ⟨x, o, T, unS vs, hv, hm, hn, ⟨kvs, hd, hf⟩, by rw [← hx, List.length_map] at hl; exact hl, by rw [hx]; exact hp⟩
theorem csJ_next {w : World} {m0 m : Str → Option Value} {pre : Led} {d : Addr} {news : Led} {c a : Str} {t : Tok} {Df T : List (Str × Str)} {xs : List (Str × Tok)} {x z : Option Value} {o : Obj} {kvs : List (Str × Value)}
    (hd : Obj.IsDictOf (PySem.strKind PySem.Challenge.rw_or0070_01.row.prog w) o kvs) (hf : PyProof.V.FlatPairs PyData.str kvs (PyProof.V.putD (.str a) (.str c) (T.map encP))) (hn : T.length + (xs.length + 1) ≤ 24) (hp : csPut c (((a, t) :: xs).map (·.1)) T = Df)
    (hm : m = (fun y => if y = Str.ofString "alias" then x else if y = Str.ofString "alias" then z else m0 y)) :
    csJ w m0 pre d news c Df (xs.map (fun p => .str p.1 p.2)) m (pre ++ (d, o) :: news) :=
  ⟨x, o, sPut c a T, xs, rfl, hm.trans alias_again, rfl, ⟨kvs, hd, putD_enc c a T ▸ hf⟩, by have : (sPut c a T).length ≤ T.length + 1 := (by unfold sPut; split <;> simp); omega, hp⟩
theorem charset_names_con (w : World) (news : Led) :
    Con w 2 177 [] news (fun v n' => ∃ d o kvs, v = .ref d ∧ n' = (d, o) :: news ∧ (d == sysModules) = false ∧ Obj.IsDictOf (PySem.strKind PySem.Challenge.rw_or0070_01.row.prog w) o kvs ∧ PyProof.V.FlatPairs PyData.str kvs csTab) := by
  refine Con.mk5 ?_
  k_fill
  (k_with_none; (k_with "units_room" => ((ktr_units))); (k_with "k_room" => ((ktr_room))); (k_with "k_all" => (first | assumption | exact fun q hq => Nat.ne_of_lt (ktn_ltOf (by assumption) q hq))); (k_with "exec While BoolOp cons nil" => ((k_here; k_extra "W"))); (k_with "exec While Compare cons nil" => ((k_here; k_extra "W"))); (k_with "call ref" => ((k_here; first | k_extra "C" | (k_extra "HOLD"; refine Hold.out ?_)))); (k_with "eval ListComp" => ((k_here; k_extra "L"))); (k_with "pyIter ref" => ((k_here; k_extra "F"))); (k_with "exec For Name Call cons nil" => ((k_here; k_extra "FOR"; (rename Fr _ _ _ _ => lF'); (with_unfolding_all refine' For_invVF lF' ?k1 ?k2 ?_; (case k1 => exact rfl); (case k2 => exact rfl); k_whole)))); (k_with "exec For Name Name cons nil" => ((k_here; k_extra "FOR"; (rename Fr _ _ _ _ => lF'); (with_unfolding_all refine' For_invVF lF' ?k1 ?k2 ?_; (case k1 => exact rfl); (case k2 => exact rfl); k_whole)))); (k_with "compareOp In int bytes" => ((k_here; refine in_bytes_K (by omega) (by omega) ?_))); (k_with "compareOp NotIn int bytes" => ((k_here; refine notin_bytes_K (by omega) (by omega) ?_))); (k_with "pyIter bytes" => ((k_here; k_extra "FB"))); (k_with "call type:bytes" => ((k_here; (with_reducible show wpAny _ _ (call (Value.type "bytes") [Value.bytes _ _]) _ _ _); refine call_bytes_bytes ?_))); (k_with "NE1" => (first | with_reducible assumption | exact And.right (by with_reducible assumption) | exact And.right (And.right (by with_reducible assumption)) | exact And.right (And.right (And.right (by with_reducible assumption))))); (k_with "NE2" => (first | with_reducible assumption | exact And.right (by with_reducible assumption) | exact And.right (And.right (by with_reducible assumption)) | exact And.right (And.right (And.right (by with_reducible assumption))) | exact And.right (And.right (And.right (And.right (by k_extra "NE1")))))); (k_with "NE3" => (first | with_reducible assumption | exact And.right (by with_reducible assumption) | exact And.right (And.right (by with_reducible assumption)) | exact And.right (And.right (And.right (by with_reducible assumption))) | exact And.right (And.right (And.right (And.right (by k_extra "NE2")))))); (k_with "kwd_less" => (first | with_reducible assumption | exact And.left (by k_extra "NE3") | exact And.right (by k_extra "NE3"))); (k_with "k_ne" => (((try dsimp only); first | with_reducible assumption | exact Ne.symm (by with_reducible assumption) | (refine ne_gt ?_; kwd_less) | (refine ne_lt ?_; kwd_less) | kwd_less | (refine Ne.symm ?_; kwd_less)))); (k_with "ktr_room" => (first | exact room_lt (by assumption) (by rfl) | exact room_same (by assumption) (by rfl))); (k_with "ktr_units" => (exact units_lt (by assumption) (by rfl))); (k_with "eval Constant bytes" => ((refine xs_bytes ?_))); (k_with "binaryOp Sub int int" => ((refine xs_sub ?_))); (k_with "binaryOp Mod int int" => ((k_here; refine xs_mod (by decide) ?_))); (k_with "newList" => ((k_here; k_dflt (refine' xs_list ?xlF ?xlN ?_; (case xlF => k_asm); (case xlN => k_asm); k_whole); intro _ _ _ _ xll; (try k_lt xll); (try k_sweep)))); (k_with "eval Constant int" => ((refine xs_int ?_))); (k_with "eval Constant str" => ((refine xs_str ?_))); (k_with "binaryOp Add int int" => ((refine xs_add ?_))); (k_with "storeName" => ((k_here; k_dflt (refine' xs_store ?xsF ?xsN ?_ ?xsa ?xsb; (case xsF => k_asm); (case xsN => k_asm); (case xsa => rfl); (case xsb => rfl); k_whole; intro _ _ _; (try k_sweep))))); (k_with "newTuple" => ((k_here; kup_bare; k_dflt (refine' xs_tuple ?xtF ?xtN ?_ ?xtz; (case xtF => k_asm); (case xtN => k_asm); (case xtz => kmk_size)); intro _ _ _ _ xtl; (try k_lt xtl); (try k_sweep)))); (k_with "exec For Name Tuple cons nil" => ((k_here; (rename Fr _ _ _ _ => lF'); (with_unfolding_all refine' For_turns lF' ?_; k_whole)))); (k_with "pyIter ref" => ((k_here; (with_reducible show wpAny _ _ (pyIter (Value.ref _)) (fun it s₂ => TurnsAt _ _ _ _ _ _ _ _ _ it s₂) _ _); k_extra "TI"))); (k_with "UnrEndW" => ((refine Hold.out ?_))); (k_with "setItem ref str" => ((k_here; k_extra "SI"))))
  intro dp un gd cn cs a ccd cl outer A₀ base h₀ L m hp0 gn0 dr0 tk0 os0 mean mg mb Q E B F X N T hcs hdp hun hret
  refine wpAny_call ?_
  k_dflt ktr_enter
  k_with "SI" => (k_dflt (refine' setItem_K PyProof.V.same_str (strKind_is _ _ _ _) ?v ?F ?N ?U ?d ?f ?_ ?z; (case F => k_asm); (case N => k_asm); (case U => k_updF); (case d => assumption); (case f => assumption); (case z => rw [sizeLine_eq, List.length_map]; omega); (case v => exact .str _ _)); intro h' o' F' N' hd' hf'; (try dsimp only at N'))
  k_with "TI" => ((with_reducible rename Fr _ _ _ _ => lF'); (with_reducible rename News _ _ _ _ => lN'); (with_unfolding_all refine' tup_inv (csJ w _ [_] _ news (Str.ofString "utf-8") csT) (by rfl) lF' lN' (by k_mem) (by rfl) (by rfl) ?jk3 (by exact csJ_zero cs3_put rfl rfl (rfl) rfl (by assumption) (by assumption) (by decide)) ?step3 ?stop3); (case jk3 => (intro r' m' n' hJ'; obtain ⟨x', o', D', xs', e1, e2, e3, hJ'⟩ := hJ'; subst e3; exact .head _)); (case' step3 => (intro I' l' v' r' m' n' h' t' it' hJ' hit' F' N'; (have l2 := l'); (k_lt l2); obtain ⟨x', o', D', xs', e1, e2, e3, ⟨kvs', hd', hf'⟩, hn', hp'⟩ := hJ'; subst e2; subst e3; (rcases xs' with _ | ⟨⟨a', t''⟩, xs'⟩); (cases e1); obtain ⟨e4, e5⟩ := List.cons.inj e1; (dsimp only at e4 e5); subst e4; subst e5; clear e1; simp only [List.length_cons] at hn'; (simp only [List.cons_append, List.nil_append] at N'))); (case' stop3 => (intro m' n' h' t' hJ' F' N'; obtain ⟨x', o', D', xs', e1, e2, e3, ⟨kvs', hd', hf'⟩, hn', hp'⟩ := hJ'; subst e2; subst e3; (rcases xs' with _ | ⟨⟨a', t''⟩, xs'⟩); rotate_left; (cases e1); (have hp'' : D' = _ := hp'); subst hp''; (simp only [List.cons_append, List.nil_append] at N'); (replace N' := news_right (a := [_]) N'))))
  k_with "TI" => ((with_reducible rename Fr _ _ _ _ => lF'); (with_reducible rename News _ _ _ _ => lN'); (with_unfolding_all refine' tup_inv (csJ w _ [_] _ news (Str.ofString "iso-8859-1") (csT.take 17)) (by rfl) lF' lN' (by k_mem) (by rfl) (by rfl) ?jk2 (by exact csJ_zero cs2_put rfl rfl (rfl) rfl (by assumption) (by assumption) (by decide)) ?step2 ?stop2); (case jk2 => (intro r' m' n' hJ'; obtain ⟨x', o', D', xs', e1, e2, e3, hJ'⟩ := hJ'; subst e3; exact .head _)); (case' step2 => (intro I' l' v' r' m' n' h' t' it' hJ' hit' F' N'; (have l2 := l'); (k_lt l2); obtain ⟨x', o', D', xs', e1, e2, e3, ⟨kvs', hd', hf'⟩, hn', hp'⟩ := hJ'; subst e2; subst e3; (rcases xs' with _ | ⟨⟨a', t''⟩, xs'⟩); (cases e1); obtain ⟨e4, e5⟩ := List.cons.inj e1; (dsimp only at e4 e5); subst e4; subst e5; clear e1; simp only [List.length_cons] at hn'; (simp only [List.cons_append, List.nil_append] at N'))); (case' stop2 => (intro m' n' h' t' hJ' F' N'; obtain ⟨x', o', D', xs', e1, e2, e3, ⟨kvs', hd', hf'⟩, hn', hp'⟩ := hJ'; subst e2; subst e3; (rcases xs' with _ | ⟨⟨a', t''⟩, xs'⟩); rotate_left; (cases e1); (have hp'' : D' = _ := hp'); subst hp''; (simp only [List.cons_append, List.nil_append] at N'); (replace N' := news_right (a := [_]) N'))))
  k_with "TI" => ((with_reducible rename Fr _ _ _ _ => lF'); (with_reducible rename News _ _ _ _ => lN'); (with_unfolding_all refine' tup_inv (csJ w _ [_] _ news (Str.ofString "us-ascii") (csT.take 9)) (by rfl) lF' lN' (by k_mem) (by rfl) (by rfl) ?jk1 (by exact csJ_zero cs1_put rfl rfl (alias_none rfl) rfl (by assumption) (by assumption) (by decide)) ?step1 ?stop1); (case jk1 => (intro r' m' n' hJ'; obtain ⟨x', o', D', xs', e1, e2, e3, hJ'⟩ := hJ'; subst e3; exact .head _)); (case' step1 => (intro I' l' v' r' m' n' h' t' it' hJ' hit' F' N'; (have l2 := l'); (k_lt l2); obtain ⟨x', o', D', xs', e1, e2, e3, ⟨kvs', hd', hf'⟩, hn', hp'⟩ := hJ'; subst e2; subst e3; (rcases xs' with _ | ⟨⟨a', t''⟩, xs'⟩); (cases e1); obtain ⟨e4, e5⟩ := List.cons.inj e1; (dsimp only at e4 e5); subst e4; subst e5; clear e1; simp only [List.length_cons] at hn'; (simp only [List.cons_append, List.nil_append] at N'))); (case' stop1 => (intro m' n' h' t' hJ' F' N'; obtain ⟨x', o', D', xs', e1, e2, e3, ⟨kvs', hd', hf'⟩, hn', hp'⟩ := hJ'; subst e2; subst e3; (rcases xs' with _ | ⟨⟨a', t''⟩, xs'⟩); rotate_left; (cases e1); (have hp'' : D' = _ := hp'); subst hp''; (simp only [List.cons_append, List.nil_append] at N'); (replace N' := news_right (a := [_]) N'))))
  k_steps
  · exact hret _ _ _ _ ⟨_, _, _, rfl, rfl, by assumption, by assumption, csTab_eq ▸ hf'⟩ (by assumption) (by assumption)
  · unfold Hold
    (with_reducible rename Fr _ _ _ _ => lF')
    (with_reducible rename News _ _ _ _ => lN')
    refine UnrEndW_one lF' lN' l' rfl ?_
    exact csJ_next (pre := [_]) (by assumption) (by assumption) (by assumption) (by assumption) rfl
  · unfold Hold
    (with_reducible rename Fr _ _ _ _ => lF')
    (with_reducible rename News _ _ _ _ => lN')
    refine UnrEndW_one lF' lN' l' rfl ?_
    exact csJ_next (pre := [_]) (by assumption) (by assumption) (by assumption) (by assumption) rfl
  · unfold Hold
    (with_reducible rename Fr _ _ _ _ => lF')
    (with_reducible rename News _ _ _ _ => lN')
    refine UnrEndW_one lF' lN' l' rfl ?_
    exact csJ_next (pre := [_]) (by assumption) (by assumption) (by assumption) (by assumption) rfl
end

section

example : True := by ((k_with "compareOp NotIn str ref" => ((k_here; (with_reducible show wpAny _ _ (compareOp CmpOp.NotIn (Value.str _ _) (Value.ref _)) _ _ _); (with_unfolding_all refine' notin_tuple_strs ?k1 ?k2 ?_; (case k1 => kun_tup); (case k2 => kde_strs); k_whole)))); (k_with "compareOp In str ref" => ((k_here; (with_reducible show wpAny _ _ (compareOp CmpOp.In (Value.str _ _) (Value.ref _)) _ _ _); (with_unfolding_all refine' in_tuple_strs ?k1 ?k2 ?_; (case k1 => kun_tup); (case k2 => kde_strs); k_whole)))); (k_with "call builtin:dict.get" => ((k_here; k_extra "G"))); trivial)

theorem charset_name_con (w : World) (x : Str) (t0 : Tok) (hx : x.cps.size ≤ 100) (ha : ∀ c ∈ x.cps.toList, c < 128) (r : Str) (hr : (PySem.Spec.lookup (PyData.str (lowerT x)) csTab).getD (.str "") = .str r) (news : Led) :
    Con w 8 184 [.str x t0] news (fun v n' => n' = news ∧ ∃ t, v = .str r t) := by
  refine Con.mk5 ?_
  k_fill
  (k_with_none; (k_with "units_room" => ((ktr_units))); (k_with "k_room" => ((ktr_room))); (k_with "k_all" => (first | assumption | exact fun q hq => Nat.ne_of_lt (ktn_ltOf (by assumption) q hq))); (k_with "exec While BoolOp cons nil" => ((k_here; k_extra "W"))); (k_with "exec While Compare cons nil" => ((k_here; k_extra "W"))); (k_with "call ref" => ((k_here; first | k_extra "C" | (k_extra "HOLD"; refine Hold.out ?_)))); (k_with "eval ListComp" => ((k_here; k_extra "L"))); (k_with "pyIter ref" => ((k_here; k_extra "F"))); (k_with "exec For Name Call cons nil" => ((k_here; k_extra "FOR"; (rename Fr _ _ _ _ => lF'); (with_unfolding_all refine' For_invVF lF' ?k1 ?k2 ?_; (case k1 => exact rfl); (case k2 => exact rfl); k_whole)))); (k_with "exec For Name Name cons nil" => ((k_here; k_extra "FOR"; (rename Fr _ _ _ _ => lF'); (with_unfolding_all refine' For_invVF lF' ?k1 ?k2 ?_; (case k1 => exact rfl); (case k2 => exact rfl); k_whole)))); (k_with "compareOp In int bytes" => ((k_here; refine in_bytes_K (by omega) (by omega) ?_))); (k_with "compareOp NotIn int bytes" => ((k_here; refine notin_bytes_K (by omega) (by omega) ?_))); (k_with "pyIter bytes" => ((k_here; k_extra "FB"))); (k_with "call type:bytes" => ((k_here; (with_reducible show wpAny _ _ (call (Value.type "bytes") [Value.bytes _ _]) _ _ _); refine call_bytes_bytes ?_))); (k_with "NE1" => (first | with_reducible assumption | exact And.right (by with_reducible assumption) | exact And.right (And.right (by with_reducible assumption)) | exact And.right (And.right (And.right (by with_reducible assumption))))); (k_with "NE2" => (first | with_reducible assumption | exact And.right (by with_reducible assumption) | exact And.right (And.right (by with_reducible assumption)) | exact And.right (And.right (And.right (by with_reducible assumption))) | exact And.right (And.right (And.right (And.right (by k_extra "NE1")))))); (k_with "NE3" => (first | with_reducible assumption | exact And.right (by with_reducible assumption) | exact And.right (And.right (by with_reducible assumption)) | exact And.right (And.right (And.right (by with_reducible assumption))) | exact And.right (And.right (And.right (And.right (by k_extra "NE2")))))); (k_with "kwd_less" => (first | with_reducible assumption | exact And.left (by k_extra "NE3") | exact And.right (by k_extra "NE3"))); (k_with "k_ne" => (((try dsimp only); first | with_reducible assumption | exact Ne.symm (by with_reducible assumption) | (refine ne_gt ?_; kwd_less) | (refine ne_lt ?_; kwd_less) | kwd_less | (refine Ne.symm ?_; kwd_less)))); (k_with "ktr_room" => (first | exact room_lt (by assumption) (by rfl) | exact room_same (by assumption) (by rfl))); (k_with "ktr_units" => (exact units_lt (by assumption) (by rfl))); (k_with "eval Constant bytes" => ((refine xs_bytes ?_))); (k_with "binaryOp Sub int int" => ((refine xs_sub ?_))); (k_with "binaryOp Mod int int" => ((k_here; refine xs_mod (by decide) ?_))); (k_with "newList" => ((k_here; k_dflt (refine' xs_list ?xlF ?xlN ?_; (case xlF => k_asm); (case xlN => k_asm); k_whole); intro _ _ _ _ xll; (try k_lt xll); (try k_sweep)))); (k_with "eval Constant int" => ((refine xs_int ?_))); (k_with "eval Constant str" => ((refine xs_str ?_))); (k_with "binaryOp Add int int" => ((refine xs_add ?_))); (k_with "storeName" => ((k_here; k_dflt (refine' xs_store ?xsF ?xsN ?_ ?xsa ?xsb; (case xsF => k_asm); (case xsN => k_asm); (case xsa => rfl); (case xsb => rfl); k_whole; intro _ _ _; (try k_sweep))))); (k_with "newTuple" => ((k_here; kup_bare; k_dflt (refine' xs_tuple ?xtF ?xtN ?_ ?xtz; (case xtF => k_asm); (case xtN => k_asm); (case xtz => kmk_size)); intro _ _ _ _ xtl; (try k_lt xtl); (try k_sweep)))); (k_with "compareOp NotIn str ref" => ((k_here; (with_reducible show wpAny _ _ (compareOp CmpOp.NotIn (Value.str _ _) (Value.ref _)) _ _ _); (with_unfolding_all refine' notin_tuple_strs ?k1 ?k2 ?_; (case k1 => kun_tup); (case k2 => kde_strs); k_whole)))); (k_with "compareOp In str ref" => ((k_here; (with_reducible show wpAny _ _ (compareOp CmpOp.In (Value.str _ _) (Value.ref _)) _ _ _); (with_unfolding_all refine' in_tuple_strs ?k1 ?k2 ?_; (case k1 => kun_tup); (case k2 => kde_strs); k_whole)))); (k_with "call builtin:dict.get" => ((k_here; k_extra "G"))))
  intro dp un gd cn cs a ccd cl outer A₀ base h₀ L m hp0 gn0 dr0 tk0 os0 mean mg mb Q E B F X N T hcs hdp hun hret
  refine wpAny_call ?_
  k_dflt ktr_enter
  k_with "HOLD" => skip
  k_with "C" => ((with_reducible show wpAny _ _ (call (Value.ref 159) _) _ _ _); k_dflt (refine' Con.use5 (lower_text_con w x t0 hx ha _) ?B ?F ?X ?N ?T ?hk ?hd ?hu ?_; (first | (((case N => k_asm); (case B => k_asm); (case F => k_asm); (case X => k_asm); (case T => k_asm); (case hk => first | exact rfl | assumption); (case hd => ktr_room); (case hu => ktr_units))) | tb_start)); intro v9 h9 tk9 hP9 F9 N9; obtain ⟨t9, hP9⟩ := hP9; subst hP9; (try dsimp only))
  k_with "C" => ((with_reducible show wpAny _ _ (call (Value.ref 177) _) _ _ _); k_dflt (refine' Con.useR5 (charset_names_con w _) ?B ?F ?X ?N (fun p hp => hp) ?T ?hk ?hd ?hu ?_; (first | (((case N => k_asm); (case B => k_asm); (case F => k_asm); (case X => k_asm); (case T => k_asm); (case hk => first | exact rfl | assumption); (case hd => ktr_room); (case hu => ktr_units))) | tb_start)); intro v9 h9 tk9 n9 hP9 F9 N9; obtain ⟨d9, o9, kvs9, hP9, hn9, lo9, hd9, hf9⟩ := hP9; subst hP9; subst hn9; (try dsimp only))
  k_with "G" => (k_dflt (refine' call_get2_strTab (D := csTab) ?k1 ?k2 ?_; (case k1 => k_tabat); (case k2 => exact PyProof.V.Flat.str _ _); k_whole; intro _ hv'; rw [hr] at hv'; obtain ⟨tf', ef'⟩ := PyProof.V.Flat.str_inv hv'; subst ef'))
  k_steps
  exact hret _ _ _ _ ⟨rfl, _, rfl⟩ (by assumption) (fun p hp => (by assumption : News h₀ L _ _) p (List.mem_cons_of_mem _ hp))

theorem need_charset_con (w : World) (x : Str) (t0 : Tok) (hx : x = "us-ascii" ∨ x = "iso-8859-1" ∨ x = "utf-8") (news : Led) :
    Con w 2 191 [.str x t0] news (fun v n' => n' = news ∧ v = .none) := by
  rcases hx with rfl | rfl | rfl
  all_goals
    refine Con.mk5 ?_
    k_fill
    (k_with_none; (k_with "units_room" => ((ktr_units))); (k_with "k_room" => ((ktr_room))); (k_with "k_all" => (first | assumption | exact fun q hq => Nat.ne_of_lt (ktn_ltOf (by assumption) q hq))); (k_with "exec While BoolOp cons nil" => ((k_here; k_extra "W"))); (k_with "exec While Compare cons nil" => ((k_here; k_extra "W"))); (k_with "call ref" => ((k_here; first | k_extra "C" | (k_extra "HOLD"; refine Hold.out ?_)))); (k_with "eval ListComp" => ((k_here; k_extra "L"))); (k_with "pyIter ref" => ((k_here; k_extra "F"))); (k_with "exec For Name Call cons nil" => ((k_here; k_extra "FOR"; (rename Fr _ _ _ _ => lF'); (with_unfolding_all refine' For_invVF lF' ?k1 ?k2 ?_; (case k1 => exact rfl); (case k2 => exact rfl); k_whole)))); (k_with "exec For Name Name cons nil" => ((k_here; k_extra "FOR"; (rename Fr _ _ _ _ => lF'); (with_unfolding_all refine' For_invVF lF' ?k1 ?k2 ?_; (case k1 => exact rfl); (case k2 => exact rfl); k_whole)))); (k_with "compareOp In int bytes" => ((k_here; refine in_bytes_K (by omega) (by omega) ?_))); (k_with "compareOp NotIn int bytes" => ((k_here; refine notin_bytes_K (by omega) (by omega) ?_))); (k_with "pyIter bytes" => ((k_here; k_extra "FB"))); (k_with "call type:bytes" => ((k_here; (with_reducible show wpAny _ _ (call (Value.type "bytes") [Value.bytes _ _]) _ _ _); refine call_bytes_bytes ?_))); (k_with "NE1" => (first | with_reducible assumption | exact And.right (by with_reducible assumption) | exact And.right (And.right (by with_reducible assumption)) | exact And.right (And.right (And.right (by with_reducible assumption))))); (k_with "NE2" => (first | with_reducible assumption | exact And.right (by with_reducible assumption) | exact And.right (And.right (by with_reducible assumption)) | exact And.right (And.right (And.right (by with_reducible assumption))) | exact And.right (And.right (And.right (And.right (by k_extra "NE1")))))); (k_with "NE3" => (first | with_reducible assumption | exact And.right (by with_reducible assumption) | exact And.right (And.right (by with_reducible assumption)) | exact And.right (And.right (And.right (by with_reducible assumption))) | exact And.right (And.right (And.right (And.right (by k_extra "NE2")))))); (k_with "kwd_less" => (first | with_reducible assumption | exact And.left (by k_extra "NE3") | exact And.right (by k_extra "NE3"))); (k_with "k_ne" => (((try dsimp only); first | with_reducible assumption | exact Ne.symm (by with_reducible assumption) | (refine ne_gt ?_; kwd_less) | (refine ne_lt ?_; kwd_less) | kwd_less | (refine Ne.symm ?_; kwd_less)))); (k_with "ktr_room" => (first | exact room_lt (by assumption) (by rfl) | exact room_same (by assumption) (by rfl))); (k_with "ktr_units" => (exact units_lt (by assumption) (by rfl))); (k_with "eval Constant bytes" => ((refine xs_bytes ?_))); (k_with "binaryOp Sub int int" => ((refine xs_sub ?_))); (k_with "binaryOp Mod int int" => ((k_here; refine xs_mod (by decide) ?_))); (k_with "newList" => ((k_here; k_dflt (refine' xs_list ?xlF ?xlN ?_; (case xlF => k_asm); (case xlN => k_asm); k_whole); intro _ _ _ _ xll; (try k_lt xll); (try k_sweep)))); (k_with "eval Constant int" => ((refine xs_int ?_))); (k_with "eval Constant str" => ((refine xs_str ?_))); (k_with "binaryOp Add int int" => ((refine xs_add ?_))); (k_with "storeName" => ((k_here; k_dflt (refine' xs_store ?xsF ?xsN ?_ ?xsa ?xsb; (case xsF => k_asm); (case xsN => k_asm); (case xsa => rfl); (case xsb => rfl); k_whole; intro _ _ _; (try k_sweep))))); (k_with "newTuple" => ((k_here; kup_bare; k_dflt (refine' xs_tuple ?xtF ?xtN ?_ ?xtz; (case xtF => k_asm); (case xtN => k_asm); (case xtz => kmk_size)); intro _ _ _ _ xtl; (try k_lt xtl); (try k_sweep)))); (k_with "compareOp NotIn str ref" => ((k_here; (with_reducible show wpAny _ _ (compareOp CmpOp.NotIn (Value.str _ _) (Value.ref _)) _ _ _); (with_unfolding_all refine' notin_tuple_strs ?k1 ?k2 ?_; (case k1 => kun_tup); (case k2 => kde_strs); k_whole)))); (k_with "compareOp In str ref" => ((k_here; (with_reducible show wpAny _ _ (compareOp CmpOp.In (Value.str _ _) (Value.ref _)) _ _ _); (with_unfolding_all refine' in_tuple_strs ?k1 ?k2 ?_; (case k1 => kun_tup); (case k2 => kde_strs); k_whole)))); (k_with "call builtin:dict.get" => ((k_here; k_extra "G"))))
    intro dp un gd cn cs a ccd cl outer A₀ base h₀ L m hp0 gn0 dr0 tk0 os0 mean mg mb Q E B F X N T hcs hdp hun hret
    refine wpAny_call ?_
    k_dflt ktr_enter
    k_with "HOLD" => skip
    k_steps
    exact hret _ _ _ _ ⟨rfl, rfl⟩ (by assumption) (by assumption)
end

section

example : True := by ((k_with "ite" => ((k_here; first | refine ite_pos (by decide) ?_ | refine ite_neg (by decide) ?_))); (k_with "subscriptTail" => ((k_here; k_extra "SB"))); trivial)
theorem news_2 {h₀ h : Heap} {L : Addr} {a b c : Addr × Obj} {r : List (Addr × Obj)} (N : News h₀ L h (a :: b :: c :: r)) : News h₀ L h (a :: r) := fun p hp => N p (by rcases List.mem_cons.mp hp with rfl | hp; exact .head _; exact .tail _ (.tail _ (.tail _ hp)))
theorem news_1 {h₀ h : Heap} {L : Addr} {a b : Addr × Obj} {r : List (Addr × Obj)} (N : News h₀ L h (a :: b :: r)) : News h₀ L h (a :: r) := fun p hp => N p (by rcases List.mem_cons.mp hp with rfl | hp; exact .head _; exact .tail _ (.tail _ hp))
abbrev tupObj (vs : Array Value) : Obj := { cls := .type "tuple", data := .seq vs }
theorem span_con (w : World) (k lo hi n : Int) (tk : Tok) (h : (k, lo, hi, n) ∈ [((195 : Int), (128 : Int), (191 : Int), (1 : Int)), (223, 128, 191, 1), (226, 128, 191, 2), (239, 128, 191, 2), (237, 128, 159, 2), (128, 0, 0, 0)]) (news : Led) :
    Con w 3 210 [.int k tk] news (fun v n' => ∃ D t1 t2 t3, v = .ref D ∧ n' = (D, tupObj #[.int lo t1, .int hi t2, .int n t3]) :: news) := by
  have hk0 : k ≠ 224 := (by decide : ∀ p ∈ [((195 : Int), (128 : Int), (191 : Int), (1 : Int)), (223, 128, 191, 1), (226, 128, 191, 2), (239, 128, 191, 2), (237, 128, 159, 2), (128, 0, 0, 0)], p.1 ≠ 224) _ h
  have hk1 : k < 240 := (by decide : ∀ p ∈ [((195 : Int), (128 : Int), (191 : Int), (1 : Int)), (223, 128, 191, 1), (226, 128, 191, 2), (239, 128, 191, 2), (237, 128, 159, 2), (128, 0, 0, 0)], p.1 < 240) _ h
  refine Con.mk5 ?_
  k_fill
  (k_with_none; (k_with "units_room" => ((ktr_units))); (k_with "k_room" => ((ktr_room))); (k_with "k_all" => (first | assumption | exact fun q hq => Nat.ne_of_lt (ktn_ltOf (by assumption) q hq))); (k_with "exec While BoolOp cons nil" => ((k_here; k_extra "W"))); (k_with "exec While Compare cons nil" => ((k_here; k_extra "W"))); (k_with "call ref" => ((k_here; first | k_extra "C" | (k_extra "HOLD"; refine Hold.out ?_)))); (k_with "eval ListComp" => ((k_here; k_extra "L"))); (k_with "pyIter ref" => ((k_here; k_extra "F"))); (k_with "exec For Name Call cons nil" => ((k_here; k_extra "FOR"; (rename Fr _ _ _ _ => lF'); (with_unfolding_all refine' For_invVF lF' ?k1 ?k2 ?_; (case k1 => exact rfl); (case k2 => exact rfl); k_whole)))); (k_with "exec For Name Name cons nil" => ((k_here; k_extra "FOR"; (rename Fr _ _ _ _ => lF'); (with_unfolding_all refine' For_invVF lF' ?k1 ?k2 ?_; (case k1 => exact rfl); (case k2 => exact rfl); k_whole)))); (k_with "compareOp In int bytes" => ((k_here; refine in_bytes_K (by omega) (by omega) ?_))); (k_with "compareOp NotIn int bytes" => ((k_here; refine notin_bytes_K (by omega) (by omega) ?_))); (k_with "pyIter bytes" => ((k_here; k_extra "FB"))); (k_with "call type:bytes" => ((k_here; (with_reducible show wpAny _ _ (call (Value.type "bytes") [Value.bytes _ _]) _ _ _); refine call_bytes_bytes ?_))); (k_with "NE1" => (first | with_reducible assumption | exact And.right (by with_reducible assumption) | exact And.right (And.right (by with_reducible assumption)) | exact And.right (And.right (And.right (by with_reducible assumption))))); (k_with "NE2" => (first | with_reducible assumption | exact And.right (by with_reducible assumption) | exact And.right (And.right (by with_reducible assumption)) | exact And.right (And.right (And.right (by with_reducible assumption))) | exact And.right (And.right (And.right (And.right (by k_extra "NE1")))))); (k_with "NE3" => (first | with_reducible assumption | exact And.right (by with_reducible assumption) | exact And.right (And.right (by with_reducible assumption)) | exact And.right (And.right (And.right (by with_reducible assumption))) | exact And.right (And.right (And.right (And.right (by k_extra "NE2")))))); (k_with "kwd_less" => (first | with_reducible assumption | exact And.left (by k_extra "NE3") | exact And.right (by k_extra "NE3"))); (k_with "k_ne" => (((try dsimp only); first | with_reducible assumption | exact Ne.symm (by with_reducible assumption) | (refine ne_gt ?_; kwd_less) | (refine ne_lt ?_; kwd_less) | kwd_less | (refine Ne.symm ?_; kwd_less)))); (k_with "ktr_room" => (first | exact room_lt (by assumption) (by rfl) | exact room_same (by assumption) (by rfl))); (k_with "ktr_units" => (exact units_lt (by assumption) (by rfl))); (k_with "eval Constant bytes" => ((refine xs_bytes ?_))); (k_with "binaryOp Sub int int" => ((refine xs_sub ?_))); (k_with "binaryOp Mod int int" => ((k_here; refine xs_mod (by decide) ?_))); (k_with "newList" => ((k_here; k_dflt (refine' xs_list ?xlF ?xlN ?_; (case xlF => k_asm); (case xlN => k_asm); k_whole); intro _ _ _ _ xll; (try k_lt xll); (try k_sweep)))); (k_with "eval Constant int" => ((refine xs_int ?_))); (k_with "eval Constant str" => ((refine xs_str ?_))); (k_with "binaryOp Add int int" => ((refine xs_add ?_))); (k_with "storeName" => ((k_here; k_dflt (refine' xs_store ?xsF ?xsN ?_ ?xsa ?xsb; (case xsF => k_asm); (case xsN => k_asm); (case xsa => rfl); (case xsb => rfl); k_whole; intro _ _ _; (try k_sweep))))); (k_with "newTuple" => ((k_here; kup_bare; k_dflt (refine' xs_tuple ?xtF ?xtN ?_ ?xtz; (case xtF => k_asm); (case xtN => k_asm); (case xtz => kmk_size)); intro _ _ _ _ xtl; (try k_lt xtl); (try k_sweep)))); (k_with "ite" => ((k_here; first | refine ite_pos (by decide) ?_ | refine ite_neg (by decide) ?_))); (k_with "subscriptTail" => ((k_here; k_extra "SB"))))
  intro dp un gd cn cs a ccd cl outer A₀ base h₀ L m hp0 gn0 dr0 tk0 os0 mean mg mb Q E B F X N T hcs hdp hun hret
  refine wpAny_call ?_
  k_dflt ktr_enter
  k_with "HOLD" => skip
  k_steps
  · obtain ⟨q1, q2, q3⟩ := (by decide : ∀ p ∈ [((195 : Int), (128 : Int), (191 : Int), (1 : Int)), (223, 128, 191, 1), (226, 128, 191, 2), (239, 128, 191, 2), (237, 128, 159, 2), (128, 0, 0, 0)], 194 ≤ p.1 → p.1 ≤ 223 → p.2.1 = 128 ∧ p.2.2.1 = 191 ∧ p.2.2.2 = 1) _ h (by assumption) (by assumption)
    dsimp only at q1 q2 q3
    subst q1; subst q2; subst q3
    exact hret _ _ _ _ ⟨_, _, _, _, rfl, rfl⟩ (by assumption) (by assumption)
  · obtain ⟨q1, q2, q3⟩ := (by decide : ∀ p ∈ [((195 : Int), (128 : Int), (191 : Int), (1 : Int)), (223, 128, 191, 1), (226, 128, 191, 2), (239, 128, 191, 2), (237, 128, 159, 2), (128, 0, 0, 0)], p.1 = 237 → p.2.1 = 128 ∧ p.2.2.1 = 159 ∧ p.2.2.2 = 2) _ h (by assumption)
    dsimp only at q1 q2 q3
    subst q1; subst q2; subst q3
    exact hret _ _ _ _ ⟨_, _, _, _, rfl, rfl⟩ (by assumption) (news_2 (by assumption))
  · obtain ⟨q1, q2, q3⟩ := (by decide : ∀ p ∈ [((195 : Int), (128 : Int), (191 : Int), (1 : Int)), (223, 128, 191, 1), (226, 128, 191, 2), (239, 128, 191, 2), (237, 128, 159, 2), (128, 0, 0, 0)], 194 ≤ p.1 → ¬p.1 ≤ 223 → ¬p.1 = 237 → p.2.1 = 128 ∧ p.2.2.1 = 191 ∧ p.2.2.2 = 2) _ h (by assumption) (by assumption) (by assumption)
    dsimp only at q1 q2 q3
    subst q1; subst q2; subst q3
    exact hret _ _ _ _ ⟨_, _, _, _, rfl, rfl⟩ (by assumption) (news_2 (by assumption))
  · obtain ⟨q1, q2, q3⟩ := (by decide : ∀ p ∈ [((195 : Int), (128 : Int), (191 : Int), (1 : Int)), (223, 128, 191, 1), (226, 128, 191, 2), (239, 128, 191, 2), (237, 128, 159, 2), (128, 0, 0, 0)], ¬194 ≤ p.1 → p.2.1 = 0 ∧ p.2.2.1 = 0 ∧ p.2.2.2 = 0) _ h (by assumption)
    dsimp only at q1 q2 q3
    subst q1; subst q2; subst q3
    exact hret _ _ _ _ ⟨_, _, _, _, rfl, rfl⟩ (by assumption) (by assumption)
theorem UnrEnd_1 {h₀ : Heap} {L I d : Addr} {it o : Obj} {rest : (Str → Option Value) → List (Addr × Obj) → Prop} {s₁ : Shared} {h' : Heap} {tk : Nat} {m' : Str → Option Value} {all news : List (Addr × Obj)} (l : d < I ∧ AllLt I news) (F : Fr h₀ L h' m') (N : News h₀ L h' all)
    (hI : (I, it) ∈ all) (sub : ∀ p ∈ (d, o) :: news, p ∈ all) (r : rest m' ((d, o) :: news)) : UnrEnd h₀ L s₁ I it rest { s₁ with heap := h', toks := tk } := by
  refine ⟨h', tk, m', (d, o) :: news, rfl, F, fun p hp => ?_, fun p hp => ?_, r⟩
  · rcases List.mem_cons.mp hp with rfl | hp
    · exact N _ hI
    · exact N _ (sub p hp)
  · rcases List.mem_cons.mp hp with rfl | hp
    · exact Nat.ne_of_lt l.1
    · exact Nat.ne_of_lt (ktn_ltOf l.2 p hp)
example : True := by ((k_with "UnrEnd" => ((k_extra "UE"))); trivial)
theorem us_one (w : World) (b : Array UInt8) (t0 ti : Tok) (ks : List Int) (hk : KBw.bInts b = ks) (hlen : ks.length ≤ 4000) (i : Nat) (hi : i < ks.length) (c : Int) (h0 : ks.getD i 0 = c) (hc : c < 128) (news : Led) :
    Con w 6 217 [.bytes b t0, .int (i : Int) ti] news (fun v n' => ∃ D t1 t2, v = .ref D ∧ n' = (D, tupObj #[.int c t1, .int 1 t2]) :: news) := by
  have e0 : ((i : Int)).toNat = i := Int.toNat_natCast i
  refine Con.mk5 ?_
  k_fill
  (k_with_none; (k_with "units_room" => ((ktr_units))); (k_with "k_room" => ((ktr_room))); (k_with "k_all" => (first | assumption | exact fun q hq => Nat.ne_of_lt (ktn_ltOf (by assumption) q hq))); (k_with "exec While BoolOp cons nil" => ((k_here; k_extra "W"))); (k_with "exec While Compare cons nil" => ((k_here; k_extra "W"))); (k_with "call ref" => ((k_here; first | k_extra "C" | (k_extra "HOLD"; refine Hold.out ?_)))); (k_with "eval ListComp" => ((k_here; k_extra "L"))); (k_with "pyIter ref" => ((k_here; k_extra "F"))); (k_with "exec For Name Call cons nil" => ((k_here; k_extra "FOR"; (rename Fr _ _ _ _ => lF'); (with_unfolding_all refine' For_invVF lF' ?k1 ?k2 ?_; (case k1 => exact rfl); (case k2 => exact rfl); k_whole)))); (k_with "exec For Name Name cons nil" => ((k_here; k_extra "FOR"; (rename Fr _ _ _ _ => lF'); (with_unfolding_all refine' For_invVF lF' ?k1 ?k2 ?_; (case k1 => exact rfl); (case k2 => exact rfl); k_whole)))); (k_with "compareOp In int bytes" => ((k_here; refine in_bytes_K (by omega) (by omega) ?_))); (k_with "compareOp NotIn int bytes" => ((k_here; refine notin_bytes_K (by omega) (by omega) ?_))); (k_with "pyIter bytes" => ((k_here; k_extra "FB"))); (k_with "call type:bytes" => ((k_here; (with_reducible show wpAny _ _ (call (Value.type "bytes") [Value.bytes _ _]) _ _ _); refine call_bytes_bytes ?_))); (k_with "NE1" => (first | with_reducible assumption | exact And.right (by with_reducible assumption) | exact And.right (And.right (by with_reducible assumption)) | exact And.right (And.right (And.right (by with_reducible assumption))))); (k_with "NE2" => (first | with_reducible assumption | exact And.right (by with_reducible assumption) | exact And.right (And.right (by with_reducible assumption)) | exact And.right (And.right (And.right (by with_reducible assumption))) | exact And.right (And.right (And.right (And.right (by k_extra "NE1")))))); (k_with "NE3" => (first | with_reducible assumption | exact And.right (by with_reducible assumption) | exact And.right (And.right (by with_reducible assumption)) | exact And.right (And.right (And.right (by with_reducible assumption))) | exact And.right (And.right (And.right (And.right (by k_extra "NE2")))))); (k_with "kwd_less" => (first | with_reducible assumption | exact And.left (by k_extra "NE3") | exact And.right (by k_extra "NE3"))); (k_with "k_ne" => (((try dsimp only); first | with_reducible assumption | exact Ne.symm (by with_reducible assumption) | (refine ne_gt ?_; kwd_less) | (refine ne_lt ?_; kwd_less) | kwd_less | (refine Ne.symm ?_; kwd_less)))); (k_with "ktr_room" => (first | exact room_lt (by assumption) (by rfl) | exact room_same (by assumption) (by rfl))); (k_with "ktr_units" => (exact units_lt (by assumption) (by rfl))); (k_with "eval Constant bytes" => ((refine xs_bytes ?_))); (k_with "binaryOp Sub int int" => ((refine xs_sub ?_))); (k_with "binaryOp Mod int int" => ((k_here; refine xs_mod (by decide) ?_))); (k_with "newList" => ((k_here; k_dflt (refine' xs_list ?xlF ?xlN ?_; (case xlF => k_asm); (case xlN => k_asm); k_whole); intro _ _ _ _ xll; (try k_lt xll); (try k_sweep)))); (k_with "eval Constant int" => ((refine xs_int ?_))); (k_with "eval Constant str" => ((refine xs_str ?_))); (k_with "binaryOp Add int int" => ((refine xs_add ?_))); (k_with "storeName" => ((k_here; k_dflt (refine' xs_store ?xsF ?xsN ?_ ?xsa ?xsb; (case xsF => k_asm); (case xsN => k_asm); (case xsa => rfl); (case xsb => rfl); k_whole; intro _ _ _; (try k_sweep))))); (k_with "newTuple" => ((k_here; kup_bare; k_dflt (refine' xs_tuple ?xtF ?xtN ?_ ?xtz; (case xtF => k_asm); (case xtN => k_asm); (case xtz => kmk_size)); intro _ _ _ _ xtl; (try k_lt xtl); (try k_sweep)))); (k_with "ite" => ((k_here; first | refine ite_pos (by decide) ?_ | refine ite_neg (by decide) ?_))); (k_with "subscriptTail" => ((k_here; k_extra "SB"))); (k_with "UnrEnd" => ((k_extra "UE"))))
  intro dp un gd cn cs a ccd cl outer A₀ base h₀ L m hp0 gn0 dr0 tk0 os0 mean mg mb Q E B F X N T hcs hdp hun hret
  refine wpAny_call ?_
  k_dflt ktr_enter
  k_with "HOLD" => skip
  k_with "SB" => ((with_reducible show wpAny _ _ (subscriptTail _ _ (Value.bytes _ _) (Value.int _ _)) _ _ _); (refine KBw.item_K (by kba_ints) (by kba_size) (by kba_idx) (by kba_idx) ?_); intro _ _ kbaLo kbaHi; first | rw [e0, h0] )
  k_steps
  all_goals first
    | exact hret _ _ _ _ ⟨_, _, _, rfl, rfl⟩ (by assumption) (by assumption)
    | exact hret _ _ _ _ ⟨_, _, _, rfl, rfl⟩ (by assumption) (news_1 (by assumption))
    | exact hret _ _ _ _ ⟨_, _, _, rfl, rfl⟩ (by assumption) (news_2 (by assumption))
    | (exfalso; omega)
    | fail
theorem us_bad80 (w : World) (b : Array UInt8) (t0 ti : Tok) (ks : List Int) (hk : KBw.bInts b = ks) (hlen : ks.length ≤ 4000) (i : Nat) (hi : i < ks.length) (h0 : ks.getD i 0 = 128) (news : Led) :
    Con w 6 217 [.bytes b t0, .int (i : Int) ti] news (fun v n' => ∃ D t1 t2, v = .ref D ∧ n' = (D, tupObj #[.int (-1) t1, .int 1 t2]) :: news) := by
  have e0 : ((i : Int)).toNat = i := Int.toNat_natCast i
  refine Con.mk5 ?_
  k_fill
  (k_with_none; (k_with "units_room" => ((ktr_units))); (k_with "k_room" => ((ktr_room))); (k_with "k_all" => (first | assumption | exact fun q hq => Nat.ne_of_lt (ktn_ltOf (by assumption) q hq))); (k_with "exec While BoolOp cons nil" => ((k_here; k_extra "W"))); (k_with "exec While Compare cons nil" => ((k_here; k_extra "W"))); (k_with "call ref" => ((k_here; first | k_extra "C" | (k_extra "HOLD"; refine Hold.out ?_)))); (k_with "eval ListComp" => ((k_here; k_extra "L"))); (k_with "pyIter ref" => ((k_here; k_extra "F"))); (k_with "exec For Name Call cons nil" => ((k_here; k_extra "FOR"; (rename Fr _ _ _ _ => lF'); (with_unfolding_all refine' For_invVF lF' ?k1 ?k2 ?_; (case k1 => exact rfl); (case k2 => exact rfl); k_whole)))); (k_with "exec For Name Name cons nil" => ((k_here; k_extra "FOR"; (rename Fr _ _ _ _ => lF'); (with_unfolding_all refine' For_invVF lF' ?k1 ?k2 ?_; (case k1 => exact rfl); (case k2 => exact rfl); k_whole)))); (k_with "compareOp In int bytes" => ((k_here; refine in_bytes_K (by omega) (by omega) ?_))); (k_with "compareOp NotIn int bytes" => ((k_here; refine notin_bytes_K (by omega) (by omega) ?_))); (k_with "pyIter bytes" => ((k_here; k_extra "FB"))); (k_with "call type:bytes" => ((k_here; (with_reducible show wpAny _ _ (call (Value.type "bytes") [Value.bytes _ _]) _ _ _); refine call_bytes_bytes ?_))); (k_with "NE1" => (first | with_reducible assumption | exact And.right (by with_reducible assumption) | exact And.right (And.right (by with_reducible assumption)) | exact And.right (And.right (And.right (by with_reducible assumption))))); (k_with "NE2" => (first | with_reducible assumption | exact And.right (by with_reducible assumption) | exact And.right (And.right (by with_reducible assumption)) | exact And.right (And.right (And.right (by with_reducible assumption))) | exact And.right (And.right (And.right (And.right (by k_extra "NE1")))))); (k_with "NE3" => (first | with_reducible assumption | exact And.right (by with_reducible assumption) | exact And.right (And.right (by with_reducible assumption)) | exact And.right (And.right (And.right (by with_reducible assumption))) | exact And.right (And.right (And.right (And.right (by k_extra "NE2")))))); (k_with "kwd_less" => (first | with_reducible assumption | exact And.left (by k_extra "NE3") | exact And.right (by k_extra "NE3"))); (k_with "k_ne" => (((try dsimp only); first | with_reducible assumption | exact Ne.symm (by with_reducible assumption) | (refine ne_gt ?_; kwd_less) | (refine ne_lt ?_; kwd_less) | kwd_less | (refine Ne.symm ?_; kwd_less)))); (k_with "ktr_room" => (first | exact room_lt (by assumption) (by rfl) | exact room_same (by assumption) (by rfl))); (k_with "ktr_units" => (exact units_lt (by assumption) (by rfl))); (k_with "eval Constant bytes" => ((refine xs_bytes ?_))); (k_with "binaryOp Sub int int" => ((refine xs_sub ?_))); (k_with "binaryOp Mod int int" => ((k_here; refine xs_mod (by decide) ?_))); (k_with "newList" => ((k_here; k_dflt (refine' xs_list ?xlF ?xlN ?_; (case xlF => k_asm); (case xlN => k_asm); k_whole); intro _ _ _ _ xll; (try k_lt xll); (try k_sweep)))); (k_with "eval Constant int" => ((refine xs_int ?_))); (k_with "eval Constant str" => ((refine xs_str ?_))); (k_with "binaryOp Add int int" => ((refine xs_add ?_))); (k_with "storeName" => ((k_here; k_dflt (refine' xs_store ?xsF ?xsN ?_ ?xsa ?xsb; (case xsF => k_asm); (case xsN => k_asm); (case xsa => rfl); (case xsb => rfl); k_whole; intro _ _ _; (try k_sweep))))); (k_with "newTuple" => ((k_here; kup_bare; k_dflt (refine' xs_tuple ?xtF ?xtN ?_ ?xtz; (case xtF => k_asm); (case xtN => k_asm); (case xtz => kmk_size)); intro _ _ _ _ xtl; (try k_lt xtl); (try k_sweep)))); (k_with "ite" => ((k_here; first | refine ite_pos (by decide) ?_ | refine ite_neg (by decide) ?_))); (k_with "subscriptTail" => ((k_here; k_extra "SB"))); (k_with "UnrEnd" => ((k_extra "UE"))))
  intro dp un gd cn cs a ccd cl outer A₀ base h₀ L m hp0 gn0 dr0 tk0 os0 mean mg mb Q E B F X N T hcs hdp hun hret
  refine wpAny_call ?_
  k_dflt ktr_enter
  k_with "HOLD" => skip
  k_with "SB" => ((with_reducible show wpAny _ _ (subscriptTail _ _ (Value.bytes _ _) (Value.int _ _)) _ _ _); (refine KBw.item_K (by kba_ints) (by kba_size) (by kba_idx) (by kba_idx) ?_); intro _ _ kbaLo kbaHi; first | rw [e0, h0] )
  k_with "C" => ((with_reducible show wpAny _ _ (call (Value.ref 210) _) _ _ _); k_dflt (refine' Con.useR5 (span_con w 128 0 0 0 _ (by decide) _) ?B ?F ?X ?N (fun p hp => hp) ?T ?hk ?hd ?hu ?_; (first | (((case N => k_asm); (case B => k_asm); (case F => k_asm); (case X => k_asm); (case T => k_asm); (case hk => first | exact rfl | assumption); (case hd => ktr_room); (case hu => ktr_units))) | tb_start)); intro v9 h9 tk9 n9 hP9 F9 N9; obtain ⟨d9, ta9, tb9, tc9, hP9, hn9⟩ := hP9; subst hP9; subst hn9; (try dsimp only))
  k_with "UE" => (refine UnrEnd_1 (d := d9) (by assumption) (by assumption) (by assumption) (by k_mem) (by first | exact fun p hp => .tail _ hp | exact fun p hp => .tail _ (.tail _ hp) | exact fun p hp => .tail _ (.tail _ (.tail _ hp))) ?_)
  k_steps
  all_goals first
    | exact hret _ _ _ _ ⟨_, _, _, rfl, rfl⟩ (by assumption) (by assumption)
    | exact hret _ _ _ _ ⟨_, _, _, rfl, rfl⟩ (by assumption) (news_1 (by assumption))
    | exact hret _ _ _ _ ⟨_, _, _, rfl, rfl⟩ (by assumption) (news_2 (by assumption))
    | (exfalso; omega)
    | fail
theorem us_badC3 (w : World) (b : Array UInt8) (t0 ti : Tok) (ks : List Int) (hk : KBw.bInts b = ks) (hlen : ks.length ≤ 4000) (i : Nat) (hi : i + 1 = ks.length) (h0 : ks.getD i 0 = 195) (news : Led) :
    Con w 6 217 [.bytes b t0, .int (i : Int) ti] news (fun v n' => ∃ D t1 t2, v = .ref D ∧ n' = (D, tupObj #[.int (-1) t1, .int 1 t2]) :: news) := by
  have e0 : ((i : Int)).toNat = i := Int.toNat_natCast i
  refine Con.mk5 ?_
  k_fill
  (k_with_none; (k_with "units_room" => ((ktr_units))); (k_with "k_room" => ((ktr_room))); (k_with "k_all" => (first | assumption | exact fun q hq => Nat.ne_of_lt (ktn_ltOf (by assumption) q hq))); (k_with "exec While BoolOp cons nil" => ((k_here; k_extra "W"))); (k_with "exec While Compare cons nil" => ((k_here; k_extra "W"))); (k_with "call ref" => ((k_here; first | k_extra "C" | (k_extra "HOLD"; refine Hold.out ?_)))); (k_with "eval ListComp" => ((k_here; k_extra "L"))); (k_with "pyIter ref" => ((k_here; k_extra "F"))); (k_with "exec For Name Call cons nil" => ((k_here; k_extra "FOR"; (rename Fr _ _ _ _ => lF'); (with_unfolding_all refine' For_invVF lF' ?k1 ?k2 ?_; (case k1 => exact rfl); (case k2 => exact rfl); k_whole)))); (k_with "exec For Name Name cons nil" => ((k_here; k_extra "FOR"; (rename Fr _ _ _ _ => lF'); (with_unfolding_all refine' For_invVF lF' ?k1 ?k2 ?_; (case k1 => exact rfl); (case k2 => exact rfl); k_whole)))); (k_with "compareOp In int bytes" => ((k_here; refine in_bytes_K (by omega) (by omega) ?_))); (k_with "compareOp NotIn int bytes" => ((k_here; refine notin_bytes_K (by omega) (by omega) ?_))); (k_with "pyIter bytes" => ((k_here; k_extra "FB"))); (k_with "call type:bytes" => ((k_here; (with_reducible show wpAny _ _ (call (Value.type "bytes") [Value.bytes _ _]) _ _ _); refine call_bytes_bytes ?_))); (k_with "NE1" => (first | with_reducible assumption | exact And.right (by with_reducible assumption) | exact And.right (And.right (by with_reducible assumption)) | exact And.right (And.right (And.right (by with_reducible assumption))))); (k_with "NE2" => (first | with_reducible assumption | exact And.right (by with_reducible assumption) | exact And.right (And.right (by with_reducible assumption)) | exact And.right (And.right (And.right (by with_reducible assumption))) | exact And.right (And.right (And.right (And.right (by k_extra "NE1")))))); (k_with "NE3" => (first | with_reducible assumption | exact And.right (by with_reducible assumption) | exact And.right (And.right (by with_reducible assumption)) | exact And.right (And.right (And.right (by with_reducible assumption))) | exact And.right (And.right (And.right (And.right (by k_extra "NE2")))))); (k_with "kwd_less" => (first | with_reducible assumption | exact And.left (by k_extra "NE3") | exact And.right (by k_extra "NE3"))); (k_with "k_ne" => (((try dsimp only); first | with_reducible assumption | exact Ne.symm (by with_reducible assumption) | (refine ne_gt ?_; kwd_less) | (refine ne_lt ?_; kwd_less) | kwd_less | (refine Ne.symm ?_; kwd_less)))); (k_with "ktr_room" => (first | exact room_lt (by assumption) (by rfl) | exact room_same (by assumption) (by rfl))); (k_with "ktr_units" => (exact units_lt (by assumption) (by rfl))); (k_with "eval Constant bytes" => ((refine xs_bytes ?_))); (k_with "binaryOp Sub int int" => ((refine xs_sub ?_))); (k_with "binaryOp Mod int int" => ((k_here; refine xs_mod (by decide) ?_))); (k_with "newList" => ((k_here; k_dflt (refine' xs_list ?xlF ?xlN ?_; (case xlF => k_asm); (case xlN => k_asm); k_whole); intro _ _ _ _ xll; (try k_lt xll); (try k_sweep)))); (k_with "eval Constant int" => ((refine xs_int ?_))); (k_with "eval Constant str" => ((refine xs_str ?_))); (k_with "binaryOp Add int int" => ((refine xs_add ?_))); (k_with "storeName" => ((k_here; k_dflt (refine' xs_store ?xsF ?xsN ?_ ?xsa ?xsb; (case xsF => k_asm); (case xsN => k_asm); (case xsa => rfl); (case xsb => rfl); k_whole; intro _ _ _; (try k_sweep))))); (k_with "newTuple" => ((k_here; kup_bare; k_dflt (refine' xs_tuple ?xtF ?xtN ?_ ?xtz; (case xtF => k_asm); (case xtN => k_asm); (case xtz => kmk_size)); intro _ _ _ _ xtl; (try k_lt xtl); (try k_sweep)))); (k_with "ite" => ((k_here; first | refine ite_pos (by decide) ?_ | refine ite_neg (by decide) ?_))); (k_with "subscriptTail" => ((k_here; k_extra "SB"))); (k_with "UnrEnd" => ((k_extra "UE"))))
  intro dp un gd cn cs a ccd cl outer A₀ base h₀ L m hp0 gn0 dr0 tk0 os0 mean mg mb Q E B F X N T hcs hdp hun hret
  refine wpAny_call ?_
  k_dflt ktr_enter
  k_with "HOLD" => skip
  k_with "SB" => ((with_reducible show wpAny _ _ (subscriptTail _ _ (Value.bytes _ _) (Value.int _ _)) _ _ _); (refine KBw.item_K (by kba_ints) (by kba_size) (by kba_idx) (by kba_idx) ?_); intro _ _ kbaLo kbaHi; first | rw [e0, h0] )
  k_with "C" => ((with_reducible show wpAny _ _ (call (Value.ref 210) _) _ _ _); k_dflt (refine' Con.useR5 (span_con w 195 128 191 1 _ (by decide) _) ?B ?F ?X ?N (fun p hp => hp) ?T ?hk ?hd ?hu ?_; (first | (((case N => k_asm); (case B => k_asm); (case F => k_asm); (case X => k_asm); (case T => k_asm); (case hk => first | exact rfl | assumption); (case hd => ktr_room); (case hu => ktr_units))) | tb_start)); intro v9 h9 tk9 n9 hP9 F9 N9; obtain ⟨d9, ta9, tb9, tc9, hP9, hn9⟩ := hP9; subst hP9; subst hn9; (try dsimp only))
  k_with "UE" => (refine UnrEnd_1 (d := d9) (by assumption) (by assumption) (by assumption) (by k_mem) (by first | exact fun p hp => .tail _ hp | exact fun p hp => .tail _ (.tail _ hp) | exact fun p hp => .tail _ (.tail _ (.tail _ hp))) ?_)
  k_steps
  all_goals first
    | exact hret _ _ _ _ ⟨_, _, _, rfl, rfl⟩ (by assumption) (by assumption)
    | exact hret _ _ _ _ ⟨_, _, _, rfl, rfl⟩ (by assumption) (news_1 (by assumption))
    | exact hret _ _ _ _ ⟨_, _, _, rfl, rfl⟩ (by assumption) (news_2 (by assumption))
    | (exfalso; omega)
    | fail
theorem us_badED (w : World) (b : Array UInt8) (t0 ti : Tok) (ks : List Int) (hk : KBw.bInts b = ks) (hlen : ks.length ≤ 4000) (i : Nat) (hi : i + 1 < ks.length) (h0 : ks.getD i 0 = 237) (h1 : ks.getD (i + 1) 0 = 160) (news : Led) :
    Con w 6 217 [.bytes b t0, .int (i : Int) ti] news (fun v n' => ∃ D t1 t2, v = .ref D ∧ n' = (D, tupObj #[.int (-1) t1, .int 1 t2]) :: news) := by
  have e0 : ((i : Int)).toNat = i := Int.toNat_natCast i
  have e1 : ((i : Int) + (1 + ((0 : Nat) : Int))).toNat = i + 1 := by omega
  refine Con.mk5 ?_
  k_fill
  (k_with_none; (k_with "units_room" => ((ktr_units))); (k_with "k_room" => ((ktr_room))); (k_with "k_all" => (first | assumption | exact fun q hq => Nat.ne_of_lt (ktn_ltOf (by assumption) q hq))); (k_with "exec While BoolOp cons nil" => ((k_here; k_extra "W"))); (k_with "exec While Compare cons nil" => ((k_here; k_extra "W"))); (k_with "call ref" => ((k_here; first | k_extra "C" | (k_extra "HOLD"; refine Hold.out ?_)))); (k_with "eval ListComp" => ((k_here; k_extra "L"))); (k_with "pyIter ref" => ((k_here; k_extra "F"))); (k_with "exec For Name Call cons nil" => ((k_here; k_extra "FOR"; (rename Fr _ _ _ _ => lF'); (with_unfolding_all refine' For_invVF lF' ?k1 ?k2 ?_; (case k1 => exact rfl); (case k2 => exact rfl); k_whole)))); (k_with "exec For Name Name cons nil" => ((k_here; k_extra "FOR"; (rename Fr _ _ _ _ => lF'); (with_unfolding_all refine' For_invVF lF' ?k1 ?k2 ?_; (case k1 => exact rfl); (case k2 => exact rfl); k_whole)))); (k_with "compareOp In int bytes" => ((k_here; refine in_bytes_K (by omega) (by omega) ?_))); (k_with "compareOp NotIn int bytes" => ((k_here; refine notin_bytes_K (by omega) (by omega) ?_))); (k_with "pyIter bytes" => ((k_here; k_extra "FB"))); (k_with "call type:bytes" => ((k_here; (with_reducible show wpAny _ _ (call (Value.type "bytes") [Value.bytes _ _]) _ _ _); refine call_bytes_bytes ?_))); (k_with "NE1" => (first | with_reducible assumption | exact And.right (by with_reducible assumption) | exact And.right (And.right (by with_reducible assumption)) | exact And.right (And.right (And.right (by with_reducible assumption))))); (k_with "NE2" => (first | with_reducible assumption | exact And.right (by with_reducible assumption) | exact And.right (And.right (by with_reducible assumption)) | exact And.right (And.right (And.right (by with_reducible assumption))) | exact And.right (And.right (And.right (And.right (by k_extra "NE1")))))); (k_with "NE3" => (first | with_reducible assumption | exact And.right (by with_reducible assumption) | exact And.right (And.right (by with_reducible assumption)) | exact And.right (And.right (And.right (by with_reducible assumption))) | exact And.right (And.right (And.right (And.right (by k_extra "NE2")))))); (k_with "kwd_less" => (first | with_reducible assumption | exact And.left (by k_extra "NE3") | exact And.right (by k_extra "NE3"))); (k_with "k_ne" => (((try dsimp only); first | with_reducible assumption | exact Ne.symm (by with_reducible assumption) | (refine ne_gt ?_; kwd_less) | (refine ne_lt ?_; kwd_less) | kwd_less | (refine Ne.symm ?_; kwd_less)))); (k_with "ktr_room" => (first | exact room_lt (by assumption) (by rfl) | exact room_same (by assumption) (by rfl))); (k_with "ktr_units" => (exact units_lt (by assumption) (by rfl))); (k_with "eval Constant bytes" => ((refine xs_bytes ?_))); (k_with "binaryOp Sub int int" => ((refine xs_sub ?_))); (k_with "binaryOp Mod int int" => ((k_here; refine xs_mod (by decide) ?_))); (k_with "newList" => ((k_here; k_dflt (refine' xs_list ?xlF ?xlN ?_; (case xlF => k_asm); (case xlN => k_asm); k_whole); intro _ _ _ _ xll; (try k_lt xll); (try k_sweep)))); (k_with "eval Constant int" => ((refine xs_int ?_))); (k_with "eval Constant str" => ((refine xs_str ?_))); (k_with "binaryOp Add int int" => ((refine xs_add ?_))); (k_with "storeName" => ((k_here; k_dflt (refine' xs_store ?xsF ?xsN ?_ ?xsa ?xsb; (case xsF => k_asm); (case xsN => k_asm); (case xsa => rfl); (case xsb => rfl); k_whole; intro _ _ _; (try k_sweep))))); (k_with "newTuple" => ((k_here; kup_bare; k_dflt (refine' xs_tuple ?xtF ?xtN ?_ ?xtz; (case xtF => k_asm); (case xtN => k_asm); (case xtz => kmk_size)); intro _ _ _ _ xtl; (try k_lt xtl); (try k_sweep)))); (k_with "ite" => ((k_here; first | refine ite_pos (by decide) ?_ | refine ite_neg (by decide) ?_))); (k_with "subscriptTail" => ((k_here; k_extra "SB"))); (k_with "UnrEnd" => ((k_extra "UE"))))
  intro dp un gd cn cs a ccd cl outer A₀ base h₀ L m hp0 gn0 dr0 tk0 os0 mean mg mb Q E B F X N T hcs hdp hun hret
  refine wpAny_call ?_
  k_dflt ktr_enter
  k_with "HOLD" => skip
  k_with "SB" => ((with_reducible show wpAny _ _ (subscriptTail _ _ (Value.bytes _ _) (Value.int _ _)) _ _ _); (refine KBw.item_K (by kba_ints) (by kba_size) (by kba_idx) (by kba_idx) ?_); intro _ _ kbaLo kbaHi; first | rw [e0, h0] | rw [e1, h1])
  k_with "C" => ((with_reducible show wpAny _ _ (call (Value.ref 210) _) _ _ _); k_dflt (refine' Con.useR5 (span_con w 237 128 159 2 _ (by decide) _) ?B ?F ?X ?N (fun p hp => hp) ?T ?hk ?hd ?hu ?_; (first | (((case N => k_asm); (case B => k_asm); (case F => k_asm); (case X => k_asm); (case T => k_asm); (case hk => first | exact rfl | assumption); (case hd => ktr_room); (case hu => ktr_units))) | tb_start)); intro v9 h9 tk9 n9 hP9 F9 N9; obtain ⟨d9, ta9, tb9, tc9, hP9, hn9⟩ := hP9; subst hP9; subst hn9; (try dsimp only))
  k_with "UE" => (refine UnrEnd_1 (d := d9) (by assumption) (by assumption) (by assumption) (by k_mem) (by first | exact fun p hp => .tail _ hp | exact fun p hp => .tail _ (.tail _ hp) | exact fun p hp => .tail _ (.tail _ (.tail _ hp))) ?_)
  k_steps
  all_goals first
    | exact hret _ _ _ _ ⟨_, _, _, rfl, rfl⟩ (by assumption) (by assumption)
    | exact hret _ _ _ _ ⟨_, _, _, rfl, rfl⟩ (by assumption) (news_1 (by assumption))
    | exact hret _ _ _ _ ⟨_, _, _, rfl, rfl⟩ (by assumption) (news_2 (by assumption))
    | (exfalso; omega)
    | fail
theorem us_e9 (w : World) (b : Array UInt8) (t0 ti : Tok) (ks : List Int) (hk : KBw.bInts b = ks) (hlen : ks.length ≤ 4000) (i : Nat) (hi : i + 1 < ks.length) (h0 : ks.getD i 0 = 195) (h1 : ks.getD (i + 1) 0 = 169) (news : Led) :
    Con w 6 217 [.bytes b t0, .int (i : Int) ti] news (fun v n' => ∃ D t1 t2, v = .ref D ∧ n' = (D, tupObj #[.int 233 t1, .int 2 t2]) :: news) := by
  have e0 : ((i : Int)).toNat = i := Int.toNat_natCast i
  have e1 : ((i : Int) + (1 + ((0 : Nat) : Int))).toNat = i + 1 := by omega
  refine Con.mk5 ?_
  k_fill
  (k_with_none; (k_with "units_room" => ((ktr_units))); (k_with "k_room" => ((ktr_room))); (k_with "k_all" => (first | assumption | exact fun q hq => Nat.ne_of_lt (ktn_ltOf (by assumption) q hq))); (k_with "exec While BoolOp cons nil" => ((k_here; k_extra "W"))); (k_with "exec While Compare cons nil" => ((k_here; k_extra "W"))); (k_with "call ref" => ((k_here; first | k_extra "C" | (k_extra "HOLD"; refine Hold.out ?_)))); (k_with "eval ListComp" => ((k_here; k_extra "L"))); (k_with "pyIter ref" => ((k_here; k_extra "F"))); (k_with "exec For Name Call cons nil" => ((k_here; k_extra "FOR"; (rename Fr _ _ _ _ => lF'); (with_unfolding_all refine' For_invVF lF' ?k1 ?k2 ?_; (case k1 => exact rfl); (case k2 => exact rfl); k_whole)))); (k_with "exec For Name Name cons nil" => ((k_here; k_extra "FOR"; (rename Fr _ _ _ _ => lF'); (with_unfolding_all refine' For_invVF lF' ?k1 ?k2 ?_; (case k1 => exact rfl); (case k2 => exact rfl); k_whole)))); (k_with "compareOp In int bytes" => ((k_here; refine in_bytes_K (by omega) (by omega) ?_))); (k_with "compareOp NotIn int bytes" => ((k_here; refine notin_bytes_K (by omega) (by omega) ?_))); (k_with "pyIter bytes" => ((k_here; k_extra "FB"))); (k_with "call type:bytes" => ((k_here; (with_reducible show wpAny _ _ (call (Value.type "bytes") [Value.bytes _ _]) _ _ _); refine call_bytes_bytes ?_))); (k_with "NE1" => (first | with_reducible assumption | exact And.right (by with_reducible assumption) | exact And.right (And.right (by with_reducible assumption)) | exact And.right (And.right (And.right (by with_reducible assumption))))); (k_with "NE2" => (first | with_reducible assumption | exact And.right (by with_reducible assumption) | exact And.right (And.right (by with_reducible assumption)) | exact And.right (And.right (And.right (by with_reducible assumption))) | exact And.right (And.right (And.right (And.right (by k_extra "NE1")))))); (k_with "NE3" => (first | with_reducible assumption | exact And.right (by with_reducible assumption) | exact And.right (And.right (by with_reducible assumption)) | exact And.right (And.right (And.right (by with_reducible assumption))) | exact And.right (And.right (And.right (And.right (by k_extra "NE2")))))); (k_with "kwd_less" => (first | with_reducible assumption | exact And.left (by k_extra "NE3") | exact And.right (by k_extra "NE3"))); (k_with "k_ne" => (((try dsimp only); first | with_reducible assumption | exact Ne.symm (by with_reducible assumption) | (refine ne_gt ?_; kwd_less) | (refine ne_lt ?_; kwd_less) | kwd_less | (refine Ne.symm ?_; kwd_less)))); (k_with "ktr_room" => (first | exact room_lt (by assumption) (by rfl) | exact room_same (by assumption) (by rfl))); (k_with "ktr_units" => (exact units_lt (by assumption) (by rfl))); (k_with "eval Constant bytes" => ((refine xs_bytes ?_))); (k_with "binaryOp Sub int int" => ((refine xs_sub ?_))); (k_with "binaryOp Mod int int" => ((k_here; refine xs_mod (by decide) ?_))); (k_with "newList" => ((k_here; k_dflt (refine' xs_list ?xlF ?xlN ?_; (case xlF => k_asm); (case xlN => k_asm); k_whole); intro _ _ _ _ xll; (try k_lt xll); (try k_sweep)))); (k_with "eval Constant int" => ((refine xs_int ?_))); (k_with "eval Constant str" => ((refine xs_str ?_))); (k_with "binaryOp Add int int" => ((refine xs_add ?_))); (k_with "storeName" => ((k_here; k_dflt (refine' xs_store ?xsF ?xsN ?_ ?xsa ?xsb; (case xsF => k_asm); (case xsN => k_asm); (case xsa => rfl); (case xsb => rfl); k_whole; intro _ _ _; (try k_sweep))))); (k_with "newTuple" => ((k_here; kup_bare; k_dflt (refine' xs_tuple ?xtF ?xtN ?_ ?xtz; (case xtF => k_asm); (case xtN => k_asm); (case xtz => kmk_size)); intro _ _ _ _ xtl; (try k_lt xtl); (try k_sweep)))); (k_with "ite" => ((k_here; first | refine ite_pos (by decide) ?_ | refine ite_neg (by decide) ?_))); (k_with "subscriptTail" => ((k_here; k_extra "SB"))); (k_with "UnrEnd" => ((k_extra "UE"))))
  intro dp un gd cn cs a ccd cl outer A₀ base h₀ L m hp0 gn0 dr0 tk0 os0 mean mg mb Q E B F X N T hcs hdp hun hret
  refine wpAny_call ?_
  k_dflt ktr_enter
  k_with "HOLD" => skip
  k_with "SB" => ((with_reducible show wpAny _ _ (subscriptTail _ _ (Value.bytes _ _) (Value.int _ _)) _ _ _); (refine KBw.item_K (by kba_ints) (by kba_size) (by kba_idx) (by kba_idx) ?_); intro _ _ kbaLo kbaHi; first | rw [e0, h0] | rw [e1, h1])
  k_with "C" => ((with_reducible show wpAny _ _ (call (Value.ref 210) _) _ _ _); k_dflt (refine' Con.useR5 (span_con w 195 128 191 1 _ (by decide) _) ?B ?F ?X ?N (fun p hp => hp) ?T ?hk ?hd ?hu ?_; (first | (((case N => k_asm); (case B => k_asm); (case F => k_asm); (case X => k_asm); (case T => k_asm); (case hk => first | exact rfl | assumption); (case hd => ktr_room); (case hu => ktr_units))) | tb_start)); intro v9 h9 tk9 n9 hP9 F9 N9; obtain ⟨d9, ta9, tb9, tc9, hP9, hn9⟩ := hP9; subst hP9; subst hn9; (try dsimp only))
  k_with "UE" => (refine UnrEnd_1 (d := d9) (by assumption) (by assumption) (by assumption) (by k_mem) (by first | exact fun p hp => .tail _ hp | exact fun p hp => .tail _ (.tail _ hp) | exact fun p hp => .tail _ (.tail _ (.tail _ hp))) ?_)
  k_steps
  all_goals first
    | exact hret _ _ _ _ ⟨_, _, _, rfl, rfl⟩ (by assumption) (by assumption)
    | exact hret _ _ _ _ ⟨_, _, _, rfl, rfl⟩ (by assumption) (news_1 (by assumption))
    | exact hret _ _ _ _ ⟨_, _, _, rfl, rfl⟩ (by assumption) (news_2 (by assumption))
    | (exfalso; omega)
    | fail
theorem us_7ff (w : World) (b : Array UInt8) (t0 ti : Tok) (ks : List Int) (hk : KBw.bInts b = ks) (hlen : ks.length ≤ 4000) (i : Nat) (hi : i + 1 < ks.length) (h0 : ks.getD i 0 = 223) (h1 : ks.getD (i + 1) 0 = 191) (news : Led) :
    Con w 6 217 [.bytes b t0, .int (i : Int) ti] news (fun v n' => ∃ D t1 t2, v = .ref D ∧ n' = (D, tupObj #[.int 2047 t1, .int 2 t2]) :: news) := by
  have e0 : ((i : Int)).toNat = i := Int.toNat_natCast i
  have e1 : ((i : Int) + (1 + ((0 : Nat) : Int))).toNat = i + 1 := by omega
  refine Con.mk5 ?_
  k_fill
  (k_with_none; (k_with "units_room" => ((ktr_units))); (k_with "k_room" => ((ktr_room))); (k_with "k_all" => (first | assumption | exact fun q hq => Nat.ne_of_lt (ktn_ltOf (by assumption) q hq))); (k_with "exec While BoolOp cons nil" => ((k_here; k_extra "W"))); (k_with "exec While Compare cons nil" => ((k_here; k_extra "W"))); (k_with "call ref" => ((k_here; first | k_extra "C" | (k_extra "HOLD"; refine Hold.out ?_)))); (k_with "eval ListComp" => ((k_here; k_extra "L"))); (k_with "pyIter ref" => ((k_here; k_extra "F"))); (k_with "exec For Name Call cons nil" => ((k_here; k_extra "FOR"; (rename Fr _ _ _ _ => lF'); (with_unfolding_all refine' For_invVF lF' ?k1 ?k2 ?_; (case k1 => exact rfl); (case k2 => exact rfl); k_whole)))); (k_with "exec For Name Name cons nil" => ((k_here; k_extra "FOR"; (rename Fr _ _ _ _ => lF'); (with_unfolding_all refine' For_invVF lF' ?k1 ?k2 ?_; (case k1 => exact rfl); (case k2 => exact rfl); k_whole)))); (k_with "compareOp In int bytes" => ((k_here; refine in_bytes_K (by omega) (by omega) ?_))); (k_with "compareOp NotIn int bytes" => ((k_here; refine notin_bytes_K (by omega) (by omega) ?_))); (k_with "pyIter bytes" => ((k_here; k_extra "FB"))); (k_with "call type:bytes" => ((k_here; (with_reducible show wpAny _ _ (call (Value.type "bytes") [Value.bytes _ _]) _ _ _); refine call_bytes_bytes ?_))); (k_with "NE1" => (first | with_reducible assumption | exact And.right (by with_reducible assumption) | exact And.right (And.right (by with_reducible assumption)) | exact And.right (And.right (And.right (by with_reducible assumption))))); (k_with "NE2" => (first | with_reducible assumption | exact And.right (by with_reducible assumption) | exact And.right (And.right (by with_reducible assumption)) | exact And.right (And.right (And.right (by with_reducible assumption))) | exact And.right (And.right (And.right (And.right (by k_extra "NE1")))))); (k_with "NE3" => (first | with_reducible assumption | exact And.right (by with_reducible assumption) | exact And.right (And.right (by with_reducible assumption)) | exact And.right (And.right (And.right (by with_reducible assumption))) | exact And.right (And.right (And.right (And.right (by k_extra "NE2")))))); (k_with "kwd_less" => (first | with_reducible assumption | exact And.left (by k_extra "NE3") | exact And.right (by k_extra "NE3"))); (k_with "k_ne" => (((try dsimp only); first | with_reducible assumption | exact Ne.symm (by with_reducible assumption) | (refine ne_gt ?_; kwd_less) | (refine ne_lt ?_; kwd_less) | kwd_less | (refine Ne.symm ?_; kwd_less)))); (k_with "ktr_room" => (first | exact room_lt (by assumption) (by rfl) | exact room_same (by assumption) (by rfl))); (k_with "ktr_units" => (exact units_lt (by assumption) (by rfl))); (k_with "eval Constant bytes" => ((refine xs_bytes ?_))); (k_with "binaryOp Sub int int" => ((refine xs_sub ?_))); (k_with "binaryOp Mod int int" => ((k_here; refine xs_mod (by decide) ?_))); (k_with "newList" => ((k_here; k_dflt (refine' xs_list ?xlF ?xlN ?_; (case xlF => k_asm); (case xlN => k_asm); k_whole); intro _ _ _ _ xll; (try k_lt xll); (try k_sweep)))); (k_with "eval Constant int" => ((refine xs_int ?_))); (k_with "eval Constant str" => ((refine xs_str ?_))); (k_with "binaryOp Add int int" => ((refine xs_add ?_))); (k_with "storeName" => ((k_here; k_dflt (refine' xs_store ?xsF ?xsN ?_ ?xsa ?xsb; (case xsF => k_asm); (case xsN => k_asm); (case xsa => rfl); (case xsb => rfl); k_whole; intro _ _ _; (try k_sweep))))); (k_with "newTuple" => ((k_here; kup_bare; k_dflt (refine' xs_tuple ?xtF ?xtN ?_ ?xtz; (case xtF => k_asm); (case xtN => k_asm); (case xtz => kmk_size)); intro _ _ _ _ xtl; (try k_lt xtl); (try k_sweep)))); (k_with "ite" => ((k_here; first | refine ite_pos (by decide) ?_ | refine ite_neg (by decide) ?_))); (k_with "subscriptTail" => ((k_here; k_extra "SB"))); (k_with "UnrEnd" => ((k_extra "UE"))))
  intro dp un gd cn cs a ccd cl outer A₀ base h₀ L m hp0 gn0 dr0 tk0 os0 mean mg mb Q E B F X N T hcs hdp hun hret
  refine wpAny_call ?_
  k_dflt ktr_enter
  k_with "HOLD" => skip
  k_with "SB" => ((with_reducible show wpAny _ _ (subscriptTail _ _ (Value.bytes _ _) (Value.int _ _)) _ _ _); (refine KBw.item_K (by kba_ints) (by kba_size) (by kba_idx) (by kba_idx) ?_); intro _ _ kbaLo kbaHi; first | rw [e0, h0] | rw [e1, h1])
  k_with "C" => ((with_reducible show wpAny _ _ (call (Value.ref 210) _) _ _ _); k_dflt (refine' Con.useR5 (span_con w 223 128 191 1 _ (by decide) _) ?B ?F ?X ?N (fun p hp => hp) ?T ?hk ?hd ?hu ?_; (first | (((case N => k_asm); (case B => k_asm); (case F => k_asm); (case X => k_asm); (case T => k_asm); (case hk => first | exact rfl | assumption); (case hd => ktr_room); (case hu => ktr_units))) | tb_start)); intro v9 h9 tk9 n9 hP9 F9 N9; obtain ⟨d9, ta9, tb9, tc9, hP9, hn9⟩ := hP9; subst hP9; subst hn9; (try dsimp only))
  k_with "UE" => (refine UnrEnd_1 (d := d9) (by assumption) (by assumption) (by assumption) (by k_mem) (by first | exact fun p hp => .tail _ hp | exact fun p hp => .tail _ (.tail _ hp) | exact fun p hp => .tail _ (.tail _ (.tail _ hp))) ?_)
  k_steps
  all_goals first
    | exact hret _ _ _ _ ⟨_, _, _, rfl, rfl⟩ (by assumption) (by assumption)
    | exact hret _ _ _ _ ⟨_, _, _, rfl, rfl⟩ (by assumption) (news_1 (by assumption))
    | exact hret _ _ _ _ ⟨_, _, _, rfl, rfl⟩ (by assumption) (news_2 (by assumption))
    | (exfalso; omega)
    | fail
theorem us_euro (w : World) (b : Array UInt8) (t0 ti : Tok) (ks : List Int) (hk : KBw.bInts b = ks) (hlen : ks.length ≤ 4000) (i : Nat) (hi : i + 2 < ks.length) (h0 : ks.getD i 0 = 226) (h1 : ks.getD (i + 1) 0 = 130) (h2 : ks.getD (i + 2) 0 = 172) (news : Led) :
    Con w 6 217 [.bytes b t0, .int (i : Int) ti] news (fun v n' => ∃ D t1 t2, v = .ref D ∧ n' = (D, tupObj #[.int 8364 t1, .int 3 t2]) :: news) := by
  have e0 : ((i : Int)).toNat = i := Int.toNat_natCast i
  have e1 : ((i : Int) + (1 + ((0 : Nat) : Int))).toNat = i + 1 := by omega
  have e2 : ((i : Int) + (1 + ((1 : Nat) : Int))).toNat = i + 2 := by omega
  refine Con.mk5 ?_
  k_fill
  (k_with_none; (k_with "units_room" => ((ktr_units))); (k_with "k_room" => ((ktr_room))); (k_with "k_all" => (first | assumption | exact fun q hq => Nat.ne_of_lt (ktn_ltOf (by assumption) q hq))); (k_with "exec While BoolOp cons nil" => ((k_here; k_extra "W"))); (k_with "exec While Compare cons nil" => ((k_here; k_extra "W"))); (k_with "call ref" => ((k_here; first | k_extra "C" | (k_extra "HOLD"; refine Hold.out ?_)))); (k_with "eval ListComp" => ((k_here; k_extra "L"))); (k_with "pyIter ref" => ((k_here; k_extra "F"))); (k_with "exec For Name Call cons nil" => ((k_here; k_extra "FOR"; (rename Fr _ _ _ _ => lF'); (with_unfolding_all refine' For_invVF lF' ?k1 ?k2 ?_; (case k1 => exact rfl); (case k2 => exact rfl); k_whole)))); (k_with "exec For Name Name cons nil" => ((k_here; k_extra "FOR"; (rename Fr _ _ _ _ => lF'); (with_unfolding_all refine' For_invVF lF' ?k1 ?k2 ?_; (case k1 => exact rfl); (case k2 => exact rfl); k_whole)))); (k_with "compareOp In int bytes" => ((k_here; refine in_bytes_K (by omega) (by omega) ?_))); (k_with "compareOp NotIn int bytes" => ((k_here; refine notin_bytes_K (by omega) (by omega) ?_))); (k_with "pyIter bytes" => ((k_here; k_extra "FB"))); (k_with "call type:bytes" => ((k_here; (with_reducible show wpAny _ _ (call (Value.type "bytes") [Value.bytes _ _]) _ _ _); refine call_bytes_bytes ?_))); (k_with "NE1" => (first | with_reducible assumption | exact And.right (by with_reducible assumption) | exact And.right (And.right (by with_reducible assumption)) | exact And.right (And.right (And.right (by with_reducible assumption))))); (k_with "NE2" => (first | with_reducible assumption | exact And.right (by with_reducible assumption) | exact And.right (And.right (by with_reducible assumption)) | exact And.right (And.right (And.right (by with_reducible assumption))) | exact And.right (And.right (And.right (And.right (by k_extra "NE1")))))); (k_with "NE3" => (first | with_reducible assumption | exact And.right (by with_reducible assumption) | exact And.right (And.right (by with_reducible assumption)) | exact And.right (And.right (And.right (by with_reducible assumption))) | exact And.right (And.right (And.right (And.right (by k_extra "NE2")))))); (k_with "kwd_less" => (first | with_reducible assumption | exact And.left (by k_extra "NE3") | exact And.right (by k_extra "NE3"))); (k_with "k_ne" => (((try dsimp only); first | with_reducible assumption | exact Ne.symm (by with_reducible assumption) | (refine ne_gt ?_; kwd_less) | (refine ne_lt ?_; kwd_less) | kwd_less | (refine Ne.symm ?_; kwd_less)))); (k_with "ktr_room" => (first | exact room_lt (by assumption) (by rfl) | exact room_same (by assumption) (by rfl))); (k_with "ktr_units" => (exact units_lt (by assumption) (by rfl))); (k_with "eval Constant bytes" => ((refine xs_bytes ?_))); (k_with "binaryOp Sub int int" => ((refine xs_sub ?_))); (k_with "binaryOp Mod int int" => ((k_here; refine xs_mod (by decide) ?_))); (k_with "newList" => ((k_here; k_dflt (refine' xs_list ?xlF ?xlN ?_; (case xlF => k_asm); (case xlN => k_asm); k_whole); intro _ _ _ _ xll; (try k_lt xll); (try k_sweep)))); (k_with "eval Constant int" => ((refine xs_int ?_))); (k_with "eval Constant str" => ((refine xs_str ?_))); (k_with "binaryOp Add int int" => ((refine xs_add ?_))); (k_with "storeName" => ((k_here; k_dflt (refine' xs_store ?xsF ?xsN ?_ ?xsa ?xsb; (case xsF => k_asm); (case xsN => k_asm); (case xsa => rfl); (case xsb => rfl); k_whole; intro _ _ _; (try k_sweep))))); (k_with "newTuple" => ((k_here; kup_bare; k_dflt (refine' xs_tuple ?xtF ?xtN ?_ ?xtz; (case xtF => k_asm); (case xtN => k_asm); (case xtz => kmk_size)); intro _ _ _ _ xtl; (try k_lt xtl); (try k_sweep)))); (k_with "ite" => ((k_here; first | refine ite_pos (by decide) ?_ | refine ite_neg (by decide) ?_))); (k_with "subscriptTail" => ((k_here; k_extra "SB"))); (k_with "UnrEnd" => ((k_extra "UE"))))
  intro dp un gd cn cs a ccd cl outer A₀ base h₀ L m hp0 gn0 dr0 tk0 os0 mean mg mb Q E B F X N T hcs hdp hun hret
  refine wpAny_call ?_
  k_dflt ktr_enter
  k_with "HOLD" => skip
  k_with "SB" => ((with_reducible show wpAny _ _ (subscriptTail _ _ (Value.bytes _ _) (Value.int _ _)) _ _ _); (refine KBw.item_K (by kba_ints) (by kba_size) (by kba_idx) (by kba_idx) ?_); intro _ _ kbaLo kbaHi; first | rw [e0, h0] | rw [e1, h1] | rw [e2, h2])
  k_with "C" => ((with_reducible show wpAny _ _ (call (Value.ref 210) _) _ _ _); k_dflt (refine' Con.useR5 (span_con w 226 128 191 2 _ (by decide) _) ?B ?F ?X ?N (fun p hp => hp) ?T ?hk ?hd ?hu ?_; (first | (((case N => k_asm); (case B => k_asm); (case F => k_asm); (case X => k_asm); (case T => k_asm); (case hk => first | exact rfl | assumption); (case hd => ktr_room); (case hu => ktr_units))) | tb_start)); intro v9 h9 tk9 n9 hP9 F9 N9; obtain ⟨d9, ta9, tb9, tc9, hP9, hn9⟩ := hP9; subst hP9; subst hn9; (try dsimp only))
  k_with "UE" => (refine UnrEnd_1 (d := d9) (by assumption) (by assumption) (by assumption) (by k_mem) (by first | exact fun p hp => .tail _ hp | exact fun p hp => .tail _ (.tail _ hp) | exact fun p hp => .tail _ (.tail _ (.tail _ hp))) ?_)
  k_steps
  all_goals first
    | exact hret _ _ _ _ ⟨_, _, _, rfl, rfl⟩ (by assumption) (by assumption)
    | exact hret _ _ _ _ ⟨_, _, _, rfl, rfl⟩ (by assumption) (news_1 (by assumption))
    | exact hret _ _ _ _ ⟨_, _, _, rfl, rfl⟩ (by assumption) (news_2 (by assumption))
    | (exfalso; omega)
    | fail
theorem us_fffd (w : World) (b : Array UInt8) (t0 ti : Tok) (ks : List Int) (hk : KBw.bInts b = ks) (hlen : ks.length ≤ 4000) (i : Nat) (hi : i + 2 < ks.length) (h0 : ks.getD i 0 = 239) (h1 : ks.getD (i + 1) 0 = 191) (h2 : ks.getD (i + 2) 0 = 189) (news : Led) :
    Con w 6 217 [.bytes b t0, .int (i : Int) ti] news (fun v n' => ∃ D t1 t2, v = .ref D ∧ n' = (D, tupObj #[.int 65533 t1, .int 3 t2]) :: news) := by
  have e0 : ((i : Int)).toNat = i := Int.toNat_natCast i
  have e1 : ((i : Int) + (1 + ((0 : Nat) : Int))).toNat = i + 1 := by omega
  have e2 : ((i : Int) + (1 + ((1 : Nat) : Int))).toNat = i + 2 := by omega
  refine Con.mk5 ?_
  k_fill
  (k_with_none; (k_with "units_room" => ((ktr_units))); (k_with "k_room" => ((ktr_room))); (k_with "k_all" => (first | assumption | exact fun q hq => Nat.ne_of_lt (ktn_ltOf (by assumption) q hq))); (k_with "exec While BoolOp cons nil" => ((k_here; k_extra "W"))); (k_with "exec While Compare cons nil" => ((k_here; k_extra "W"))); (k_with "call ref" => ((k_here; first | k_extra "C" | (k_extra "HOLD"; refine Hold.out ?_)))); (k_with "eval ListComp" => ((k_here; k_extra "L"))); (k_with "pyIter ref" => ((k_here; k_extra "F"))); (k_with "exec For Name Call cons nil" => ((k_here; k_extra "FOR"; (rename Fr _ _ _ _ => lF'); (with_unfolding_all refine' For_invVF lF' ?k1 ?k2 ?_; (case k1 => exact rfl); (case k2 => exact rfl); k_whole)))); (k_with "exec For Name Name cons nil" => ((k_here; k_extra "FOR"; (rename Fr _ _ _ _ => lF'); (with_unfolding_all refine' For_invVF lF' ?k1 ?k2 ?_; (case k1 => exact rfl); (case k2 => exact rfl); k_whole)))); (k_with "compareOp In int bytes" => ((k_here; refine in_bytes_K (by omega) (by omega) ?_))); (k_with "compareOp NotIn int bytes" => ((k_here; refine notin_bytes_K (by omega) (by omega) ?_))); (k_with "pyIter bytes" => ((k_here; k_extra "FB"))); (k_with "call type:bytes" => ((k_here; (with_reducible show wpAny _ _ (call (Value.type "bytes") [Value.bytes _ _]) _ _ _); refine call_bytes_bytes ?_))); (k_with "NE1" => (first | with_reducible assumption | exact And.right (by with_reducible assumption) | exact And.right (And.right (by with_reducible assumption)) | exact And.right (And.right (And.right (by with_reducible assumption))))); (k_with "NE2" => (first | with_reducible assumption | exact And.right (by with_reducible assumption) | exact And.right (And.right (by with_reducible assumption)) | exact And.right (And.right (And.right (by with_reducible assumption))) | exact And.right (And.right (And.right (And.right (by k_extra "NE1")))))); (k_with "NE3" => (first | with_reducible assumption | exact And.right (by with_reducible assumption) | exact And.right (And.right (by with_reducible assumption)) | exact And.right (And.right (And.right (by with_reducible assumption))) | exact And.right (And.right (And.right (And.right (by k_extra "NE2")))))); (k_with "kwd_less" => (first | with_reducible assumption | exact And.left (by k_extra "NE3") | exact And.right (by k_extra "NE3"))); (k_with "k_ne" => (((try dsimp only); first | with_reducible assumption | exact Ne.symm (by with_reducible assumption) | (refine ne_gt ?_; kwd_less) | (refine ne_lt ?_; kwd_less) | kwd_less | (refine Ne.symm ?_; kwd_less)))); (k_with "ktr_room" => (first | exact room_lt (by assumption) (by rfl) | exact room_same (by assumption) (by rfl))); (k_with "ktr_units" => (exact units_lt (by assumption) (by rfl))); (k_with "eval Constant bytes" => ((refine xs_bytes ?_))); (k_with "binaryOp Sub int int" => ((refine xs_sub ?_))); (k_with "binaryOp Mod int int" => ((k_here; refine xs_mod (by decide) ?_))); (k_with "newList" => ((k_here; k_dflt (refine' xs_list ?xlF ?xlN ?_; (case xlF => k_asm); (case xlN => k_asm); k_whole); intro _ _ _ _ xll; (try k_lt xll); (try k_sweep)))); (k_with "eval Constant int" => ((refine xs_int ?_))); (k_with "eval Constant str" => ((refine xs_str ?_))); (k_with "binaryOp Add int int" => ((refine xs_add ?_))); (k_with "storeName" => ((k_here; k_dflt (refine' xs_store ?xsF ?xsN ?_ ?xsa ?xsb; (case xsF => k_asm); (case xsN => k_asm); (case xsa => rfl); (case xsb => rfl); k_whole; intro _ _ _; (try k_sweep))))); (k_with "newTuple" => ((k_here; kup_bare; k_dflt (refine' xs_tuple ?xtF ?xtN ?_ ?xtz; (case xtF => k_asm); (case xtN => k_asm); (case xtz => kmk_size)); intro _ _ _ _ xtl; (try k_lt xtl); (try k_sweep)))); (k_with "ite" => ((k_here; first | refine ite_pos (by decide) ?_ | refine ite_neg (by decide) ?_))); (k_with "subscriptTail" => ((k_here; k_extra "SB"))); (k_with "UnrEnd" => ((k_extra "UE"))))
  intro dp un gd cn cs a ccd cl outer A₀ base h₀ L m hp0 gn0 dr0 tk0 os0 mean mg mb Q E B F X N T hcs hdp hun hret
  refine wpAny_call ?_
  k_dflt ktr_enter
  k_with "HOLD" => skip
  k_with "SB" => ((with_reducible show wpAny _ _ (subscriptTail _ _ (Value.bytes _ _) (Value.int _ _)) _ _ _); (refine KBw.item_K (by kba_ints) (by kba_size) (by kba_idx) (by kba_idx) ?_); intro _ _ kbaLo kbaHi; first | rw [e0, h0] | rw [e1, h1] | rw [e2, h2])
  k_with "C" => ((with_reducible show wpAny _ _ (call (Value.ref 210) _) _ _ _); k_dflt (refine' Con.useR5 (span_con w 239 128 191 2 _ (by decide) _) ?B ?F ?X ?N (fun p hp => hp) ?T ?hk ?hd ?hu ?_; (first | (((case N => k_asm); (case B => k_asm); (case F => k_asm); (case X => k_asm); (case T => k_asm); (case hk => first | exact rfl | assumption); (case hd => ktr_room); (case hu => ktr_units))) | tb_start)); intro v9 h9 tk9 n9 hP9 F9 N9; obtain ⟨d9, ta9, tb9, tc9, hP9, hn9⟩ := hP9; subst hP9; subst hn9; (try dsimp only))
  k_with "UE" => (refine UnrEnd_1 (d := d9) (by assumption) (by assumption) (by assumption) (by k_mem) (by first | exact fun p hp => .tail _ hp | exact fun p hp => .tail _ (.tail _ hp) | exact fun p hp => .tail _ (.tail _ (.tail _ hp))) ?_)
  k_steps
  all_goals first
    | exact hret _ _ _ _ ⟨_, _, _, rfl, rfl⟩ (by assumption) (by assumption)
    | exact hret _ _ _ _ ⟨_, _, _, rfl, rfl⟩ (by assumption) (news_1 (by assumption))
    | exact hret _ _ _ _ ⟨_, _, _, rfl, rfl⟩ (by assumption) (news_2 (by assumption))
    | (exfalso; omega)
    | fail
end

section

example : True := by ((k_with "subscriptTail" => ((k_here; k_extra "SB"))); trivial)
section
variable (w : World) (b : Array UInt8) (tc t0 ti : Tok) (ks : List Int) (hk : KBw.bInts b = ks) (hlen : ks.length ≤ 4000) (i : Nat) (news : Led)
abbrev SignR (c : Int) (n : Nat) (news : Led) : Value → Led → Prop := fun v n' => ∃ D t1 t2, v = .ref D ∧ n' = (D, tupObj #[.int c t1, .int (n : Int) t2]) :: news
theorem sa_utf8 (c : Int) (n : Nat) (C : Con w 6 217 [.bytes b t0, .int (i : Int) ti] news (SignR c n news)) : Con w 8 224 [.str "utf-8" tc, .bytes b t0, .int (i : Int) ti] news (SignR c n news) := by
  refine Con.mk5 ?_
  k_fill
  (k_with_none; (k_with "units_room" => ((ktr_units))); (k_with "k_room" => ((ktr_room))); (k_with "k_all" => (first | assumption | exact fun q hq => Nat.ne_of_lt (ktn_ltOf (by assumption) q hq))); (k_with "exec While BoolOp cons nil" => ((k_here; k_extra "W"))); (k_with "exec While Compare cons nil" => ((k_here; k_extra "W"))); (k_with "call ref" => ((k_here; first | k_extra "C" | (k_extra "HOLD"; refine Hold.out ?_)))); (k_with "eval ListComp" => ((k_here; k_extra "L"))); (k_with "pyIter ref" => ((k_here; k_extra "F"))); (k_with "exec For Name Call cons nil" => ((k_here; k_extra "FOR"; (rename Fr _ _ _ _ => lF'); (with_unfolding_all refine' For_invVF lF' ?k1 ?k2 ?_; (case k1 => exact rfl); (case k2 => exact rfl); k_whole)))); (k_with "exec For Name Name cons nil" => ((k_here; k_extra "FOR"; (rename Fr _ _ _ _ => lF'); (with_unfolding_all refine' For_invVF lF' ?k1 ?k2 ?_; (case k1 => exact rfl); (case k2 => exact rfl); k_whole)))); (k_with "compareOp In int bytes" => ((k_here; refine in_bytes_K (by omega) (by omega) ?_))); (k_with "compareOp NotIn int bytes" => ((k_here; refine notin_bytes_K (by omega) (by omega) ?_))); (k_with "pyIter bytes" => ((k_here; k_extra "FB"))); (k_with "call type:bytes" => ((k_here; (with_reducible show wpAny _ _ (call (Value.type "bytes") [Value.bytes _ _]) _ _ _); refine call_bytes_bytes ?_))); (k_with "NE1" => (first | with_reducible assumption | exact And.right (by with_reducible assumption) | exact And.right (And.right (by with_reducible assumption)) | exact And.right (And.right (And.right (by with_reducible assumption))))); (k_with "NE2" => (first | with_reducible assumption | exact And.right (by with_reducible assumption) | exact And.right (And.right (by with_reducible assumption)) | exact And.right (And.right (And.right (by with_reducible assumption))) | exact And.right (And.right (And.right (And.right (by k_extra "NE1")))))); (k_with "NE3" => (first | with_reducible assumption | exact And.right (by with_reducible assumption) | exact And.right (And.right (by with_reducible assumption)) | exact And.right (And.right (And.right (by with_reducible assumption))) | exact And.right (And.right (And.right (And.right (by k_extra "NE2")))))); (k_with "kwd_less" => (first | with_reducible assumption | exact And.left (by k_extra "NE3") | exact And.right (by k_extra "NE3"))); (k_with "k_ne" => (((try dsimp only); first | with_reducible assumption | exact Ne.symm (by with_reducible assumption) | (refine ne_gt ?_; kwd_less) | (refine ne_lt ?_; kwd_less) | kwd_less | (refine Ne.symm ?_; kwd_less)))); (k_with "ktr_room" => (first | exact room_lt (by assumption) (by rfl) | exact room_same (by assumption) (by rfl))); (k_with "ktr_units" => (exact units_lt (by assumption) (by rfl))); (k_with "eval Constant bytes" => ((refine xs_bytes ?_))); (k_with "binaryOp Sub int int" => ((refine xs_sub ?_))); (k_with "binaryOp Mod int int" => ((k_here; refine xs_mod (by decide) ?_))); (k_with "newList" => ((k_here; k_dflt (refine' xs_list ?xlF ?xlN ?_; (case xlF => k_asm); (case xlN => k_asm); k_whole); intro _ _ _ _ xll; (try k_lt xll); (try k_sweep)))); (k_with "eval Constant int" => ((refine xs_int ?_))); (k_with "eval Constant str" => ((refine xs_str ?_))); (k_with "binaryOp Add int int" => ((refine xs_add ?_))); (k_with "storeName" => ((k_here; k_dflt (refine' xs_store ?xsF ?xsN ?_ ?xsa ?xsb; (case xsF => k_asm); (case xsN => k_asm); (case xsa => rfl); (case xsb => rfl); k_whole; intro _ _ _; (try k_sweep))))); (k_with "newTuple" => ((k_here; kup_bare; k_dflt (refine' xs_tuple ?xtF ?xtN ?_ ?xtz; (case xtF => k_asm); (case xtN => k_asm); (case xtz => kmk_size)); intro _ _ _ _ xtl; (try k_lt xtl); (try k_sweep)))); (k_with "subscriptTail" => ((k_here; k_extra "SB"))))
  intro dp un gd cn cs a ccd cl outer A₀ base h₀ L m hp0 gn0 dr0 tk0 os0 mean mg mb Q E B F X N T hcs hdp hun hret
  refine wpAny_call ?_
  k_dflt ktr_enter
  k_with "HOLD" => skip
  k_with "C" => ((with_reducible show wpAny _ _ (call (Value.ref 217) _) _ _ _); k_dflt (refine' Con.useR5 C ?B ?F ?X ?N (fun p hp => hp) ?T ?hk ?hd ?hu ?_; (first | (((case N => k_asm); (case B => k_asm); (case F => k_asm); (case X => k_asm); (case T => k_asm); (case hk => first | exact rfl | assumption); (case hd => ktr_room); (case hu => ktr_units))) | tb_start)); intro v9 h9 tk9 n9 hP9 F9 N9; obtain ⟨d9, ta9, tb9, hP9, hn9⟩ := hP9; subst hP9; subst hn9; (try dsimp only))
  k_steps
  exact hret _ _ _ _ ⟨_, _, _, rfl, rfl⟩ (by assumption) (by assumption)
include hk hlen
theorem sa_ascii (hi : i < ks.length) (c : Int) (h0 : ks.getD i 0 = c) (hc : c < 128) : Con w 8 224 [.str "us-ascii" tc, .bytes b t0, .int (i : Int) ti] news (SignR c 1 news) := by
  have e0 : ((i : Int)).toNat = i := Int.toNat_natCast i
  refine Con.mk5 ?_
  k_fill
  (k_with_none; (k_with "units_room" => ((ktr_units))); (k_with "k_room" => ((ktr_room))); (k_with "k_all" => (first | assumption | exact fun q hq => Nat.ne_of_lt (ktn_ltOf (by assumption) q hq))); (k_with "exec While BoolOp cons nil" => ((k_here; k_extra "W"))); (k_with "exec While Compare cons nil" => ((k_here; k_extra "W"))); (k_with "call ref" => ((k_here; first | k_extra "C" | (k_extra "HOLD"; refine Hold.out ?_)))); (k_with "eval ListComp" => ((k_here; k_extra "L"))); (k_with "pyIter ref" => ((k_here; k_extra "F"))); (k_with "exec For Name Call cons nil" => ((k_here; k_extra "FOR"; (rename Fr _ _ _ _ => lF'); (with_unfolding_all refine' For_invVF lF' ?k1 ?k2 ?_; (case k1 => exact rfl); (case k2 => exact rfl); k_whole)))); (k_with "exec For Name Name cons nil" => ((k_here; k_extra "FOR"; (rename Fr _ _ _ _ => lF'); (with_unfolding_all refine' For_invVF lF' ?k1 ?k2 ?_; (case k1 => exact rfl); (case k2 => exact rfl); k_whole)))); (k_with "compareOp In int bytes" => ((k_here; refine in_bytes_K (by omega) (by omega) ?_))); (k_with "compareOp NotIn int bytes" => ((k_here; refine notin_bytes_K (by omega) (by omega) ?_))); (k_with "pyIter bytes" => ((k_here; k_extra "FB"))); (k_with "call type:bytes" => ((k_here; (with_reducible show wpAny _ _ (call (Value.type "bytes") [Value.bytes _ _]) _ _ _); refine call_bytes_bytes ?_))); (k_with "NE1" => (first | with_reducible assumption | exact And.right (by with_reducible assumption) | exact And.right (And.right (by with_reducible assumption)) | exact And.right (And.right (And.right (by with_reducible assumption))))); (k_with "NE2" => (first | with_reducible assumption | exact And.right (by with_reducible assumption) | exact And.right (And.right (by with_reducible assumption)) | exact And.right (And.right (And.right (by with_reducible assumption))) | exact And.right (And.right (And.right (And.right (by k_extra "NE1")))))); (k_with "NE3" => (first | with_reducible assumption | exact And.right (by with_reducible assumption) | exact And.right (And.right (by with_reducible assumption)) | exact And.right (And.right (And.right (by with_reducible assumption))) | exact And.right (And.right (And.right (And.right (by k_extra "NE2")))))); (k_with "kwd_less" => (first | with_reducible assumption | exact And.left (by k_extra "NE3") | exact And.right (by k_extra "NE3"))); (k_with "k_ne" => (((try dsimp only); first | with_reducible assumption | exact Ne.symm (by with_reducible assumption) | (refine ne_gt ?_; kwd_less) | (refine ne_lt ?_; kwd_less) | kwd_less | (refine Ne.symm ?_; kwd_less)))); (k_with "ktr_room" => (first | exact room_lt (by assumption) (by rfl) | exact room_same (by assumption) (by rfl))); (k_with "ktr_units" => (exact units_lt (by assumption) (by rfl))); (k_with "eval Constant bytes" => ((refine xs_bytes ?_))); (k_with "binaryOp Sub int int" => ((refine xs_sub ?_))); (k_with "binaryOp Mod int int" => ((k_here; refine xs_mod (by decide) ?_))); (k_with "newList" => ((k_here; k_dflt (refine' xs_list ?xlF ?xlN ?_; (case xlF => k_asm); (case xlN => k_asm); k_whole); intro _ _ _ _ xll; (try k_lt xll); (try k_sweep)))); (k_with "eval Constant int" => ((refine xs_int ?_))); (k_with "eval Constant str" => ((refine xs_str ?_))); (k_with "binaryOp Add int int" => ((refine xs_add ?_))); (k_with "storeName" => ((k_here; k_dflt (refine' xs_store ?xsF ?xsN ?_ ?xsa ?xsb; (case xsF => k_asm); (case xsN => k_asm); (case xsa => rfl); (case xsb => rfl); k_whole; intro _ _ _; (try k_sweep))))); (k_with "newTuple" => ((k_here; kup_bare; k_dflt (refine' xs_tuple ?xtF ?xtN ?_ ?xtz; (case xtF => k_asm); (case xtN => k_asm); (case xtz => kmk_size)); intro _ _ _ _ xtl; (try k_lt xtl); (try k_sweep)))); (k_with "subscriptTail" => ((k_here; k_extra "SB"))))
  intro dp un gd cn cs a ccd cl outer A₀ base h₀ L m hp0 gn0 dr0 tk0 os0 mean mg mb Q E B F X N T hcs hdp hun hret
  refine wpAny_call ?_
  k_dflt ktr_enter
  k_with "HOLD" => skip
  k_with "SB" => ((with_reducible show wpAny _ _ (subscriptTail _ _ (Value.bytes _ _) (Value.int _ _)) _ _ _); (refine KBw.item_K (by kba_ints) (by kba_size) (by kba_idx) (by kba_idx) ?_); intro _ _ kbaLo kbaHi; rw [e0, h0])
  k_steps
  all_goals first
    | exact hret _ _ _ _ ⟨_, _, _, rfl, rfl⟩ (by assumption) (by assumption)
    | (exfalso; omega)
theorem sa_ascii_bad (hi : i < ks.length) (c : Int) (h0 : ks.getD i 0 = c) (hc : 127 < c) : Con w 8 224 [.str "us-ascii" tc, .bytes b t0, .int (i : Int) ti] news (SignR (-1) 1 news) := by
  have e0 : ((i : Int)).toNat = i := Int.toNat_natCast i
  refine Con.mk5 ?_
  k_fill
  (k_with_none; (k_with "units_room" => ((ktr_units))); (k_with "k_room" => ((ktr_room))); (k_with "k_all" => (first | assumption | exact fun q hq => Nat.ne_of_lt (ktn_ltOf (by assumption) q hq))); (k_with "exec While BoolOp cons nil" => ((k_here; k_extra "W"))); (k_with "exec While Compare cons nil" => ((k_here; k_extra "W"))); (k_with "call ref" => ((k_here; first | k_extra "C" | (k_extra "HOLD"; refine Hold.out ?_)))); (k_with "eval ListComp" => ((k_here; k_extra "L"))); (k_with "pyIter ref" => ((k_here; k_extra "F"))); (k_with "exec For Name Call cons nil" => ((k_here; k_extra "FOR"; (rename Fr _ _ _ _ => lF'); (with_unfolding_all refine' For_invVF lF' ?k1 ?k2 ?_; (case k1 => exact rfl); (case k2 => exact rfl); k_whole)))); (k_with "exec For Name Name cons nil" => ((k_here; k_extra "FOR"; (rename Fr _ _ _ _ => lF'); (with_unfolding_all refine' For_invVF lF' ?k1 ?k2 ?_; (case k1 => exact rfl); (case k2 => exact rfl); k_whole)))); (k_with "compareOp In int bytes" => ((k_here; refine in_bytes_K (by omega) (by omega) ?_))); (k_with "compareOp NotIn int bytes" => ((k_here; refine notin_bytes_K (by omega) (by omega) ?_))); (k_with "pyIter bytes" => ((k_here; k_extra "FB"))); (k_with "call type:bytes" => ((k_here; (with_reducible show wpAny _ _ (call (Value.type "bytes") [Value.bytes _ _]) _ _ _); refine call_bytes_bytes ?_))); (k_with "NE1" => (first | with_reducible assumption | exact And.right (by with_reducible assumption) | exact And.right (And.right (by with_reducible assumption)) | exact And.right (And.right (And.right (by with_reducible assumption))))); (k_with "NE2" => (first | with_reducible assumption | exact And.right (by with_reducible assumption) | exact And.right (And.right (by with_reducible assumption)) | exact And.right (And.right (And.right (by with_reducible assumption))) | exact And.right (And.right (And.right (And.right (by k_extra "NE1")))))); (k_with "NE3" => (first | with_reducible assumption | exact And.right (by with_reducible assumption) | exact And.right (And.right (by with_reducible assumption)) | exact And.right (And.right (And.right (by with_reducible assumption))) | exact And.right (And.right (And.right (And.right (by k_extra "NE2")))))); (k_with "kwd_less" => (first | with_reducible assumption | exact And.left (by k_extra "NE3") | exact And.right (by k_extra "NE3"))); (k_with "k_ne" => (((try dsimp only); first | with_reducible assumption | exact Ne.symm (by with_reducible assumption) | (refine ne_gt ?_; kwd_less) | (refine ne_lt ?_; kwd_less) | kwd_less | (refine Ne.symm ?_; kwd_less)))); (k_with "ktr_room" => (first | exact room_lt (by assumption) (by rfl) | exact room_same (by assumption) (by rfl))); (k_with "ktr_units" => (exact units_lt (by assumption) (by rfl))); (k_with "eval Constant bytes" => ((refine xs_bytes ?_))); (k_with "binaryOp Sub int int" => ((refine xs_sub ?_))); (k_with "binaryOp Mod int int" => ((k_here; refine xs_mod (by decide) ?_))); (k_with "newList" => ((k_here; k_dflt (refine' xs_list ?xlF ?xlN ?_; (case xlF => k_asm); (case xlN => k_asm); k_whole); intro _ _ _ _ xll; (try k_lt xll); (try k_sweep)))); (k_with "eval Constant int" => ((refine xs_int ?_))); (k_with "eval Constant str" => ((refine xs_str ?_))); (k_with "binaryOp Add int int" => ((refine xs_add ?_))); (k_with "storeName" => ((k_here; k_dflt (refine' xs_store ?xsF ?xsN ?_ ?xsa ?xsb; (case xsF => k_asm); (case xsN => k_asm); (case xsa => rfl); (case xsb => rfl); k_whole; intro _ _ _; (try k_sweep))))); (k_with "newTuple" => ((k_here; kup_bare; k_dflt (refine' xs_tuple ?xtF ?xtN ?_ ?xtz; (case xtF => k_asm); (case xtN => k_asm); (case xtz => kmk_size)); intro _ _ _ _ xtl; (try k_lt xtl); (try k_sweep)))); (k_with "subscriptTail" => ((k_here; k_extra "SB"))))
  intro dp un gd cn cs a ccd cl outer A₀ base h₀ L m hp0 gn0 dr0 tk0 os0 mean mg mb Q E B F X N T hcs hdp hun hret
  refine wpAny_call ?_
  k_dflt ktr_enter
  k_with "HOLD" => skip
  k_with "SB" => ((with_reducible show wpAny _ _ (subscriptTail _ _ (Value.bytes _ _) (Value.int _ _)) _ _ _); (refine KBw.item_K (by kba_ints) (by kba_size) (by kba_idx) (by kba_idx) ?_); intro _ _ kbaLo kbaHi; rw [e0, h0])
  k_steps
  all_goals first
    | exact hret _ _ _ _ ⟨_, _, _, rfl, rfl⟩ (by assumption) (by assumption)
    | (exfalso; omega)
theorem sa_latin (hi : i < ks.length) (c : Int) (h0 : ks.getD i 0 = c) : Con w 8 224 [.str "iso-8859-1" tc, .bytes b t0, .int (i : Int) ti] news (SignR c 1 news) := by
  have e0 : ((i : Int)).toNat = i := Int.toNat_natCast i
  refine Con.mk5 ?_
  k_fill
  (k_with_none; (k_with "units_room" => ((ktr_units))); (k_with "k_room" => ((ktr_room))); (k_with "k_all" => (first | assumption | exact fun q hq => Nat.ne_of_lt (ktn_ltOf (by assumption) q hq))); (k_with "exec While BoolOp cons nil" => ((k_here; k_extra "W"))); (k_with "exec While Compare cons nil" => ((k_here; k_extra "W"))); (k_with "call ref" => ((k_here; first | k_extra "C" | (k_extra "HOLD"; refine Hold.out ?_)))); (k_with "eval ListComp" => ((k_here; k_extra "L"))); (k_with "pyIter ref" => ((k_here; k_extra "F"))); (k_with "exec For Name Call cons nil" => ((k_here; k_extra "FOR"; (rename Fr _ _ _ _ => lF'); (with_unfolding_all refine' For_invVF lF' ?k1 ?k2 ?_; (case k1 => exact rfl); (case k2 => exact rfl); k_whole)))); (k_with "exec For Name Name cons nil" => ((k_here; k_extra "FOR"; (rename Fr _ _ _ _ => lF'); (with_unfolding_all refine' For_invVF lF' ?k1 ?k2 ?_; (case k1 => exact rfl); (case k2 => exact rfl); k_whole)))); (k_with "compareOp In int bytes" => ((k_here; refine in_bytes_K (by omega) (by omega) ?_))); (k_with "compareOp NotIn int bytes" => ((k_here; refine notin_bytes_K (by omega) (by omega) ?_))); (k_with "pyIter bytes" => ((k_here; k_extra "FB"))); (k_with "call type:bytes" => ((k_here; (with_reducible show wpAny _ _ (call (Value.type "bytes") [Value.bytes _ _]) _ _ _); refine call_bytes_bytes ?_))); (k_with "NE1" => (first | with_reducible assumption | exact And.right (by with_reducible assumption) | exact And.right (And.right (by with_reducible assumption)) | exact And.right (And.right (And.right (by with_reducible assumption))))); (k_with "NE2" => (first | with_reducible assumption | exact And.right (by with_reducible assumption) | exact And.right (And.right (by with_reducible assumption)) | exact And.right (And.right (And.right (by with_reducible assumption))) | exact And.right (And.right (And.right (And.right (by k_extra "NE1")))))); (k_with "NE3" => (first | with_reducible assumption | exact And.right (by with_reducible assumption) | exact And.right (And.right (by with_reducible assumption)) | exact And.right (And.right (And.right (by with_reducible assumption))) | exact And.right (And.right (And.right (And.right (by k_extra "NE2")))))); (k_with "kwd_less" => (first | with_reducible assumption | exact And.left (by k_extra "NE3") | exact And.right (by k_extra "NE3"))); (k_with "k_ne" => (((try dsimp only); first | with_reducible assumption | exact Ne.symm (by with_reducible assumption) | (refine ne_gt ?_; kwd_less) | (refine ne_lt ?_; kwd_less) | kwd_less | (refine Ne.symm ?_; kwd_less)))); (k_with "ktr_room" => (first | exact room_lt (by assumption) (by rfl) | exact room_same (by assumption) (by rfl))); (k_with "ktr_units" => (exact units_lt (by assumption) (by rfl))); (k_with "eval Constant bytes" => ((refine xs_bytes ?_))); (k_with "binaryOp Sub int int" => ((refine xs_sub ?_))); (k_with "binaryOp Mod int int" => ((k_here; refine xs_mod (by decide) ?_))); (k_with "newList" => ((k_here; k_dflt (refine' xs_list ?xlF ?xlN ?_; (case xlF => k_asm); (case xlN => k_asm); k_whole); intro _ _ _ _ xll; (try k_lt xll); (try k_sweep)))); (k_with "eval Constant int" => ((refine xs_int ?_))); (k_with "eval Constant str" => ((refine xs_str ?_))); (k_with "binaryOp Add int int" => ((refine xs_add ?_))); (k_with "storeName" => ((k_here; k_dflt (refine' xs_store ?xsF ?xsN ?_ ?xsa ?xsb; (case xsF => k_asm); (case xsN => k_asm); (case xsa => rfl); (case xsb => rfl); k_whole; intro _ _ _; (try k_sweep))))); (k_with "newTuple" => ((k_here; kup_bare; k_dflt (refine' xs_tuple ?xtF ?xtN ?_ ?xtz; (case xtF => k_asm); (case xtN => k_asm); (case xtz => kmk_size)); intro _ _ _ _ xtl; (try k_lt xtl); (try k_sweep)))); (k_with "subscriptTail" => ((k_here; k_extra "SB"))))
  intro dp un gd cn cs a ccd cl outer A₀ base h₀ L m hp0 gn0 dr0 tk0 os0 mean mg mb Q E B F X N T hcs hdp hun hret
  refine wpAny_call ?_
  k_dflt ktr_enter
  k_with "HOLD" => skip
  k_with "SB" => ((with_reducible show wpAny _ _ (subscriptTail _ _ (Value.bytes _ _) (Value.int _ _)) _ _ _); (refine KBw.item_K (by kba_ints) (by kba_size) (by kba_idx) (by kba_idx) ?_); intro _ _ kbaLo kbaHi; rw [e0, h0])
  k_steps
  all_goals first
    | exact hret _ _ _ _ ⟨_, _, _, rfl, rfl⟩ (by assumption) (by assumption)
    | (exfalso; omega)
end
end

section

theorem news_head {h₀ h : Heap} {L l : Addr} {o : Obj} {r : List (Addr × Obj)} (_N : News h₀ L h ((l, o) :: r)) : ∃ l', l' = l := ⟨l, rfl⟩
theorem range_len (code : Nat → Nat) (n : Nat) : ((((List.range n).map fun k => (⟨#[code k]⟩ : Str))).map (·.length)).sum = n := by
  rw [show ((List.range n).map fun k => (⟨#[code k]⟩ : Str)) = ((List.range n).map code).map (fun c => (⟨#[id c]⟩ : Str)) by rw [List.map_map]; rfl, singles_len, List.length_map, List.length_range]
theorem all_of {l : Led} {d : Addr} (h : ∀ p, p ∈ l → p.1 < d) : ∀ p ∈ l, p.1 ≠ d := fun p hp => Nat.ne_of_lt (h p hp)
example : True := by ((k_with "call builtin:list.append" => ((k_here; k_extra "AP"))); (k_with "KswEnd" => ((refine Hold.out ?_))); trivial)
theorem strict_ok (w : World) (b : Array UInt8) (cs : Str) (tc t0 : Tok) (ks : List Int) (hk : KBw.bInts b = ks) (hlen : ks.length ≤ 4000) (hcs' : cs = "us-ascii" ∨ cs = "iso-8859-1" ∨ cs = "utf-8")
    (n : Nat) (hn : n ≤ 60) (pos code len : Nat → Nat) (p0 : pos 0 = 0) (pn : pos n = ks.length) (pm : ∀ j, j < n → pos j < ks.length) (ps : ∀ j, j < n → pos (j + 1) = pos j + len j) (hc : ∀ j, j < n → code j < 1114112)
    (hs : ∀ j, j < n → ∀ ti news, Con w 8 224 [.str cs tc, .bytes b t0, .int (pos j : Int) ti] news (SignR (code j : Int) (len j) news)) (news : Led) :
    Con w 12 231 [.str cs tc, .bytes b t0] news (fun v n' => n' = news ∧ ∃ t, v = .str ⟨((List.range n).map code).toArray⟩ t) := by
  have key : ∀ c, c ≤ n → ((pos c : Nat) : Int) < ((ks.length : Nat) : Int) → c < n := fun c h1 h2 => by
    rcases Nat.lt_or_ge c n with h | h
    · exact h
    · have : c = n := by omega
      rw [this, pn] at h2; omega
  refine Con.mk5 ?_
  k_fill
  (k_with_none; (k_with "units_room" => ((ktr_units))); (k_with "k_room" => ((ktr_room))); (k_with "k_all" => (first | assumption | exact fun q hq => Nat.ne_of_lt (ktn_ltOf (by assumption) q hq))); (k_with "exec While BoolOp cons nil" => ((k_here; k_extra "W"))); (k_with "exec While Compare cons nil" => ((k_here; k_extra "W"))); (k_with "call ref" => ((k_here; first | k_extra "C" | (k_extra "HOLD"; refine Hold.out ?_)))); (k_with "eval ListComp" => ((k_here; k_extra "L"))); (k_with "pyIter ref" => ((k_here; k_extra "F"))); (k_with "exec For Name Call cons nil" => ((k_here; k_extra "FOR"; (rename Fr _ _ _ _ => lF'); (with_unfolding_all refine' For_invVF lF' ?k1 ?k2 ?_; (case k1 => exact rfl); (case k2 => exact rfl); k_whole)))); (k_with "exec For Name Name cons nil" => ((k_here; k_extra "FOR"; (rename Fr _ _ _ _ => lF'); (with_unfolding_all refine' For_invVF lF' ?k1 ?k2 ?_; (case k1 => exact rfl); (case k2 => exact rfl); k_whole)))); (k_with "compareOp In int bytes" => ((k_here; refine in_bytes_K (by omega) (by omega) ?_))); (k_with "compareOp NotIn int bytes" => ((k_here; refine notin_bytes_K (by omega) (by omega) ?_))); (k_with "pyIter bytes" => ((k_here; k_extra "FB"))); (k_with "call type:bytes" => ((k_here; (with_reducible show wpAny _ _ (call (Value.type "bytes") [Value.bytes _ _]) _ _ _); refine call_bytes_bytes ?_))); (k_with "NE1" => (first | with_reducible assumption | exact And.right (by with_reducible assumption) | exact And.right (And.right (by with_reducible assumption)) | exact And.right (And.right (And.right (by with_reducible assumption))))); (k_with "NE2" => (first | with_reducible assumption | exact And.right (by with_reducible assumption) | exact And.right (And.right (by with_reducible assumption)) | exact And.right (And.right (And.right (by with_reducible assumption))) | exact And.right (And.right (And.right (And.right (by k_extra "NE1")))))); (k_with "NE3" => (first | with_reducible assumption | exact And.right (by with_reducible assumption) | exact And.right (And.right (by with_reducible assumption)) | exact And.right (And.right (And.right (by with_reducible assumption))) | exact And.right (And.right (And.right (And.right (by k_extra "NE2")))))); (k_with "kwd_less" => (first | with_reducible assumption | exact And.left (by k_extra "NE3") | exact And.right (by k_extra "NE3"))); (k_with "k_ne" => (((try dsimp only); first | with_reducible assumption | exact Ne.symm (by with_reducible assumption) | (refine ne_gt ?_; kwd_less) | (refine ne_lt ?_; kwd_less) | kwd_less | (refine Ne.symm ?_; kwd_less)))); (k_with "ktr_room" => (first | exact room_lt (by assumption) (by rfl) | exact room_same (by assumption) (by rfl))); (k_with "ktr_units" => (exact units_lt (by assumption) (by rfl))); (k_with "eval Constant bytes" => ((refine xs_bytes ?_))); (k_with "binaryOp Sub int int" => ((refine xs_sub ?_))); (k_with "binaryOp Mod int int" => ((k_here; refine xs_mod (by decide) ?_))); (k_with "newList" => ((k_here; k_dflt (refine' xs_list ?xlF ?xlN ?_; (case xlF => k_asm); (case xlN => k_asm); k_whole); intro _ _ _ _ xll; (try k_lt xll); (try k_sweep)))); (k_with "eval Constant int" => ((refine xs_int ?_))); (k_with "eval Constant str" => ((refine xs_str ?_))); (k_with "binaryOp Add int int" => ((refine xs_add ?_))); (k_with "storeName" => ((k_here; k_dflt (refine' xs_store ?xsF ?xsN ?_ ?xsa ?xsb; (case xsF => k_asm); (case xsN => k_asm); (case xsa => rfl); (case xsb => rfl); k_whole; intro _ _ _; (try k_sweep))))); (k_with "newTuple" => ((k_here; kup_bare; k_dflt (refine' xs_tuple ?xtF ?xtN ?_ ?xtz; (case xtF => k_asm); (case xtN => k_asm); (case xtz => kmk_size)); intro _ _ _ _ xtl; (try k_lt xtl); (try k_sweep)))); (k_with "call builtin:list.append" => ((k_here; k_extra "AP"))); (k_with "KswEnd" => ((refine Hold.out ?_))))
  intro dp un gd cn cs' a ccd cl outer A₀ base h₀ L m hp0 gn0 dr0 tk0 os0 mean mg mb Q E B F X N T hcs hdp hun hret
  refine wpAny_call ?_
  k_dflt ktr_enter
  k_with "HOLD" => skip
  k_with "C" => ((with_reducible show wpAny _ _ (call (Value.ref 191) _) _ _ _); k_dflt (refine' Con.use5 (need_charset_con w cs tc hcs' _) ?B ?F ?X ?N ?T ?hk ?hd ?hu ?_; (first | (((case N => k_asm); (case B => k_asm); (case F => k_asm); (case X => k_asm); (case T => k_asm); (case hk => first | exact rfl | assumption); (case hd => ktr_room); (case hu => ktr_units))) | tb_start)); intro v9 h9 tk9 hP9 F9 N9; subst hP9; (try dsimp only))
  k_with "C" => ((with_reducible show wpAny _ _ (call (Value.ref 224) _) _ _ _); have hlt9 := key c9 hlo9 (by assumption); have hc9 := hc c9 hlt9; k_dflt (refine' Con.useR5 (hs c9 hlt9 _ _) ?B ?F ?X ?N (fun p hp => hp) ?T ?hk ?hd ?hu ?_; (first | (((case N => k_asm); (case B => k_asm); (case F => k_asm); (case X => k_asm); (case T => k_asm); (case hk => first | exact rfl | assumption); (case hd => ktr_room); (case hu => ktr_units))) | tb_start)); intro v9 h9 tk9 n9 hP9 F9 N9; obtain ⟨d9, ta9, tb9, hP9, hn9⟩ := hP9; subst hP9; subst hn9; (try dsimp only))
  k_with "W" => (with_reducible rename Fr _ _ _ _ => wF; with_reducible rename News _ _ _ _ => wN; obtain ⟨l9, hl9⟩ := news_head wN; subst hl9; refine' ksw_while (σ := Nat × Int × Tok × List Value × Nat) (fun c => (l9, W.listOf c.2.2.2.1.toArray c.2.2.2.2) :: news) (fun c => [(Str.ofString "at", Value.int c.2.1 c.2.2.1)]) (fun _ => True) [Str.ofString "code", Str.ofString "length"] (fun c => c.1 ≤ n ∧ c.2.1 = (pos c.1 : Int) ∧ StrsAre c.2.2.2.1 ((List.range c.1).map fun k => (⟨#[code k]⟩ : Str))) (fun c => n - c.1) (0, 0, ?tok9, [], 0) wF wN trivial ?hk9 ?hp9 ?turn; (case hk9 => exact List.forall_mem_cons.mpr ⟨by with_unfolding_all rfl, List.forall_mem_nil _⟩); (case hp9 => exact ⟨Nat.zero_le _, (by dsimp only; rw [p0]; simp), (by dsimp only; rw [List.range_zero, List.map_nil]; exact .nil)⟩); clear wF wN; intro c9 u9 h9 tk9 hf9 hp9 F9 N9; obtain ⟨c9, z9, tc9, ys9, k9⟩ := c9; dsimp only at hp9 N9 F9 ⊢; obtain ⟨hlo9, rfl, hS9⟩ := hp9)
  k_with "AP" => (with_reducible rename News _ _ _ _ => wN; k_dflt (refine' append_K (D := l9) (news := (l9, W.listOf ys9.toArray k9) :: news) (news' := (l9, W.listOf (ys9 ++ [_]).toArray (k9 + 1)) :: news) ?k1 (fun p hp => wN p (.tail _ hp)) ?k3 ?_ ?z; (case k1 => k_asm); (case k3 => (rw [List.push_toArray]; exact Upd.head (all_of (by assumption)))); (case z => (rw [List.size_toArray, hS9.length, List.length_map, List.length_range, sizeLine_eq]; omega)); k_whole); clear wN; intro h' F' N')
  k_steps
  · unfold Hold
    refine' ksw_end (c9 + 1, ((pos c9 : Nat) : Int) + ((len c9 : Nat) : Int), ?tokB, ys9 ++ [_], k9 + 1) (by assumption) (by assumption) (fun p hp => hp) trivial ?hkB ?sameB ⟨hlt9, ?ppB, ?ssB⟩ (by dsimp only; omega)
    case hkB => exact List.forall_mem_cons.mpr ⟨by with_unfolding_all rfl, List.forall_mem_nil _⟩
    case sameB => intro z h1 h2; simp only [List.forall_mem_cons, List.forall_mem_nil, and_true, ne_eq] at h1; simp at h2; simp [h1, h2, kstB, List.lookup]
    case ppB => dsimp only; rw [ps c9 hlt9]; simp
    case ssB =>
      dsimp only
      rw [List.range_succ, List.map_append]
      exact StrsAre.append' hS9 (.cons _ _ .nil)
  · have hcn : c9 = n := by
      rcases Nat.lt_or_ge c9 n with h | h
      · have := pm c9 h; omega
      · omega
    subst hcn
    refine join_list (ys := (List.range c9).map fun k => (⟨#[code k]⟩ : Str)) (News.isList (by k_asm) (List.Mem.head _)) hS9 (by rw [range_len]; show _ + _ * 0 ≤ _; omega) ?_
    intro t9 k9
    rw [show ((List.range c9).map fun k => (⟨#[code k]⟩ : Str)) = ((List.range c9).map code).map (fun c => (⟨#[id c]⟩ : Str)) by rw [List.map_map]; rfl, join_singles, List.map_id]
    k_steps
    exact hret _ _ _ _ ⟨rfl, _, rfl⟩ (by assumption) (fun p hp => (by assumption : News h₀ L _ _) p (List.mem_cons_of_mem _ hp))
end

section

open PyProof.Rows.LCt
section
variable {prog : Program} {w : World} {A : Around} {E : Value → Shared → Prop} {s : Shared} {h₀ : Heap} {L : Addr} {m : Str → Option Value} {env : Env}
def SrcTup (prog : Program) (w : World) (A : Around) (h₀ : Heap) (L : Addr) (m : Str → Option Value) (env : Env) (ct elt : Expr) (x : Str) (scope : Scope) (cl : List (Str × Addr)) (Q : Value → Shared → Prop) (xv : Value) (s₁ : Shared) : Prop :=
  ∃ ax its news, xv = .ref ax ∧ A.handled = none ∧ Fr h₀ L s₁.heap m ∧ News h₀ L s₁.heap news ∧ (ax, ({ cls := .type "tuple", data := .seq its } : Obj)) ∈ news ∧ its.size ≤ sizeLine ∧
    ∀ g, CompRestT prog w A h₀ L m env ct elt x scope cl { s₁ with heap := g } (fun nw => (ax, ({ cls := .type "tuple", data := .seq its } : Obj)) ∈ nw) (fun i v => its[i]? = some v) (FinE h₀ L m { s₁ with heap := g } Q) its.size 0 [] news
theorem tup_st {ax I : Addr} {its : Array Value} : ∀ i (h h' : Heap) (o : Obj) (nw : Led), (h.IsTupleIter I ax i ∧ h.IsTuple ax its) → h.get? I = some o → h'.get? I = some o → (∀ b o, h₀.get? b = some o → h'.get? b = some o) → News h₀ L h' nw → (ax, ({ cls := .type "tuple", data := .seq its } : Obj)) ∈ nw → h'.IsTupleIter I ax i ∧ h'.IsTuple ax its := by
  intro i h h' o nw st e e' _ N hS
  refine ⟨?_, _, (N _ hS).1, rfl, _, rfl⟩
  obtain ⟨it, hit, hc, hd⟩ := st.1
  rw [e] at hit
  cases hit
  exact ⟨o, e', hc, hd⟩
theorem ListComp_TT {ct elt iter : Expr} {x : Str} {px : Pos} {scope : Scope} {cl : List (Str × Addr)} {pos : Pos} {Q : Value → Shared → Prop} (F₀ : Fr h₀ L s.heap m)
    (hclos : closureFor scope env = pure cl) (hcell : ∀ y ∈ scope.names, y.2 ≠ .cell) (hkind : scope.kind = .function)
    (hnames : ∀ y ∈ scope.names, y.2 = .local → scope.names.lookup y.1 = some .local) (hx : scope.names.lookup x = some .local)
    (h : wpAny (model prog w) A (eval iter env) (SrcTup prog w A h₀ L m env ct elt x scope cl Q) E s)
    (hs : ∀ x, foldedSetIterable iter env x = pure x := by intro _; rfl) :
    wpAny (model prog w) A (eval (.ListComp elt [⟨.Name x px, iter, [ct], 0⟩] scope pos) env) Q E s := by
  rw [eval_ListComp]
  refine wpAny_comprehension_free (use := none) rfl hs hclos hkind hnames (wpAny_mono h (fun xv s₁ h₁ => ?_) fun _ _ e => e)
  obtain ⟨ax, its, news, rfl, hh, F, N, S, hsz, R⟩ := h₁
  have hl : s₁.heap.IsTuple ax its := ⟨_, (N _ S).1, rfl, _, rfl⟩
  have hlt : ax < s₁.heap.objs.size := Heap.lt_size (N _ S).1
  refine wpAny_pyIter_tuple hl ?_
  have up : ∀ b o, s₁.heap.get? b = some o → (s₁.heap.push { cls := .type "tuple_iterator", data := .fields #[.ref ax, .int 0 0] }).get? b = some o := fun b o e => Heap.get?_push_of_some _ e
  refine block_T (Walks.tuple hh s₁.heap.objs.size ax (Nat.ne_of_lt hlt) its) hsz (fun i h st => by obtain ⟨o, e, _⟩ := st.1; exact ⟨o, e⟩) (tup_st (L := L)) hcell hkind hx ⟨⟨_, Heap.get?_push_size _ rfl, rfl, rfl⟩, hl.at (fun o e => up _ o e)⟩ (fun b hb => ?_)
    (F.keeps up) (N.grown up) (Nat.ne_of_lt F.ns.lt) (next_is_new F) (fun p hp => Nat.ne_of_lt (Heap.lt_size (N p hp).1)) S (R _) ?_
  · show b < (s₁.heap.push _).objs.size
    rw [Heap.size_push]
    rcases List.mem_cons.mp hb with rfl | hb
    · exact Nat.lt_succ_self _
    · rw [List.mem_singleton.mp hb]; exact Nat.lt_succ_of_lt hlt
  · intro D C h tk m' ys news' F' N' o1 hn hC₀ hD₀ hCL hDL hCD offC fin
    refine ⟨m', hn, fun h'' hs'' => fin D h'' tk (F'.change hs'' hCL hC₀) (fun p hp => ?_) o1⟩
    refine ⟨hs''.extBut _ _ ?_ (N' p hp).1, (N' p hp).2⟩
    rcases List.mem_cons.mp hp with rfl | hp
    · exact Ne.symm hCD
    · exact offC p hp
end
end

section

open Sem (wp)
def bmX : List Value := [.ref 46, .type "Exception", .type "BaseException", .type "object"]
def excOk (K : Frag) (C : Addr) : Bool := match K.lookup C with
  | some ⟨.type "type", _, .cls cd, sl⟩ => (match cd.mro, sl.toList with
    | .ref C' :: bm, [_, _, _, _, some (.builtin n), _] => C' == C && bm == bmX && n == "Exception.__new__" && !cd.hasDel && cd.hasDict
    | _, _ => false)
  | _ => false
theorem exc_cls {K : Frag} {h : Heap} {C : Addr} (X : K.In h) (q : excOk K C = true) : ∃ nm qn N bs sn sub ab col dd k0 k1 k2 k3 k5, h.get? C = some (excClassObj nm qn C N bs bmX true sn sub ab col dd k0 k1 k2 k3 k5 "Exception.__new__") := by
  unfold excOk at q
  split at q
  · rename_i dd cd sl ho
    split at q
    · rename_i C' bm k0 k1 k2 k3 n k5 hm hs
      simp only [Bool.and_eq_true, beq_iff_eq, Bool.not_eq_true'] at q
      obtain ⟨⟨⟨⟨rfl, rfl⟩, rfl⟩, hdel⟩, hdi⟩ := q
      obtain ⟨nm, bs, mro, ns, qn, hdt, sn, sub, ab, col, del⟩ := cd
      dsimp only at hm hdel hdi
      subst hm hdel hdi
      have hsl : sl = #[k0, k1, k2, k3, some (.builtin "Exception.__new__"), k5] := by
        obtain ⟨l⟩ := sl
        simp only at hs
        rw [hs]
      subst hsl
      exact ⟨nm, qn, ns, bs, sn, sub, ab, col, dd, k0, k1, k2, k3, k5, X _ _ ho⟩
    · cases q
  · cases q
theorem bmX_has : bmX.contains (.type "Exception") = true := by decide +kernel
theorem bmX_base : bmX.contains (.type "BaseException") = true := by decide +kernel
theorem bmX_obj : bmX.contains (.type "object") = true := by decide +kernel
theorem bmX_attr : bmX.contains (.type "AttributeError") = false := by decide +kernel
theorem bmX_name : bmX.contains (.type "NameError") = false := by decide +kernel
section
variable {prog : Program} {w : World} {M : Model} {A : Around} {E : Value → Shared → Prop} {R : Result → Shared → Prop} {h : Heap} {g : Array GenState} {d : Drawn} {t : Nat} {os : OsState}
variable {nm q : Str} {C N : Addr} {bs : List Value} {sn : List Str} {sub : List Value} {ab : Bool} {col : Option Bool} {dd : Option Addr} {k0 k1 k2 k3 k5 : Option Value}
theorem new_checkX {rest : List Value} {Q : Unit → Shared → Prop} (hC : h.get? C = some (excClassObj nm q C N bs bmX true sn sub ab col dd k0 k1 k2 k3 k5 "Exception.__new__"))
    (hq : Q () ⟨h, g, d, t, os⟩) : wpAny M A (checkBuiltinCall "Exception.__new__" ⟨.ref C :: rest, []⟩) Q E ⟨h, g, d, t, os⟩ := by
  have F := PySem.F.excBase_Exception
  have has : (Value.ref C :: bmX).contains (.type "Exception") = true := by rw [List.contains_cons, bmX_has, Bool.or_true]
  have hstar := F.noStar
  simp only [checkBuiltinCall, F.newKind, F.newSplit, F.newRow]
  repeat (first | refine wpAny_loadPart_at hC ?_ | (refine wpAny_isSubtype_exc hC ?_; rw [has]) | refine wpAny_staticBase_exc hC ?_ | refine wpAny_madeBy_exc hC ?_ | simp only [bne_self_eq_false, Bool.false_eq_true, if_false] | wp_step)
  exact hq
abbrev excObj (C t : Addr) (dc : Option Addr) (c : Value) : Obj := { cls := .ref C, dict := dc, data := .fields #[.ref t, .none, c, .none, .bool false, .none] }
theorem new_codeX {rest : List Value} (hC : h.get? C = some (excClassObj nm q C N bs bmX true sn sub ab col dd k0 k1 k2 k3 k5 "Exception.__new__"))
    (hq : R (.ok (.ret (.ref (h.objs.size + 1)))) ⟨(h.push (tupObj rest.toArray)).push (excObj C h.objs.size none .none), g, d, t, os⟩) (hrest : rest.length ≤ sizeLine) :
    codeAny (model prog w) A (.builtin "Exception.__new__" ⟨.ref C :: rest, []⟩) R ⟨h, g, d, t, os⟩ := by
  have F := PySem.F.excBase_Exception
  have hends := F.ends
  have c1 : (Value.ref C :: bmX).contains (.type "Exception") = true := by rw [List.contains_cons, bmX_has, Bool.or_true]
  have c2 : (Value.ref C :: bmX).contains (.type "AttributeError") = false := by rw [List.contains_cons, bmX_attr]; rfl
  have c3 : (Value.ref C :: bmX).contains (.type "NameError") = false := by rw [List.contains_cons, bmX_name]; rfl
  refine codeAny_builtinAt F.entry ?_
  unfold Builtin.«BaseException.__new__»
  refine PySem.wpAt_bind ?_
  show PySem.wpAt _ _ _ (stack >>= _) _ _ _
  refine PySem.wpAt_bind (PySem.wpAt_stack fun p below => PySem.wpAt_of_wpAny ?_)
  wp_walk
  refine PySem.wpAt_of_wpAny ?_
  rw [F.owner]
  repeat (first | with_reducible refine wpAny_madeHere_exc F.canon hC ?_ | with_reducible refine wpAny_loadPart_at hC ?_ | (with_reducible refine wpAny_isSubtype_exc hC ?_; first | rw [c1] | rw [c2] | rw [c3]) | wp_step)
  show R _ _
  rw [Heap.size_push]
  exact hq
theorem exc_call_core {rest : List Value} {fI : Addr} (hC : h.get? C = some (excClassObj nm q C N bs bmX true sn sub ab col dd k0 k1 k2 k3 k5 "Exception.__new__"))
    (hi : Looks (model prog w) h (typeLookup (.ref C) "__init__") (some (.ref fI))) (hb : ∀ self, Looks (model prog w) h (bindSpecial (.ref fI) self) (.ref fI, [self])) (hrest : rest.length ≤ sizeLine)
    (hq : codeAny (model prog w) (A.under (.builtin "type.__call__" ⟨.ref C :: rest, []⟩)) (.call (.ref fI) ⟨.ref (h.objs.size + 1) :: rest, []⟩) (InitBack (h.objs.size + 1) R) ⟨(h.push (tupObj rest.toArray)).push (excObj C h.objs.size none .none), g, d, t, os⟩) :
    codeAny (model prog w) A (.call (.ref C) ⟨rest, []⟩) R ⟨h, g, d, t, os⟩ := by
  have f1 := tc_lookup
  have f2 := tc_bind (.ref C)
  have hT : (⟨h, g, d, t, os⟩ : Shared).TypeIs (.ref C) "type" := ⟨_, hC, rfl⟩
  have F := PySem.F.excBase_Exception
  refine codeAny_of_tree ?_
  show wpAny _ _ (callAny (.ref C) _) _ _ _
  repeat (any_goals (first | assumption | with_reducible refine wpAny_loadPart_at hC ?_ | wp_step))
  refine ⟨rfl, ?_⟩
  refine codeAny_call_builtin_at (Code.quiet_builtin _ (by decide +kernel)) entry_typeCall (wpAny_check_type_call_sub hC ?_)
  repeat (first | with_reducible refine wpAny_loadPart_at hC ?_ | with_reducible refine wpAny_madeBy_exc hC ?_ | wp_step)
  refine codeAny_call_builtin_code (Code.quiet_builtin _ F.quiet) (new_checkX hC ?_)
  refine new_codeX (rest := rest) hC ?_ hrest
  show wpAny _ _ _ _ _ _
  have k : ∀ b o, h.get? b = some o → ((h.push (tupObj rest.toArray)).push (excObj C h.objs.size none .none)).get? b = some o := fun b o e => Heap.get?_push_of_some _ (Heap.get?_push_of_some _ e)
  have hC₁ := k _ _ hC
  have hget : ((h.push (tupObj rest.toArray)).push (excObj C h.objs.size none .none)).get? (h.objs.size + 1) = some (excObj C h.objs.size none .none) := by heap_get
  have hcC : (Value.ref C :: bmX).contains (.ref C) = true := by simp
  have i1 := hi.keeps k
  have b1 := (hb (.ref (h.objs.size + 1))).keeps k
  have t1 : Looks (model prog w) ((h.push (tupObj rest.toArray)).push (excObj C h.objs.size none .none)) (typeOf (.ref (h.objs.size + 1))) (.ref C) := (Looks.ld hget).andThen .now
  have s1 : Looks (model prog w) ((h.push (tupObj rest.toArray)).push (excObj C h.objs.size none .none)) (isSubtype (.ref C) (.ref C)) true := fun A Q E s k' q' => by
    obtain ⟨hh, g, d, t, os⟩ := s
    exact wpAny_isSubtype_exc (k' _ _ hC₁) (by rw [hcC]; exact q')
  unfold isInstance callSpecial? specialOf
  repeat (first | simp only [hcC, Bool.not_true, Bool.false_eq_true, if_false] | with_reducible refine wpAny_call ?_ | lk)
  refine codeAny_mono hq fun r s' z => ?_
  rcases r with e | (v | _ | _ | _) <;> first | exact z | exact z.elim | skip
  obtain ⟨rfl, z⟩ := z
  exact wpAny_pure (wpAny_pure z)
end
end

section

section
variable {prog : Program} {w : World} {M : Model} {A : Around} {E : Value → Shared → Prop} {h : Heap} {g : Array GenState} {d : Drawn} {t : Nat} {os : OsState}
variable {nm q : Str} {C N : Addr} {bs : List Value} {sn : List Str} {sub : List Value} {ab : Bool} {col : Option Bool} {dd : Option Addr} {k0 k1 k2 k3 k5 : Option Value}
theorem init_checkX {e : Addr} {oe : Obj} {rest : List Value} {Q : Unit → Shared → Prop}
    (hC : h.get? C = some (excClassObj nm q C N bs bmX true sn sub ab col dd k0 k1 k2 k3 k5 "Exception.__new__")) (he : h.get? e = some oe) (hcls : oe.cls = .ref C) (hq : Q () ⟨h, g, d, t, os⟩) :
    wpAny M A (checkBuiltinCall "Exception.__init__" ⟨.ref e :: rest, []⟩) Q E ⟨h, g, d, t, os⟩ := by
  have F := PySem.F.excBase_Exception
  have c1 : (Value.ref C :: bmX).contains (.type "Exception") = true := by rw [List.contains_cons, bmX_has, Bool.or_true]
  have hshort := F.noStar
  simp only [checkBuiltinCall, F.initKind, F.initSplit, F.initRow]
  repeat (first | (with_reducible refine wpAny_loadPart_at he ?_; rw [hcls]) | with_reducible refine wpAny_loadPart_at hC ?_ | (with_reducible refine wpAny_isSubtype_exc hC ?_; rw [c1]) | wp_step)
  refine wpAny_onRaise ?_
  rw [show ∀ (a b : String) (n : Nat), Bind.check ⟨.positional, "*", "Exception", .self, [⟨"args", .varPos, false⟩]⟩ a b n (List.map (fun x => x.fst) ({ pos := Value.ref e :: rest } : Args).kw) = pure () from
    fun a b n => check_star_args _ _ _ _ _ _]
  exact wpAny_pure hq
end
section
variable {prog : Program} {w : World} {A : Around} {E : Value → Shared → Prop} {s : Shared} {h₀ : Heap} {L C e t : Addr} {m : Str → Option Value} {K : Frag} {rest : Led}
theorem init_K {v c : Value} {Q : Value → Shared → Prop} (F : Fr h₀ L s.heap m) (X : K.In h₀) (q : excOk K C = true) (N : News h₀ L s.heap ((e, excObj C t none c) :: rest)) (a1 : ∀ p ∈ rest, p.1 ≠ e)
    (hQ : ∀ t2 h', Fr h₀ L h' m → News h₀ L h' ((e, excObj C t2 none c) :: (t2, tupObj #[v]) :: rest) → (∀ p ∈ rest, p.1 < t2) → e < t2 → Q .none { s with heap := h' }) :
    wpAny (model prog w) A (call (.builtin "Exception.__init__") [.ref e, v]) Q E s := by
  have FX := PySem.F.excBase_Exception
  obtain ⟨nm, qn, NN, bs, sn, sub, ab, col, dd, k0, k1, k2, k3, k5, hC⟩ := exc_cls (X.keeps F.keep) q
  obtain ⟨h, g, d, tk, os⟩ := s
  have he := (N _ (.head _)).1
  refine wpAny_call (codeAny_call_builtin FX.init.plain FX.initEntry (init_checkX hC he rfl ?_))
  have N1 := N.push F (tupObj #[v])
  obtain ⟨U1, U2⟩ := news_upd (d := e) (pre := [(h.objs.size, tupObj #[v])]) (post := rest) (o := excObj C t none c) (o' := excObj C h.objs.size none c) (f := Obj.mapFields (·.setIfInBounds 0 (.ref h.objs.size))) (F.push _) N1
    (fun p hp => by rw [List.mem_singleton.mp hp]; exact Nat.ne_of_gt (Heap.lt_size he)) a1 rfl rfl
  have hfin := hQ h.objs.size _ U1 (fun p hp => U2 p (by
    rcases List.mem_cons.mp hp with rfl | hp
    · exact .tail _ (.head _)
    · rcases List.mem_cons.mp hp with rfl | hp
      · exact .head _
      · exact .tail _ (.tail _ hp))) (fun p hp => Heap.lt_size (N p (.tail _ hp)).1) (Heap.lt_size he)
  wp_walk
  exact hfin
end
end

section

open Builtin Builtin.ObjectAttr
def excOver (K : Frag) (C : Addr) : Bool := (clsIn K C).any fun cd => cd.mro == .ref C :: bmX && cd.hasDict
theorem excOver_of {K : Frag} {C : Addr} (q : excOver K C = true) : ∃ cd, clsIn K C = some cd ∧ cd.mro = .ref C :: bmX ∧ cd.hasDict = true := by
  obtain ⟨cd, hc, h⟩ := any_some q
  simp only [Bool.and_eq_true, beq_iff_eq] at h
  exact ⟨cd, hc, h.1, h.2⟩
section
variable {prog : Program} {w : World} {A : Around} {K : Frag} {C x L dx : Addr} {s : Shared} {h₀ : Heap} {m : Str → Option Value} {rest : Led} {R : Result → Shared → Prop} {E : Value → Shared → Prop}
theorem osa_openX {ox : Obj} {od : Option Obj} {name : Str} {tk : Tok} {v : Value} (X : K.In s.heap) (I : InstAt s.heap x ox C od) (hp : excOver K C = true) (ht : takerIn K C name = some none)
    (h : ∀ b, wpAny (model prog w) A.in1 (storeInOwnDict (.ref x) (.ref C) (.str name tk) name v b)
      (fun fin s' => match fin with | .done f => R (.ok f) s' | .again c' => c'.quiet = true ∧ codeAny (model prog w) A c' R s') (fun e s' => R (.error e) s') s) :
    codeAny (model prog w) A (.call (.builtin "object.__setattr__") ⟨[.ref x, .str name tk, v], []⟩) R s := by
  have SF := PySem.F.store_object
  obtain ⟨cd, hc, ho, _⟩ := excOver_of hp
  have sub : Looks (model prog w) s.heap (isInstance (.ref x) (.type "object")) true := I.type.andThen (looks_mroIn X (by unfold mroIn; rw [hc, Option.bind_some, if_neg (by rw [ho]; intro z; cases z), ho, List.contains_cons, bmX_obj, Bool.or_true]))
  refine codeAny_call_builtin SF.slot.plain SF.entry (@check_slot (model prog w) _ _ s "object.__setattr__" "object" "__setattr__" (.ref x) [.str name tk, v] [] _ SF.kind SF.split sub (SF.args (.ref x) (.str name tk) v) ?_)
  obtain ⟨attr, ha, hr⟩ := Option.bind_eq_some_iff.mp ht
  have hm : Looks (model prog w) s.heap (mroOf (.ref C)) cd.mro := (looks_clsIn X hc).andThen .now
  have L3 : Looks (model prog w) s.heap (storeTaker? attr) none := by
    cases attr with
    | none => exact .now
    | some a =>
      obtain ⟨b, hb, hb'⟩ := Option.map_eq_some_iff.mp hr
      refine (looks_takesIn X hb).andThen ?_
      cases b with
      | true => cases hb'
      | false => exact .now
  rw [osa_eq, refuse_eq]
  refine wpAny_bind (wpAny_bind (I.type.here (wpAny_bind (hm.here ?_))))
  rw [ho, refuseLoop_ref, bmX, refuseLoop_ref, PySem.F.store_Exception.passes]
  refine wpAny_pure (wpAny_bind (I.type.here (wpAny_bind ((looks_findIn X ha).here (wpAny_bind (L3.here ?_))))))
  exact h _

theorem store_K {od od' : Obj} {name : Str} {tk : Tok} {v : Value} {pre post : Led} {es : List DictEntry} {n : Nat} {Q : Fin → Shared → Prop} (F : Fr h₀ L s.heap m) (N : News h₀ L s.heap (pre ++ (dx, od) :: post))
    (hl : (lookIn name od).isSome = true) (h1 : ∀ p ∈ pre, p.1 ≠ dx) (h2 : ∀ p ∈ post, p.1 ≠ dx)
    (e : Obj.putName name (PyData.keyHash w.params name) (.str name s.toks) v od = od') (e' : od'.data = .dict es.toArray n) (hz : es.length ≤ 1000)
    (h : ∀ h', Fr h₀ L h' m → News h₀ L h' (pre ++ (dx, od') :: post) → Q (.done (.ret .none)) { s with heap := h', toks := s.toks + 1 }) :
    wpAny (model prog w) A (storeInDict dx (.str name tk) name v) Q E s := by
  obtain ⟨U1, U2⟩ := news_upd (f := Obj.putName name (PyData.keyHash w.params name) (.str name s.toks) v) F N h1 h2 e (by obtain ⟨_, _, dd, _⟩ := od'; cases e'; rfl)
  have D := (N (dx, od) (by simp)).1
  have D' := (U2 (dx, od') (by simp)).1
  unfold storeInDict newKeyGuard
  refine wpAny_bind (wpAny_pure (wpAny_bind ?_))
  unfold nsSet
  refine wpAny_bind (wpAny_bind (wpAny_askSetting (wpAny_pure (wpAny_bind (wpAny_mkText (wpAny_bind (wpAny_loadPart D ?_)))))))
  unfold lookIn at hl
  split at hl
  · rename_i es₀ n₀ q
    rw [q]
    dsimp only
    have c : (!es₀.any (·.key.isStr name) && es₀.any (·.refKey)) = false := by
      rw [← Array.any_toList, ← Array.any_toList]
      split at hl
      · rename_i en he
        rw [List.any_eq_true.mpr ⟨en, List.mem_of_find?_eq_some he, List.find?_some he⟩]; rfl
      · split at hl
        · cases hl
        · rename_i z; rw [Bool.not_eq_true] at z; rw [z, Bool.and_false]
    rw [aRefKeyMayBeTheName_at, c]
    refine wpAny_updatePart D ?_
    refine wpAny_bind (wpAny_lookBehind D' (by rw [e']; exact pastItsLine_dict (by rw [List.size_toArray, sizeLine_eq]; omega)) ?_)
    exact wpAny_pure (h _ U1 U2)
  · cases hl

theorem instDict0 {t : Addr} {c : Value} {Q : Option Addr → Shared → Prop} (F : Fr h₀ L s.heap m) (X : K.In s.heap) (N : News h₀ L s.heap ((x, excObj C t none c) :: rest)) (a1 : ∀ p ∈ rest, p.1 ≠ x) (hp : excOver K C = true)
    (h : ∀ dx h', Fr h₀ L h' m → News h₀ L h' ((x, excObj C t (some dx) c) :: (dx, dictOf [] 0) :: rest) → dx ≠ x → (∀ p ∈ rest, p.1 ≠ dx) → Q (some dx) { s with heap := h' }) :
    wpAny (model prog w) A (instanceDict x true) Q E s := by
  obtain ⟨cd, hc, ho, hd⟩ := excOver_of hp
  have hx := (N _ (.head _)).1
  have N1 := N.push F (dictOf [] 0)
  obtain ⟨U1, U2⟩ := news_upd (d := x) (pre := [(s.heap.objs.size, dictOf [] 0)]) (post := rest) (o := excObj C t none c) (o' := excObj C t (some s.heap.objs.size) c) (f := fun o => { o with dict := some s.heap.objs.size }) (F.push _) N1
    (fun p hp => by rw [List.mem_singleton.mp hp]; exact Nat.ne_of_gt (Heap.lt_size hx)) a1 rfl rfl
  have hfin := h s.heap.objs.size _ U1 (fun p hp => U2 p (by
    rcases List.mem_cons.mp hp with rfl | hp
    · exact .tail _ (.head _)
    · rcases List.mem_cons.mp hp with rfl | hp
      · exact .head _
      · exact .tail _ (.tail _ hp))) (Nat.ne_of_gt (Heap.lt_size hx)) (fun p hp => Nat.ne_of_lt (Heap.lt_size (N p (.tail _ hp)).1))
  obtain ⟨hh, g, d, tk, os⟩ := s
  unfold instanceDict
  refine wpAny_bind (wpAny_loadPart hx (wpAny_bind ((looks_clsIn X hc).here ?_)))
  rw [hd]
  rw [if_neg (by decide)]
  dsimp only
  rw [if_neg (by simp [typeHasDict])]
  refine wpAny_bind (wpAny_alloc' ?_)
  refine wpAny_bind (wpAny_update' (Heap.get?_push_of_some _ hx) ?_)
  exact wpAny_pure hfin
end
end

section

open Builtin Builtin.ObjectAttr
section
variable {prog : Program} {w : World} {A : Around} {K : Frag} {C x L dx : Addr} {s : Shared} {h₀ : Heap} {m : Str → Option Value} {rest : Led} {R : Result → Shared → Prop} {E : Value → Shared → Prop}
theorem instDict1 {t : Addr} {c : Value} {Q : Option Addr → Shared → Prop} (X : K.In s.heap) (hx : s.heap.get? x = some (excObj C t (some dx) c)) (hp : excOver K C = true)
    (h : Q (some dx) s) : wpAny (model prog w) A (instanceDict x true) Q E s := by
  obtain ⟨cd, hc, ho, hd⟩ := excOver_of hp
  unfold instanceDict
  refine wpAny_bind (wpAny_loadPart hx (wpAny_bind ((looks_clsIn X hc).here ?_)))
  rw [hd]
  exact wpAny_pure h
theorem exc_inst {t : Addr} {c : Value} {news : Led} (N : News h₀ L s.heap news) (hm : (x, excObj C t none c) ∈ news) : InstAt s.heap x (excObj C t none c) C none := ⟨(N _ hm).1, rfl, rfl, trivial⟩
theorem exc_inst1 {t : Addr} {c : Value} {news : Led} {od : Obj} (N : News h₀ L s.heap news) (hm : (x, excObj C t (some dx) c) ∈ news) (hd : (dx, od) ∈ news) : InstAt s.heap x (excObj C t (some dx) c) C (some od) := ⟨(N _ hm).1, rfl, rfl, (N _ hd).1⟩
theorem putName_nil (name : Str) (hash : Int) (kv v : Value) : Obj.putName name hash kv v (dictOf [] 0) = dictOf [⟨hash, kv, v⟩] 1 := by
  rw [putName_dict]
  rfl
theorem setX0 {t : Addr} {c v : Value} {name : Str} {Q : Unit → Shared → Prop} (F : Fr h₀ L s.heap m) (X : K.In h₀) (N : News h₀ L s.heap ((x, excObj C t none c) :: rest)) (a1 : ∀ p ∈ rest, p.1 ≠ x) (hp : excOver K C = true)
    (hs : findIn K (.ref C) "__setattr__" = some (some (.builtin "object.__setattr__"))) (ht : takerIn K C name = some none)
    (hQ : ∀ dx k h' tk', Fr h₀ L h' m → News h₀ L h' ((x, excObj C t (some dx) c) :: (dx, dictOf [⟨PyData.keyHash w.params name, .str name k, v⟩] 1) :: rest) → dx ≠ x → (∀ p ∈ rest, p.1 ≠ dx) → Q () { s with heap := h', toks := tk' }) :
    wpAny (model prog w) A (setAttr (.ref x) name v) Q E s := by
  refine set_plain (X.keeps F.keep) (exc_inst N (.head _)) hs (osa_openX (s := { s with toks := s.toks + 1 }) (X.keeps F.keep) (exc_inst N (.head _)) hp ht fun b => ?_)
  refine wpAny_bind (wpAny_pure (wpAny_bind (instDict0 (s := { s with toks := s.toks + 1 }) F (X.keeps F.keep) N a1 hp fun dx h1 F1 N1 b1 b2 => ?_)))
  exact store_K (s := { s with heap := h1, toks := s.toks + 1 }) (pre := [(x, excObj C t (some dx) c)]) (post := rest) (od := dictOf [] 0) (od' := dictOf [⟨PyData.keyHash w.params name, .str name (s.toks + 1), v⟩] 1) F1 N1 rfl (fun p hp => by rw [List.mem_singleton.mp hp]; exact Ne.symm b1) b2 (putName_nil ..) rfl (by simp) fun h' F' N' => hQ dx _ h' _ F' N' b1 b2
theorem setX1 {t : Addr} {c v : Value} {name : Str} {es es' : List DictEntry} {n n' : Nat} {Q : Unit → Shared → Prop} (F : Fr h₀ L s.heap m) (X : K.In h₀) (N : News h₀ L s.heap ((x, excObj C t (some dx) c) :: (dx, dictOf es n) :: rest)) (b1 : dx ≠ x) (b2 : ∀ p ∈ rest, p.1 ≠ dx) (hp : excOver K C = true)
    (hs : findIn K (.ref C) "__setattr__" = some (some (.builtin "object.__setattr__"))) (ht : takerIn K C name = some none) (hl : (getL name es).isSome = true)
    (e : (putL name (PyData.keyHash w.params name) (.str name (s.toks + 1)) v es, putN name es n) = (es', n')) (hz : es'.length ≤ 1000)
    (hQ : ∀ h' tk', Fr h₀ L h' m → News h₀ L h' ((x, excObj C t (some dx) c) :: (dx, dictOf es' n') :: rest) → Q () { s with heap := h', toks := tk' }) :
    wpAny (model prog w) A (setAttr (.ref x) name v) Q E s := by
  obtain ⟨e1, e2⟩ := Prod.mk.inj e
  refine set_plain (X.keeps F.keep) (exc_inst1 N (.head _) (.tail _ (.head _))) hs (osa_openX (s := { s with toks := s.toks + 1 }) (X.keeps F.keep) (exc_inst1 N (.head _) (.tail _ (.head _))) hp ht fun b => ?_)
  refine wpAny_bind (wpAny_pure (wpAny_bind (instDict1 (s := { s with toks := s.toks + 1 }) (X.keeps F.keep) (N _ (.head _)).1 hp ?_)))
  exact store_K (s := { s with toks := s.toks + 1 }) (pre := [(x, excObj C t (some dx) c)]) (post := rest) F N hl (fun p hp => by rw [List.mem_singleton.mp hp]; exact Ne.symm b1) b2 (by rw [putName_dict, e1, e2]) rfl hz fun h' F' N' => hQ h' _ F' N'
end
end

section

open Sem (wp)
/-- an exception under way: its first field, its context, the flight of its newest entry -/
def Way (h base : Heap) (e : Addr) (cls a0 c fl : Value) : Prop :=
  ∃ oe vs T oT ts, h.get? e = some oe ∧ oe.cls = cls ∧ oe.data = .fields vs ∧ vs[0]? = some a0 ∧ vs[2]? = some c ∧ vs[1]? = some (.ref T) ∧ base.get? T = none ∧ T ≠ e ∧ h.get? T = some oT ∧ oT.data = .fields ts ∧ ts[3]? = some fl
/-- and it stands over the frames l -/
def OnWay (base : Heap) (l : List Env) (e : Addr) (cls a0 c fl : Value) (h : Heap) : Prop := base.StaysIn h ∧ base.get? e = none ∧ h.FunFrames base l ∧ Way h base e cls a0 c fl
theorem OnWay.flying {base h : Heap} {l : List Env} {e : Addr} {cls a0 c : Value} (x : OnWay base l e cls a0 c .none h) : Heap.FlyingW base l e cls a0 h := by
  obtain ⟨f1, f2, f3, oe, vs, T, oT, ts, a1, a2, a3, a4, a5, a6⟩ := x
  exact ⟨f1, f2, f3, oe, vs, T, oT, ts, a1, ⟨a2, a4⟩, a3, a6⟩
section
variable {M : Model} {A : Around} {E : Value → Shared → Prop} {s : Shared}
theorem entry_W {base : Heap} {env : Env} {outer : List Env} {L e : Addr} {oe : Obj} {vs : Array Value} {head a0 c : Value} {hadNext : Bool} {Q : Unit → Shared → Prop}
    (hfr : A.frames = some (env :: outer)) (hl : s.heap.FunFrames base (env :: outer)) (hf : env.frame = some L)
    (he : s.heap.get? e = some oe) (hkb : base.StaysIn s.heap) (hen : base.get? e = none) (hd : oe.data = .fields vs) (hsz : 1 < vs.size) (h0 : vs[0]? = some a0) (h2 : vs[2]? = some c)
    (h : ∀ h', OnWay base (env :: outer) e oe.cls a0 c (rawInt L) h' → s.heap.UpToSlots h' → Q () { s with heap := h' }) :
    wpAny M A (do let a ← frameOf env; let pl ← entryPlaceOf L hadNext; let b ← EntryCells.newEntry head a .none (rawInt L) .none pl; setField (.ref e) 1 b) Q E s := by
  have hene : e ∉ (env :: outer).filterMap (·.frame) := fun hm => by
    obtain ⟨_, o, ho, hnf⟩ := hl.mem hm
    rw [he] at ho; cases ho; exact hnf vs hd
  refine wpAny_bind (wpAny_frameOf_fun hfr hl hf fun h₁ hs₁ => ?_)
  refine wpAny_bind (wpAny_entryPlaceOf fun pl hpl => ?_)
  unfold EntryCells.newEntry newFields
  refine wpAny_bind (wpAny_newObj_type ?_ (hpl.sizeOk5 _ _ _ _ _))
  have e1 : h₁.get? e = some oe := (hs₁.2.1 e hene).trans he
  have kb : base.StaysIn h₁ := fun b o hbo => (hs₁.2.1 b fun hm => by rw [(hl.mem hm).1] at hbo; cases hbo).trans (hkb b o hbo)
  generalize hob : ({ cls := .type "traceback", dict := none, data := .fields ([head, .ref L, .none, rawInt L, .none] ++ (if pl.isEmpty then List.replicate 6 Value.none else pl)).toArray } : Obj) = ob
  have hobd : ob.data = .fields ([head, .ref L, .none, rawInt L, .none] ++ (if pl.isEmpty then List.replicate 6 Value.none else pl)).toArray := by rw [← hob]
  have hobf : ob.isFreed = false := Obj.isFreed_of_fields hobd
  have e2 := Heap.get?_push_of_some (h := h₁) ob e1
  refine wpAny_setField e2 hd hsz (h _ ?_ ?_)
  · have hTe : h₁.objs.size ≠ e := Nat.ne_of_gt (Heap.lt_size e1)
    have d3 := Obj.data_mapFields hd (·.setIfInBounds 1 (Value.ref h₁.objs.size))
    have e3 := Heap.get?_update_self (Obj.mapFields (·.setIfInBounds 1 (Value.ref h₁.objs.size))) e2 (Obj.isFreed_of_fields d3)
    have keep : ∀ b o, b ≠ e → h₁.get? b = some o → ((h₁.push ob).update e (Obj.mapFields (·.setIfInBounds 1 (Value.ref h₁.objs.size)))).get? b = some o := fun b o hbe hb => by
      rw [Heap.get?_update_other _ _ (Ne.symm hbe)]
      exact Heap.get?_push_of_some _ hb
    refine ⟨fun b o hbo => keep b o (fun q => by rw [q, hen] at hbo; cases hbo) (kb b o hbo), hen, hl.of_keeps fun b o hb hnf => ?_, _, _, h₁.objs.size, ob, _, e3, Obj.cls_mapFields _ _, d3, ?_, ?_, by simp [hsz], kb.fresh, hTe, ?_, hobd, ?_⟩
    · obtain ⟨sl, hs⟩ := hs₁.2.2 b o hb
      exact ⟨_, keep b _ (fun q => by rw [q, he] at hb; cases hb; exact hnf vs hd) hs, rfl⟩
    · rw [Array.getElem?_setIfInBounds_ne (by decide)]; exact h0
    · rw [Array.getElem?_setIfInBounds_ne (by decide)]; exact h2
    · exact (Heap.get?_update_other _ _ (Ne.symm hTe)).trans (Heap.get?_push_size h₁ hobf)
    · first | (simp; done) | (rcases hpl with rfl | ⟨_, _, _, _, _, _, _, rfl⟩ <;> simp)
  · intro b o hb hnf
    obtain ⟨sl, hs⟩ := hs₁.2.2 b o hb
    refine ⟨sl, ?_⟩
    have hbe : b ≠ e := fun q => by rw [q, he] at hb; cases hb; exact hnf vs hd
    exact (Heap.get?_update_other _ _ (Ne.symm hbe)).trans (Heap.get?_push_of_some _ hs)

theorem note_new {base : Heap} {env : Env} {outer : List Env} {L e : Addr} {oe : Obj} {vs : Array Value} {a0 c : Value} {Q : Unit → Shared → Prop}
    (hfr : A.frames = some (env :: outer)) (hl : s.heap.FunFrames base (env :: outer)) (hf : env.frame = some L)
    (he : s.heap.get? e = some oe) (hkb : base.StaysIn s.heap) (hen : base.get? e = none) (hd : oe.data = .fields vs) (h1 : vs[1]? = some .none) (h0 : vs[0]? = some a0) (h2 : vs[2]? = some c)
    (h : ∀ h', OnWay base (env :: outer) e oe.cls a0 c (rawInt L) h' → s.heap.UpToSlots h' → Q () { s with heap := h' }) : wpAny M A (noteFrame (.ref e) env) Q E s := by
  unfold noteFrame
  simp only [hf]
  refine wpAny_bind (wpAny_field he hd h1 ?_)
  rw [if_neg (by decide)]
  exact entry_W hfr hl hf he hkb hen hd (Array.getElem?_eq_some_iff.mp h1).1 h0 h2 h

theorem note_on {base : Heap} {env : Env} {outer : List Env} {L e : Addr} {cls a0 c : Value} {Q : Unit → Shared → Prop}
    (hfr : A.frames = some (env :: outer)) (hf : env.frame = some L) (hw : OnWay base (env :: outer) e cls a0 c .none s.heap)
    (h : ∀ h', OnWay base (env :: outer) e cls a0 c (rawInt L) h' → s.heap.UpToSlots h' → Q () { s with heap := h' }) : wpAny M A (noteFrame (.ref e) env) Q E s := by
  obtain ⟨hkb, hen, hl, oe, vs, T, oT, ts, he, hcls, hd, h0, h2, h1, hnT, hTe, hT, hdT, h3⟩ := hw
  subst hcls
  unfold noteFrame
  simp only [hf]
  refine wpAny_bind (wpAny_field he hd h1 ?_)
  rw [if_pos (show (Value.ref T != Value.none) = true from by simp)]
  refine wpAny_bind (wpAny_field hT hdT h3 ?_)
  rw [if_neg (show ¬ ((Value.none == rawInt L) = true) from by simp [rawInt])]
  refine wpAny_bind (wpAny_setField hT hdT (Array.getElem?_eq_some_iff.mp h3).1 ?_)
  have other : ∀ b, b ≠ T → (s.heap.update T (Obj.mapFields (·.setIfInBounds 3 Value.none))).get? b = s.heap.get? b := fun b hb => Heap.get?_update_other _ _ (Ne.symm hb)
  have noRec : ∀ b o, s.heap.get? b = some o → (∀ vs, o.data ≠ .fields vs) → b ≠ T := fun b o hb hnf q => by
    rw [q, hT] at hb; cases hb; exact hnf ts hdT
  refine entry_W hfr (hl.of_keeps fun b o hb hnf => ⟨o, (other b (noRec b o hb hnf)).trans hb, rfl⟩) hf ((other e (Ne.symm hTe)).trans he)
    (fun b o hbo => (other b fun q => by rw [q, hnT] at hbo; cases hbo).trans (hkb b o hbo)) hen hd (Array.getElem?_eq_some_iff.mp h1).1 h0 h2
    fun h' x1 x2 => h h' x1 fun b o hb hnf => x2 b o ((other b (noRec b o hb hnf)).trans hb) hnf

theorem land_W {base : Heap} {l : List Env} {e : Addr} {cls a0 c fl : Value} {Q : Unit → Shared → Prop} (hw : OnWay base l e cls a0 c fl s.heap)
    (h : ∀ h', OnWay base l e cls a0 c .none h' → s.heap.UpToSlots h' → Q () { s with heap := h' }) : wpAny M A (setFlight (.ref e) none) Q E s := by
  obtain ⟨hkb, hen, hl, oe, vs, T, oT, ts, he, hcls, hd, h0, h2, h1, hnT, hTe, hT, hdT, h3⟩ := hw
  have other : ∀ b, b ≠ T → (s.heap.update T (Obj.mapFields (·.setIfInBounds 3 ((none : Option Addr).elim Value.none fun f => rawInt f)))).get? b = s.heap.get? b :=
    fun b hb => Heap.get?_update_other _ _ (Ne.symm hb)
  have noRec : ∀ b o, s.heap.get? b = some o → (∀ vs, o.data ≠ .fields vs) → b ≠ T := fun b o hb hnf q => by
    rw [q, hT] at hb; cases hb; exact hnf ts hdT
  have hsz3 := (Array.getElem?_eq_some_iff.mp h3).1
  unfold setFlight
  refine wpAny_bind (wpAny_field he hd h1 ?_)
  rw [if_pos (show (Value.ref T != Value.none) = true from by simp)]
  refine wpAny_setField hT hdT hsz3 (h _ ⟨fun b o hbo => (other b fun q => by rw [q, hnT] at hbo; cases hbo).trans (hkb b o hbo), hen,
    hl.of_keeps fun b o hb hnf => ⟨o, (other b (noRec b o hb hnf)).trans hb, rfl⟩, oe, vs, T, _, _, (other e (Ne.symm hTe)).trans he, hcls, hd, h0, h2, h1, hnT, hTe,
      Heap.get?_update_self _ hT (Obj.isFreed_of_fields (Obj.data_mapFields hdT _)), Obj.data_mapFields hdT _, by simp [hsz3]⟩ fun b o hb hnf => ⟨o.slots, (other b (noRec b o hb hnf)).trans hb⟩)
end
end

section

open Sem (wp)
/-- what a call that raises leaves behind, as its caller's frame (env, over outer; ground h₀, locals m) sees it -/
def Thrown (base h₀ : Heap) (L : Addr) (m : Str → Option Value) (env : Env) (outer : List Env) (C e : Addr) (h : Heap) : Prop :=
  ∃ g B a0, Fr h₀ L g m ∧ g.UpToSlots h ∧ base.StaysIn B ∧ (∀ b o, g.get? b = some o → b ∉ (env :: outer).filterMap (·.frame) → B.get? b = some o) ∧ OnWay B (env :: outer) e (.ref C) a0 .none .none h
/-- the same, whatever the context of the exception -/
def ThrownQ (base h₀ : Heap) (L : Addr) (m : Str → Option Value) (env : Env) (outer : List Env) (C e : Addr) (h : Heap) : Prop :=
  ∃ g B a0 c, Fr h₀ L g m ∧ g.UpToSlots h ∧ base.StaysIn B ∧ (∀ b o, g.get? b = some o → b ∉ (env :: outer).filterMap (·.frame) → B.get? b = some o) ∧ OnWay B (env :: outer) e (.ref C) a0 c .none h
theorem Thrown.q {base h₀ : Heap} {L : Addr} {m : Str → Option Value} {env : Env} {outer : List Env} {C e : Addr} {h : Heap} (x : Thrown base h₀ L m env outer C e h) : ThrownQ base h₀ L m env outer C e h := by
  obtain ⟨g, B, a0, r⟩ := x
  exact ⟨g, B, a0, _, r⟩
section
variable {M : Model} {A : Around} {E : Value → Shared → Prop} {s' : Shared} {base h₀ g g1 : Heap} {outer : List Env} {envc : Env} {L L' a e t C : Addr} {m m' : Str → Option Value} {name : Str} {scope : Scope} {cd : Value} {Q : Unit → Shared → Prop} {rest : Led} {dc : Option Addr} {c : Value}
/-- a new exception leaves the frame in which it was raised; g1 is the ground g with other slots in the frames below -/
theorem leave_newX (K : Below A base (envc :: outer) g) (K1 : Below A base (envc :: outer) g1) (T0 : KtsTurn ((envc :: outer).filterMap (·.frame)) g g1) (F : Fr g1 L' s'.heap m') (N : News g1 L' s'.heap ((e, excObj C t dc c) :: rest)) (FG : Fr h₀ L g m) (hk : scope.kind = .function)
    (hQ : ∀ h' B, g.UpToSlots h' → base.StaysIn B → (∀ b o, g.get? b = some o → b ∉ (envc :: outer).filterMap (·.frame) → B.get? b = some o) → OnWay B (envc :: outer) e (.ref C) (.ref t) c .none h' → Q () { s' with heap := h' }) :
    wpAny M (A.deeper (envOf name scope L' a cd)) (leaving (envOf name scope L' a cd) (.ref e)) Q E s' := by
  have K' := K1.push (name := name) (a := a) (cd := cd) F hk
  have he := (N _ (.head _)).1
  have hin : ∀ env ∈ (envOf name scope L' a cd :: envc :: outer), ∀ b, env.frame = some b → b ∈ (envOf name scope L' a cd :: envc :: outer).filterMap (·.frame) := fun env he b hb => List.mem_filterMap.mpr ⟨env, he, hb⟩
  have hne : ∀ b ∈ (envOf name scope L' a cd :: envc :: outer).filterMap (·.frame), b ≠ e := fun b hm q => by
    obtain ⟨_, o, ho, hnf⟩ := K'.frames.mem hm
    rw [q, he] at ho; cases ho; exact hnf _ rfl
  have ge : g1.get? e = none := (N _ (.head _)).2.2
  have be : base.get? e = none := fresh_of_stays K1.stays ge
  have st : base.StaysIn (hideAll s'.heap (e :: (envOf name scope L' a cd :: envc :: outer).filterMap (·.frame))) := fun b o q => hideAll_get _ (K'.stays b o q) fun hm => by
    rcases List.mem_cons.mp hm with z | hm
    · rw [z, be] at q; cases q
    · rw [(K'.frames.mem hm).1] at q; cases q
  have sg : ∀ b o, g.get? b = some o → b ∉ (envc :: outer).filterMap (·.frame) → (hideAll s'.heap (e :: (envOf name scope L' a cd :: envc :: outer).filterMap (·.frame))).get? b = some o := fun b o q nm => by
    have q1 := T0.other b o q nm
    refine hideAll_get _ (F.keep b o q1) fun hm => ?_
    rcases List.mem_cons.mp hm with z | hm
    · rw [z, ge] at q1; cases q1
    · rcases kts_mem hm with z | z
      · rw [z, kts_self F] at q1; cases q1
      · exact nm z
  have hfr : ∀ {l : List Env}, s'.heap.FunFrames base l → (∀ env ∈ l, ∀ b, env.frame = some b → b ∈ (envOf name scope L' a cd :: envc :: outer).filterMap (·.frame)) → s'.heap.FunFrames (hideAll s'.heap (e :: (envOf name scope L' a cd :: envc :: outer).filterMap (·.frame))) l := fun fl hi => funFrames_hide fl fun env he b hb => .tail _ (hi env he b hb)
  unfold leaving
  refine wpAny_bind (note_new K'.stack (hfr K'.frames hin) rfl he (fun b o q => of_hideAll _ q) (hideAll_none _ (.head _)) rfl rfl rfl rfl fun h1 x1 x2 => ?_)
  refine land_W (s := { s' with heap := h1 }) x1 fun h2 y1 y2 => ?_
  obtain ⟨y3, y4, ⟨_, _, y5⟩, y6⟩ := y1
  refine hQ h2 _ (((Heap.UpToSlots.trans (h₂ := g1) ?_ (Heap.UpToSlots.of_keeps F.keep)).trans x2).trans y2) st sg ⟨y3, y4, y5, y6⟩
  intro b o q hnf
  exact T0.up q
/-- an exception on its way leaves the frame through which it passes -/
theorem leave_onX (K : Below A base (envc :: outer) g) (FG : Fr h₀ L g m) (T : ThrownQ base g L' m' (envOf name scope L' a cd) (envc :: outer) C e s'.heap)
    (hQ : ∀ h', ThrownQ base h₀ L m envc outer C e h' → Q () { s' with heap := h' }) :
    wpAny M (A.deeper (envOf name scope L' a cd)) (leaving (envOf name scope L' a cd) (.ref e)) Q E s' := by
  obtain ⟨g₂, B, a0, c, F, hsm, hB, hBG, hw⟩ := T
  unfold leaving
  refine wpAny_bind (note_on (Around.frames_deeper K.stack) rfl hw fun h1 x1 x2 => ?_)
  refine land_W (s := { s' with heap := h1 }) x1 fun h2 y1 y2 => ?_
  obtain ⟨y3, y4, ⟨_, _, y5⟩, y6⟩ := y1
  refine hQ h2 ⟨g, B, a0, c, FG, ((Heap.UpToSlots.of_keeps F.keep).trans hsm).trans (x2.trans y2), hB, fun b o q nm => hBG b o (F.keep b o q) fun hm => ?_, y3, y4, y5, y6⟩
  rcases kts_mem hm with z | z
  · rw [z, kts_self F] at q; cases q
  · exact nm z
end
end

section

theorem excOk_ (w : World) {C : Addr} (hC : C = 71 ∨ C = 119) : excOk (pre.heap_1 w.params) C = true := by rcases hC with rfl | rfl <;> kernel_rfl
theorem excOver_ (w : World) {C : Addr} (hC : C = 71 ∨ C = 119) : excOver (pre.heap_1 w.params) C = true := by rcases hC with rfl | rfl <;> kernel_rfl
theorem excSet_ (w : World) {C : Addr} (hC : C = 71 ∨ C = 119) : findIn (pre.heap_1 w.params) (.ref C) "__setattr__" = some (some (.builtin "object.__setattr__")) := by rcases hC with rfl | rfl <;> kernel_rfl
theorem excTaker_ (w : World) {C : Addr} (hC : C = 71 ∨ C = 119) {n : Str} (hn : n = "what" ∨ n = "at") : takerIn (pre.heap_1 w.params) C n = some none := by rcases hC with rfl | rfl <;> rcases hn with rfl | rfl <;> kernel_rfl
theorem excInit_ (w : World) {C : Addr} (hC : C = 71 ∨ C = 119) : findIn (pre.heap_1 w.params) (.ref C) "__init__" = some (some (.ref 36)) := by rcases hC with rfl | rfl <;> kernel_rfl
theorem meta_exc : typeOf (.type "Exception") = pure (.type "type") := by kernel_rfl
example : True := by ((k_with "getMethod type:Exception" => ((k_here; refine' method_type ?F ?X ?m (by decide +kernel) ?e ?h ?_; (case F => k_asm); (case X => k_asm); (case m => exact meta_exc); (case e => k_dflt k_is); (case h => k_handed)))); (k_with "call builtin:Exception.__init__" => ((k_here; k_extra "EI"))); (k_with "setAttr ref" => ((k_here; k_extra "ES"))); trivial)
/-- a contract under any exception that is being handled -/
def ConH (w : World) (r : Nat) (f : Addr) (vs : List Value) (news : Led) (R : Value → Led → Prop) : Prop :=
  ∀ (hv : Option Value) (dp un : Nat) (gd : Option (List Code)) (cn : Str) (cs : Scope) (a : Addr) (ccd : Value) (cl : List (Str × Addr)) (outer : List Env) (A₀ : Around) (base h₀ : Heap) (L : Addr) (m : Str → Option Value) (s : Shared)
    (mean : ExcName → Option Value) (mg mb : Str → Option Value) (Q E : Value → Shared → Prop),
    Below A₀ base outer h₀ → Fr h₀ L s.heap m → (pre.heap_1 w.params).In h₀ → News h₀ L s.heap news →
    Top pre.view_1 (looseW pre.view_1 [Str.ofString "PostError", Str.ofString "CHARSETS"]) mean mg mb h₀ → cs.kind = .function →
    dp + 10 + r < recursionLimit → un + 200 + 8 * r < cLine →
    (∀ v h' tk' news', R v news' → Fr h₀ L h' m → News h₀ L h' news' → Q v { s with heap := h', toks := tk' }) →
    wpAny (model PySem.Challenge.rw_or0070_01.row.prog w) ({ handled := hv, depth := dp, frames := some (envX cn cs L a ccd cl :: outer), guards := gd, units := un } : Around) (call (.ref f) vs) Q E s
theorem ConH.con {w : World} {r : Nat} {f : Addr} {vs : List Value} {news : Led} {R : Value → Led → Prop} (C : ConH w r f vs news R) : Con w r f vs news R :=
  fun _ _ _ _ _ _ _ _ _ _ _ _ _ _ _ _ _ _ _ _ B F X N T hk hd hu ret => C none _ _ _ _ _ _ _ _ _ _ _ _ _ _ _ _ _ _ _ _ B F X N T hk hd hu ret
theorem exc_init (w : World) (C e t : Addr) (hC : C = 71 ∨ C = 119) (what : Str) (tw ta : Tok) (i : Int) (vs : Array Value) (rest : Led) (a1 : ∀ p ∈ (t, tupObj vs) :: rest, p.1 ≠ e)
    (A : Around) (cn : Str) (cs : Scope) (a : Addr) (ccd : Value) (cl : List (Str × Addr)) (outer : List Env) (A₀ : Around) (base h₀ : Heap) (L : Addr) (m : Str → Option Value) (s : Shared)
    (mean : ExcName → Option Value) (mg mb : Str → Option Value) (R : Result → Shared → Prop) (hA : A.frames = some (envX cn cs L a ccd cl :: outer))
    (B : Below A₀ base outer h₀) (F : Fr h₀ L s.heap m) (X : (pre.heap_1 w.params).In h₀) (N : News h₀ L s.heap ((e, excObj C t none .none) :: (t, tupObj vs) :: rest))
    (T : Top pre.view_1 (looseW pre.view_1 [Str.ofString "PostError", Str.ofString "CHARSETS"]) mean mg mb h₀) (hcs : cs.kind = .function) (hdp : A.depth + 12 < recursionLimit) (hun : A.units + 216 < cLine)
    (hret : ∀ h' tk' dx t2 ws, Fr h₀ L h' m → News h₀ L h' ((e, excObj C t2 (some dx) .none) :: (t2, tupObj ws) :: rest) → R (.ok (.ret .none)) { s with heap := h', toks := tk' }) :
    codeAny (model PySem.Challenge.rw_or0070_01.row.prog w) A (.call (.ref 36) ⟨[.ref e, .str what tw, .int i ta], []⟩) R s := by
  revert X
  k_fill
  intro X
  (k_with_none; (k_with "units_room" => ((ktr_units))); (k_with "k_room" => ((ktr_room))); (k_with "k_all" => (first | assumption | exact fun q hq => Nat.ne_of_lt (ktn_ltOf (by assumption) q hq))); (k_with "exec While BoolOp cons nil" => ((k_here; k_extra "W"))); (k_with "exec While Compare cons nil" => ((k_here; k_extra "W"))); (k_with "call ref" => ((k_here; first | k_extra "C" | (k_extra "HOLD"; refine Hold.out ?_)))); (k_with "eval ListComp" => ((k_here; k_extra "L"))); (k_with "pyIter ref" => ((k_here; k_extra "F"))); (k_with "exec For Name Call cons nil" => ((k_here; k_extra "FOR"; (rename Fr _ _ _ _ => lF'); (with_unfolding_all refine' For_invVF lF' ?k1 ?k2 ?_; (case k1 => exact rfl); (case k2 => exact rfl); k_whole)))); (k_with "exec For Name Name cons nil" => ((k_here; k_extra "FOR"; (rename Fr _ _ _ _ => lF'); (with_unfolding_all refine' For_invVF lF' ?k1 ?k2 ?_; (case k1 => exact rfl); (case k2 => exact rfl); k_whole)))); (k_with "compareOp In int bytes" => ((k_here; refine in_bytes_K (by omega) (by omega) ?_))); (k_with "compareOp NotIn int bytes" => ((k_here; refine notin_bytes_K (by omega) (by omega) ?_))); (k_with "pyIter bytes" => ((k_here; k_extra "FB"))); (k_with "call type:bytes" => ((k_here; (with_reducible show wpAny _ _ (call (Value.type "bytes") [Value.bytes _ _]) _ _ _); refine call_bytes_bytes ?_))); (k_with "NE1" => (first | with_reducible assumption | exact And.right (by with_reducible assumption) | exact And.right (And.right (by with_reducible assumption)) | exact And.right (And.right (And.right (by with_reducible assumption))))); (k_with "NE2" => (first | with_reducible assumption | exact And.right (by with_reducible assumption) | exact And.right (And.right (by with_reducible assumption)) | exact And.right (And.right (And.right (by with_reducible assumption))) | exact And.right (And.right (And.right (And.right (by k_extra "NE1")))))); (k_with "NE3" => (first | with_reducible assumption | exact And.right (by with_reducible assumption) | exact And.right (And.right (by with_reducible assumption)) | exact And.right (And.right (And.right (by with_reducible assumption))) | exact And.right (And.right (And.right (And.right (by k_extra "NE2")))))); (k_with "kwd_less" => (first | with_reducible assumption | exact And.left (by k_extra "NE3") | exact And.right (by k_extra "NE3"))); (k_with "k_ne" => (((try dsimp only); first | with_reducible assumption | exact Ne.symm (by with_reducible assumption) | (refine ne_gt ?_; kwd_less) | (refine ne_lt ?_; kwd_less) | kwd_less | (refine Ne.symm ?_; kwd_less)))); (k_with "ktr_room" => (first | exact room_lt (by assumption) (by rfl) | exact room_same (by assumption) (by rfl))); (k_with "ktr_units" => (exact units_lt (by assumption) (by rfl))); (k_with "eval Constant bytes" => ((refine xs_bytes ?_))); (k_with "binaryOp Sub int int" => ((refine xs_sub ?_))); (k_with "binaryOp Mod int int" => ((k_here; refine xs_mod (by decide) ?_))); (k_with "newList" => ((k_here; k_dflt (refine' xs_list ?xlF ?xlN ?_; (case xlF => k_asm); (case xlN => k_asm); k_whole); intro _ _ _ _ xll; (try k_lt xll); (try k_sweep)))); (k_with "eval Constant int" => ((refine xs_int ?_))); (k_with "eval Constant str" => ((refine xs_str ?_))); (k_with "binaryOp Add int int" => ((refine xs_add ?_))); (k_with "storeName" => ((k_here; k_dflt (refine' xs_store ?xsF ?xsN ?_ ?xsa ?xsb; (case xsF => k_asm); (case xsN => k_asm); (case xsa => rfl); (case xsb => rfl); k_whole; intro _ _ _; (try k_sweep))))); (k_with "newTuple" => ((k_here; kup_bare; k_dflt (refine' xs_tuple ?xtF ?xtN ?_ ?xtz; (case xtF => k_asm); (case xtN => k_asm); (case xtz => kmk_size)); intro _ _ _ _ xtl; (try k_lt xtl); (try k_sweep)))); (k_with "getMethod type:Exception" => ((k_here; refine' method_type ?F ?X ?m (by decide +kernel) ?e ?h ?_; (case F => k_asm); (case X => k_asm); (case m => exact meta_exc); (case e => k_dflt k_is); (case h => k_handed)))); (k_with "call builtin:Exception.__init__" => ((k_here; k_extra "EI"))); (k_with "setAttr ref" => ((k_here; k_extra "ES"))))
  k_dflt (first | ((refine' code_def ?k1 ?k2 ?k3 ?k4 ?k5 ?kA ?kF ?kK ?k6 ?k7 ?k8 ?k9 ?kB ?_ ?c2 ?c3 ?c4 ?c5; (case kA => first | exact rfl | assumption); (case kF => exact rfl); (case kK => assumption); (case k1 => k_asm); (case k2 => k_asm); (case k3 => k_asm); (case k4 => k_asm); (case k5 => k_asm); (case k6 => k_is); (case k7 => k_is); (case k8 => ktr_room); (case k9 => first | exact BindsTo.of_eq rfl | exact binds_K (by k_in) rfl (by k_is) rfl rfl rfl); (case c5 => decide); (case kB => exact locs rfl); (case c2 => exact rfl); (case c3 => exact rfl); (case c4 => exact rfl); k_whole; intro g' L' h' FG' F' N' B' X' T'; (try dsimp only); (try k_fold))) | ktr_enter)
  k_with "HOLD" => skip
  k_with "EI" => (k_dflt (refine' init_K (rest := (t, tupObj vs) :: rest) (c := .none) ?F ?X (excOk_ w hC) ?N a1 ?_; (case F => k_asm); (case X => k_asm); (case N => k_asm); k_whole); intro t9 h9 F9 N9 l9 lt9; (try dsimp only))
  k_with "ES" => (first
    | (k_dflt (refine' setX0 ?F ?X ?N ?a1 (excOver_ w hC) (excSet_ w hC) (excTaker_ w hC (.inl rfl)) ?_; (case F => k_asm); (case X => k_asm); (case N => k_asm); (case a1 => intro p hp; (rcases List.mem_cons.mp hp with rfl | hp); exact Nat.ne_of_gt lt9; exact a1 p hp); k_whole); intro d9 k9 h9 tk9 F9 N9 n9 m9)
    | (k_dflt (refine' setX1 ?F ?X ?N ?b1 ?b2 (excOver_ w hC) (excSet_ w hC) (excTaker_ w hC (.inr rfl)) ?hl ?e ?hz ?_; (case F => k_asm); (case X => k_asm); (case N => k_asm); (case b1 => assumption); (case b2 => assumption); (case hl => rfl); (case e => rfl); (case hz => exact Nat.le_of_ble_eq_true rfl); k_whole); intro h9 tk9 F9 N9))
  k_steps
  exact hret _ _ _ _ _ (by assumption) (fun p hp => (by assumption : News h₀ L _ _) p (by
    rcases List.mem_cons.mp hp with rfl | hp
    · exact .head _
    · rcases List.mem_cons.mp hp with rfl | hp
      · exact .tail _ (.tail _ (.head _))
      · exact .tail _ (.tail _ (.tail _ (.tail _ hp)))))
/-- the call of an exception class of the text's own -/
theorem exc_con (w : World) (C : Addr) (hC : C = 71 ∨ C = 119) (what : Str) (tw ta : Tok) (i : Int) (rest : Led) :
    ConH w 6 C [.str what tw, .int i ta] rest (fun v n' => ∃ e t dx ws, v = .ref e ∧ n' = (e, excObj C t (some dx) .none) :: (t, tupObj ws) :: rest ∧ ∀ p ∈ rest, p.1 < e) := by
  unfold ConH
  intro hv dp un gd cn cs a ccd cl outer A₀ base h₀ L m s mean mg mb Q E B F X N T hcs hdp hun hret
  obtain ⟨nm, qn, NN, bs, sn, sub, ab, col, dd, k0, k1, k2, k3, k5, hCo⟩ := exc_cls (X.keeps F.keep) (excOk_ w hC)
  obtain ⟨hh, g, d, tk, os⟩ := s
  have N1 := N.push F (tupObj #[.str what tw, .int i ta])
  have N2 := N1.push (F.push _) (excObj C hh.objs.size none .none)
  rw [Heap.size_push] at N2
  refine wpAny_call (exc_call_core (fI := 36) hCo (looks_findIn (X.keeps F.keep) (excInit_ w hC)) (fun self => bind_fn (X.keeps F.keep) self (by kernel_rfl)) (by show 2 ≤ sizeLine; rw [sizeLine_eq]; decide) ?_)
  refine exc_init w C (hh.objs.size + 1) hh.objs.size hC what tw ta i #[.str what tw, .int i ta] rest ?_ _ cn cs a ccd cl outer A₀ base h₀ L m _ mean mg mb _ rfl B ((F.push _).push _) X N2 T hcs ?_ ?_ ?_
  · intro p hp
    rcases List.mem_cons.mp hp with rfl | hp
    · exact Nat.ne_of_lt (Nat.lt_succ_self _)
    · exact Nat.ne_of_lt (Nat.lt_succ_of_lt (Heap.lt_size (N p hp).1))
  · show dp + 1 + 12 < recursionLimit; omega
  · first | (show un + 1 + 216 < cLine; omega) | (show un + 2 + 216 < cLine; omega) | (show un + 3 + 216 < cLine; omega) | (show un + 4 + 216 < cLine; omega) | (show un + 5 + 216 < cLine; omega) | (show un + 6 + 216 < cLine; omega)
  · intro h' tk' dx t2 ws F' N'
    exact ⟨rfl, hret _ _ _ _ ⟨_, _, _, _, rfl, rfl, fun p hp => Nat.lt_succ_of_lt (Heap.lt_size (N p hp).1)⟩ F' N'⟩
end

section

section
variable {prog : Program} {w : World} {A : Around} {E : Value → Shared → Prop} {s : Shared} {env : Env}
theorem raiseStmt_X {K : Frag} {x : Sem Value} {Q : Flow → Shared → Prop} {C : Addr} (q : excOk K C = true)
    (h : wpAny (model prog w) A x (fun v s₁ => ∃ e t dc, v = .ref e ∧ K.In s₁.heap ∧ s₁.heap.get? e = some (excObj C t dc .none) ∧ wpAny (model prog w) A (raiseNew (.ref e) : Sem Flow) Q E s₁) E s) :
    wpAny (model prog w) A (raiseStmt env (some x) none) Q E s := by
  have hcB : (Value.ref C :: bmX).contains (.type "BaseException") = true := by rw [List.contains_cons, bmX_base, Bool.or_true]
  unfold raiseStmt
  refine wpAny_bind (wpAny_mono h (fun v s₁ h₁ => ?_) fun _ _ x => x)
  obtain ⟨e, t, dc, rfl, X, he, hE⟩ := h₁
  obtain ⟨nm, qn, NN, bs, sn, sub, ab, col, dd, k0, k1, k2, k3, k5, hC⟩ := exc_cls X q
  obtain ⟨hp, g, d, tk, os⟩ := s₁
  repeat (first | with_reducible exact hE | with_reducible refine wpAny_loadPart_at he ?_ | with_reducible refine wpAny_loadPart_at hC ?_ | (with_reducible refine wpAny_isSubtype_exc hC ?_; rw [hcB]) | wp_step)
theorem raiseNew_in {e e1 : Addr} {oe o1 : Obj} {vs vs1 : Array Value} {Q : Flow → Shared → Prop} (hh : A.handled = some (.ref e1)) (hne : e1 ≠ e) (he : s.heap.get? e = some oe) (hd : oe.data = .fields vs) (hsz : 2 < vs.size)
    (h1 : s.heap.get? e1 = some o1) (hd1 : o1.data = .fields vs1) (h2 : vs1[2]? = some .none) (h : E (.ref e) { s with heap := s.heap.update e (Obj.mapFields (·.setIfInBounds 2 (.ref e1))) }) : wpAny (model prog w) A (raiseNew (.ref e) : Sem Flow) Q E s := by
  unfold raiseNew
  refine wpAny_bind (wpAny_handled ?_)
  rw [hh]
  dsimp only
  rw [if_pos (by simp [bne, hne])]
  refine wpAny_bind (wpAny_holding (wpAny_runValue ?_))
  refine codeAny_builtin (entryFor_of_tree (by kernel_rfl) : entryFor table "proto.unchain" = some Builtin.«proto.unchain») ?_
  unfold Builtin.«proto.unchain»
  refine wpAny_bind (wpAny_field h1 hd1 h2 ?_)
  refine wpAny_pure ?_
  unfold updateField
  refine wpAny_bind (wpAny_bind (wpAny_load he ?_))
  rw [hd]
  dsimp only
  rw [if_pos hsz]
  exact wpAny_update he (wpAny_throw h)
end
section
variable {prog : Program} {w : World} {A : Around} {E : Value → Shared → Prop} {s : Shared} {h₀ : Heap} {L a C : Addr} {m mg mb : Str → Option Value} {name : Str} {scope : Scope} {cd : Value} {K : Frag} {p : Program} {loose : List Str} {x : Str} {np cpos pos : Pos} {e₀ : Expr} {rest : List Expr} {Q : Flow → Shared → Prop}
theorem Raise_X (q : excOk K C = true) (F : Fr h₀ L s.heap m) (X : K.In h₀) (T : TopRead p loose mg mb h₀) (ex : nsIn K mainGlobals x = some (some (.ref C)))
    (h : wpAny (model prog w) A (spliced (backTo cpos (starEach (e₀ :: rest) (envOf name scope L a cd)))) (fun vs s₂ => K.In s₂.heap ∧ wpAny (model prog w) A (call (.ref C) vs)
      (fun v s₃ => ∃ e t dc, v = .ref e ∧ K.In s₃.heap ∧ s₃.heap.get? e = some (excObj C t dc .none) ∧ wpAny (model prog w) A (raiseNew (.ref e) : Sem Flow) Q E s₃) E s₂) E s)
    (he : starEach (e₀ :: rest) (envOf name scope L a cd) = (false, eval e₀ (envOf name scope L a cd)) :: starEach rest (envOf name scope L a cd) := by rfl)
    (hplain : (backTo cpos (starEach rest (envOf name scope L a cd))).any (·.1) = false := by rfl)
    (hk : scope.kind = .function := by rfl) (hx : (envOf name scope L a cd).kindOf x = some .globalImplicit := by rfl) (hd : (x == ("__debug__" : Str)) = false := by decide) :
    wpAny (model prog w) A (exec (.Raise (some (.Call (.Name x np) (e₀ :: rest) [] cpos)) none pos) (envOf name scope L a cd)) Q E s := by
  have hpl : (backTo cpos (starEach (e₀ :: rest) (envOf name scope L a cd))).any (·.1) = false := by rw [he]; show (false || (backTo cpos (starEach rest (envOf name scope L a cd))).any (·.1)) = false; rw [hplain]; rfl
  rw [arm_exec_Raise]
  simp only [evalOpt, Option.map]
  refine wpAny_bind (wpAny_standAt (raiseStmt_X (C := C) (K := K) q ?_))
  refine wpAny_bind (wpAny_mono (wpAny_Call_ofName (wpAny_mono (name_K F X T ex (Q := fun f s₁ => f = .ref C ∧ s₁ = s) ⟨rfl, rfl⟩ hk hx hd) (fun f s₁ h₁ => ?_) fun _ _ x => x)) (fun v s₃ h₃ => wpAny_bind (wpAny_standAt (wpAny_pure h₃))) fun _ _ x => x)
  obtain ⟨rfl, rfl⟩ := h₁
  unfold callWith
  rw [he] at h ⊢
  refine wpAny_bind (wpAny_holding (Calls.evalArgs_plain (wpAny_mono h (fun vs s₂ h₂ => wpAny_bind (wpAny_standAt ?_)) fun _ _ y => y)))
  obtain ⟨X2, h₂⟩ := h₂
  obtain ⟨nm, qn, NN, bs, sn, sub, ab, col, dd, k0, k1, k2, k3, k5, hC⟩ := exc_cls X2 q
  obtain ⟨hp, g, d, tk, os⟩ := s₂
  rw [he] at hpl
  simp only [hpl]
  refine wpAny_bind (wpAny_keeperOf_exc hC ?_)
  exact wpAny_bind (wpAny_mono h₂ (fun v s₃ h₃ => wpAny_bind (wpAny_holding (wpAny_point (wpAny_pure h₃)))) fun _ _ y => y)
end
end

section

/-- a function that raises an exception of the class C -/
def ECon (w : World) (r : Nat) (f : Addr) (vs : List Value) (news : Led) (C : Addr) (Th : Heap → Heap → Addr → (Str → Option Value) → Env → List Env → Addr → Addr → Heap → Prop) : Prop :=
  ∀ (dp un : Nat) (gd : Option (List Code)) (cn : Str) (cs : Scope) (a : Addr) (ccd : Value) (cl : List (Str × Addr)) (outer : List Env) (A₀ : Around) (base h₀ : Heap) (L : Addr) (m : Str → Option Value) (s : Shared)
    (mean : ExcName → Option Value) (mg mb : Str → Option Value) (Q E : Value → Shared → Prop),
    Below A₀ base outer h₀ → Fr h₀ L s.heap m → (pre.heap_1 w.params).In h₀ → (pre.heap_1 w.params).In base → News h₀ L s.heap news →
    Top pre.view_1 (looseW pre.view_1 [Str.ofString "PostError", Str.ofString "CHARSETS"]) mean mg mb h₀ → Top pre.view_1 (looseW pre.view_1 [Str.ofString "PostError", Str.ofString "CHARSETS"]) mean mg mb base → cs.kind = .function →
    dp + 10 + r < recursionLimit → un + 200 + 8 * r < cLine →
    (∀ e h' tk', Th base h₀ L m (envX cn cs L a ccd cl) outer C e h' → E (.ref e) { s with heap := h', toks := tk' }) →
    wpAny (model PySem.Challenge.rw_or0070_01.row.prog w) (ktrTop dp un gd cn cs L a ccd cl outer) (call (.ref f) vs) Q E s
theorem ECon.use {w : World} {r : Nat} {f : Addr} {vs : List Value} {news news₁ : Led} {C : Addr} {Th : Heap → Heap → Addr → (Str → Option Value) → Env → List Env → Addr → Addr → Heap → Prop}
    {dp un : Nat} {gd : Option (List Code)} {cn : Str} {cs : Scope} {a : Addr} {ccd : Value} {cl : List (Str × Addr)} {outer : List Env} {A₀ : Around} {base h₀ : Heap} {L : Addr} {m : Str → Option Value} {s : Shared}
    {mean : ExcName → Option Value} {mg mb : Str → Option Value} {Q E : Value → Shared → Prop} (Cn : ECon w r f vs news₁ C Th) (B : Below A₀ base outer h₀) (F : Fr h₀ L s.heap m) (X : (pre.heap_1 w.params).In h₀) (XB : (pre.heap_1 w.params).In base) (N : News h₀ L s.heap news) (hs : ∀ p ∈ news₁, p ∈ news)
    (T : Top pre.view_1 (looseW pre.view_1 [Str.ofString "PostError", Str.ofString "CHARSETS"]) mean mg mb h₀) (TB : Top pre.view_1 (looseW pre.view_1 [Str.ofString "PostError", Str.ofString "CHARSETS"]) mean mg mb base) (hk : cs.kind = .function) (hd : dp + 10 + r < recursionLimit) (hu : un + 200 + 8 * r < cLine)
    (ret : ∀ e h' tk', Th base h₀ L m (envX cn cs L a ccd cl) outer C e h' → E (.ref e) { s with heap := h', toks := tk' }) :
    wpAny (model PySem.Challenge.rw_or0070_01.row.prog w) (ktrTop dp un gd cn cs L a ccd cl outer) (call (.ref f) vs) Q E s :=
  Cn _ _ _ _ _ _ _ _ _ _ _ _ _ _ _ _ _ _ _ _ B F X XB (fun p hp => N p (hs p hp)) T TB hk hd hu ret
section
variable {prog : Program} {w : World} {A₀ : Around} {E : Value → Shared → Prop} {s' : Shared} {base h₀ : Heap} {outer : List Env} {L a e C : Addr} {m : Str → Option Value} {name : Str} {scope : Scope} {cd : Value}
  {b₀ : Stmt} {suite : List Stmt} {pos np : Pos} {rest : List ExceptHandler} {Q : Flow → Shared → Prop} {KF : Frag} {p : Program} {loose : List Str} {mean : ExcName → Option Value} {mg mb : Str → Option Value} {x : Str}
/-- an except clause of the very class takes it -/
theorem catch_at {g B : Heap} {a0 c : Value} (FG : Fr h₀ L g m) (hsm : g.UpToSlots s'.heap) (hBG : ∀ b o, g.get? b = some o → b ∉ (envOf name scope L a cd :: outer).filterMap (·.frame) → B.get? b = some o) (hw : OnWay B (envOf name scope L a cd :: outer) e (.ref C) a0 c .none s'.heap)
    (K : Below A₀ base outer h₀) (XB : KF.In base) (TB : Top p loose mean mg mb base) (ex : nsIn KF mainGlobals x = some (some (.ref C))) (q : excOk KF C = true)
    (k : ∀ h' g' oe ws, KtsTurn (outer.filterMap (·.frame)) h₀ g' → Fr g' L h' m → Below A₀ base outer g' → KF.In g' → Top p loose mean mg mb g' → News g' L h' [(e, oe)] → oe.data = .fields ws → ws[2]? = some c →
      wpAny (model prog w) ((A₀.deeper (envOf name scope L a cd)).mark (some (.ref e))) (execs (b₀ :: suite) (envOf name scope L a cd)) Q E { s' with heap := h' })
    (hk : scope.kind = .function) (hx : (envOf name scope L a cd).kindOf x = some .globalImplicit) (hd : (x == ("__debug__" : Str)) = false)
    (hE : PassesOwnAt (model prog w) ((A₀.deeper (envOf name scope L a cd)).mark (some (.ref e))) (A₀.deeper (envOf name scope L a cd)) (envOf name scope L a cd) E) :
    wpAny (model prog w) (A₀.deeper (envOf name scope L a cd)) (noteFrame (.ref e) (envOf name scope L a cd))
      (fun _ s₂ => wpAny (model prog w) (A₀.deeper (envOf name scope L a cd)) (setFlight (.ref e) none) (fun _ s₃ =>
        wpAny (model prog w) (A₀.deeper (envOf name scope L a cd)) (handleBy (.ref e) (envOf name scope L a cd) (.ExceptHandler (some (.Name x np)) none (b₀ :: suite) pos :: rest)) Q E s₃) E s₂) E s' := by
  refine note_on (Around.frames_deeper K.stack) rfl hw fun h₄ hw₄ hsm₄ => ?_
  refine land_W (s := { s' with heap := h₄ }) hw₄ fun h₅ hw₅ hsm₅' => ?_
  have hsm₅ := hsm₄.trans hsm₅'
  obtain ⟨g₅, T₅, F₅, K₅⟩ := kts_ground K FG hBG hw₅.1 (hsm.trans hsm₅)
  have X₅ : KF.In g₅ := XB.keeps K₅.stays
  have P₅ : TopRead p loose mg mb g₅ := topRead_of (TB.keeps K₅.stays)
  obtain ⟨ob, hob, hobc⟩ := hw₅.flying.there
  obtain ⟨nm, qn, NN, bs, sn, sub, ab, col, dd, k0, k1, k2, k3, k5, hC⟩ := exc_cls X₅ q
  have hC₅ := F₅.keep _ _ hC
  refine wpAny_handleBy_cons (codeAny_handlers_test (name_K F₅ X₅ P₅ ex ?_ hk hx hd)) (by intro q; cases q)
  refine wpAny_excMatches_sub_self hC₅ hob hobc bmX_base (codeAny_handlers_suite ?_)
  refine land_W (s := { s' with heap := h₅ }) hw₅ fun h₆ hw₆ hsm₆ => ?_
  obtain ⟨g₆, T₆, F₆, K₆⟩ := kts_ground K FG hBG hw₆.1 ((hsm.trans hsm₅).trans hsm₆)
  obtain ⟨w1, w2, w3, oe, ws, T, oT, ts, he, hcl, hdt, h0, h2, r⟩ := id hw₆
  have ne₆ : g₆.get? e = none := T₆.none_ _ (kts_fresh FG hBG w2 fun o ho hm => by
    obtain ⟨_, o', ho', hd⟩ := K.frames.mem hm
    rw [ho] at ho'
    cases ho'
    obtain ⟨sl, hs⟩ := ((hsm.trans hsm₅).trans hsm₆) _ _ (FG.keep _ _ ho) hd
    rw [he] at hs
    cases hs
    exact hd _ hdt)
  exact wpAny_passesOwnAt hE (k h₆ g₆ oe ws T₆ F₆ K₆ (XB.keeps K₆.stays) (TB.keeps K₆.stays) (News.more F₆ News.nil he (fun es n q => by rw [hdt] at q; cases q) ne₆) hdt h2)
end
end

section

/-- a premise about the written part ahead of a tree -/
def InAnd (K : Frag) (s : Shared) (P : Prop) : Prop := K.In s.heap ∧ P
theorem InAnd.mk {K : Frag} {s : Shared} {P : Prop} (X : K.In s.heap) (h : P) : InAnd K s P := ⟨X, h⟩
/-- the exception is made: it is thrown -/
def RaiseEnd (prog : Program) (w : World) (A : Around) (K : Frag) (C : Addr) (Q : Flow → Shared → Prop) (E : Value → Shared → Prop) (v : Value) (s : Shared) : Prop :=
  ∃ e t dc, v = .ref e ∧ K.In s.heap ∧ s.heap.get? e = some (excObj C t dc .none) ∧ wpAny (model prog w) A (raiseNew (.ref e) : Sem Flow) Q E s
theorem RaiseEnd.mk {prog : Program} {w : World} {A : Around} {K : Frag} {C e t : Addr} {dc : Option Addr} {Q : Flow → Shared → Prop} {E : Value → Shared → Prop} {s : Shared} {h₀ : Heap} {L : Addr} {m : Str → Option Value} {rest : Led} (F : Fr h₀ L s.heap m) (X : K.In h₀) (N : News h₀ L s.heap ((e, excObj C t dc .none) :: rest))
    (h : wpAny (model prog w) A (raiseNew (.ref e) : Sem Flow) Q E s) : RaiseEnd prog w A K C Q E (.ref e) s := ⟨e, t, dc, rfl, X.keeps F.keep, (N _ (.head _)).1, h⟩
section
variable {prog : Program} {w : World} {A : Around} {E : Value → Shared → Prop} {s : Shared} {h₀ : Heap} {L a C : Addr} {m mg mb : Str → Option Value} {name : Str} {scope : Scope} {cd : Value} {K : Frag} {p : Program} {loose : List Str} {x : Str} {np cpos pos : Pos} {e₀ : Expr} {rest : List Expr} {Q : Flow → Shared → Prop}
theorem Raise_XE (q : excOk K C = true) (F : Fr h₀ L s.heap m) (X : K.In h₀) (T : TopRead p loose mg mb h₀) (ex : nsIn K mainGlobals x = some (some (.ref C)))
    (h : wpAny (model prog w) A (spliced (backTo cpos (starEach (e₀ :: rest) (envOf name scope L a cd)))) (fun vs s₂ => InAnd K s₂ (wpAny (model prog w) A (call (.ref C) vs) (RaiseEnd prog w A K C Q E) E s₂)) E s)
    (he : starEach (e₀ :: rest) (envOf name scope L a cd) = (false, eval e₀ (envOf name scope L a cd)) :: starEach rest (envOf name scope L a cd) := by rfl)
    (hplain : (backTo cpos (starEach rest (envOf name scope L a cd))).any (·.1) = false := by rfl)
    (hk : scope.kind = .function := by rfl) (hx : (envOf name scope L a cd).kindOf x = some .globalImplicit := by rfl) (hd : (x == ("__debug__" : Str)) = false := by decide) :
    wpAny (model prog w) A (exec (.Raise (some (.Call (.Name x np) (e₀ :: rest) [] cpos)) none pos) (envOf name scope L a cd)) Q E s := Raise_X q F X T ex h he hplain hk hx hd
end
example : True := by ((k_with "call builtin:list.append" => ((k_here; k_extra "AP"))); (k_with "KswEnd" => ((refine Hold.out ?_))); (k_with "InAnd" => ((refine InAnd.mk ?_ ?_; k_in))); (k_with "RaiseEnd" => ((refine Hold.out ?_))); (k_with "exec Raise some none" => ((k_here; k_extra "RX"))); trivial)
theorem strict_bad (w : World) (b : Array UInt8) (cs : Str) (tc t0 : Tok) (ks : List Int) (hk : KBw.bInts b = ks) (hlen : ks.length ≤ 4000) (hcs' : cs = "us-ascii" ∨ cs = "iso-8859-1" ∨ cs = "utf-8")
    (n : Nat) (hn : n ≤ 60) (pos : Nat → Nat) (code : Nat → Int) (len : Nat → Nat) (p0 : pos 0 = 0) (pm : ∀ j, j ≤ n → pos j < ks.length) (ps : ∀ j, j < n → pos (j + 1) = pos j + len j) (hc : ∀ j, j < n → 0 ≤ code j ∧ code j < 1114112) (hb : code n < 0)
    (hs : ∀ j, j ≤ n → ∀ ti news, Con w 8 224 [.str cs tc, .bytes b t0, .int (pos j : Int) ti] news (SignR (code j) (len j) news)) (news : Led) :
    ECon w 12 231 [.str cs tc, .bytes b t0] news 71 Thrown := by
  have key : ∀ c, c ≤ n → code c < 0 ∨ (0 ≤ code c ∧ code c < 1114112 ∧ c < n) := fun c h1 => by
    rcases Nat.lt_or_ge c n with h | h
    · exact .inr ⟨(hc c h).1, (hc c h).2, h⟩
    · have : c = n := by omega
      subst this; exact .inl hb
  have hcl : cs.length ≤ 10 := by rcases hcs' with rfl | rfl | rfl <;> decide
  unfold ECon
  k_fill
  (k_with_none; (k_with "units_room" => ((ktr_units))); (k_with "k_room" => ((ktr_room))); (k_with "k_all" => (first | assumption | exact fun q hq => Nat.ne_of_lt (ktn_ltOf (by assumption) q hq))); (k_with "exec While BoolOp cons nil" => ((k_here; k_extra "W"))); (k_with "exec While Compare cons nil" => ((k_here; k_extra "W"))); (k_with "call ref" => ((k_here; first | k_extra "C" | (k_extra "HOLD"; refine Hold.out ?_)))); (k_with "eval ListComp" => ((k_here; k_extra "L"))); (k_with "pyIter ref" => ((k_here; k_extra "F"))); (k_with "exec For Name Call cons nil" => ((k_here; k_extra "FOR"; (rename Fr _ _ _ _ => lF'); (with_unfolding_all refine' For_invVF lF' ?k1 ?k2 ?_; (case k1 => exact rfl); (case k2 => exact rfl); k_whole)))); (k_with "exec For Name Name cons nil" => ((k_here; k_extra "FOR"; (rename Fr _ _ _ _ => lF'); (with_unfolding_all refine' For_invVF lF' ?k1 ?k2 ?_; (case k1 => exact rfl); (case k2 => exact rfl); k_whole)))); (k_with "compareOp In int bytes" => ((k_here; refine in_bytes_K (by omega) (by omega) ?_))); (k_with "compareOp NotIn int bytes" => ((k_here; refine notin_bytes_K (by omega) (by omega) ?_))); (k_with "pyIter bytes" => ((k_here; k_extra "FB"))); (k_with "call type:bytes" => ((k_here; (with_reducible show wpAny _ _ (call (Value.type "bytes") [Value.bytes _ _]) _ _ _); refine call_bytes_bytes ?_))); (k_with "NE1" => (first | with_reducible assumption | exact And.right (by with_reducible assumption) | exact And.right (And.right (by with_reducible assumption)) | exact And.right (And.right (And.right (by with_reducible assumption))))); (k_with "NE2" => (first | with_reducible assumption | exact And.right (by with_reducible assumption) | exact And.right (And.right (by with_reducible assumption)) | exact And.right (And.right (And.right (by with_reducible assumption))) | exact And.right (And.right (And.right (And.right (by k_extra "NE1")))))); (k_with "NE3" => (first | with_reducible assumption | exact And.right (by with_reducible assumption) | exact And.right (And.right (by with_reducible assumption)) | exact And.right (And.right (And.right (by with_reducible assumption))) | exact And.right (And.right (And.right (And.right (by k_extra "NE2")))))); (k_with "kwd_less" => (first | with_reducible assumption | exact And.left (by k_extra "NE3") | exact And.right (by k_extra "NE3"))); (k_with "k_ne" => (((try dsimp only); first | with_reducible assumption | exact Ne.symm (by with_reducible assumption) | (refine ne_gt ?_; kwd_less) | (refine ne_lt ?_; kwd_less) | kwd_less | (refine Ne.symm ?_; kwd_less)))); (k_with "ktr_room" => (first | exact room_lt (by assumption) (by rfl) | exact room_same (by assumption) (by rfl))); (k_with "ktr_units" => (exact units_lt (by assumption) (by rfl))); (k_with "eval Constant bytes" => ((refine xs_bytes ?_))); (k_with "binaryOp Sub int int" => ((refine xs_sub ?_))); (k_with "binaryOp Mod int int" => ((k_here; refine xs_mod (by decide) ?_))); (k_with "newList" => ((k_here; k_dflt (refine' xs_list ?xlF ?xlN ?_; (case xlF => k_asm); (case xlN => k_asm); k_whole); intro _ _ _ _ xll; (try k_lt xll); (try k_sweep)))); (k_with "eval Constant int" => ((refine xs_int ?_))); (k_with "eval Constant str" => ((refine xs_str ?_))); (k_with "binaryOp Add int int" => ((refine xs_add ?_))); (k_with "storeName" => ((k_here; k_dflt (refine' xs_store ?xsF ?xsN ?_ ?xsa ?xsb; (case xsF => k_asm); (case xsN => k_asm); (case xsa => rfl); (case xsb => rfl); k_whole; intro _ _ _; (try k_sweep))))); (k_with "newTuple" => ((k_here; kup_bare; k_dflt (refine' xs_tuple ?xtF ?xtN ?_ ?xtz; (case xtF => k_asm); (case xtN => k_asm); (case xtz => kmk_size)); intro _ _ _ _ xtl; (try k_lt xtl); (try k_sweep)))); (k_with "call builtin:list.append" => ((k_here; k_extra "AP"))); (k_with "KswEnd" => ((refine Hold.out ?_))); (k_with "InAnd" => ((refine InAnd.mk ?_ ?_; k_in))); (k_with "RaiseEnd" => ((refine Hold.out ?_))); (k_with "exec Raise some none" => ((k_here; k_extra "RX"))))
  intro dp un gd cn cs' a ccd cl outer A₀ base h₀ L m s mean mg mb Q E B F X XB N T TB hcs hdp hun hret
  refine wpAny_call ?_
  k_dflt ktr_enter
  k_with "HOLD" => skip
  k_with "RX" => (k_dflt (refine' Raise_XE (C := 71) (excOk_ w (.inl rfl)) ?F ?X ?T ?ex ?_ ?he ?hp ?hk ?hx ?hd; (case F => k_asm); (case X => k_asm); (case T => k_asm); (case ex => k_is); (case he => rfl); (case hp => rfl); (case hk => rfl); (case hx => rfl); (case hd => decide); k_whole))
  k_with "C" => (first
    | ((with_reducible show wpAny _ _ (call (Value.ref 191) _) _ _ _); k_dflt (refine' Con.use5 (need_charset_con w cs tc hcs' _) ?B ?F ?X ?N ?T ?hk ?hd ?hu ?_; (first | (((case N => k_asm); (case B => k_asm); (case F => k_asm); (case X => k_asm); (case T => k_asm); (case hk => first | exact rfl | assumption); (case hd => ktr_room); (case hu => ktr_units))) | tb_start)); intro v9 h9 tk9 hP9 F9 N9; subst hP9; (try dsimp only))
    | ((with_reducible show wpAny _ _ (call (Value.ref 224) _) _ _ _); have hkey9 := key c9 hlo9; k_dflt (refine' Con.useR5 (hs c9 hlo9 _ _) ?B ?F ?X ?N (fun p hp => hp) ?T ?hk ?hd ?hu ?_; (first | (((case N => k_asm); (case B => k_asm); (case F => k_asm); (case X => k_asm); (case T => k_asm); (case hk => first | exact rfl | assumption); (case hd => ktr_room); (case hu => ktr_units))) | tb_start)); intro v9 h9 tk9 n9 hP9 F9 N9; obtain ⟨d9, ta9, tb9, hP9, hn9⟩ := hP9; subst hP9; subst hn9; (try dsimp only))
    | ((with_reducible show wpAny _ _ (call (Value.ref 71) _) _ _ _); k_dflt (refine' Con.useR5 (exc_con w 71 (.inl rfl) _ _ _ _ _).con ?B ?F ?X ?N (fun p hp => hp) ?T ?hk ?hd ?hu ?_; (first | (((case N => k_asm); (case B => k_asm); (case F => k_asm); (case X => k_asm); (case T => k_asm); (case hk => first | exact rfl | assumption); (case hd => ktr_room); (case hu => ktr_units))) | tb_start)); intro v9 h9 tk9 n9 hP9 F9 N9; obtain ⟨e9, t9, dx9, ws9, hP9, hn9, hl9⟩ := hP9; subst hP9; subst hn9; (try dsimp only)))
  k_with "W" => (with_reducible rename Fr _ _ _ _ => wF; with_reducible rename News _ _ _ _ => wN; obtain ⟨l9, hl9⟩ := news_head wN; subst hl9; refine' ksw_while (σ := Nat × Int × Tok × List Value × Nat) (fun c => (l9, W.listOf c.2.2.2.1.toArray c.2.2.2.2) :: news) (fun c => [(Str.ofString "at", Value.int c.2.1 c.2.2.1)]) (fun _ => True) [Str.ofString "code", Str.ofString "length"] (fun c => c.1 ≤ n ∧ c.2.1 = (pos c.1 : Int) ∧ c.2.2.2.1.length = c.1) (fun c => n - c.1) (0, 0, ?tok9, [], 0) wF wN trivial ?hk9 ?hp9 ?turn; (case hk9 => exact List.forall_mem_cons.mpr ⟨by with_unfolding_all rfl, List.forall_mem_nil _⟩); (case hp9 => exact ⟨Nat.zero_le _, (by dsimp only; rw [p0]; simp), rfl⟩); clear wF wN; intro c9 u9 h9 tk9 hf9 hp9 F9 N9; obtain ⟨c9, z9, tc9, ys9, k9⟩ := c9; dsimp only at hp9 N9 F9 ⊢; obtain ⟨hlo9, rfl, hS9⟩ := hp9)
  k_with "AP" => (with_reducible rename News _ _ _ _ => wN; k_dflt (refine' append_K (D := l9) (news := (l9, W.listOf ys9.toArray k9) :: news) (news' := (l9, W.listOf (ys9 ++ [_]).toArray (k9 + 1)) :: news) ?k1 (fun p hp => wN p (.tail _ hp)) ?k3 ?_ ?z; (case k1 => k_asm); (case k3 => (rw [List.push_toArray]; exact Upd.head (all_of (by assumption)))); (case z => (rw [List.size_toArray, hS9, sizeLine_eq]; omega)); k_whole); clear wN; intro h' F' N')
  k_steps
  all_goals first
    | (exfalso; have := pm c9 hlo9; omega)
    | (unfold Hold
       refine RaiseEnd.mk (by assumption) (by assumption) N9 (wpAny_raiseNew_none rfl (leave_newX (by assumption) (by assumption) (KtsTurn.refl) (by assumption) N9 (by assumption) rfl fun h' B hs hB hBG hw => ?_))
       exact hret _ _ _ ⟨_, _, _, by assumption, hs, hB, hBG, hw⟩)
    | (unfold Hold
       have hlt9 : c9 < n := by omega
       refine' ksw_end (c9 + 1, ((pos c9 : Nat) : Int) + ((len c9 : Nat) : Int), ?tokB, ys9 ++ [_], k9 + 1) (by assumption) (by assumption) (fun p hp => hp) trivial ?hkB ?sameB ⟨hlt9, ?ppB, ?ssB⟩ (by dsimp only; omega)
       case hkB => exact List.forall_mem_cons.mpr ⟨by with_unfolding_all rfl, List.forall_mem_nil _⟩
       case sameB => intro z h1 h2; simp only [List.forall_mem_cons, List.forall_mem_nil, and_true, ne_eq] at h1; simp at h2; simp [h1, h2, kstB, List.lookup]
       case ppB => dsimp only; rw [ps c9 hlt9]; simp
       case ssB => dsimp only; rw [List.length_append, hS9]; rfl)
end

section

example : True := by ((k_with "CompEnd" => (((with_reducible rename News _ _ _ _ => nX); refine CompEnd.intro (by assumption) nX _ (fun p hp => hp) (by first | assumption | (simp only [LCg.Off3, and_true]; first | assumption | (refine ⟨?_, ?_⟩ <;> assumption))) (by k_mem) ?_; clear nX))); (k_with "SrcTup" => ((unfold SrcTup; refine ⟨_, _, _, rfl, rfl, by k_asm, by k_asm, by k_mem, by first | size_fits | exact Nat.le_of_ble_eq_true rfl, fun g' => ?_⟩; k_dflt lct_lit))); trivial)
theorem test_no {M : Model} {A : Around} {E : Value → Shared → Prop} {s : Shared} {x : Expr} {env : Env} {c : _} {Q : Bool → Shared → Prop} (h : wpAny M A (isTrue x env c) (fun b s' => b = false ∧ ∃ tk, s' = { s with toks := tk }) E s) (k : ∀ tk, Q false { s with toks := tk }) : wpAny M A (isTrue x env c) Q E s :=
  wpAny_mono h (fun b s' hj => by obtain ⟨rfl, tk, rfl⟩ := hj; exact k tk) fun _ _ x => x
example : True := by ((k_with "isTrue BoolOp" => ((k_here; k_extra "TB"))); trivial)
theorem len_3 {c n : Int} (h : (0 ≤ c ∧ c < 128 ∧ n = 1) ∨ (128 ≤ c ∧ c < 2048 ∧ n = 2) ∨ (2048 ≤ c ∧ c < 55296 ∧ n = 3) ∨ (57343 < c ∧ c < 65536 ∧ n = 3)) (h1 : 2047 < c) : n = 3 := by omega
theorem len_2 {c n : Int} (h : (0 ≤ c ∧ c < 128 ∧ n = 1) ∨ (128 ≤ c ∧ c < 2048 ∧ n = 2) ∨ (2048 ≤ c ∧ c < 55296 ∧ n = 3) ∨ (57343 < c ∧ c < 65536 ∧ n = 3)) (h1 : 127 < c) (h2 : ¬2047 < c) : n = 2 := by omega
theorem len_1 {c n : Int} (h : (0 ≤ c ∧ c < 128 ∧ n = 1) ∨ (128 ≤ c ∧ c < 2048 ∧ n = 2) ∨ (2048 ≤ c ∧ c < 55296 ∧ n = 3) ∨ (57343 < c ∧ c < 65536 ∧ n = 3)) (h1 : ¬127 < c) : n = 1 := by omega
theorem len_r {c n : Int} (h : (0 ≤ c ∧ c < 128 ∧ n = 1) ∨ (128 ≤ c ∧ c < 2048 ∧ n = 2) ∨ (2048 ≤ c ∧ c < 55296 ∧ n = 3) ∨ (57343 < c ∧ c < 65536 ∧ n = 3)) : 0 ≤ c ∧ c < 65536 ∧ ¬(55296 ≤ c ∧ c ≤ 57343) := by omega
theorem len_con (w : World) (c : Int) (n : Int) (tk : Tok) (h : (0 ≤ c ∧ c < 128 ∧ n = 1) ∨ (128 ≤ c ∧ c < 2048 ∧ n = 2) ∨ (2048 ≤ c ∧ c < 55296 ∧ n = 3) ∨ (57343 < c ∧ c < 65536 ∧ n = 3)) (news : Led) :
    Con w 3 196 [.int c tk] news (fun v n' => n' = news ∧ ∃ t, v = .int n t) := by
  obtain ⟨h0, h9, hs⟩ := len_r h
  refine Con.mk5 ?_
  k_fill
  (k_with_none; (k_with "units_room" => ((ktr_units))); (k_with "k_room" => ((ktr_room))); (k_with "k_all" => (first | assumption | exact fun q hq => Nat.ne_of_lt (ktn_ltOf (by assumption) q hq))); (k_with "exec While BoolOp cons nil" => ((k_here; k_extra "W"))); (k_with "exec While Compare cons nil" => ((k_here; k_extra "W"))); (k_with "call ref" => ((k_here; first | k_extra "C" | (k_extra "HOLD"; refine Hold.out ?_)))); (k_with "eval ListComp" => ((k_here; k_extra "L"))); (k_with "pyIter ref" => ((k_here; k_extra "F"))); (k_with "exec For Name Call cons nil" => ((k_here; k_extra "FOR"; (rename Fr _ _ _ _ => lF'); (with_unfolding_all refine' For_invVF lF' ?k1 ?k2 ?_; (case k1 => exact rfl); (case k2 => exact rfl); k_whole)))); (k_with "exec For Name Name cons nil" => ((k_here; k_extra "FOR"; (rename Fr _ _ _ _ => lF'); (with_unfolding_all refine' For_invVF lF' ?k1 ?k2 ?_; (case k1 => exact rfl); (case k2 => exact rfl); k_whole)))); (k_with "compareOp In int bytes" => ((k_here; refine in_bytes_K (by omega) (by omega) ?_))); (k_with "compareOp NotIn int bytes" => ((k_here; refine notin_bytes_K (by omega) (by omega) ?_))); (k_with "pyIter bytes" => ((k_here; k_extra "FB"))); (k_with "call type:bytes" => ((k_here; (with_reducible show wpAny _ _ (call (Value.type "bytes") [Value.bytes _ _]) _ _ _); refine call_bytes_bytes ?_))); (k_with "NE1" => (first | with_reducible assumption | exact And.right (by with_reducible assumption) | exact And.right (And.right (by with_reducible assumption)) | exact And.right (And.right (And.right (by with_reducible assumption))))); (k_with "NE2" => (first | with_reducible assumption | exact And.right (by with_reducible assumption) | exact And.right (And.right (by with_reducible assumption)) | exact And.right (And.right (And.right (by with_reducible assumption))) | exact And.right (And.right (And.right (And.right (by k_extra "NE1")))))); (k_with "NE3" => (first | with_reducible assumption | exact And.right (by with_reducible assumption) | exact And.right (And.right (by with_reducible assumption)) | exact And.right (And.right (And.right (by with_reducible assumption))) | exact And.right (And.right (And.right (And.right (by k_extra "NE2")))))); (k_with "kwd_less" => (first | with_reducible assumption | exact And.left (by k_extra "NE3") | exact And.right (by k_extra "NE3"))); (k_with "k_ne" => (((try dsimp only); first | with_reducible assumption | exact Ne.symm (by with_reducible assumption) | (refine ne_gt ?_; kwd_less) | (refine ne_lt ?_; kwd_less) | kwd_less | (refine Ne.symm ?_; kwd_less)))); (k_with "ktr_room" => (first | exact room_lt (by assumption) (by rfl) | exact room_same (by assumption) (by rfl))); (k_with "ktr_units" => (exact units_lt (by assumption) (by rfl))); (k_with "eval Constant bytes" => ((refine xs_bytes ?_))); (k_with "binaryOp Sub int int" => ((refine xs_sub ?_))); (k_with "binaryOp Mod int int" => ((k_here; refine xs_mod (by decide) ?_))); (k_with "newList" => ((k_here; k_dflt (refine' xs_list ?xlF ?xlN ?_; (case xlF => k_asm); (case xlN => k_asm); k_whole); intro _ _ _ _ xll; (try k_lt xll); (try k_sweep)))); (k_with "eval Constant int" => ((refine xs_int ?_))); (k_with "eval Constant str" => ((refine xs_str ?_))); (k_with "binaryOp Add int int" => ((refine xs_add ?_))); (k_with "storeName" => ((k_here; k_dflt (refine' xs_store ?xsF ?xsN ?_ ?xsa ?xsb; (case xsF => k_asm); (case xsN => k_asm); (case xsa => rfl); (case xsb => rfl); k_whole; intro _ _ _; (try k_sweep))))); (k_with "newTuple" => ((k_here; kup_bare; k_dflt (refine' xs_tuple ?xtF ?xtN ?_ ?xtz; (case xtF => k_asm); (case xtN => k_asm); (case xtz => kmk_size)); intro _ _ _ _ xtl; (try k_lt xtl); (try k_sweep)))); (k_with "CompEnd" => (((with_reducible rename News _ _ _ _ => nX); refine CompEnd.intro (by assumption) nX _ (fun p hp => hp) (by first | assumption | (simp only [LCg.Off3, and_true]; first | assumption | (refine ⟨?_, ?_⟩ <;> assumption))) (by k_mem) ?_; clear nX))); (k_with "SrcTup" => ((unfold SrcTup; refine ⟨_, _, _, rfl, rfl, by k_asm, by k_asm, by k_mem, by first | size_fits | exact Nat.le_of_ble_eq_true rfl, fun g' => ?_⟩; k_dflt lct_lit))); (k_with "isTrue BoolOp" => ((k_here; k_extra "TB"))))
  intro dp un gd cn cs a ccd cl outer A₀ base h₀ L m hp0 gn0 dr0 tk0 os0 mean mg mb Q E B F X N T hcs hdp hun hret
  have h7 := fun q => len_3 h q
  have h8 := fun q1 q2 => len_2 h q1 q2
  have h6 := fun q => len_1 h q
  clear h
  refine wpAny_call ?_
  k_dflt (first | ((refine' code_defC ?k1 ?k2 ?k3 ?k4 ?k5 ?kA ?kF ?kK ?k6 ?k7 ?k8 ?k9 ?kB ?kD ?_ ?c2 ?c3 ?c4; (case kA => exact rfl); (case kF => exact rfl); (case kK => assumption); (case k1 => k_asm); (case k2 => k_asm); (case k3 => k_asm); (case k4 => k_asm); (case k5 => k_asm); (case k6 => k_is); (case k7 => k_is); (case k8 => ktr_room); (case k9 => exact BindsTo.of_eq rfl); (case kB => exact rfl); (case kD => decide +kernel); (case c2 => exact rfl); (case c3 => exact rfl); (case c4 => exact rfl); k_whole; intro g' L' h' tk' cells' FG' F' N' Y' B' X' T' l1; (try k_lt l1); k_cells Y'; (try simp only [List.cons_append, List.nil_append] at N'); (try dsimp only); (try k_fold))) | ktr_enter)
  k_with "HOLD" => skip
  k_with "TB" => ((with_reducible show wpAny _ _ (isTrue (Expr.BoolOp _ (_ :: _ :: _) _) _ _) _ _ _); refine' test_no ?jw ?jk; rotate_left; (intro tk7; dsimp only))
  k_with "L" => (k_dflt (refine' ListComp_TT (by k_asm) (by with_unfolding_all rfl) (by decide) (by rfl) (by decide) (by rfl) ?_))
  k_steps
  · rw [h7 (by assumption)] at hret
    exact hret _ _ _ _ ⟨rfl, _, rfl⟩ (by assumption) (fun p hp => (by assumption : News h₀ L _ _) p (.tail _ (.tail _ (.tail _ hp))))
  · rw [h8 (by assumption) (by assumption)] at hret
    exact hret _ _ _ _ ⟨rfl, _, rfl⟩ (by assumption) (fun p hp => (by assumption : News h₀ L _ _) p (.tail _ (.tail _ (.tail _ hp))))
  · rw [h6 (by assumption)] at hret
    exact hret _ _ _ _ ⟨rfl, _, rfl⟩ (by assumption) (fun p hp => (by assumption : News h₀ L _ _) p (.tail _ (.tail _ (.tail _ hp))))
end

section

def enc (c : Int) : List Int := if c < 128 then [c] else if c < 2048 then [192 + c / 64, 128 + c % 64] else [224 + c / 4096, 128 + c / 64 % 64, 128 + c % 64]
theorem enc1 {c : Int} (h : c < 128) : enc c = [c] := by unfold enc; rw [if_pos h]
theorem enc2 {c : Int} (h1 : 128 ≤ c) (h2 : c < 2048) : enc c = [256 - Int.fdiv 256 (2 ^ Int.toNat 2) + c.fdiv 64, 128 + c.fmod 64] := by
  unfold enc
  rw [if_neg (by omega), if_pos h2, Int.fdiv_eq_ediv_of_nonneg c (by decide), Int.fmod_eq_emod_of_nonneg _ (by decide), show 256 - Int.fdiv 256 (2 ^ Int.toNat 2) = 192 from by decide]
theorem enc3 {c : Int} (h1 : 2048 ≤ c) : enc c = [256 - Int.fdiv 256 (2 ^ Int.toNat 3) + (c.fdiv 64).fdiv 64, 128 + (c.fdiv 64).fmod 64, 128 + c.fmod 64] := by
  unfold enc
  rw [if_neg (by omega), if_neg (by omega), Int.fdiv_eq_ediv_of_nonneg c (by decide), Int.fdiv_eq_ediv_of_nonneg (c / 64) (by decide), Int.fmod_eq_emod_of_nonneg _ (by decide), Int.fmod_eq_emod_of_nonneg _ (by decide), show 256 - Int.fdiv 256 (2 ^ Int.toNat 3) = 224 from by decide, show c / 64 / 64 = c / 4096 by omega]
theorem UnrEnd_2 {h₀ : Heap} {L I d : Addr} {it o : Obj} {rest : (Str → Option Value) → List (Addr × Obj) → Prop} {s₁ : Shared} {h' : Heap} {tk : Nat} {m' : Str → Option Value} {news : List (Addr × Obj)} (l : d < I ∧ AllLt I news) (F : Fr h₀ L h' m') (N : News h₀ L h' ((I, it) :: (d, o) :: news))
    (r : rest m' ((d, o) :: news)) : UnrEnd h₀ L s₁ I it rest { s₁ with heap := h', toks := tk } :=
  UnrEnd.intro F N _ (fun p hp => hp) (fun p hp => by
    rcases List.mem_cons.mp hp with rfl | hp
    · exact Nat.ne_of_lt l.1
    · exact Nat.ne_of_lt (ktn_ltOf l.2 p hp)) r
example : True := by ((k_with "UnrEnd" => (((with_reducible rename News _ _ _ _ => nX); refine UnrEnd_2 (by assumption) (by assumption) nX ?_; clear nX))); trivial)
theorem oct_con (w : World) (c : Int) (tk : Tok) (h : (0 ≤ c ∧ c < 128) ∨ (128 ≤ c ∧ c < 2048) ∨ (2048 ≤ c ∧ c < 55296) ∨ (57343 < c ∧ c < 65536)) (news : Led) :
    Con w 6 203 [.int c tk] news (fun v n' => ∃ D ys k, v = .ref D ∧ n' = (D, W.listOf ys k) :: news ∧ IntsAre ys.toList (enc c) ∧ ys.size ≤ 3 ∧ AllLt D news) := by
  rcases h with ⟨hc1, hc2⟩ | ⟨hc1, hc2⟩ | ⟨hc1, hc2⟩ | ⟨hc1, hc2⟩
  all_goals
    refine Con.mk5 ?_
    k_fill
    (k_with_none; (k_with "units_room" => ((ktr_units))); (k_with "k_room" => ((ktr_room))); (k_with "k_all" => (first | assumption | exact fun q hq => Nat.ne_of_lt (ktn_ltOf (by assumption) q hq))); (k_with "exec While BoolOp cons nil" => ((k_here; k_extra "W"))); (k_with "exec While Compare cons nil" => ((k_here; k_extra "W"))); (k_with "call ref" => ((k_here; first | k_extra "C" | (k_extra "HOLD"; refine Hold.out ?_)))); (k_with "eval ListComp" => ((k_here; k_extra "L"))); (k_with "pyIter ref" => ((k_here; k_extra "F"))); (k_with "exec For Name Call cons nil" => ((k_here; k_extra "FOR"; (rename Fr _ _ _ _ => lF'); (with_unfolding_all refine' For_invVF lF' ?k1 ?k2 ?_; (case k1 => exact rfl); (case k2 => exact rfl); k_whole)))); (k_with "exec For Name Name cons nil" => ((k_here; k_extra "FOR"; (rename Fr _ _ _ _ => lF'); (with_unfolding_all refine' For_invVF lF' ?k1 ?k2 ?_; (case k1 => exact rfl); (case k2 => exact rfl); k_whole)))); (k_with "compareOp In int bytes" => ((k_here; refine in_bytes_K (by omega) (by omega) ?_))); (k_with "compareOp NotIn int bytes" => ((k_here; refine notin_bytes_K (by omega) (by omega) ?_))); (k_with "pyIter bytes" => ((k_here; k_extra "FB"))); (k_with "call type:bytes" => ((k_here; (with_reducible show wpAny _ _ (call (Value.type "bytes") [Value.bytes _ _]) _ _ _); refine call_bytes_bytes ?_))); (k_with "NE1" => (first | with_reducible assumption | exact And.right (by with_reducible assumption) | exact And.right (And.right (by with_reducible assumption)) | exact And.right (And.right (And.right (by with_reducible assumption))))); (k_with "NE2" => (first | with_reducible assumption | exact And.right (by with_reducible assumption) | exact And.right (And.right (by with_reducible assumption)) | exact And.right (And.right (And.right (by with_reducible assumption))) | exact And.right (And.right (And.right (And.right (by k_extra "NE1")))))); (k_with "NE3" => (first | with_reducible assumption | exact And.right (by with_reducible assumption) | exact And.right (And.right (by with_reducible assumption)) | exact And.right (And.right (And.right (by with_reducible assumption))) | exact And.right (And.right (And.right (And.right (by k_extra "NE2")))))); (k_with "kwd_less" => (first | with_reducible assumption | exact And.left (by k_extra "NE3") | exact And.right (by k_extra "NE3"))); (k_with "k_ne" => (((try dsimp only); first | with_reducible assumption | exact Ne.symm (by with_reducible assumption) | (refine ne_gt ?_; kwd_less) | (refine ne_lt ?_; kwd_less) | kwd_less | (refine Ne.symm ?_; kwd_less)))); (k_with "ktr_room" => (first | exact room_lt (by assumption) (by rfl) | exact room_same (by assumption) (by rfl))); (k_with "ktr_units" => (exact units_lt (by assumption) (by rfl))); (k_with "eval Constant bytes" => ((refine xs_bytes ?_))); (k_with "binaryOp Sub int int" => ((refine xs_sub ?_))); (k_with "binaryOp Mod int int" => ((k_here; refine xs_mod (by decide) ?_))); (k_with "newList" => ((k_here; k_dflt (refine' xs_list ?xlF ?xlN ?_; (case xlF => k_asm); (case xlN => k_asm); k_whole); intro _ _ _ _ xll; (try k_lt xll); (try k_sweep)))); (k_with "eval Constant int" => ((refine xs_int ?_))); (k_with "eval Constant str" => ((refine xs_str ?_))); (k_with "binaryOp Add int int" => ((refine xs_add ?_))); (k_with "storeName" => ((k_here; k_dflt (refine' xs_store ?xsF ?xsN ?_ ?xsa ?xsb; (case xsF => k_asm); (case xsN => k_asm); (case xsa => rfl); (case xsb => rfl); k_whole; intro _ _ _; (try k_sweep))))); (k_with "newTuple" => ((k_here; kup_bare; k_dflt (refine' xs_tuple ?xtF ?xtN ?_ ?xtz; (case xtF => k_asm); (case xtN => k_asm); (case xtz => kmk_size)); intro _ _ _ _ xtl; (try k_lt xtl); (try k_sweep)))); (k_with "UnrEnd" => (((with_reducible rename News _ _ _ _ => nX); refine UnrEnd_2 (by assumption) (by assumption) nX ?_; clear nX))))
    intro dp un gd cn cs a ccd cl outer A₀ base h₀ L m hp0 gn0 dr0 tk0 os0 mean mg mb Q E B F X N T hcs hdp hun hret
    refine wpAny_call ?_
    k_dflt ktr_enter
    k_with "HOLD" => skip
    k_with "FOR" => skip
    k_with "F" => k_rangeUnr
    k_with "C" => ((with_reducible show wpAny _ _ (call (Value.ref 196) _) _ _ _); k_dflt (refine' Con.use5 (len_con w c _ _ (by first | exact .inl ⟨hc1, hc2, rfl⟩ | exact .inr (.inl ⟨hc1, hc2, rfl⟩) | exact .inr (.inr (.inl ⟨hc1, hc2, rfl⟩)) | exact .inr (.inr (.inr ⟨hc1, hc2, rfl⟩))) _) ?B ?F ?X ?N ?T ?hk ?hd ?hu ?_; (first | (((case N => k_asm); (case B => k_asm); (case F => k_asm); (case X => k_asm); (case T => k_asm); (case hk => first | exact rfl | assumption); (case hd => ktr_room); (case hu => ktr_units))) | tb_start)); intro v9 h9 tk9 hP9 F9 N9; obtain ⟨t9, hP9⟩ := hP9; subst hP9; (try dsimp only))
    k_steps
    first
    | refine hret _ _ _ _ ⟨_, _, _, rfl, rfl, ?_, ?_, ?_⟩ (by assumption) (by assumption)
    | refine hret _ _ _ _ ⟨_, _, _, rfl, rfl, ?_, ?_, ?_⟩ (by assumption) (fun p hp => (by assumption : News h₀ L _ _) p (by rcases List.mem_cons.mp hp with rfl | hp; exact .head _; first | exact .tail _ (.tail _ hp) | exact .tail _ (.tail _ (.tail _ hp))| exact .tail _ (.tail _ (.tail _ (.tail _ hp)))))
    · first
      | (rw [enc1 (by omega)]; exact .cons _ _ .nil)
      | (rw [enc2 (by omega) (by omega)]; exact .cons _ _ (.cons _ _ .nil))
      | (rw [enc3 (by omega)]; exact .cons _ _ (.cons _ _ (.cons _ _ .nil)))
      | fail
    · exact Nat.le_of_ble_eq_true rfl
    · first
      | exact (by assumption : _ ∧ AllLt _ _).2
      | exact (by assumption : _ ∧ _ ∧ AllLt _ _).2.2
end

section

def goodC (c : Nat) : Bool := decide (c < 55296 ∨ (57343 < c ∧ c < 65536))
theorem goodC_cases {c : Nat} (h : goodC c = true) : (0 ≤ (c : Int) ∧ (c : Int) < 128) ∨ (128 ≤ (c : Int) ∧ (c : Int) < 2048) ∨ (2048 ≤ (c : Int) ∧ (c : Int) < 55296) ∨ (57343 < (c : Int) ∧ (c : Int) < 65536) := by
  unfold goodC at h
  have h := of_decide_eq_true h
  omega
theorem has_con (w : World) (c : Nat) (tc tk : Tok) (h : goodC c = true) (news : Led) : Con w 5 238 [.str "utf-8" tc, .int (c : Int) tk] news (fun v n' => n' = news ∧ v = .bool true) := by
  have key : ∃ n : Int, 0 < n ∧ ((0 ≤ (c : Int) ∧ (c : Int) < 128 ∧ n = 1) ∨ (128 ≤ (c : Int) ∧ (c : Int) < 2048 ∧ n = 2) ∨ (2048 ≤ (c : Int) ∧ (c : Int) < 55296 ∧ n = 3) ∨ (57343 < (c : Int) ∧ (c : Int) < 65536 ∧ n = 3)) := by
    rcases goodC_cases h with q | q | q | q
    · exact ⟨1, by decide, .inl ⟨q.1, q.2, rfl⟩⟩
    · exact ⟨2, by decide, .inr (.inl ⟨q.1, q.2, rfl⟩)⟩
    · exact ⟨3, by decide, .inr (.inr (.inl ⟨q.1, q.2, rfl⟩))⟩
    · exact ⟨3, by decide, .inr (.inr (.inr ⟨q.1, q.2, rfl⟩))⟩
  obtain ⟨n, hn, hcn⟩ := key
  refine Con.mk5 ?_
  k_fill
  (k_with_none; (k_with "units_room" => ((ktr_units))); (k_with "k_room" => ((ktr_room))); (k_with "k_all" => (first | assumption | exact fun q hq => Nat.ne_of_lt (ktn_ltOf (by assumption) q hq))); (k_with "exec While BoolOp cons nil" => ((k_here; k_extra "W"))); (k_with "exec While Compare cons nil" => ((k_here; k_extra "W"))); (k_with "call ref" => ((k_here; first | k_extra "C" | (k_extra "HOLD"; refine Hold.out ?_)))); (k_with "eval ListComp" => ((k_here; k_extra "L"))); (k_with "pyIter ref" => ((k_here; k_extra "F"))); (k_with "exec For Name Call cons nil" => ((k_here; k_extra "FOR"; (rename Fr _ _ _ _ => lF'); (with_unfolding_all refine' For_invVF lF' ?k1 ?k2 ?_; (case k1 => exact rfl); (case k2 => exact rfl); k_whole)))); (k_with "exec For Name Name cons nil" => ((k_here; k_extra "FOR"; (rename Fr _ _ _ _ => lF'); (with_unfolding_all refine' For_invVF lF' ?k1 ?k2 ?_; (case k1 => exact rfl); (case k2 => exact rfl); k_whole)))); (k_with "compareOp In int bytes" => ((k_here; refine in_bytes_K (by omega) (by omega) ?_))); (k_with "compareOp NotIn int bytes" => ((k_here; refine notin_bytes_K (by omega) (by omega) ?_))); (k_with "pyIter bytes" => ((k_here; k_extra "FB"))); (k_with "call type:bytes" => ((k_here; (with_reducible show wpAny _ _ (call (Value.type "bytes") [Value.bytes _ _]) _ _ _); refine call_bytes_bytes ?_))); (k_with "NE1" => (first | with_reducible assumption | exact And.right (by with_reducible assumption) | exact And.right (And.right (by with_reducible assumption)) | exact And.right (And.right (And.right (by with_reducible assumption))))); (k_with "NE2" => (first | with_reducible assumption | exact And.right (by with_reducible assumption) | exact And.right (And.right (by with_reducible assumption)) | exact And.right (And.right (And.right (by with_reducible assumption))) | exact And.right (And.right (And.right (And.right (by k_extra "NE1")))))); (k_with "NE3" => (first | with_reducible assumption | exact And.right (by with_reducible assumption) | exact And.right (And.right (by with_reducible assumption)) | exact And.right (And.right (And.right (by with_reducible assumption))) | exact And.right (And.right (And.right (And.right (by k_extra "NE2")))))); (k_with "kwd_less" => (first | with_reducible assumption | exact And.left (by k_extra "NE3") | exact And.right (by k_extra "NE3"))); (k_with "k_ne" => (((try dsimp only); first | with_reducible assumption | exact Ne.symm (by with_reducible assumption) | (refine ne_gt ?_; kwd_less) | (refine ne_lt ?_; kwd_less) | kwd_less | (refine Ne.symm ?_; kwd_less)))); (k_with "ktr_room" => (first | exact room_lt (by assumption) (by rfl) | exact room_same (by assumption) (by rfl))); (k_with "ktr_units" => (exact units_lt (by assumption) (by rfl))); (k_with "eval Constant bytes" => ((refine xs_bytes ?_))); (k_with "binaryOp Sub int int" => ((refine xs_sub ?_))); (k_with "binaryOp Mod int int" => ((k_here; refine xs_mod (by decide) ?_))); (k_with "newList" => ((k_here; k_dflt (refine' xs_list ?xlF ?xlN ?_; (case xlF => k_asm); (case xlN => k_asm); k_whole); intro _ _ _ _ xll; (try k_lt xll); (try k_sweep)))); (k_with "eval Constant int" => ((refine xs_int ?_))); (k_with "eval Constant str" => ((refine xs_str ?_))); (k_with "binaryOp Add int int" => ((refine xs_add ?_))); (k_with "storeName" => ((k_here; k_dflt (refine' xs_store ?xsF ?xsN ?_ ?xsa ?xsb; (case xsF => k_asm); (case xsN => k_asm); (case xsa => rfl); (case xsb => rfl); k_whole; intro _ _ _; (try k_sweep))))); (k_with "newTuple" => ((k_here; kup_bare; k_dflt (refine' xs_tuple ?xtF ?xtN ?_ ?xtz; (case xtF => k_asm); (case xtN => k_asm); (case xtz => kmk_size)); intro _ _ _ _ xtl; (try k_lt xtl); (try k_sweep)))))
  intro dp un gd cn cs a ccd cl outer A₀ base h₀ L m hp0 gn0 dr0 tk0 os0 mean mg mb Q E B F X N T hcs hdp hun hret
  refine wpAny_call ?_
  k_dflt ktr_enter
  k_with "HOLD" => skip
  k_with "C" => ((with_reducible show wpAny _ _ (call (Value.ref 196) _) _ _ _); k_dflt (refine' Con.use5 (len_con w c n _ hcn _) ?B ?F ?X ?N ?T ?hk ?hd ?hu ?_; (first | (((case N => k_asm); (case B => k_asm); (case F => k_asm); (case X => k_asm); (case T => k_asm); (case hk => first | exact rfl | assumption); (case hd => ktr_room); (case hu => ktr_units))) | tb_start)); intro v9 h9 tk9 hP9 F9 N9; obtain ⟨t9, hP9⟩ := hP9; subst hP9; (try dsimp only))
  k_steps
  all_goals first
    | (exfalso; omega)
    | (refine hret _ _ _ _ ⟨rfl, ?_⟩ (by assumption) (by assumption); simp [hn])
theorem enc_len (c : Int) : (enc c).length ≤ 3 := by unfold enc; split; · exact Nat.le_of_ble_eq_true rfl
                                                     split <;> exact Nat.le_of_ble_eq_true rfl
theorem enc_in {c : Nat} (h : goodC c = true) : ∀ v ∈ enc (c : Int), 0 ≤ v ∧ v < 256 := by
  intro v hv
  have hc := of_decide_eq_true h
  unfold enc at hv
  split at hv
  · simp only [List.mem_cons, List.not_mem_nil, or_false] at hv; omega
  · split at hv
    · simp only [List.mem_cons, List.not_mem_nil, or_false] at hv; omega
    · simp only [List.mem_cons, List.not_mem_nil, or_false] at hv; omega
theorem encs_len (l : List Nat) : (l.flatMap fun c : Nat => enc (c : Int)).length ≤ 3 * l.length := by
  induction l with
  | nil => exact Nat.le_refl _
  | cons c l ih => rw [List.flatMap_cons, List.length_append, List.length_cons]; have := enc_len (c : Int); omega
theorem char_at {x : Str} {n c : Nat} (h : x.cps.toList[n]? = some c) : (Txt.charAt x (n : Int)).getD 0 = c := by
  have hn : n < x.length := by have := (List.getElem?_eq_some_iff.mp h).1; show n < x.cps.size; simpa using this
  rw [Array.getElem?_toList] at h
  have e : seqIndex? (n : Int) x.length = some n := by
    unfold seqIndex?
    have h1 : ¬ (n : Int) < 0 := by omega
    simp only [if_neg h1]
    have h2 : (decide (0 ≤ (n : Int)) && decide ((n : Int) < (x.length : Int))) = true := by simp; exact hn
    rw [if_pos h2]; simp
  unfold Txt.charAt
  rw [e, Option.bind_some, h]
  rfl
theorem take_succ_flat {x : Str} {n c : Nat} (h : x.cps.toList[n]? = some c) : ((x.cps.toList.take (n + 1)).flatMap fun c : Nat => enc (c : Int)) = ((x.cps.toList.take n).flatMap fun c : Nat => enc (c : Int)) ++ enc (c : Int) := by
  rw [List.take_succ, h, List.flatMap_append]
  simp
def RowIs (x : Str) (n : Nat) (ys : List Value) : Prop := IntsAre ys ((x.cps.toList.take n).flatMap fun c : Nat => enc (c : Int))
theorem RowIs.zero (x : Str) : RowIs x 0 [] := by unfold RowIs; rw [List.take_zero]; exact .nil
theorem enc_pos (c : Int) : 0 < (enc c).length := by unfold enc; split; · exact Nat.le_of_ble_eq_true rfl
                                                     split <;> exact Nat.le_of_ble_eq_true rfl
theorem RowIs.len {x : Str} {n : Nat} {ys : List Value} (h : RowIs x n ys) (hn : n ≤ 60) : ys.length ≤ 180 := by
  rw [IntsAre.length h]
  have h1 := encs_len (x.cps.toList.take n)
  have h2 := List.length_take_le n x.cps.toList
  omega
theorem RowIs.all {x : Str} {ys : List Value} (h : RowIs x (rangeKs 0 ((x.cps.size : Int) - 0).toNat).length ys) : IntsAre ys (x.cps.toList.flatMap fun c : Nat => enc (c : Int)) := by
  unfold RowIs at h
  rwa [show (rangeKs 0 ((x.cps.size : Int) - 0).toNat).length = x.cps.toList.length by simp [rangeKs], List.take_length] at h
theorem encs_in {x : Str} (hc : ∀ c ∈ x.cps.toList, goodC c = true) : KBa.In (x.cps.toList.flatMap fun c : Nat => enc (c : Int)) := by
  intro v hv
  obtain ⟨c, h1, h2⟩ := List.mem_flatMap.mp hv
  exact enc_in (hc c h1) v h2
theorem RowIs.succ {x : Str} {n c : Nat} {ys zs : List Value} (h : RowIs x n ys) (hx : x.cps.toList[n]? = some c) (hz : IntsAre zs (enc (c : Int))) : RowIs x (n + 1) (ys ++ zs) := by
  unfold RowIs
  rw [take_succ_flat hx]
  exact IntsAre.append h hz
example : True := by ((k_with "call builtin:len" => ((k_here; k_extra "LEN"))); (k_with "call builtin:ord" => ((k_here; k_extra "ORD"))); (k_with "call builtin:list.extend" => ((k_here; k_extra "EXT"))); (k_with "subscriptTail" => ((k_here; k_extra "SB"))); (k_with "call type:bytes" => ((k_here; k_extra "BY"))); trivial)
theorem octets_con (w : World) (x : Str) (hc : ∀ c ∈ x.cps.toList, goodC c = true) (hlen : x.cps.size ≤ 60) (tc t0 : Tok) (news : Led) :
    Con w 14 245 [.str "utf-8" tc, .str x t0] news (fun v n' => n' = news ∧ ∃ bc t, v = .bytes bc t ∧ KBw.bInts bc = x.cps.toList.flatMap fun c : Nat => enc (c : Int)) := by
  have hxl : x.length = x.cps.size := rfl
  have hxs : x.cps.toList.length = x.cps.size := by simp
  refine Con.mk5 ?_
  k_fill
  (k_with_none; (k_with "units_room" => ((ktr_units))); (k_with "k_room" => ((ktr_room))); (k_with "k_all" => (first | assumption | exact fun q hq => Nat.ne_of_lt (ktn_ltOf (by assumption) q hq))); (k_with "exec While BoolOp cons nil" => ((k_here; k_extra "W"))); (k_with "exec While Compare cons nil" => ((k_here; k_extra "W"))); (k_with "call ref" => ((k_here; first | k_extra "C" | (k_extra "HOLD"; refine Hold.out ?_)))); (k_with "eval ListComp" => ((k_here; k_extra "L"))); (k_with "pyIter ref" => ((k_here; k_extra "F"))); (k_with "exec For Name Call cons nil" => ((k_here; k_extra "FOR"; (rename Fr _ _ _ _ => lF'); (with_unfolding_all refine' For_invVF lF' ?k1 ?k2 ?_; (case k1 => exact rfl); (case k2 => exact rfl); k_whole)))); (k_with "exec For Name Name cons nil" => ((k_here; k_extra "FOR"; (rename Fr _ _ _ _ => lF'); (with_unfolding_all refine' For_invVF lF' ?k1 ?k2 ?_; (case k1 => exact rfl); (case k2 => exact rfl); k_whole)))); (k_with "compareOp In int bytes" => ((k_here; refine in_bytes_K (by omega) (by omega) ?_))); (k_with "compareOp NotIn int bytes" => ((k_here; refine notin_bytes_K (by omega) (by omega) ?_))); (k_with "pyIter bytes" => ((k_here; k_extra "FB"))); (k_with "call type:bytes" => ((k_here; (with_reducible show wpAny _ _ (call (Value.type "bytes") [Value.bytes _ _]) _ _ _); refine call_bytes_bytes ?_))); (k_with "NE1" => (first | with_reducible assumption | exact And.right (by with_reducible assumption) | exact And.right (And.right (by with_reducible assumption)) | exact And.right (And.right (And.right (by with_reducible assumption))))); (k_with "NE2" => (first | with_reducible assumption | exact And.right (by with_reducible assumption) | exact And.right (And.right (by with_reducible assumption)) | exact And.right (And.right (And.right (by with_reducible assumption))) | exact And.right (And.right (And.right (And.right (by k_extra "NE1")))))); (k_with "NE3" => (first | with_reducible assumption | exact And.right (by with_reducible assumption) | exact And.right (And.right (by with_reducible assumption)) | exact And.right (And.right (And.right (by with_reducible assumption))) | exact And.right (And.right (And.right (And.right (by k_extra "NE2")))))); (k_with "kwd_less" => (first | with_reducible assumption | exact And.left (by k_extra "NE3") | exact And.right (by k_extra "NE3"))); (k_with "k_ne" => (((try dsimp only); first | with_reducible assumption | exact Ne.symm (by with_reducible assumption) | (refine ne_gt ?_; kwd_less) | (refine ne_lt ?_; kwd_less) | kwd_less | (refine Ne.symm ?_; kwd_less)))); (k_with "ktr_room" => (first | exact room_lt (by assumption) (by rfl) | exact room_same (by assumption) (by rfl))); (k_with "ktr_units" => (exact units_lt (by assumption) (by rfl))); (k_with "eval Constant bytes" => ((refine xs_bytes ?_))); (k_with "binaryOp Sub int int" => ((refine xs_sub ?_))); (k_with "binaryOp Mod int int" => ((k_here; refine xs_mod (by decide) ?_))); (k_with "newList" => ((k_here; k_dflt (refine' xs_list ?xlF ?xlN ?_; (case xlF => k_asm); (case xlN => k_asm); k_whole); intro _ _ _ _ xll; (try k_lt xll); (try k_sweep)))); (k_with "eval Constant int" => ((refine xs_int ?_))); (k_with "eval Constant str" => ((refine xs_str ?_))); (k_with "binaryOp Add int int" => ((refine xs_add ?_))); (k_with "storeName" => ((k_here; k_dflt (refine' xs_store ?xsF ?xsN ?_ ?xsa ?xsb; (case xsF => k_asm); (case xsN => k_asm); (case xsa => rfl); (case xsb => rfl); k_whole; intro _ _ _; (try k_sweep))))); (k_with "newTuple" => ((k_here; kup_bare; k_dflt (refine' xs_tuple ?xtF ?xtN ?_ ?xtz; (case xtF => k_asm); (case xtN => k_asm); (case xtz => kmk_size)); intro _ _ _ _ xtl; (try k_lt xtl); (try k_sweep)))); (k_with "call builtin:len" => ((k_here; k_extra "LEN"))); (k_with "call builtin:ord" => ((k_here; k_extra "ORD"))); (k_with "call builtin:list.extend" => ((k_here; k_extra "EXT"))); (k_with "subscriptTail" => ((k_here; k_extra "SB"))); (k_with "call type:bytes" => ((k_here; k_extra "BY"))))
  intro dp un gd cn cs' a ccd cl outer A₀ base h₀ L m hp0 gn0 dr0 tk0 os0 mean mg mb Q E B F X N T hcs hdp hun hret
  refine wpAny_call ?_
  k_dflt ktr_enter
  k_with "HOLD" => skip
  k_with "LEN" => ((with_reducible show wpAny _ _ (call (Value.builtin "len") [Value.str _ _]) _ _ _); refine len_str (by rw [hxl]; omega) ?_; rw [hxl])
  k_with "ORD" => ((with_reducible show wpAny _ _ (call (Value.builtin "ord") [Value.str _ _]) _ _ _); refine ord_of_one (by omega) ?_; rw [hch9])
  k_with "SB" => ((with_reducible show wpAny _ _ (subscriptTail _ _ (Value.str _ _) (Value.int _ _)) _ _ _); (refine KXi.item (n := x.cps.size) hxl (by omega) (by omega) (by omega) ?_); intro kxiE)
  k_with "BY" => ((with_reducible show wpAny _ _ (call (Value.type "bytes") [Value.ref _]) _ _ _); k_dflt (refine' KBa.make_K ?F ?N ?hh ?hl ?hi ?hr ?hn ?_; (case F => k_asm); (case N => k_asm); (case hh => rfl); (case hl => exact News.isList (by k_asm) (List.Mem.head _)); (case hi => exact RowIs.all hp9); (case hr => exact encs_in hc); (case hn => exact Nat.le_trans (encs_len _) (by rw [hxs]; omega))); intro h' t' k' F' N' _)
  k_with "EXT" => ((with_reducible show wpAny _ _ (call (Value.builtin _) [Value.ref _, Value.ref _]) _ _ _); k_dflt (refine' kl_extend (its := c9.1.toArray) (its2 := zs9) (l := c9.1 ++ zs9.toList) ?F ?N ?b ?e ?ne ?U ?d ?z ?y ?_; (case F => k_asm); (case N => k_asm); (case b => k_mem); (case U => exact Upd.tail (neN (Nat.ne_of_gt hal9.1)) (Upd.head (fun p hp => (List.mem_append.mp hp).elim (fun h => Nat.ne_of_lt (hl1_ p h)) (fun h => off9.ne (List.Mem.head _) p h)))); (case e => simp); (case ne => rw [IntsAre.length hI9]; exact Nat.ne_of_gt (enc_pos _)); (case d => intro z; simp [Builtin.List.listTooLong, sizeLine_eq] at z; omega); (case z => simp [sizeLine_eq]; omega); (case y => simp [sizeLine_eq]; omega)); intro h' F' N')
  k_with "C" => (first
    | ((with_reducible show wpAny _ _ (call (Value.ref 191) _) _ _ _); k_dflt (refine' Con.use5 (need_charset_con w _ _ (.inr (.inr rfl)) _) ?B ?F ?X ?N ?T ?hk ?hd ?hu ?_; (first | (((case N => k_asm); (case B => k_asm); (case F => k_asm); (case X => k_asm); (case T => k_asm); (case hk => first | exact rfl | assumption); (case hd => ktr_room); (case hu => ktr_units))) | tb_start)); intro v9 h9 tk9 hP9 F9 N9; subst hP9; (try dsimp only))
    | ((with_reducible show wpAny _ _ (call (Value.ref 238) _) _ _ _); k_dflt (refine' Con.use5 (has_con w g9 _ _ hg9 _) ?B ?F ?X ?N ?T ?hk ?hd ?hu ?_; (first | (((case N => k_asm); (case B => k_asm); (case F => k_asm); (case X => k_asm); (case T => k_asm); (case hk => first | exact rfl | assumption); (case hd => ktr_room); (case hu => ktr_units))) | tb_start)); intro v9 h9 tk9 hP9 F9 N9; subst hP9; (try dsimp only))
    | ((with_reducible show wpAny _ _ (call (Value.ref 203) _) _ _ _); k_dflt (refine' Con.useR5 (oct_con w (g9 : Int) _ (goodC_cases hg9) _) ?B ?F ?X ?N (fun p hp => hp) ?T ?hk ?hd ?hu ?_; (first | (((case N => k_asm); (case B => k_asm); (case F => k_asm); (case X => k_asm); (case T => k_asm); (case hk => first | exact rfl | assumption); (case hd => ktr_room); (case hu => ktr_units))) | tb_start)); intro v9 h9 tk9 n9 hP9 F9 N9; obtain ⟨d9, zs9, kk9, hP9, hn9, hI9, hz9, hal9⟩ := hP9; subst hP9; subst hn9; (try dsimp only)))
  k_with "FOR" => skip
  k_with "F" => ((with_reducible rename Fr _ _ _ _ => lF'); (with_reducible rename News _ _ _ _ => lN'); (rename IsRange _ _ _ _ _ _ _ _ => rgX); obtain ⟨l9, hl9⟩ := news_head lN'; subst hl9; (have hl1_ : ∀ p ∈ news, @LT.lt Nat _ p.1 l9 := by assumption); (with_unfolding_all refine' kst_range (σ := List Value × Nat) (fun c => (l9, W.listOf c.1.toArray c.2) :: news) (fun _ => []) (fun _ => True) [Str.ofString "code"] (fun pre c => RowIs x pre.length c.1) ([], 0) (by rfl) rgX (small_one (by omega) (by omega) (by omega) (by omega)) (rangeSize_nat _ _) lF' lN' trivial (List.forall_mem_nil _) (RowIs.zero x) (fun c9 pre9 k9 t9 u9 h9 tk9 own9 e9 hlt9 off9 hf9 hp9 F9 N9 => ?_) (fun c9 u9 h9 tk9 hf9 hp9 F9 N9 => ?_)); (all_goals (try clear lF' lN')); (have hin9 : pre9.length < x.cps.toList.length := (by omega)); (have hg9 := hc _ (List.getElem_mem hin9)); (have hx9 := List.getElem?_eq_getElem hin9); (generalize x.cps.toList[pre9.length] = g9 at hg9 hx9); (have hk9 : k9 = ((pre9.length : Nat) : Int) := (by omega)); subst hk9; (have hch9 : (Txt.item x ((pre9.length : Nat) : Int)).cps.getD 0 0 = g9 := char_at hx9); (have hcl9 := RowIs.len hp9 (by omega)))
  k_steps
  · exact kst_end (c9.1 ++ zs9.toList, c9.2 + 1) (by assumption) (by assumption) (fun p hp => .tail _ (List.mem_append_left own9 hp)) (fun p hp => .tail _ (List.mem_append_right ((l9, W.listOf (c9.1 ++ zs9.toList).toArray (c9.2 + 1)) :: news) hp)) rfl trivial (List.forall_mem_nil _) (by intro z h1 h2 h3; simp at h3; simp [h1, h3, kstB]) (by rw [List.length_append]; exact RowIs.succ hp9 hx9 hI9)
  · exact hret _ _ _ _ ⟨rfl, _, _, rfl, KBa.ints_make (encs_in hc)⟩ (by assumption) (fun p hp => (by assumption : News h₀ L _ _) p (List.mem_cons_of_mem _ hp))
end

section

section
variable (w : World) (x d : Nat) (b : Array UInt8) (td kd ka ta : Tok) (i : Nat) (ks : List Int) (hk : KBw.bInts b = ks) (hlen : ks.length ≤ 4000) (hxd : x ≠ d)
include hk hlen hxd
set_option linter.unusedSectionVars false
theorem string_con (j : Nat) (bc : Array UInt8) (h1 : i < ks.length) (h0 : ks.getD i 0 = 123) (hl : ∀ ta, WCon w 10 628 [.ref x] x d b td kd ka ta i j (fun v => ∃ t, v = .bytes bc t)) :
    WCon w 12 635 [.ref x] x d b td kd ka ta i j (fun v => ∃ t, v = .bytes bc t) := by
  unfold WCon
  intro rest hoff
  refine Con.mk5 ?_
  k_fill
  (k_with_none; (k_with "units_room" => ((ktr_units))); (k_with "k_room" => ((ktr_room))); (k_with "k_all" => (first | assumption | exact fun q hq => Nat.ne_of_lt (ktn_ltOf (by assumption) q hq))); (k_with "exec While BoolOp cons nil" => ((k_here; k_extra "W"))); (k_with "exec While Compare cons nil" => ((k_here; k_extra "W"))); (k_with "call ref" => ((k_here; first | k_extra "C" | (k_extra "HOLD"; refine Hold.out ?_)))); (k_with "eval ListComp" => ((k_here; k_extra "L"))); (k_with "pyIter ref" => ((k_here; k_extra "F"))); (k_with "exec For Name Call cons nil" => ((k_here; k_extra "FOR"; (rename Fr _ _ _ _ => lF'); (with_unfolding_all refine' For_invVF lF' ?k1 ?k2 ?_; (case k1 => exact rfl); (case k2 => exact rfl); k_whole)))); (k_with "exec For Name Name cons nil" => ((k_here; k_extra "FOR"; (rename Fr _ _ _ _ => lF'); (with_unfolding_all refine' For_invVF lF' ?k1 ?k2 ?_; (case k1 => exact rfl); (case k2 => exact rfl); k_whole)))); (k_with "compareOp In int bytes" => ((k_here; refine in_bytes_K (by omega) (by omega) ?_))); (k_with "compareOp NotIn int bytes" => ((k_here; refine notin_bytes_K (by omega) (by omega) ?_))); (k_with "pyIter bytes" => ((k_here; k_extra "FB"))); (k_with "call type:bytes" => ((k_here; (with_reducible show wpAny _ _ (call (Value.type "bytes") [Value.bytes _ _]) _ _ _); refine call_bytes_bytes ?_))); (k_with "NE1" => (first | with_reducible assumption | exact And.right (by with_reducible assumption) | exact And.right (And.right (by with_reducible assumption)) | exact And.right (And.right (And.right (by with_reducible assumption))))); (k_with "NE2" => (first | with_reducible assumption | exact And.right (by with_reducible assumption) | exact And.right (And.right (by with_reducible assumption)) | exact And.right (And.right (And.right (by with_reducible assumption))) | exact And.right (And.right (And.right (And.right (by k_extra "NE1")))))); (k_with "NE3" => (first | with_reducible assumption | exact And.right (by with_reducible assumption) | exact And.right (And.right (by with_reducible assumption)) | exact And.right (And.right (And.right (by with_reducible assumption))) | exact And.right (And.right (And.right (And.right (by k_extra "NE2")))))); (k_with "kwd_less" => (first | with_reducible assumption | exact And.left (by k_extra "NE3") | exact And.right (by k_extra "NE3"))); (k_with "k_ne" => (((try dsimp only); first | with_reducible assumption | exact Ne.symm (by with_reducible assumption) | (refine ne_gt ?_; kwd_less) | (refine ne_lt ?_; kwd_less) | kwd_less | (refine Ne.symm ?_; kwd_less)))); (k_with "ktr_room" => (first | exact room_lt (by assumption) (by rfl) | exact room_same (by assumption) (by rfl))); (k_with "ktr_units" => (exact units_lt (by assumption) (by rfl))); (k_with "eval Constant bytes" => ((refine xs_bytes ?_))); (k_with "binaryOp Sub int int" => ((refine xs_sub ?_))); (k_with "binaryOp Mod int int" => ((k_here; refine xs_mod (by decide) ?_))); (k_with "newList" => ((k_here; k_dflt (refine' xs_list ?xlF ?xlN ?_; (case xlF => k_asm); (case xlN => k_asm); k_whole); intro _ _ _ _ xll; (try k_lt xll); (try k_sweep)))); (k_with "eval Constant int" => ((refine xs_int ?_))); (k_with "eval Constant str" => ((refine xs_str ?_))); (k_with "binaryOp Add int int" => ((refine xs_add ?_))); (k_with "storeName" => ((k_here; k_dflt (refine' xs_store ?xsF ?xsN ?_ ?xsa ?xsb; (case xsF => k_asm); (case xsN => k_asm); (case xsa => rfl); (case xsb => rfl); k_whole; intro _ _ _; (try k_sweep))))); (k_with "newTuple" => ((k_here; kup_bare; k_dflt (refine' xs_tuple ?xtF ?xtN ?_ ?xtz; (case xtF => k_asm); (case xtN => k_asm); (case xtz => kmk_size)); intro _ _ _ _ xtl; (try k_lt xtl); (try k_sweep)))))
  intro dp un gd cn cs a ccd cl outer A₀ base h₀ L m hp0 gn0 dr0 tk0 os0 mean mg mb Q E B F X N T hcs hdp hun hret
  refine wpAny_call ?_
  k_dflt ktr_enter
  k_with "HOLD" => skip
  k_with "C" => (first
    | ((with_reducible show wpAny _ _ (call (Value.ref 530) _) _ _ _); k_dflt (refine' Con.use5 (peek_con w x d b td kd ka _ i ks hk hlen hxd _ h1 ?M1 ?M2) ?B ?F ?X ?N ?T ?hk ?hd ?hu ?_; (first | (((case N => k_asm); (case B => k_asm); (case F => k_asm); (case X => k_asm); (case T => k_asm); (case hk => first | exact rfl | assumption); (case hd => ktr_room); (case hu => ktr_units))) | tb_start); (case M1 => k_mem); (case M2 => k_mem)); intro v9 h9 tk9 hP9 F9 N9; obtain ⟨t9, hP9⟩ := hP9; rw [h0] at hP9; subst hP9; try dsimp only)
    | ((with_reducible show wpAny _ _ (call (Value.ref 628) _) _ _ _); k_dflt (refine' WCon.use5 (hl _) ?hx ?U ?B ?F ?X ?N ?T ?hk ?hd ?hu ?_; (first | (((case N => k_asm); (case hx => k_mem); (case U => (intro _; k_upd)); (case B => k_asm); (case F => k_asm); (case X => k_asm); (case T => k_asm); (case hk => first | exact rfl | assumption); (case hd => ktr_room); (case hu => ktr_units))) | tb_rel)); intro v9 ta9 h9 tk9 hP9 F9 N9; obtain ⟨t9, hP9⟩ := hP9; subst hP9; try dsimp only))
  k_steps
  · exact hret _ _ _ _ ⟨⟨_, rfl⟩, _, rfl⟩ (by assumption) (by assumption)
theorem string_or_lit (j : Nat) (bc : Array UInt8) (h1 : i < ks.length) (h0 : ks.getD i 0 = 123) (hl : ∀ ta, WCon w 10 628 [.ref x] x d b td kd ka ta i j (fun v => ∃ t, v = .bytes bc t)) :
    WCon w 14 642 [.ref x, .ref 473] x d b td kd ka ta i j (fun v => ∃ t, v = .bytes bc t) := by
  unfold WCon
  intro rest hoff
  refine Con.mk5 ?_
  k_fill
  (k_with_none; (k_with "units_room" => ((ktr_units))); (k_with "k_room" => ((ktr_room))); (k_with "k_all" => (first | assumption | exact fun q hq => Nat.ne_of_lt (ktn_ltOf (by assumption) q hq))); (k_with "exec While BoolOp cons nil" => ((k_here; k_extra "W"))); (k_with "exec While Compare cons nil" => ((k_here; k_extra "W"))); (k_with "call ref" => ((k_here; first | k_extra "C" | (k_extra "HOLD"; refine Hold.out ?_)))); (k_with "eval ListComp" => ((k_here; k_extra "L"))); (k_with "pyIter ref" => ((k_here; k_extra "F"))); (k_with "exec For Name Call cons nil" => ((k_here; k_extra "FOR"; (rename Fr _ _ _ _ => lF'); (with_unfolding_all refine' For_invVF lF' ?k1 ?k2 ?_; (case k1 => exact rfl); (case k2 => exact rfl); k_whole)))); (k_with "exec For Name Name cons nil" => ((k_here; k_extra "FOR"; (rename Fr _ _ _ _ => lF'); (with_unfolding_all refine' For_invVF lF' ?k1 ?k2 ?_; (case k1 => exact rfl); (case k2 => exact rfl); k_whole)))); (k_with "compareOp In int bytes" => ((k_here; refine in_bytes_K (by omega) (by omega) ?_))); (k_with "compareOp NotIn int bytes" => ((k_here; refine notin_bytes_K (by omega) (by omega) ?_))); (k_with "pyIter bytes" => ((k_here; k_extra "FB"))); (k_with "call type:bytes" => ((k_here; (with_reducible show wpAny _ _ (call (Value.type "bytes") [Value.bytes _ _]) _ _ _); refine call_bytes_bytes ?_))); (k_with "NE1" => (first | with_reducible assumption | exact And.right (by with_reducible assumption) | exact And.right (And.right (by with_reducible assumption)) | exact And.right (And.right (And.right (by with_reducible assumption))))); (k_with "NE2" => (first | with_reducible assumption | exact And.right (by with_reducible assumption) | exact And.right (And.right (by with_reducible assumption)) | exact And.right (And.right (And.right (by with_reducible assumption))) | exact And.right (And.right (And.right (And.right (by k_extra "NE1")))))); (k_with "NE3" => (first | with_reducible assumption | exact And.right (by with_reducible assumption) | exact And.right (And.right (by with_reducible assumption)) | exact And.right (And.right (And.right (by with_reducible assumption))) | exact And.right (And.right (And.right (And.right (by k_extra "NE2")))))); (k_with "kwd_less" => (first | with_reducible assumption | exact And.left (by k_extra "NE3") | exact And.right (by k_extra "NE3"))); (k_with "k_ne" => (((try dsimp only); first | with_reducible assumption | exact Ne.symm (by with_reducible assumption) | (refine ne_gt ?_; kwd_less) | (refine ne_lt ?_; kwd_less) | kwd_less | (refine Ne.symm ?_; kwd_less)))); (k_with "ktr_room" => (first | exact room_lt (by assumption) (by rfl) | exact room_same (by assumption) (by rfl))); (k_with "ktr_units" => (exact units_lt (by assumption) (by rfl))); (k_with "eval Constant bytes" => ((refine xs_bytes ?_))); (k_with "binaryOp Sub int int" => ((refine xs_sub ?_))); (k_with "binaryOp Mod int int" => ((k_here; refine xs_mod (by decide) ?_))); (k_with "newList" => ((k_here; k_dflt (refine' xs_list ?xlF ?xlN ?_; (case xlF => k_asm); (case xlN => k_asm); k_whole); intro _ _ _ _ xll; (try k_lt xll); (try k_sweep)))); (k_with "eval Constant int" => ((refine xs_int ?_))); (k_with "eval Constant str" => ((refine xs_str ?_))); (k_with "binaryOp Add int int" => ((refine xs_add ?_))); (k_with "storeName" => ((k_here; k_dflt (refine' xs_store ?xsF ?xsN ?_ ?xsa ?xsb; (case xsF => k_asm); (case xsN => k_asm); (case xsa => rfl); (case xsb => rfl); k_whole; intro _ _ _; (try k_sweep))))); (k_with "newTuple" => ((k_here; kup_bare; k_dflt (refine' xs_tuple ?xtF ?xtN ?_ ?xtz; (case xtF => k_asm); (case xtN => k_asm); (case xtz => kmk_size)); intro _ _ _ _ xtl; (try k_lt xtl); (try k_sweep)))))
  intro dp un gd cn cs a ccd cl outer A₀ base h₀ L m hp0 gn0 dr0 tk0 os0 mean mg mb Q E B F X N T hcs hdp hun hret
  refine wpAny_call ?_
  k_dflt ktr_enter
  k_with "HOLD" => skip
  k_with "C" => (first
    | ((with_reducible show wpAny _ _ (call (Value.ref 530) _) _ _ _); k_dflt (refine' Con.use5 (peek_con w x d b td kd ka _ i ks hk hlen hxd _ h1 ?M1 ?M2) ?B ?F ?X ?N ?T ?hk ?hd ?hu ?_; (first | (((case N => k_asm); (case B => k_asm); (case F => k_asm); (case X => k_asm); (case T => k_asm); (case hk => first | exact rfl | assumption); (case hd => ktr_room); (case hu => ktr_units))) | tb_start); (case M1 => k_mem); (case M2 => k_mem)); intro v9 h9 tk9 hP9 F9 N9; obtain ⟨t9, hP9⟩ := hP9; rw [h0] at hP9; subst hP9; try dsimp only)
    | ((with_reducible show wpAny _ _ (call (Value.ref 635) _) _ _ _); k_dflt (refine' WCon.use5 (string_con w x d b td kd ka _ i ks hk hlen hxd j bc h1 h0 hl) ?hx ?U ?B ?F ?X ?N ?T ?hk ?hd ?hu ?_; (first | (((case N => k_asm); (case hx => k_mem); (case U => (intro _; k_upd)); (case B => k_asm); (case F => k_asm); (case X => k_asm); (case T => k_asm); (case hk => first | exact rfl | assumption); (case hd => ktr_room); (case hu => ktr_units))) | tb_rel)); intro v9 ta9 h9 tk9 hP9 F9 N9; obtain ⟨t9, hP9⟩ := hP9; subst hP9; try dsimp only))
  k_steps
  · exact hret _ _ _ _ ⟨⟨_, rfl⟩, _, rfl⟩ (by assumption) (by assumption)
theorem string_or_run (J : Nat) (ls : List Int) (bw : Array UInt8) (hbw : KBw.bInts bw = ls) (hiJ : i < J) (hJ : J < ks.length) (hls : (ks.drop i).take (J - i) = ls) (hall : ∀ k ∈ ls, isAstr k = true) (hq : isAstr (ks.getD J 0) = false) (n34 : ks.getD i 0 ≠ 34) (n123 : ks.getD i 0 ≠ 123) :
    WCon w 14 642 [.ref x, .ref 473] x d b td kd ka ta i J (fun v => ∃ t, v = .bytes bw t) := by
  have hp := seg_all hJ hls hall
  have hll : ls.length = J - i := by rw [← hls, List.length_take, List.length_drop]; omega
  have hpick : KBy.picked b (some (i : Int)) (some (J : Int)) = bw := bInts_inj (by rw [picked_at hk (Nat.le_of_lt hiJ) (Nat.le_of_lt hJ), hls, hbw])
  generalize hcc : ks.getD i 0 = cc at n34 n123
  unfold WCon
  intro rest hoff
  refine Con.mk5 ?_
  k_fill
  (k_with_none; (k_with "units_room" => ((ktr_units))); (k_with "k_room" => ((ktr_room))); (k_with "k_all" => (first | assumption | exact fun q hq => Nat.ne_of_lt (ktn_ltOf (by assumption) q hq))); (k_with "exec While BoolOp cons nil" => ((k_here; k_extra "W"))); (k_with "exec While Compare cons nil" => ((k_here; k_extra "W"))); (k_with "call ref" => ((k_here; first | k_extra "C" | (k_extra "HOLD"; refine Hold.out ?_)))); (k_with "eval ListComp" => ((k_here; k_extra "L"))); (k_with "pyIter ref" => ((k_here; k_extra "F"))); (k_with "exec For Name Call cons nil" => ((k_here; k_extra "FOR"; (rename Fr _ _ _ _ => lF'); (with_unfolding_all refine' For_invVF lF' ?k1 ?k2 ?_; (case k1 => exact rfl); (case k2 => exact rfl); k_whole)))); (k_with "exec For Name Name cons nil" => ((k_here; k_extra "FOR"; (rename Fr _ _ _ _ => lF'); (with_unfolding_all refine' For_invVF lF' ?k1 ?k2 ?_; (case k1 => exact rfl); (case k2 => exact rfl); k_whole)))); (k_with "compareOp In int bytes" => ((k_here; refine in_bytes_K (by omega) (by omega) ?_))); (k_with "compareOp NotIn int bytes" => ((k_here; refine notin_bytes_K (by omega) (by omega) ?_))); (k_with "pyIter bytes" => ((k_here; k_extra "FB"))); (k_with "call type:bytes" => ((k_here; (with_reducible show wpAny _ _ (call (Value.type "bytes") [Value.bytes _ _]) _ _ _); refine call_bytes_bytes ?_))); (k_with "NE1" => (first | with_reducible assumption | exact And.right (by with_reducible assumption) | exact And.right (And.right (by with_reducible assumption)) | exact And.right (And.right (And.right (by with_reducible assumption))))); (k_with "NE2" => (first | with_reducible assumption | exact And.right (by with_reducible assumption) | exact And.right (And.right (by with_reducible assumption)) | exact And.right (And.right (And.right (by with_reducible assumption))) | exact And.right (And.right (And.right (And.right (by k_extra "NE1")))))); (k_with "NE3" => (first | with_reducible assumption | exact And.right (by with_reducible assumption) | exact And.right (And.right (by with_reducible assumption)) | exact And.right (And.right (And.right (by with_reducible assumption))) | exact And.right (And.right (And.right (And.right (by k_extra "NE2")))))); (k_with "kwd_less" => (first | with_reducible assumption | exact And.left (by k_extra "NE3") | exact And.right (by k_extra "NE3"))); (k_with "k_ne" => (((try dsimp only); first | with_reducible assumption | exact Ne.symm (by with_reducible assumption) | (refine ne_gt ?_; kwd_less) | (refine ne_lt ?_; kwd_less) | kwd_less | (refine Ne.symm ?_; kwd_less)))); (k_with "ktr_room" => (first | exact room_lt (by assumption) (by rfl) | exact room_same (by assumption) (by rfl))); (k_with "ktr_units" => (exact units_lt (by assumption) (by rfl))); (k_with "eval Constant bytes" => ((refine xs_bytes ?_))); (k_with "binaryOp Sub int int" => ((refine xs_sub ?_))); (k_with "binaryOp Mod int int" => ((k_here; refine xs_mod (by decide) ?_))); (k_with "newList" => ((k_here; k_dflt (refine' xs_list ?xlF ?xlN ?_; (case xlF => k_asm); (case xlN => k_asm); k_whole); intro _ _ _ _ xll; (try k_lt xll); (try k_sweep)))); (k_with "eval Constant int" => ((refine xs_int ?_))); (k_with "eval Constant str" => ((refine xs_str ?_))); (k_with "binaryOp Add int int" => ((refine xs_add ?_))); (k_with "storeName" => ((k_here; k_dflt (refine' xs_store ?xsF ?xsN ?_ ?xsa ?xsb; (case xsF => k_asm); (case xsN => k_asm); (case xsa => rfl); (case xsb => rfl); k_whole; intro _ _ _; (try k_sweep))))); (k_with "newTuple" => ((k_here; kup_bare; k_dflt (refine' xs_tuple ?xtF ?xtN ?_ ?xtz; (case xtF => k_asm); (case xtN => k_asm); (case xtz => kmk_size)); intro _ _ _ _ xtl; (try k_lt xtl); (try k_sweep)))))
  intro dp un gd cn cs a ccd cl outer A₀ base h₀ L m hp0 gn0 dr0 tk0 os0 mean mg mb Q E B F X N T hcs hdp hun hret
  refine wpAny_call ?_
  k_dflt ktr_enter
  k_with "HOLD" => skip
  k_with "C" => (first
    | ((with_reducible show wpAny _ _ (call (Value.ref 530) _) _ _ _); k_dflt (refine' Con.use5 (peek_con w x d b td kd ka _ i ks hk hlen hxd _ (Nat.lt_trans hiJ hJ) ?M1 ?M2) ?B ?F ?X ?N ?T ?hk ?hd ?hu ?_; (first | (((case N => k_asm); (case B => k_asm); (case F => k_asm); (case X => k_asm); (case T => k_asm); (case hk => first | exact rfl | assumption); (case hd => ktr_room); (case hu => ktr_units))) | tb_start); (case M1 => k_mem); (case M2 => k_mem)); intro v9 h9 tk9 hP9 F9 N9; obtain ⟨t9, hP9⟩ := hP9; rw [hcc] at hP9; subst hP9; try dsimp only)
    | ((with_reducible show wpAny _ _ (call (Value.ref 565) _) _ _ _); k_dflt (refine' WCon.use5 (run_con w x d b td kd ka _ i ks hk hlen hxd 4 473 (keep473 w) isAstr (astr_con w) J (Nat.le_of_lt hiJ) hJ hp hq) ?hx ?U ?B ?F ?X ?N ?T ?hk ?hd ?hu ?_; (first | (((case N => k_asm); (case hx => k_mem); (case U => (intro _; k_upd)); (case B => k_asm); (case F => k_asm); (case X => k_asm); (case T => k_asm); (case hk => first | exact rfl | assumption); (case hd => ktr_room); (case hu => ktr_units))) | tb_rel)); intro v9 ta9 h9 tk9 hP9 F9 N9; obtain ⟨t9, hP9⟩ := hP9; rw [hpick] at hP9; subst hP9; try dsimp only))
  k_steps
  all_goals first
    | (exfalso; omega)
    | exact hret _ _ _ _ ⟨⟨_, rfl⟩, _, rfl⟩ (by assumption) (by assumption)
    | fail
theorem astring_con (j : Nat) (bc : Array UInt8) (hs : ∀ ta, WCon w 14 642 [.ref x, .ref 473] x d b td kd ka ta i j (fun v => ∃ t, v = .bytes bc t)) :
    WCon w 16 649 [.ref x] x d b td kd ka ta i j (fun v => ∃ t, v = .bytes bc t) := by
  unfold WCon
  intro rest hoff
  refine Con.mk5 ?_
  k_fill
  (k_with_none; (k_with "units_room" => ((ktr_units))); (k_with "k_room" => ((ktr_room))); (k_with "k_all" => (first | assumption | exact fun q hq => Nat.ne_of_lt (ktn_ltOf (by assumption) q hq))); (k_with "exec While BoolOp cons nil" => ((k_here; k_extra "W"))); (k_with "exec While Compare cons nil" => ((k_here; k_extra "W"))); (k_with "call ref" => ((k_here; first | k_extra "C" | (k_extra "HOLD"; refine Hold.out ?_)))); (k_with "eval ListComp" => ((k_here; k_extra "L"))); (k_with "pyIter ref" => ((k_here; k_extra "F"))); (k_with "exec For Name Call cons nil" => ((k_here; k_extra "FOR"; (rename Fr _ _ _ _ => lF'); (with_unfolding_all refine' For_invVF lF' ?k1 ?k2 ?_; (case k1 => exact rfl); (case k2 => exact rfl); k_whole)))); (k_with "exec For Name Name cons nil" => ((k_here; k_extra "FOR"; (rename Fr _ _ _ _ => lF'); (with_unfolding_all refine' For_invVF lF' ?k1 ?k2 ?_; (case k1 => exact rfl); (case k2 => exact rfl); k_whole)))); (k_with "compareOp In int bytes" => ((k_here; refine in_bytes_K (by omega) (by omega) ?_))); (k_with "compareOp NotIn int bytes" => ((k_here; refine notin_bytes_K (by omega) (by omega) ?_))); (k_with "pyIter bytes" => ((k_here; k_extra "FB"))); (k_with "call type:bytes" => ((k_here; (with_reducible show wpAny _ _ (call (Value.type "bytes") [Value.bytes _ _]) _ _ _); refine call_bytes_bytes ?_))); (k_with "NE1" => (first | with_reducible assumption | exact And.right (by with_reducible assumption) | exact And.right (And.right (by with_reducible assumption)) | exact And.right (And.right (And.right (by with_reducible assumption))))); (k_with "NE2" => (first | with_reducible assumption | exact And.right (by with_reducible assumption) | exact And.right (And.right (by with_reducible assumption)) | exact And.right (And.right (And.right (by with_reducible assumption))) | exact And.right (And.right (And.right (And.right (by k_extra "NE1")))))); (k_with "NE3" => (first | with_reducible assumption | exact And.right (by with_reducible assumption) | exact And.right (And.right (by with_reducible assumption)) | exact And.right (And.right (And.right (by with_reducible assumption))) | exact And.right (And.right (And.right (And.right (by k_extra "NE2")))))); (k_with "kwd_less" => (first | with_reducible assumption | exact And.left (by k_extra "NE3") | exact And.right (by k_extra "NE3"))); (k_with "k_ne" => (((try dsimp only); first | with_reducible assumption | exact Ne.symm (by with_reducible assumption) | (refine ne_gt ?_; kwd_less) | (refine ne_lt ?_; kwd_less) | kwd_less | (refine Ne.symm ?_; kwd_less)))); (k_with "ktr_room" => (first | exact room_lt (by assumption) (by rfl) | exact room_same (by assumption) (by rfl))); (k_with "ktr_units" => (exact units_lt (by assumption) (by rfl))); (k_with "eval Constant bytes" => ((refine xs_bytes ?_))); (k_with "binaryOp Sub int int" => ((refine xs_sub ?_))); (k_with "binaryOp Mod int int" => ((k_here; refine xs_mod (by decide) ?_))); (k_with "newList" => ((k_here; k_dflt (refine' xs_list ?xlF ?xlN ?_; (case xlF => k_asm); (case xlN => k_asm); k_whole); intro _ _ _ _ xll; (try k_lt xll); (try k_sweep)))); (k_with "eval Constant int" => ((refine xs_int ?_))); (k_with "eval Constant str" => ((refine xs_str ?_))); (k_with "binaryOp Add int int" => ((refine xs_add ?_))); (k_with "storeName" => ((k_here; k_dflt (refine' xs_store ?xsF ?xsN ?_ ?xsa ?xsb; (case xsF => k_asm); (case xsN => k_asm); (case xsa => rfl); (case xsb => rfl); k_whole; intro _ _ _; (try k_sweep))))); (k_with "newTuple" => ((k_here; kup_bare; k_dflt (refine' xs_tuple ?xtF ?xtN ?_ ?xtz; (case xtF => k_asm); (case xtN => k_asm); (case xtz => kmk_size)); intro _ _ _ _ xtl; (try k_lt xtl); (try k_sweep)))))
  intro dp un gd cn cs a ccd cl outer A₀ base h₀ L m hp0 gn0 dr0 tk0 os0 mean mg mb Q E B F X N T hcs hdp hun hret
  refine wpAny_call ?_
  k_dflt ktr_enter
  k_with "HOLD" => skip
  k_with "C" => ((with_reducible show wpAny _ _ (call (Value.ref 642) _) _ _ _); k_dflt (refine' WCon.use5 (hs _) ?hx ?U ?B ?F ?X ?N ?T ?hk ?hd ?hu ?_; (first | (((case N => k_asm); (case hx => k_mem); (case U => (intro _; k_upd)); (case B => k_asm); (case F => k_asm); (case X => k_asm); (case T => k_asm); (case hk => first | exact rfl | assumption); (case hd => ktr_room); (case hu => ktr_units))) | tb_rel)); intro v9 ta9 h9 tk9 hP9 F9 N9; obtain ⟨t9, hP9⟩ := hP9; subst hP9; try dsimp only)
  k_steps
  · exact hret _ _ _ _ ⟨⟨_, rfl⟩, _, rfl⟩ (by assumption) (by assumption)
end
end

section

theorem ConH.use {w : World} {r : Nat} {f : Addr} {vs : List Value} {news news₁ : Led} {R : Value → Led → Prop} {hv : Option Value}
  {dp un : Nat} {gd : Option (List Code)} {cn : Str} {cs : Scope} {a : Addr} {ccd : Value} {cl : List (Str × Addr)} {outer : List Env} {A₀ : Around} {base h₀ : Heap} {L : Addr} {m : Str → Option Value} {s : Shared}
  {mean : ExcName → Option Value} {mg mb : Str → Option Value} {Q E : Value → Shared → Prop} (C : ConH w r f vs news₁ R) (B : Below A₀ base outer h₀) (F : Fr h₀ L s.heap m) (X : (pre.heap_1 w.params).In h₀) (N : News h₀ L s.heap news) (hs : ∀ p ∈ news₁, p ∈ news)
    (T : Top pre.view_1 (looseW pre.view_1 [Str.ofString "PostError", Str.ofString "CHARSETS"]) mean mg mb h₀) (hk : cs.kind = .function) (hd : dp + 10 + r < recursionLimit) (hu : un + 200 + 8 * r < cLine)
    (ret : ∀ v h' tk' n', R v n' → Fr h₀ L h' m → News h₀ L h' n' → Q v { s with heap := h', toks := tk' }) :
    wpAny (model PySem.Challenge.rw_or0070_01.row.prog w) ({ handled := hv, depth := dp, frames := some (envX cn cs L a ccd cl :: outer), guards := gd, units := un } : Around) (call (.ref f) vs) Q E s :=
  C _ _ _ _ _ _ _ _ _ _ _ _ _ _ _ _ _ _ _ _ _ B F X (fun p hp => N p (hs p hp)) T hk hd hu (fun v h' tk' n' hR F' N' => ret v h' tk' n' hR F' N')
section
variable (w : World) (x d : Nat) (b : Array UInt8) (td kd ka ta : Tok) (i : Nat) (ks : List Int) (hk : KBw.bInts b = ks) (hlen : ks.length ≤ 4000) (hxd : x ≠ d)
include hk hlen hxd
set_option linter.unusedSectionVars false
theorem word_con (j : Nat) (bw : Array UInt8) (ls : List Int) (hbw : KBw.bInts bw = ls) (hsz : ls.length ≤ 100) (hlt : ∀ k ∈ ls, k < 128) (h1 : i + 1 ≤ ks.length) (hs : (ks.drop i).take 1 = [32])
    (ha : ∀ ta, WCon w 16 649 [.ref x] x d b td kd ka ta (i + 1) j (fun v => ∃ t, v = .bytes bw t)) :
    WCon w 18 368 [.ref x] x d b td kd ka ta i j (fun v => ∃ t, v = .str (KStt.txt ls) t) := by
  unfold WCon
  intro rest hoff
  refine Con.mk5 ?_
  k_fill
  (k_with_none; (k_with "units_room" => ((ktr_units))); (k_with "k_room" => ((ktr_room))); (k_with "k_all" => (first | assumption | exact fun q hq => Nat.ne_of_lt (ktn_ltOf (by assumption) q hq))); (k_with "exec While BoolOp cons nil" => ((k_here; k_extra "W"))); (k_with "exec While Compare cons nil" => ((k_here; k_extra "W"))); (k_with "call ref" => ((k_here; first | k_extra "C" | (k_extra "HOLD"; refine Hold.out ?_)))); (k_with "eval ListComp" => ((k_here; k_extra "L"))); (k_with "pyIter ref" => ((k_here; k_extra "F"))); (k_with "exec For Name Call cons nil" => ((k_here; k_extra "FOR"; (rename Fr _ _ _ _ => lF'); (with_unfolding_all refine' For_invVF lF' ?k1 ?k2 ?_; (case k1 => exact rfl); (case k2 => exact rfl); k_whole)))); (k_with "exec For Name Name cons nil" => ((k_here; k_extra "FOR"; (rename Fr _ _ _ _ => lF'); (with_unfolding_all refine' For_invVF lF' ?k1 ?k2 ?_; (case k1 => exact rfl); (case k2 => exact rfl); k_whole)))); (k_with "compareOp In int bytes" => ((k_here; refine in_bytes_K (by omega) (by omega) ?_))); (k_with "compareOp NotIn int bytes" => ((k_here; refine notin_bytes_K (by omega) (by omega) ?_))); (k_with "pyIter bytes" => ((k_here; k_extra "FB"))); (k_with "call type:bytes" => ((k_here; (with_reducible show wpAny _ _ (call (Value.type "bytes") [Value.bytes _ _]) _ _ _); refine call_bytes_bytes ?_))); (k_with "NE1" => (first | with_reducible assumption | exact And.right (by with_reducible assumption) | exact And.right (And.right (by with_reducible assumption)) | exact And.right (And.right (And.right (by with_reducible assumption))))); (k_with "NE2" => (first | with_reducible assumption | exact And.right (by with_reducible assumption) | exact And.right (And.right (by with_reducible assumption)) | exact And.right (And.right (And.right (by with_reducible assumption))) | exact And.right (And.right (And.right (And.right (by k_extra "NE1")))))); (k_with "NE3" => (first | with_reducible assumption | exact And.right (by with_reducible assumption) | exact And.right (And.right (by with_reducible assumption)) | exact And.right (And.right (And.right (by with_reducible assumption))) | exact And.right (And.right (And.right (And.right (by k_extra "NE2")))))); (k_with "kwd_less" => (first | with_reducible assumption | exact And.left (by k_extra "NE3") | exact And.right (by k_extra "NE3"))); (k_with "k_ne" => (((try dsimp only); first | with_reducible assumption | exact Ne.symm (by with_reducible assumption) | (refine ne_gt ?_; kwd_less) | (refine ne_lt ?_; kwd_less) | kwd_less | (refine Ne.symm ?_; kwd_less)))); (k_with "ktr_room" => (first | exact room_lt (by assumption) (by rfl) | exact room_same (by assumption) (by rfl))); (k_with "ktr_units" => (exact units_lt (by assumption) (by rfl))); (k_with "eval Constant bytes" => ((refine xs_bytes ?_))); (k_with "binaryOp Sub int int" => ((refine xs_sub ?_))); (k_with "binaryOp Mod int int" => ((k_here; refine xs_mod (by decide) ?_))); (k_with "newList" => ((k_here; k_dflt (refine' xs_list ?xlF ?xlN ?_; (case xlF => k_asm); (case xlN => k_asm); k_whole); intro _ _ _ _ xll; (try k_lt xll); (try k_sweep)))); (k_with "eval Constant int" => ((refine xs_int ?_))); (k_with "eval Constant str" => ((refine xs_str ?_))); (k_with "binaryOp Add int int" => ((refine xs_add ?_))); (k_with "storeName" => ((k_here; k_dflt (refine' xs_store ?xsF ?xsN ?_ ?xsa ?xsb; (case xsF => k_asm); (case xsN => k_asm); (case xsa => rfl); (case xsb => rfl); k_whole; intro _ _ _; (try k_sweep))))); (k_with "newTuple" => ((k_here; kup_bare; k_dflt (refine' xs_tuple ?xtF ?xtN ?_ ?xtz; (case xtF => k_asm); (case xtN => k_asm); (case xtz => kmk_size)); intro _ _ _ _ xtl; (try k_lt xtl); (try k_sweep)))))
  intro dp un gd cn cs a ccd cl outer A₀ base h₀ L m hp0 gn0 dr0 tk0 os0 mean mg mb Q E B F X N T hcs hdp hun hret
  refine wpAny_call ?_
  k_dflt ktr_enter
  k_with "HOLD" => skip
  k_with "C" => (first
    | ((with_reducible show wpAny _ _ (call (Value.ref 551) _) _ _ _); k_dflt (refine' WCon.use5 (space_con w x d b td kd ka _ i ks hk hlen hxd h1 hs) ?hx ?U ?B ?F ?X ?N ?T ?hk ?hd ?hu ?_; (first | (((case N => k_asm); (case hx => k_mem); (case U => (intro _; k_upd)); (case B => k_asm); (case F => k_asm); (case X => k_asm); (case T => k_asm); (case hk => first | exact rfl | assumption); (case hd => ktr_room); (case hu => ktr_units))) | tb_rel)); intro v9 ta9 h9 tk9 hP9 F9 N9; subst hP9; try dsimp only)
    | ((with_reducible show wpAny _ _ (call (Value.ref 649) _) _ _ _); k_dflt (refine' WCon.use5 (ha _) ?hx ?U ?B ?F ?X ?N ?T ?hk ?hd ?hu ?_; (first | (((case N => k_asm); (case hx => k_mem); (case U => (intro _; k_upd)); (case B => k_asm); (case F => k_asm); (case X => k_asm); (case T => k_asm); (case hk => first | exact rfl | assumption); (case hd => ktr_room); (case hu => ktr_units))) | tb_rel)); intro v9 ta9 h9 tk9 hP9 F9 N9; obtain ⟨t9, hP9⟩ := hP9; subst hP9; try dsimp only)
    | ((with_reducible show wpAny _ _ (call (Value.ref 169) _) _ _ _); k_dflt (refine' Con.use5 (ascii_text_con w bw _ ls hbw hsz hlt _) ?B ?F ?X ?N ?T ?hk ?hd ?hu ?_; (first | (((case N => k_asm); (case B => k_asm); (case F => k_asm); (case X => k_asm); (case T => k_asm); (case hk => first | exact rfl | assumption); (case hd => ktr_room); (case hu => ktr_units))) | tb_start)); intro v9 h9 tk9 hP9 F9 N9; obtain ⟨t9, hP9⟩ := hP9; subst hP9; (try dsimp only)))
  k_steps
  · exact hret _ _ _ _ ⟨⟨_, rfl⟩, _, rfl⟩ (by assumption) (by assumption)
theorem looked_ok (j : Nat) (cs : Str) (tc : Tok) (bo bc : Array UInt8) (x' : Str) (h1 : i + 1 ≤ ks.length) (hs : (ks.drop i).take 1 = [32])
    (ha : ∀ ta, WCon w 16 649 [.ref x] x d b td kd ka ta (i + 1) j (fun v => ∃ t, v = .bytes bo t)) (hst : ∀ tc t0 news, Con w 12 231 [.str cs tc, .bytes bo t0] news (fun v n' => n' = news ∧ ∃ t, v = .str x' t))
    (hoc : ∀ tc t0 news, Con w 14 245 [.str "utf-8" tc, .str x' t0] news (fun v n' => n' = news ∧ ∃ t, v = .bytes bc t)) :
    WCon w 18 347 [.ref x, .str cs tc] x d b td kd ka ta i j (fun v => ∃ t, v = .bytes bc t) := by
  unfold WCon
  intro rest hoff
  refine Con.mk5 ?_
  k_fill
  (k_with_none; (k_with "units_room" => ((ktr_units))); (k_with "k_room" => ((ktr_room))); (k_with "k_all" => (first | assumption | exact fun q hq => Nat.ne_of_lt (ktn_ltOf (by assumption) q hq))); (k_with "exec While BoolOp cons nil" => ((k_here; k_extra "W"))); (k_with "exec While Compare cons nil" => ((k_here; k_extra "W"))); (k_with "call ref" => ((k_here; first | k_extra "C" | (k_extra "HOLD"; refine Hold.out ?_)))); (k_with "eval ListComp" => ((k_here; k_extra "L"))); (k_with "pyIter ref" => ((k_here; k_extra "F"))); (k_with "exec For Name Call cons nil" => ((k_here; k_extra "FOR"; (rename Fr _ _ _ _ => lF'); (with_unfolding_all refine' For_invVF lF' ?k1 ?k2 ?_; (case k1 => exact rfl); (case k2 => exact rfl); k_whole)))); (k_with "exec For Name Name cons nil" => ((k_here; k_extra "FOR"; (rename Fr _ _ _ _ => lF'); (with_unfolding_all refine' For_invVF lF' ?k1 ?k2 ?_; (case k1 => exact rfl); (case k2 => exact rfl); k_whole)))); (k_with "compareOp In int bytes" => ((k_here; refine in_bytes_K (by omega) (by omega) ?_))); (k_with "compareOp NotIn int bytes" => ((k_here; refine notin_bytes_K (by omega) (by omega) ?_))); (k_with "pyIter bytes" => ((k_here; k_extra "FB"))); (k_with "call type:bytes" => ((k_here; (with_reducible show wpAny _ _ (call (Value.type "bytes") [Value.bytes _ _]) _ _ _); refine call_bytes_bytes ?_))); (k_with "NE1" => (first | with_reducible assumption | exact And.right (by with_reducible assumption) | exact And.right (And.right (by with_reducible assumption)) | exact And.right (And.right (And.right (by with_reducible assumption))))); (k_with "NE2" => (first | with_reducible assumption | exact And.right (by with_reducible assumption) | exact And.right (And.right (by with_reducible assumption)) | exact And.right (And.right (And.right (by with_reducible assumption))) | exact And.right (And.right (And.right (And.right (by k_extra "NE1")))))); (k_with "NE3" => (first | with_reducible assumption | exact And.right (by with_reducible assumption) | exact And.right (And.right (by with_reducible assumption)) | exact And.right (And.right (And.right (by with_reducible assumption))) | exact And.right (And.right (And.right (And.right (by k_extra "NE2")))))); (k_with "kwd_less" => (first | with_reducible assumption | exact And.left (by k_extra "NE3") | exact And.right (by k_extra "NE3"))); (k_with "k_ne" => (((try dsimp only); first | with_reducible assumption | exact Ne.symm (by with_reducible assumption) | (refine ne_gt ?_; kwd_less) | (refine ne_lt ?_; kwd_less) | kwd_less | (refine Ne.symm ?_; kwd_less)))); (k_with "ktr_room" => (first | exact room_lt (by assumption) (by rfl) | exact room_same (by assumption) (by rfl))); (k_with "ktr_units" => (exact units_lt (by assumption) (by rfl))); (k_with "eval Constant bytes" => ((refine xs_bytes ?_))); (k_with "binaryOp Sub int int" => ((refine xs_sub ?_))); (k_with "binaryOp Mod int int" => ((k_here; refine xs_mod (by decide) ?_))); (k_with "newList" => ((k_here; k_dflt (refine' xs_list ?xlF ?xlN ?_; (case xlF => k_asm); (case xlN => k_asm); k_whole); intro _ _ _ _ xll; (try k_lt xll); (try k_sweep)))); (k_with "eval Constant int" => ((refine xs_int ?_))); (k_with "eval Constant str" => ((refine xs_str ?_))); (k_with "binaryOp Add int int" => ((refine xs_add ?_))); (k_with "storeName" => ((k_here; k_dflt (refine' xs_store ?xsF ?xsN ?_ ?xsa ?xsb; (case xsF => k_asm); (case xsN => k_asm); (case xsa => rfl); (case xsb => rfl); k_whole; intro _ _ _; (try k_sweep))))); (k_with "newTuple" => ((k_here; kup_bare; k_dflt (refine' xs_tuple ?xtF ?xtN ?_ ?xtz; (case xtF => k_asm); (case xtN => k_asm); (case xtz => kmk_size)); intro _ _ _ _ xtl; (try k_lt xtl); (try k_sweep)))))
  intro dp un gd cn cs' a ccd cl outer A₀ base h₀ L m hp0 gn0 dr0 tk0 os0 mean mg mb Q E B F X N T hcs hdp hun hret
  refine wpAny_call ?_
  k_dflt ktr_enter
  k_with "HOLD" => skip
  k_with "C" => (first
    | ((with_reducible show wpAny _ _ (call (Value.ref 551) _) _ _ _); k_dflt (refine' WCon.use5 (space_con w x d b td kd ka _ i ks hk hlen hxd h1 hs) ?hx ?U ?B ?F ?X ?N ?T ?hk ?hd ?hu ?_; (first | (((case N => k_asm); (case hx => k_mem); (case U => (intro _; k_upd)); (case B => k_asm); (case F => k_asm); (case X => k_asm); (case T => k_asm); (case hk => first | exact rfl | assumption); (case hd => ktr_room); (case hu => ktr_units))) | tb_rel)); intro v9 ta9 h9 tk9 hP9 F9 N9; subst hP9; try dsimp only)
    | ((with_reducible show wpAny _ _ (call (Value.ref 649) _) _ _ _); k_dflt (refine' WCon.use5 (ha _) ?hx ?U ?B ?F ?X ?N ?T ?hk ?hd ?hu ?_; (first | (((case N => k_asm); (case hx => k_mem); (case U => (intro _; k_upd)); (case B => k_asm); (case F => k_asm); (case X => k_asm); (case T => k_asm); (case hk => first | exact rfl | assumption); (case hd => ktr_room); (case hu => ktr_units))) | tb_rel)); intro v9 ta9 h9 tk9 hP9 F9 N9; obtain ⟨t9, hP9⟩ := hP9; subst hP9; try dsimp only)
    | ((with_reducible show wpAny _ _ (call (Value.ref 231) _) _ _ _); k_dflt (refine' Con.use5 (hst _ _ _) ?B ?F ?X ?N ?T ?hk ?hd ?hu ?_; (first | (((case N => k_asm); (case B => k_asm); (case F => k_asm); (case X => k_asm); (case T => k_asm); (case hk => first | exact rfl | assumption); (case hd => ktr_room); (case hu => ktr_units))) | tb_start)); intro v9 h9 tk9 hP9 F9 N9; obtain ⟨t9, hP9⟩ := hP9; subst hP9; (try dsimp only))
    | ((with_reducible show wpAny _ _ (call (Value.ref 245) _) _ _ _); k_dflt (refine' Con.use5 (hoc _ _ _) ?B ?F ?X ?N ?T ?hk ?hd ?hu ?_; (first | (((case N => k_asm); (case B => k_asm); (case F => k_asm); (case X => k_asm); (case T => k_asm); (case hk => first | exact rfl | assumption); (case hd => ktr_room); (case hu => ktr_units))) | tb_start)); intro v9 h9 tk9 hP9 F9 N9; obtain ⟨t9, hP9⟩ := hP9; subst hP9; (try dsimp only)))
  k_steps
  · exact hret _ _ _ _ ⟨⟨_, rfl⟩, _, rfl⟩ (by assumption) (by assumption)
/-- a contract of a function that reads the wire and raises QueryFault -/
abbrev WBad (w : World) (r : Nat) (f : Addr) (vs : List Value) (x d : Addr) (b : Array UInt8) (td kd ka ta : Tok) (i : Nat) : Prop :=
  ∀ rest : Led, (∀ q ∈ rest, q.1 ≠ d) → ECon w r f vs (wire w x d b td kd ka ta i rest) 119 ThrownQ
example : True := by ((k_with "InAnd" => ((refine InAnd.mk ?_ ?_; k_in))); (k_with "RaiseEnd" => ((refine Hold.out ?_))); (k_with "exec Raise some none" => ((k_here; k_extra "RX"))); (k_with "noteFrame ref" => ((k_here; k_extra "NF"))); trivial)
theorem looked_bad (j : Nat) (cs : Str) (tc : Tok) (bo : Array UInt8) (h1 : i + 1 ≤ ks.length) (hs : (ks.drop i).take 1 = [32])
    (ha : ∀ ta, WCon w 16 649 [.ref x] x d b td kd ka ta (i + 1) j (fun v => ∃ t, v = .bytes bo t)) (hst : ∀ tc t0 news, ECon w 12 231 [.str cs tc, .bytes bo t0] news 71 Thrown) :
    WBad w 18 347 [.ref x, .str cs tc] x d b td kd ka ta i := by
  unfold WBad ECon
  k_fill
  (k_with_none; (k_with "units_room" => ((ktr_units))); (k_with "k_room" => ((ktr_room))); (k_with "k_all" => (first | assumption | exact fun q hq => Nat.ne_of_lt (ktn_ltOf (by assumption) q hq))); (k_with "exec While BoolOp cons nil" => ((k_here; k_extra "W"))); (k_with "exec While Compare cons nil" => ((k_here; k_extra "W"))); (k_with "call ref" => ((k_here; first | k_extra "C" | (k_extra "HOLD"; refine Hold.out ?_)))); (k_with "eval ListComp" => ((k_here; k_extra "L"))); (k_with "pyIter ref" => ((k_here; k_extra "F"))); (k_with "exec For Name Call cons nil" => ((k_here; k_extra "FOR"; (rename Fr _ _ _ _ => lF'); (with_unfolding_all refine' For_invVF lF' ?k1 ?k2 ?_; (case k1 => exact rfl); (case k2 => exact rfl); k_whole)))); (k_with "exec For Name Name cons nil" => ((k_here; k_extra "FOR"; (rename Fr _ _ _ _ => lF'); (with_unfolding_all refine' For_invVF lF' ?k1 ?k2 ?_; (case k1 => exact rfl); (case k2 => exact rfl); k_whole)))); (k_with "compareOp In int bytes" => ((k_here; refine in_bytes_K (by omega) (by omega) ?_))); (k_with "compareOp NotIn int bytes" => ((k_here; refine notin_bytes_K (by omega) (by omega) ?_))); (k_with "pyIter bytes" => ((k_here; k_extra "FB"))); (k_with "call type:bytes" => ((k_here; (with_reducible show wpAny _ _ (call (Value.type "bytes") [Value.bytes _ _]) _ _ _); refine call_bytes_bytes ?_))); (k_with "NE1" => (first | with_reducible assumption | exact And.right (by with_reducible assumption) | exact And.right (And.right (by with_reducible assumption)) | exact And.right (And.right (And.right (by with_reducible assumption))))); (k_with "NE2" => (first | with_reducible assumption | exact And.right (by with_reducible assumption) | exact And.right (And.right (by with_reducible assumption)) | exact And.right (And.right (And.right (by with_reducible assumption))) | exact And.right (And.right (And.right (And.right (by k_extra "NE1")))))); (k_with "NE3" => (first | with_reducible assumption | exact And.right (by with_reducible assumption) | exact And.right (And.right (by with_reducible assumption)) | exact And.right (And.right (And.right (by with_reducible assumption))) | exact And.right (And.right (And.right (And.right (by k_extra "NE2")))))); (k_with "kwd_less" => (first | with_reducible assumption | exact And.left (by k_extra "NE3") | exact And.right (by k_extra "NE3"))); (k_with "k_ne" => (((try dsimp only); first | with_reducible assumption | exact Ne.symm (by with_reducible assumption) | (refine ne_gt ?_; kwd_less) | (refine ne_lt ?_; kwd_less) | kwd_less | (refine Ne.symm ?_; kwd_less)))); (k_with "ktr_room" => (first | exact room_lt (by assumption) (by rfl) | exact room_same (by assumption) (by rfl))); (k_with "ktr_units" => (exact units_lt (by assumption) (by rfl))); (k_with "eval Constant bytes" => ((refine xs_bytes ?_))); (k_with "binaryOp Sub int int" => ((refine xs_sub ?_))); (k_with "binaryOp Mod int int" => ((k_here; refine xs_mod (by decide) ?_))); (k_with "newList" => ((k_here; k_dflt (refine' xs_list ?xlF ?xlN ?_; (case xlF => k_asm); (case xlN => k_asm); k_whole); intro _ _ _ _ xll; (try k_lt xll); (try k_sweep)))); (k_with "eval Constant int" => ((refine xs_int ?_))); (k_with "eval Constant str" => ((refine xs_str ?_))); (k_with "binaryOp Add int int" => ((refine xs_add ?_))); (k_with "storeName" => ((k_here; k_dflt (refine' xs_store ?xsF ?xsN ?_ ?xsa ?xsb; (case xsF => k_asm); (case xsN => k_asm); (case xsa => rfl); (case xsb => rfl); k_whole; intro _ _ _; (try k_sweep))))); (k_with "newTuple" => ((k_here; kup_bare; k_dflt (refine' xs_tuple ?xtF ?xtN ?_ ?xtz; (case xtF => k_asm); (case xtN => k_asm); (case xtz => kmk_size)); intro _ _ _ _ xtl; (try k_lt xtl); (try k_sweep)))); (k_with "InAnd" => ((refine InAnd.mk ?_ ?_; k_in))); (k_with "RaiseEnd" => ((refine Hold.out ?_))); (k_with "exec Raise some none" => ((k_here; k_extra "RX"))); (k_with "noteFrame ref" => ((k_here; k_extra "NF"))))
  intro rest hoff dp un gd cn cs' a ccd cl outer A₀ base h₀ L m s mean mg mb Q E B F X XB N T TB hcs hdp hun hret
  refine wpAny_call ?_
  k_dflt ktr_enter
  k_with "HOLD" => skip
  k_with "C" => (first
    | ((with_reducible show wpAny _ _ (call (Value.ref 551) _) _ _ _); k_dflt (refine' WCon.use5 (space_con w x d b td kd ka _ i ks hk hlen hxd h1 hs) ?hx ?U ?B ?F ?X ?N ?T ?hk ?hd ?hu ?_; (first | (((case N => k_asm); (case hx => k_mem); (case U => (intro _; k_upd)); (case B => k_asm); (case F => k_asm); (case X => k_asm); (case T => k_asm); (case hk => first | exact rfl | assumption); (case hd => ktr_room); (case hu => ktr_units))) | tb_rel)); intro v9 ta9 h9 tk9 hP9 F9 N9; subst hP9; try dsimp only)
    | ((with_reducible show wpAny _ _ (call (Value.ref 649) _) _ _ _); k_dflt (refine' WCon.use5 (ha _) ?hx ?U ?B ?F ?X ?N ?T ?hk ?hd ?hu ?_; (first | (((case N => k_asm); (case hx => k_mem); (case U => (intro _; k_upd)); (case B => k_asm); (case F => k_asm); (case X => k_asm); (case T => k_asm); (case hk => first | exact rfl | assumption); (case hd => ktr_room); (case hu => ktr_units))) | tb_rel)); intro v9 ta9 h9 tk9 hP9 F9 N9; obtain ⟨t9, hP9⟩ := hP9; subst hP9; try dsimp only)
    | ((with_reducible show wpAny _ _ (call (Value.ref 231) _) _ _ _); k_dflt (refine' ECon.use (hst _ _ _) ?B ?F ?X ?XB ?N (fun p hp => hp) ?T ?TB ?hk ?hd ?hu ?_; (first | (((case N => k_asm); (case B => k_asm); (case F => k_asm); (case X => k_asm); (case T => k_asm); (case hk => first | exact rfl | assumption); (case hd => ktr_room); (case hu => ktr_units))) | tb_start); (case XB => k_asm); (case TB => k_asm)); intro e9 h9 tk9 hT9)
    | ((with_reducible show wpAny _ _ (call (Value.ref 119) _) _ _ _); k_dflt (refine' ConH.use (exc_con w 119 (.inr rfl) _ _ _ _ _) ?B ?F ?X ?N (fun p hp => hp) ?T ?hk ?hd ?hu ?_; (first | (((case N => k_asm); (case B => k_asm); (case F => k_asm); (case X => k_asm); (case T => k_asm); (case hk => first | exact rfl | assumption); (case hd => ktr_room); (case hu => ktr_units))) | tb_start)); intro v9 h9 tk9 n9 hP9 F9 N9; obtain ⟨e7, t9, dx9, ws9, hP9, hn9, hl9⟩ := hP9; subst hP9; subst hn9; dsimp only))
  k_with "RX" => (k_dflt (refine' Raise_XE (C := 119) (excOk_ w (.inr rfl)) ?F ?X ?T ?ex ?_ ?he ?hp ?hk ?hx ?hd; (case F => k_asm); (case X => k_asm); (case T => k_asm); (case ex => k_is); (case he => rfl); (case hp => rfl); (case hk => rfl); (case hx => rfl); (case hd => decide); k_whole))
  k_with "NF" => (obtain ⟨g8, B8, a8, FG8, hsm8, hBs8, hBG8, hw8⟩ := hT9; k_dflt (refine' catch_at FG8 hsm8 hBG8 hw8 ?K XB TB ?ex (excOk_ w (.inl rfl)) ?_ ?hk ?hx ?hd ?hE; (case K => assumption); (case ex => k_is); (case hk => rfl); (case hx => rfl); (case hd => decide); (case hE => passes_own)); intro h8 g8' oe8 ws8 T8 F8 K8 X8 P8 N8 hd8 h28)
  k_steps
  · unfold Hold
    have hlt7 : e9 < e7 := hl9 (e9, oe8) (.head _)
    refine RaiseEnd.mk (by assumption) (by assumption) N9 (raiseNew_in rfl (Nat.ne_of_lt hlt7) (N9 _ (.head _)).1 rfl (Nat.le_of_ble_eq_true rfl) (N9 _ (.tail _ (.tail _ (.head _)))).1 hd8 h28 ?_)
    have hne7 : ∀ p ∈ [(t9, tupObj ws9), (e9, oe8)], p.1 ≠ e7 := fun p hp z => by
      rcases List.mem_cons.mp hp with rfl | hp
      · have q1 := (N9 _ (.head _)).1
        have q2 := (N9 _ (.tail _ (.head _))).1
        have z' : t9 = e7 := z
        rw [z', q1] at q2
        cases q2
      · rw [List.mem_singleton.mp hp] at z
        exact absurd z (Nat.ne_of_lt hlt7)
    obtain ⟨U1, U2⟩ := news_upd (d := e7) (pre := []) (o := excObj 119 t9 (some dx9) .none) (o' := excObj 119 t9 (some dx9) (.ref e9)) (f := Obj.mapFields (·.setIfInBounds 2 (.ref e9))) (by assumption) N9 (fun _ h => nomatch h) hne7 rfl rfl
    exact leave_newX (by assumption) K8 T8 U1 U2 (by assumption) rfl fun h' B hs hB hBG hw => hret _ _ _ ⟨_, _, _, _, by assumption, hs, hB, hBG, hw⟩
end
end

section

theorem flag_none (w : World) (word : Str) (tk : Tok) (hw : word = "TEXT" ∨ word = "BODY" ∨ word = "SUBJECT" ∨ word = "HEADER") (news : Led) :
    Con w 8 382 [.str word tk] news (fun v n' => n' = news ∧ v = .none) := by
  refine Con.mk5 ?_
  k_fill
  (k_with_none; (k_with "units_room" => ((ktr_units))); (k_with "k_room" => ((ktr_room))); (k_with "k_all" => (first | assumption | exact fun q hq => Nat.ne_of_lt (ktn_ltOf (by assumption) q hq))); (k_with "exec While BoolOp cons nil" => ((k_here; k_extra "W"))); (k_with "exec While Compare cons nil" => ((k_here; k_extra "W"))); (k_with "call ref" => ((k_here; first | k_extra "C" | (k_extra "HOLD"; refine Hold.out ?_)))); (k_with "eval ListComp" => ((k_here; k_extra "L"))); (k_with "pyIter ref" => ((k_here; k_extra "F"))); (k_with "exec For Name Call cons nil" => ((k_here; k_extra "FOR"; (rename Fr _ _ _ _ => lF'); (with_unfolding_all refine' For_invVF lF' ?k1 ?k2 ?_; (case k1 => exact rfl); (case k2 => exact rfl); k_whole)))); (k_with "exec For Name Name cons nil" => ((k_here; k_extra "FOR"; (rename Fr _ _ _ _ => lF'); (with_unfolding_all refine' For_invVF lF' ?k1 ?k2 ?_; (case k1 => exact rfl); (case k2 => exact rfl); k_whole)))); (k_with "compareOp In int bytes" => ((k_here; refine in_bytes_K (by omega) (by omega) ?_))); (k_with "compareOp NotIn int bytes" => ((k_here; refine notin_bytes_K (by omega) (by omega) ?_))); (k_with "pyIter bytes" => ((k_here; k_extra "FB"))); (k_with "call type:bytes" => ((k_here; (with_reducible show wpAny _ _ (call (Value.type "bytes") [Value.bytes _ _]) _ _ _); refine call_bytes_bytes ?_))); (k_with "NE1" => (first | with_reducible assumption | exact And.right (by with_reducible assumption) | exact And.right (And.right (by with_reducible assumption)) | exact And.right (And.right (And.right (by with_reducible assumption))))); (k_with "NE2" => (first | with_reducible assumption | exact And.right (by with_reducible assumption) | exact And.right (And.right (by with_reducible assumption)) | exact And.right (And.right (And.right (by with_reducible assumption))) | exact And.right (And.right (And.right (And.right (by k_extra "NE1")))))); (k_with "NE3" => (first | with_reducible assumption | exact And.right (by with_reducible assumption) | exact And.right (And.right (by with_reducible assumption)) | exact And.right (And.right (And.right (by with_reducible assumption))) | exact And.right (And.right (And.right (And.right (by k_extra "NE2")))))); (k_with "kwd_less" => (first | with_reducible assumption | exact And.left (by k_extra "NE3") | exact And.right (by k_extra "NE3"))); (k_with "k_ne" => (((try dsimp only); first | with_reducible assumption | exact Ne.symm (by with_reducible assumption) | (refine ne_gt ?_; kwd_less) | (refine ne_lt ?_; kwd_less) | kwd_less | (refine Ne.symm ?_; kwd_less)))); (k_with "ktr_room" => (first | exact room_lt (by assumption) (by rfl) | exact room_same (by assumption) (by rfl))); (k_with "ktr_units" => (exact units_lt (by assumption) (by rfl))); (k_with "eval Constant bytes" => ((refine xs_bytes ?_))); (k_with "binaryOp Sub int int" => ((refine xs_sub ?_))); (k_with "binaryOp Mod int int" => ((k_here; refine xs_mod (by decide) ?_))); (k_with "newList" => ((k_here; k_dflt (refine' xs_list ?xlF ?xlN ?_; (case xlF => k_asm); (case xlN => k_asm); k_whole); intro _ _ _ _ xll; (try k_lt xll); (try k_sweep)))); (k_with "eval Constant int" => ((refine xs_int ?_))); (k_with "eval Constant str" => ((refine xs_str ?_))); (k_with "binaryOp Add int int" => ((refine xs_add ?_))); (k_with "storeName" => ((k_here; k_dflt (refine' xs_store ?xsF ?xsN ?_ ?xsa ?xsb; (case xsF => k_asm); (case xsN => k_asm); (case xsa => rfl); (case xsb => rfl); k_whole; intro _ _ _; (try k_sweep))))); (k_with "newTuple" => ((k_here; kup_bare; k_dflt (refine' xs_tuple ?xtF ?xtN ?_ ?xtz; (case xtF => k_asm); (case xtN => k_asm); (case xtz => kmk_size)); intro _ _ _ _ xtl; (try k_lt xtl); (try k_sweep)))))
  intro dp un gd cn cs a ccd cl outer A₀ base h₀ L m hp0 gn0 dr0 tk0 os0 mean mg mb Q E B F X N T hcs hdp hun hret
  refine wpAny_call ?_
  k_dflt ktr_enter
  k_with "HOLD" => skip
  k_steps
  · exact absurd (by assumption : List.any _ _ = true) (by rcases hw with rfl | rfl | rfl | rfl <;> decide)
  · rcases hw with rfl | rfl | rfl | rfl
    all_goals
      k_steps
      exact hret _ _ _ _ ⟨rfl, rfl⟩ (by assumption) (fun p hp => (by assumption : News h₀ L _ _) p (.tail _ (.tail _ (.tail _ hp))))
theorem flag_seen (w : World) (tk : Tok) (news : Led) :
    Con w 10 382 [.str "SEEN" tk] news (fun v n' => ∃ D t1 t2, v = .ref D ∧ n' = (D, tupObj #[.str "flag" t1, .str "\\Seen" t2]) :: news) := by
  refine Con.mk5 ?_
  k_fill
  (k_with_none; (k_with "units_room" => ((ktr_units))); (k_with "k_room" => ((ktr_room))); (k_with "k_all" => (first | assumption | exact fun q hq => Nat.ne_of_lt (ktn_ltOf (by assumption) q hq))); (k_with "exec While BoolOp cons nil" => ((k_here; k_extra "W"))); (k_with "exec While Compare cons nil" => ((k_here; k_extra "W"))); (k_with "call ref" => ((k_here; first | k_extra "C" | (k_extra "HOLD"; refine Hold.out ?_)))); (k_with "eval ListComp" => ((k_here; k_extra "L"))); (k_with "pyIter ref" => ((k_here; k_extra "F"))); (k_with "exec For Name Call cons nil" => ((k_here; k_extra "FOR"; (rename Fr _ _ _ _ => lF'); (with_unfolding_all refine' For_invVF lF' ?k1 ?k2 ?_; (case k1 => exact rfl); (case k2 => exact rfl); k_whole)))); (k_with "exec For Name Name cons nil" => ((k_here; k_extra "FOR"; (rename Fr _ _ _ _ => lF'); (with_unfolding_all refine' For_invVF lF' ?k1 ?k2 ?_; (case k1 => exact rfl); (case k2 => exact rfl); k_whole)))); (k_with "compareOp In int bytes" => ((k_here; refine in_bytes_K (by omega) (by omega) ?_))); (k_with "compareOp NotIn int bytes" => ((k_here; refine notin_bytes_K (by omega) (by omega) ?_))); (k_with "pyIter bytes" => ((k_here; k_extra "FB"))); (k_with "call type:bytes" => ((k_here; (with_reducible show wpAny _ _ (call (Value.type "bytes") [Value.bytes _ _]) _ _ _); refine call_bytes_bytes ?_))); (k_with "NE1" => (first | with_reducible assumption | exact And.right (by with_reducible assumption) | exact And.right (And.right (by with_reducible assumption)) | exact And.right (And.right (And.right (by with_reducible assumption))))); (k_with "NE2" => (first | with_reducible assumption | exact And.right (by with_reducible assumption) | exact And.right (And.right (by with_reducible assumption)) | exact And.right (And.right (And.right (by with_reducible assumption))) | exact And.right (And.right (And.right (And.right (by k_extra "NE1")))))); (k_with "NE3" => (first | with_reducible assumption | exact And.right (by with_reducible assumption) | exact And.right (And.right (by with_reducible assumption)) | exact And.right (And.right (And.right (by with_reducible assumption))) | exact And.right (And.right (And.right (And.right (by k_extra "NE2")))))); (k_with "kwd_less" => (first | with_reducible assumption | exact And.left (by k_extra "NE3") | exact And.right (by k_extra "NE3"))); (k_with "k_ne" => (((try dsimp only); first | with_reducible assumption | exact Ne.symm (by with_reducible assumption) | (refine ne_gt ?_; kwd_less) | (refine ne_lt ?_; kwd_less) | kwd_less | (refine Ne.symm ?_; kwd_less)))); (k_with "ktr_room" => (first | exact room_lt (by assumption) (by rfl) | exact room_same (by assumption) (by rfl))); (k_with "ktr_units" => (exact units_lt (by assumption) (by rfl))); (k_with "eval Constant bytes" => ((refine xs_bytes ?_))); (k_with "binaryOp Sub int int" => ((refine xs_sub ?_))); (k_with "binaryOp Mod int int" => ((k_here; refine xs_mod (by decide) ?_))); (k_with "newList" => ((k_here; k_dflt (refine' xs_list ?xlF ?xlN ?_; (case xlF => k_asm); (case xlN => k_asm); k_whole); intro _ _ _ _ xll; (try k_lt xll); (try k_sweep)))); (k_with "eval Constant int" => ((refine xs_int ?_))); (k_with "eval Constant str" => ((refine xs_str ?_))); (k_with "binaryOp Add int int" => ((refine xs_add ?_))); (k_with "storeName" => ((k_here; k_dflt (refine' xs_store ?xsF ?xsN ?_ ?xsa ?xsb; (case xsF => k_asm); (case xsN => k_asm); (case xsa => rfl); (case xsb => rfl); k_whole; intro _ _ _; (try k_sweep))))); (k_with "newTuple" => ((k_here; kup_bare; k_dflt (refine' xs_tuple ?xtF ?xtN ?_ ?xtz; (case xtF => k_asm); (case xtN => k_asm); (case xtz => kmk_size)); intro _ _ _ _ xtl; (try k_lt xtl); (try k_sweep)))))
  intro dp un gd cn cs a ccd cl outer A₀ base h₀ L m hp0 gn0 dr0 tk0 os0 mean mg mb Q E B F X N T hcs hdp hun hret
  refine wpAny_call ?_
  k_dflt ktr_enter
  k_with "F" => ((with_reducible rename Fr _ _ _ _ => lF'); (with_reducible rename News _ _ _ _ => lN'); (with_unfolding_all refine iter_listUnr (by rfl) lF' lN' (by k_mem) (by rfl) (by rfl) ?_); clear lF'; intro i' l1)
  k_steps
  exact hret _ _ _ _ ⟨_, _, _, rfl, rfl⟩ (by assumption) (fun p hp => (by assumption : News h₀ L _ _) p (by rcases List.mem_cons.mp hp with rfl | hp; exact .head _; exact .tail _ (.tail _ (.tail _ (.tail _ hp)))))
end

section

/-- a contract of a function that comes back if ok and raises QueryFault if not -/
def BCon (w : World) (r : Nat) (f : Addr) (vs : List Value) (news : Led) (ok : Prop) (R : Value → Led → Prop) : Prop :=
  ∀ (dp un : Nat) (gd : Option (List Code)) (cn : Str) (cs : Scope) (a : Addr) (ccd : Value) (cl : List (Str × Addr)) (outer : List Env) (A₀ : Around) (base h₀ : Heap) (L : Addr) (m : Str → Option Value) (s : Shared)
    (mean : ExcName → Option Value) (mg mb : Str → Option Value) (Q E : Value → Shared → Prop),
    Below A₀ base outer h₀ → Fr h₀ L s.heap m → (pre.heap_1 w.params).In h₀ → (pre.heap_1 w.params).In base → News h₀ L s.heap news →
    Top pre.view_1 (looseW pre.view_1 [Str.ofString "PostError", Str.ofString "CHARSETS"]) mean mg mb h₀ → Top pre.view_1 (looseW pre.view_1 [Str.ofString "PostError", Str.ofString "CHARSETS"]) mean mg mb base → cs.kind = .function →
    dp + 10 + r < recursionLimit → un + 200 + 8 * r < cLine →
    (ok → ∀ v h' tk' news', R v news' → Fr h₀ L h' m → News h₀ L h' news' → Q v { s with heap := h', toks := tk' }) →
    (¬ok → ∀ e h' tk', ThrownQ base h₀ L m (envX cn cs L a ccd cl) outer 119 e h' → E (.ref e) { s with heap := h', toks := tk' }) →
    wpAny (model PySem.Challenge.rw_or0070_01.row.prog w) (ktrTop dp un gd cn cs L a ccd cl outer) (call (.ref f) vs) Q E s
theorem BCon.mk5 {w : World} {r : Nat} {f : Addr} {vs : List Value} {news : Led} {ok : Prop} {R : Value → Led → Prop}
    (h : ∀ (dp un : Nat) (gd : Option (List Code)) (cn : Str) (cs : Scope) (a : Addr) (ccd : Value) (cl : List (Str × Addr)) (outer : List Env) (A₀ : Around) (base h₀ : Heap) (L : Addr) (m : Str → Option Value) (hp0 : Heap) (gn0 dr0) (tk0 : Nat) (os0)
      (mean : ExcName → Option Value) (mg mb : Str → Option Value) (Q E : Value → Shared → Prop),
      Below A₀ base outer h₀ → Fr h₀ L hp0 m → (pre.heap_1 w.params).In h₀ → (pre.heap_1 w.params).In base → News h₀ L hp0 news →
      Top pre.view_1 (looseW pre.view_1 [Str.ofString "PostError", Str.ofString "CHARSETS"]) mean mg mb h₀ → Top pre.view_1 (looseW pre.view_1 [Str.ofString "PostError", Str.ofString "CHARSETS"]) mean mg mb base → cs.kind = .function →
      dp + 10 + r < recursionLimit → un + 200 + 8 * r < cLine →
      (ok → ∀ v h' tk' news', R v news' → Fr h₀ L h' m → News h₀ L h' news' → Q v ⟨h', gn0, dr0, tk', os0⟩) →
      (¬ok → ∀ e h' tk', ThrownQ base h₀ L m (envX cn cs L a ccd cl) outer 119 e h' → E (.ref e) ⟨h', gn0, dr0, tk', os0⟩) →
      wpAny (model PySem.Challenge.rw_or0070_01.row.prog w) (ktrTop dp un gd cn cs L a ccd cl outer) (call (.ref f) vs) Q E ⟨hp0, gn0, dr0, tk0, os0⟩) : BCon w r f vs news ok R :=
  fun dp un gd cn cs a ccd cl outer A₀ base h₀ L m s mean mg mb Q E => h dp un gd cn cs a ccd cl outer A₀ base h₀ L m s.heap s.gens s.drawn s.toks s.os mean mg mb Q E
theorem BCon.use {w : World} {r : Nat} {f : Addr} {vs : List Value} {news news₁ : Led} {ok : Prop} {R : Value → Led → Prop}
    {dp un : Nat} {gd : Option (List Code)} {cn : Str} {cs : Scope} {a : Addr} {ccd : Value} {cl : List (Str × Addr)} {outer : List Env} {A₀ : Around} {base h₀ : Heap} {L : Addr} {m : Str → Option Value} {s : Shared}
    {mean : ExcName → Option Value} {mg mb : Str → Option Value} {Q E : Value → Shared → Prop} (Cn : BCon w r f vs news₁ ok R) (B : Below A₀ base outer h₀) (F : Fr h₀ L s.heap m) (X : (pre.heap_1 w.params).In h₀) (XB : (pre.heap_1 w.params).In base) (N : News h₀ L s.heap news) (hs : ∀ p ∈ news₁, p ∈ news)
    (T : Top pre.view_1 (looseW pre.view_1 [Str.ofString "PostError", Str.ofString "CHARSETS"]) mean mg mb h₀) (TB : Top pre.view_1 (looseW pre.view_1 [Str.ofString "PostError", Str.ofString "CHARSETS"]) mean mg mb base) (hk : cs.kind = .function) (hd : dp + 10 + r < recursionLimit) (hu : un + 200 + 8 * r < cLine)
    (ret : ok → ∀ v h' tk' n', R v n' → Fr h₀ L h' m → News h₀ L h' n' → Q v { s with heap := h', toks := tk' })
    (err : ¬ok → ∀ e h' tk', ThrownQ base h₀ L m (envX cn cs L a ccd cl) outer 119 e h' → E (.ref e) { s with heap := h', toks := tk' }) :
    wpAny (model PySem.Challenge.rw_or0070_01.row.prog w) (ktrTop dp un gd cn cs L a ccd cl outer) (call (.ref f) vs) Q E s :=
  Cn _ _ _ _ _ _ _ _ _ _ _ _ _ _ _ _ _ _ _ _ B F X XB (fun p hp => N p (hs p hp)) T TB hk hd hu ret err
/-- what such a function of the wire gives: the wire at the place j, behind it what stands for the value -/
abbrev WRes (w : World) (x d : Addr) (b : Array UInt8) (td kd ka : Tok) (j : Nat) (rest : Led) (dat : Dat) (v : Value) (n' : Led) : Prop :=
  ∃ ta' tl, n' = wire w x d b td kd ka ta' j (tl ++ rest) ∧ (∀ q ∈ tl, q.1 ≠ d) ∧ DatIn tl v dat
abbrev WB (w : World) (r : Nat) (f : Addr) (vs : List Value) (x d : Addr) (b : Array UInt8) (td kd ka ta : Tok) (i j : Nat) (ok : Prop) (dat : Dat) : Prop :=
  ∀ rest : Led, (∀ q ∈ rest, q.1 ≠ d) → BCon w r f vs (wire w x d b td kd ka ta i rest) ok (WRes w x d b td kd ka j rest dat)
theorem WB.use {w : World} {r : Nat} {f : Addr} {vs : List Value} {x d : Addr} {b : Array UInt8} {td kd ka ta : Tok} {i j : Nat} {ok : Prop} {dat : Dat} {news rest : Led}
    {dp un : Nat} {gd : Option (List Code)} {cn : Str} {cs : Scope} {a : Addr} {ccd : Value} {cl : List (Str × Addr)} {outer : List Env} {A₀ : Around} {base h₀ : Heap} {L : Addr} {m : Str → Option Value} {s : Shared}
    {mean : ExcName → Option Value} {mg mb : Str → Option Value} {Q E : Value → Shared → Prop} (Cn : WB w r f vs x d b td kd ka ta i j ok dat) (hoff : ∀ q ∈ rest, q.1 ≠ d) (hx : (x, wireObj d) ∈ news) (hm : (d, wireDict w b td ta kd ka (i : Int)) ∈ news) (hr : ∀ p ∈ rest, p ∈ news)
    (B : Below A₀ base outer h₀) (F : Fr h₀ L s.heap m) (X : (pre.heap_1 w.params).In h₀) (XB : (pre.heap_1 w.params).In base) (N : News h₀ L s.heap news)
    (T : Top pre.view_1 (looseW pre.view_1 [Str.ofString "PostError", Str.ofString "CHARSETS"]) mean mg mb h₀) (TB : Top pre.view_1 (looseW pre.view_1 [Str.ofString "PostError", Str.ofString "CHARSETS"]) mean mg mb base) (hk : cs.kind = .function) (hd : dp + 10 + r < recursionLimit) (hu : un + 200 + 8 * r < cLine)
    (ret : ok → ∀ v ta' tl h' tk', (∀ q ∈ tl, q.1 ≠ d) → DatIn tl v dat → Fr h₀ L h' m → News h₀ L h' (wire w x d b td kd ka ta' j (tl ++ rest)) → Q v { s with heap := h', toks := tk' })
    (err : ¬ok → ∀ e h' tk', ThrownQ base h₀ L m (envX cn cs L a ccd cl) outer 119 e h' → E (.ref e) { s with heap := h', toks := tk' }) :
    wpAny (model PySem.Challenge.rw_or0070_01.row.prog w) (ktrTop dp un gd cn cs L a ccd cl outer) (call (.ref f) vs) Q E s := by
  refine (Cn rest hoff).use B F X XB N (fun p hp => ?_) T TB hk hd hu (fun hok v h' tk' n' hR F' N' => ?_) err
  · rcases List.mem_cons.mp hp with rfl | hp
    · exact hx
    · rcases List.mem_cons.mp hp with rfl | hp
      · exact hm
      · exact hr p hp
  · obtain ⟨ta', tl, rfl, ho, hD⟩ := hR
    exact ret hok v ta' tl h' tk' ho hD F' N'
theorem WB.use5 {w : World} {r : Nat} {f : Addr} {vs : List Value} {x d : Addr} {b : Array UInt8} {td kd ka ta : Tok} {i j : Nat} {ok : Prop} {dat : Dat} {news rest : Led}
    {dp un : Nat} {gd : Option (List Code)} {cn : Str} {cs : Scope} {a : Addr} {ccd : Value} {cl : List (Str × Addr)} {outer : List Env} {A₀ : Around} {base h₀ : Heap} {L : Addr} {m : Str → Option Value} {hp5 : Heap} {gn5 : Array GenState} {dr5 : Drawn} {tk5 : Nat} {os5 : OsState}
    {mean : ExcName → Option Value} {mg mb : Str → Option Value} {Q E : Value → Shared → Prop} (Cn : WB w r f vs x d b td kd ka ta i j ok dat) (hoff : ∀ q ∈ rest, q.1 ≠ d) (hx : (x, wireObj d) ∈ news) (hm : (d, wireDict w b td ta kd ka (i : Int)) ∈ news) (hr : ∀ p ∈ rest, p ∈ news)
    (B : Below A₀ base outer h₀) (F : Fr h₀ L hp5 m) (X : (pre.heap_1 w.params).In h₀) (XB : (pre.heap_1 w.params).In base) (N : News h₀ L hp5 news)
    (T : Top pre.view_1 (looseW pre.view_1 [Str.ofString "PostError", Str.ofString "CHARSETS"]) mean mg mb h₀) (TB : Top pre.view_1 (looseW pre.view_1 [Str.ofString "PostError", Str.ofString "CHARSETS"]) mean mg mb base) (hk : cs.kind = .function) (hd : dp + 10 + r < recursionLimit) (hu : un + 200 + 8 * r < cLine)
    (ret : ok → ∀ v ta' tl h' tk', (∀ q ∈ tl, q.1 ≠ d) → DatIn tl v dat → Fr h₀ L h' m → News h₀ L h' (wire w x d b td kd ka ta' j (tl ++ rest)) → Q v ⟨h', gn5, dr5, tk', os5⟩)
    (err : ¬ok → ∀ e h' tk', ThrownQ base h₀ L m (envX cn cs L a ccd cl) outer 119 e h' → E (.ref e) ⟨h', gn5, dr5, tk', os5⟩) :
    wpAny (model PySem.Challenge.rw_or0070_01.row.prog w) (ktrTop dp un gd cn cs L a ccd cl outer) (call (.ref f) vs) Q E ⟨hp5, gn5, dr5, tk5, os5⟩ :=
  WB.use (s := ⟨hp5, gn5, dr5, tk5, os5⟩) Cn hoff hx hm hr B F X XB N T TB hk hd hu ret err
section
variable (w : World) (x d : Nat) (b : Array UInt8) (td kd ka ta : Tok) (i : Nat) (ks : List Int) (hk : KBw.bInts b = ks) (hlen : ks.length ≤ 4000) (hxd : x ≠ d)
include hk hlen hxd
set_option linter.unusedSectionVars false
theorem looked_B (ok : Prop) (j : Nat) (cs : Str) (tc : Tok) (bo bc : Array UInt8) (h1 : i + 1 ≤ ks.length) (hs : (ks.drop i).take 1 = [32])
    (ha : ∀ ta, WCon w 16 649 [.ref x] x d b td kd ka ta (i + 1) j (fun v => ∃ t, v = .bytes bo t))
    (hgood : ok → ∃ x', (∀ tc t0 news, Con w 12 231 [.str cs tc, .bytes bo t0] news (fun v n' => n' = news ∧ ∃ t, v = .str x' t)) ∧ ∀ tc t0 news, Con w 14 245 [.str "utf-8" tc, .str x' t0] news (fun v n' => n' = news ∧ ∃ t, v = .bytes bc t))
    (hbad : ¬ok → ∀ tc t0 news, ECon w 12 231 [.str cs tc, .bytes bo t0] news 71 Thrown) :
    WB w 18 347 [.ref x, .str cs tc] x d b td kd ka ta i j ok (.bytes bc) := by
  intro rest hoff dp un gd cn cs' a ccd cl outer A₀ base h₀ L m s mean mg mb Q E B F X XB N T TB hcs hdp hun hret herr
  by_cases hok : ok
  · obtain ⟨x', g1, g2⟩ := hgood hok
    refine looked_ok w x d b td kd ka ta i ks hk hlen hxd j cs tc bo bc x' h1 hs ha g1 g2 rest hoff _ _ _ _ _ _ _ _ _ _ _ _ _ _ _ _ _ _ _ _ B F X N T hcs hdp hun (fun v h' tk' n' hR F' N' => ?_)
    obtain ⟨⟨ta', rfl⟩, t, rfl⟩ := hR
    exact hret hok _ _ _ _ ⟨ta', [], rfl, (by intro _ h; cases h), DatIn.bytes _ _⟩ F' N'
  · exact looked_bad w x d b td kd ka ta i ks hk hlen hxd j cs tc bo h1 hs ha (hbad hok) rest hoff _ _ _ _ _ _ _ _ _ _ _ _ _ _ _ _ _ _ _ _ B F X XB N T TB hcs hdp hun (herr hok)
example : True := by ((k_with "leaving ref" => ((k_here; k_extra "LV"))); trivial)
theorem leaf_text (ok : Prop) (j : Nat) (cs : Str) (tw tc : Tok) (bc : Array UInt8) (hl : ∀ ta tc, WB w 18 347 [.ref x, .str cs tc] x d b td kd ka ta i j ok (.bytes bc)) :
    WB w 24 396 [.ref x, .str "TEXT" tw, .str cs tc] x d b td kd ka ta i j ok (.tuple [.str "text", .bytes bc]) := by
  have elow : lowerT "TEXT" = "text" := by decide +kernel
  unfold WB
  intro rest hoff
  refine BCon.mk5 ?_
  k_fill
  (k_with_none; (k_with "units_room" => ((ktr_units))); (k_with "k_room" => ((ktr_room))); (k_with "k_all" => (first | assumption | exact fun q hq => Nat.ne_of_lt (ktn_ltOf (by assumption) q hq))); (k_with "exec While BoolOp cons nil" => ((k_here; k_extra "W"))); (k_with "exec While Compare cons nil" => ((k_here; k_extra "W"))); (k_with "call ref" => ((k_here; first | k_extra "C" | (k_extra "HOLD"; refine Hold.out ?_)))); (k_with "eval ListComp" => ((k_here; k_extra "L"))); (k_with "pyIter ref" => ((k_here; k_extra "F"))); (k_with "exec For Name Call cons nil" => ((k_here; k_extra "FOR"; (rename Fr _ _ _ _ => lF'); (with_unfolding_all refine' For_invVF lF' ?k1 ?k2 ?_; (case k1 => exact rfl); (case k2 => exact rfl); k_whole)))); (k_with "exec For Name Name cons nil" => ((k_here; k_extra "FOR"; (rename Fr _ _ _ _ => lF'); (with_unfolding_all refine' For_invVF lF' ?k1 ?k2 ?_; (case k1 => exact rfl); (case k2 => exact rfl); k_whole)))); (k_with "compareOp In int bytes" => ((k_here; refine in_bytes_K (by omega) (by omega) ?_))); (k_with "compareOp NotIn int bytes" => ((k_here; refine notin_bytes_K (by omega) (by omega) ?_))); (k_with "pyIter bytes" => ((k_here; k_extra "FB"))); (k_with "call type:bytes" => ((k_here; (with_reducible show wpAny _ _ (call (Value.type "bytes") [Value.bytes _ _]) _ _ _); refine call_bytes_bytes ?_))); (k_with "NE1" => (first | with_reducible assumption | exact And.right (by with_reducible assumption) | exact And.right (And.right (by with_reducible assumption)) | exact And.right (And.right (And.right (by with_reducible assumption))))); (k_with "NE2" => (first | with_reducible assumption | exact And.right (by with_reducible assumption) | exact And.right (And.right (by with_reducible assumption)) | exact And.right (And.right (And.right (by with_reducible assumption))) | exact And.right (And.right (And.right (And.right (by k_extra "NE1")))))); (k_with "NE3" => (first | with_reducible assumption | exact And.right (by with_reducible assumption) | exact And.right (And.right (by with_reducible assumption)) | exact And.right (And.right (And.right (by with_reducible assumption))) | exact And.right (And.right (And.right (And.right (by k_extra "NE2")))))); (k_with "kwd_less" => (first | with_reducible assumption | exact And.left (by k_extra "NE3") | exact And.right (by k_extra "NE3"))); (k_with "k_ne" => (((try dsimp only); first | with_reducible assumption | exact Ne.symm (by with_reducible assumption) | (refine ne_gt ?_; kwd_less) | (refine ne_lt ?_; kwd_less) | kwd_less | (refine Ne.symm ?_; kwd_less)))); (k_with "ktr_room" => (first | exact room_lt (by assumption) (by rfl) | exact room_same (by assumption) (by rfl))); (k_with "ktr_units" => (exact units_lt (by assumption) (by rfl))); (k_with "eval Constant bytes" => ((refine xs_bytes ?_))); (k_with "binaryOp Sub int int" => ((refine xs_sub ?_))); (k_with "binaryOp Mod int int" => ((k_here; refine xs_mod (by decide) ?_))); (k_with "newList" => ((k_here; k_dflt (refine' xs_list ?xlF ?xlN ?_; (case xlF => k_asm); (case xlN => k_asm); k_whole); intro _ _ _ _ xll; (try k_lt xll); (try k_sweep)))); (k_with "eval Constant int" => ((refine xs_int ?_))); (k_with "eval Constant str" => ((refine xs_str ?_))); (k_with "binaryOp Add int int" => ((refine xs_add ?_))); (k_with "storeName" => ((k_here; k_dflt (refine' xs_store ?xsF ?xsN ?_ ?xsa ?xsb; (case xsF => k_asm); (case xsN => k_asm); (case xsa => rfl); (case xsb => rfl); k_whole; intro _ _ _; (try k_sweep))))); (k_with "newTuple" => ((k_here; kup_bare; k_dflt (refine' xs_tuple ?xtF ?xtN ?_ ?xtz; (case xtF => k_asm); (case xtN => k_asm); (case xtz => kmk_size)); intro _ _ _ _ xtl; (try k_lt xtl); (try k_sweep)))); (k_with "leaving ref" => ((k_here; k_extra "LV"))))
  intro dp un gd cn cs' a ccd cl outer A₀ base h₀ L m hp0 gn0 dr0 tk0 os0 mean mg mb Q E B F X XB N T TB hcs hdp hun hret herr
  refine wpAny_call ?_
  k_dflt ktr_enter
  k_with "HOLD" => skip
  k_with "C" => (first
    | ((with_reducible show wpAny _ _ (call (Value.ref 159) _) _ _ _); k_dflt (refine' Con.use5 (lower_text_con w "TEXT" _ (by decide) (by decide) _) ?B ?F ?X ?N ?T ?hk ?hd ?hu ?_; (first | (((case N => k_asm); (case B => k_asm); (case F => k_asm); (case X => k_asm); (case T => k_asm); (case hk => first | exact rfl | assumption); (case hd => ktr_room); (case hu => ktr_units))) | tb_start)); intro v9 h9 tk9 hP9 F9 N9; obtain ⟨t9, hP9⟩ := hP9; rw [elow] at hP9; subst hP9; (try dsimp only))
    | ((with_reducible show wpAny _ _ (call (Value.ref 347) _) _ _ _); k_dflt (refine' WB.use5 (hl _ _) hoff ?hx ?hm ?hr ?B ?F ?X ?XB ?N ?T ?TB ?hk ?hd ?hu ?ret ?err; (first | (((case N => k_asm); (case B => k_asm); (case F => k_asm); (case X => k_asm); (case T => k_asm); (case hk => first | exact rfl | assumption); (case hd => ktr_room); (case hu => ktr_units))) | tb_start); (case XB => k_asm); (case TB => k_asm); (case hx => k_mem); (case hm => k_mem); (case hr => first | exact fun p hp => .tail _ (.tail _ hp) | exact fun p hp => .tail _ (.tail _ (.tail _ hp)) | exact fun p hp => .tail _ (.tail _ (.tail _ (.tail _ hp))) | exact fun p hp => .tail _ (.tail _ (.tail _ (.tail _ (.tail _ hp)))) | exact fun p hp => .tail _ (.tail _ (.tail _ (.tail _ (.tail _ (.tail _ hp))))))); (case' ret => (intro hok9 v9 ta9 tl9 h9 tk9 ho9 hD9 F9 N9; cases hD9; try dsimp only)); (case' err => intro hno9 e9 h9 tk9 hT9)))
  k_with "LV" => (refine leave_onX (by assumption) (by assumption) hT9 fun h' hT' => herr hno9 _ _ _ hT')
  k_steps
  exact hret hok9 _ _ _ _ ⟨ta9, [_], rfl, (fun q hq => by rw [List.mem_singleton.mp hq]; exact Nat.ne_of_gt (by assumption : _ ∧ d < _ ∧ _).2.1), .tuple (.head _) (.cons (.str _ _) (.cons (.bytes _ _) .nil))⟩ (by assumption) (fun p hp => (by assumption : News h₀ L _ _) p (by
    rcases List.mem_cons.mp hp with rfl | hp
    · exact .tail _ (.head _)
    · rcases List.mem_cons.mp hp with rfl | hp
      · exact .tail _ (.tail _ (.head _))
      · rcases List.mem_cons.mp hp with rfl | hp
        · exact .head _
        · exact .tail _ (.tail _ (.tail _ (List.mem_append_right _ hp)))))
theorem leaf_body (ok : Prop) (j : Nat) (cs : Str) (tw tc : Tok) (bc : Array UInt8) (hl : ∀ ta tc, WB w 18 347 [.ref x, .str cs tc] x d b td kd ka ta i j ok (.bytes bc)) :
    WB w 24 396 [.ref x, .str "BODY" tw, .str cs tc] x d b td kd ka ta i j ok (.tuple [.str "body", .bytes bc]) := by
  have elow : lowerT "BODY" = "body" := by decide +kernel
  unfold WB
  intro rest hoff
  refine BCon.mk5 ?_
  k_fill
  (k_with_none; (k_with "units_room" => ((ktr_units))); (k_with "k_room" => ((ktr_room))); (k_with "k_all" => (first | assumption | exact fun q hq => Nat.ne_of_lt (ktn_ltOf (by assumption) q hq))); (k_with "exec While BoolOp cons nil" => ((k_here; k_extra "W"))); (k_with "exec While Compare cons nil" => ((k_here; k_extra "W"))); (k_with "call ref" => ((k_here; first | k_extra "C" | (k_extra "HOLD"; refine Hold.out ?_)))); (k_with "eval ListComp" => ((k_here; k_extra "L"))); (k_with "pyIter ref" => ((k_here; k_extra "F"))); (k_with "exec For Name Call cons nil" => ((k_here; k_extra "FOR"; (rename Fr _ _ _ _ => lF'); (with_unfolding_all refine' For_invVF lF' ?k1 ?k2 ?_; (case k1 => exact rfl); (case k2 => exact rfl); k_whole)))); (k_with "exec For Name Name cons nil" => ((k_here; k_extra "FOR"; (rename Fr _ _ _ _ => lF'); (with_unfolding_all refine' For_invVF lF' ?k1 ?k2 ?_; (case k1 => exact rfl); (case k2 => exact rfl); k_whole)))); (k_with "compareOp In int bytes" => ((k_here; refine in_bytes_K (by omega) (by omega) ?_))); (k_with "compareOp NotIn int bytes" => ((k_here; refine notin_bytes_K (by omega) (by omega) ?_))); (k_with "pyIter bytes" => ((k_here; k_extra "FB"))); (k_with "call type:bytes" => ((k_here; (with_reducible show wpAny _ _ (call (Value.type "bytes") [Value.bytes _ _]) _ _ _); refine call_bytes_bytes ?_))); (k_with "NE1" => (first | with_reducible assumption | exact And.right (by with_reducible assumption) | exact And.right (And.right (by with_reducible assumption)) | exact And.right (And.right (And.right (by with_reducible assumption))))); (k_with "NE2" => (first | with_reducible assumption | exact And.right (by with_reducible assumption) | exact And.right (And.right (by with_reducible assumption)) | exact And.right (And.right (And.right (by with_reducible assumption))) | exact And.right (And.right (And.right (And.right (by k_extra "NE1")))))); (k_with "NE3" => (first | with_reducible assumption | exact And.right (by with_reducible assumption) | exact And.right (And.right (by with_reducible assumption)) | exact And.right (And.right (And.right (by with_reducible assumption))) | exact And.right (And.right (And.right (And.right (by k_extra "NE2")))))); (k_with "kwd_less" => (first | with_reducible assumption | exact And.left (by k_extra "NE3") | exact And.right (by k_extra "NE3"))); (k_with "k_ne" => (((try dsimp only); first | with_reducible assumption | exact Ne.symm (by with_reducible assumption) | (refine ne_gt ?_; kwd_less) | (refine ne_lt ?_; kwd_less) | kwd_less | (refine Ne.symm ?_; kwd_less)))); (k_with "ktr_room" => (first | exact room_lt (by assumption) (by rfl) | exact room_same (by assumption) (by rfl))); (k_with "ktr_units" => (exact units_lt (by assumption) (by rfl))); (k_with "eval Constant bytes" => ((refine xs_bytes ?_))); (k_with "binaryOp Sub int int" => ((refine xs_sub ?_))); (k_with "binaryOp Mod int int" => ((k_here; refine xs_mod (by decide) ?_))); (k_with "newList" => ((k_here; k_dflt (refine' xs_list ?xlF ?xlN ?_; (case xlF => k_asm); (case xlN => k_asm); k_whole); intro _ _ _ _ xll; (try k_lt xll); (try k_sweep)))); (k_with "eval Constant int" => ((refine xs_int ?_))); (k_with "eval Constant str" => ((refine xs_str ?_))); (k_with "binaryOp Add int int" => ((refine xs_add ?_))); (k_with "storeName" => ((k_here; k_dflt (refine' xs_store ?xsF ?xsN ?_ ?xsa ?xsb; (case xsF => k_asm); (case xsN => k_asm); (case xsa => rfl); (case xsb => rfl); k_whole; intro _ _ _; (try k_sweep))))); (k_with "newTuple" => ((k_here; kup_bare; k_dflt (refine' xs_tuple ?xtF ?xtN ?_ ?xtz; (case xtF => k_asm); (case xtN => k_asm); (case xtz => kmk_size)); intro _ _ _ _ xtl; (try k_lt xtl); (try k_sweep)))); (k_with "leaving ref" => ((k_here; k_extra "LV"))))
  intro dp un gd cn cs' a ccd cl outer A₀ base h₀ L m hp0 gn0 dr0 tk0 os0 mean mg mb Q E B F X XB N T TB hcs hdp hun hret herr
  refine wpAny_call ?_
  k_dflt ktr_enter
  k_with "HOLD" => skip
  k_with "C" => (first
    | ((with_reducible show wpAny _ _ (call (Value.ref 159) _) _ _ _); k_dflt (refine' Con.use5 (lower_text_con w "BODY" _ (by decide) (by decide) _) ?B ?F ?X ?N ?T ?hk ?hd ?hu ?_; (first | (((case N => k_asm); (case B => k_asm); (case F => k_asm); (case X => k_asm); (case T => k_asm); (case hk => first | exact rfl | assumption); (case hd => ktr_room); (case hu => ktr_units))) | tb_start)); intro v9 h9 tk9 hP9 F9 N9; obtain ⟨t9, hP9⟩ := hP9; rw [elow] at hP9; subst hP9; (try dsimp only))
    | ((with_reducible show wpAny _ _ (call (Value.ref 347) _) _ _ _); k_dflt (refine' WB.use5 (hl _ _) hoff ?hx ?hm ?hr ?B ?F ?X ?XB ?N ?T ?TB ?hk ?hd ?hu ?ret ?err; (first | (((case N => k_asm); (case B => k_asm); (case F => k_asm); (case X => k_asm); (case T => k_asm); (case hk => first | exact rfl | assumption); (case hd => ktr_room); (case hu => ktr_units))) | tb_start); (case XB => k_asm); (case TB => k_asm); (case hx => k_mem); (case hm => k_mem); (case hr => first | exact fun p hp => .tail _ (.tail _ hp) | exact fun p hp => .tail _ (.tail _ (.tail _ hp)) | exact fun p hp => .tail _ (.tail _ (.tail _ (.tail _ hp))) | exact fun p hp => .tail _ (.tail _ (.tail _ (.tail _ (.tail _ hp)))) | exact fun p hp => .tail _ (.tail _ (.tail _ (.tail _ (.tail _ (.tail _ hp))))))); (case' ret => (intro hok9 v9 ta9 tl9 h9 tk9 ho9 hD9 F9 N9; cases hD9; try dsimp only)); (case' err => intro hno9 e9 h9 tk9 hT9)))
  k_with "LV" => (refine leave_onX (by assumption) (by assumption) hT9 fun h' hT' => herr hno9 _ _ _ hT')
  k_steps
  exact hret hok9 _ _ _ _ ⟨ta9, [_], rfl, (fun q hq => by rw [List.mem_singleton.mp hq]; exact Nat.ne_of_gt (by assumption : _ ∧ d < _ ∧ _).2.1), .tuple (.head _) (.cons (.str _ _) (.cons (.bytes _ _) .nil))⟩ (by assumption) (fun p hp => (by assumption : News h₀ L _ _) p (by
    rcases List.mem_cons.mp hp with rfl | hp
    · exact .tail _ (.head _)
    · rcases List.mem_cons.mp hp with rfl | hp
      · exact .tail _ (.tail _ (.head _))
      · rcases List.mem_cons.mp hp with rfl | hp
        · exact .head _
        · exact .tail _ (.tail _ (.tail _ (List.mem_append_right _ hp)))))
theorem leaf_subject (ok : Prop) (j : Nat) (cs : Str) (tw tc : Tok) (bc : Array UInt8) (hl : ∀ ta tc, WB w 18 347 [.ref x, .str cs tc] x d b td kd ka ta i j ok (.bytes bc)) :
    WB w 24 396 [.ref x, .str "SUBJECT" tw, .str cs tc] x d b td kd ka ta i j ok (.tuple [.str "header", .str "subject", .bytes bc]) := by
  have elow : lowerT "SUBJECT" = "subject" := by decide +kernel
  unfold WB
  intro rest hoff
  refine BCon.mk5 ?_
  k_fill
  (k_with_none; (k_with "units_room" => ((ktr_units))); (k_with "k_room" => ((ktr_room))); (k_with "k_all" => (first | assumption | exact fun q hq => Nat.ne_of_lt (ktn_ltOf (by assumption) q hq))); (k_with "exec While BoolOp cons nil" => ((k_here; k_extra "W"))); (k_with "exec While Compare cons nil" => ((k_here; k_extra "W"))); (k_with "call ref" => ((k_here; first | k_extra "C" | (k_extra "HOLD"; refine Hold.out ?_)))); (k_with "eval ListComp" => ((k_here; k_extra "L"))); (k_with "pyIter ref" => ((k_here; k_extra "F"))); (k_with "exec For Name Call cons nil" => ((k_here; k_extra "FOR"; (rename Fr _ _ _ _ => lF'); (with_unfolding_all refine' For_invVF lF' ?k1 ?k2 ?_; (case k1 => exact rfl); (case k2 => exact rfl); k_whole)))); (k_with "exec For Name Name cons nil" => ((k_here; k_extra "FOR"; (rename Fr _ _ _ _ => lF'); (with_unfolding_all refine' For_invVF lF' ?k1 ?k2 ?_; (case k1 => exact rfl); (case k2 => exact rfl); k_whole)))); (k_with "compareOp In int bytes" => ((k_here; refine in_bytes_K (by omega) (by omega) ?_))); (k_with "compareOp NotIn int bytes" => ((k_here; refine notin_bytes_K (by omega) (by omega) ?_))); (k_with "pyIter bytes" => ((k_here; k_extra "FB"))); (k_with "call type:bytes" => ((k_here; (with_reducible show wpAny _ _ (call (Value.type "bytes") [Value.bytes _ _]) _ _ _); refine call_bytes_bytes ?_))); (k_with "NE1" => (first | with_reducible assumption | exact And.right (by with_reducible assumption) | exact And.right (And.right (by with_reducible assumption)) | exact And.right (And.right (And.right (by with_reducible assumption))))); (k_with "NE2" => (first | with_reducible assumption | exact And.right (by with_reducible assumption) | exact And.right (And.right (by with_reducible assumption)) | exact And.right (And.right (And.right (by with_reducible assumption))) | exact And.right (And.right (And.right (And.right (by k_extra "NE1")))))); (k_with "NE3" => (first | with_reducible assumption | exact And.right (by with_reducible assumption) | exact And.right (And.right (by with_reducible assumption)) | exact And.right (And.right (And.right (by with_reducible assumption))) | exact And.right (And.right (And.right (And.right (by k_extra "NE2")))))); (k_with "kwd_less" => (first | with_reducible assumption | exact And.left (by k_extra "NE3") | exact And.right (by k_extra "NE3"))); (k_with "k_ne" => (((try dsimp only); first | with_reducible assumption | exact Ne.symm (by with_reducible assumption) | (refine ne_gt ?_; kwd_less) | (refine ne_lt ?_; kwd_less) | kwd_less | (refine Ne.symm ?_; kwd_less)))); (k_with "ktr_room" => (first | exact room_lt (by assumption) (by rfl) | exact room_same (by assumption) (by rfl))); (k_with "ktr_units" => (exact units_lt (by assumption) (by rfl))); (k_with "eval Constant bytes" => ((refine xs_bytes ?_))); (k_with "binaryOp Sub int int" => ((refine xs_sub ?_))); (k_with "binaryOp Mod int int" => ((k_here; refine xs_mod (by decide) ?_))); (k_with "newList" => ((k_here; k_dflt (refine' xs_list ?xlF ?xlN ?_; (case xlF => k_asm); (case xlN => k_asm); k_whole); intro _ _ _ _ xll; (try k_lt xll); (try k_sweep)))); (k_with "eval Constant int" => ((refine xs_int ?_))); (k_with "eval Constant str" => ((refine xs_str ?_))); (k_with "binaryOp Add int int" => ((refine xs_add ?_))); (k_with "storeName" => ((k_here; k_dflt (refine' xs_store ?xsF ?xsN ?_ ?xsa ?xsb; (case xsF => k_asm); (case xsN => k_asm); (case xsa => rfl); (case xsb => rfl); k_whole; intro _ _ _; (try k_sweep))))); (k_with "newTuple" => ((k_here; kup_bare; k_dflt (refine' xs_tuple ?xtF ?xtN ?_ ?xtz; (case xtF => k_asm); (case xtN => k_asm); (case xtz => kmk_size)); intro _ _ _ _ xtl; (try k_lt xtl); (try k_sweep)))); (k_with "leaving ref" => ((k_here; k_extra "LV"))))
  intro dp un gd cn cs' a ccd cl outer A₀ base h₀ L m hp0 gn0 dr0 tk0 os0 mean mg mb Q E B F X XB N T TB hcs hdp hun hret herr
  refine wpAny_call ?_
  k_dflt ktr_enter
  k_with "HOLD" => skip
  k_with "C" => (first
    | ((with_reducible show wpAny _ _ (call (Value.ref 159) _) _ _ _); k_dflt (refine' Con.use5 (lower_text_con w "SUBJECT" _ (by decide) (by decide) _) ?B ?F ?X ?N ?T ?hk ?hd ?hu ?_; (first | (((case N => k_asm); (case B => k_asm); (case F => k_asm); (case X => k_asm); (case T => k_asm); (case hk => first | exact rfl | assumption); (case hd => ktr_room); (case hu => ktr_units))) | tb_start)); intro v9 h9 tk9 hP9 F9 N9; obtain ⟨t9, hP9⟩ := hP9; rw [elow] at hP9; subst hP9; (try dsimp only))
    | ((with_reducible show wpAny _ _ (call (Value.ref 347) _) _ _ _); k_dflt (refine' WB.use5 (hl _ _) hoff ?hx ?hm ?hr ?B ?F ?X ?XB ?N ?T ?TB ?hk ?hd ?hu ?ret ?err; (first | (((case N => k_asm); (case B => k_asm); (case F => k_asm); (case X => k_asm); (case T => k_asm); (case hk => first | exact rfl | assumption); (case hd => ktr_room); (case hu => ktr_units))) | tb_start); (case XB => k_asm); (case TB => k_asm); (case hx => k_mem); (case hm => k_mem); (case hr => first | exact fun p hp => .tail _ (.tail _ hp) | exact fun p hp => .tail _ (.tail _ (.tail _ hp)) | exact fun p hp => .tail _ (.tail _ (.tail _ (.tail _ hp))) | exact fun p hp => .tail _ (.tail _ (.tail _ (.tail _ (.tail _ hp)))) | exact fun p hp => .tail _ (.tail _ (.tail _ (.tail _ (.tail _ (.tail _ hp))))))); (case' ret => (intro hok9 v9 ta9 tl9 h9 tk9 ho9 hD9 F9 N9; cases hD9; try dsimp only)); (case' err => intro hno9 e9 h9 tk9 hT9)))
  k_with "LV" => (refine leave_onX (by assumption) (by assumption) hT9 fun h' hT' => herr hno9 _ _ _ hT')
  k_steps
  exact hret hok9 _ _ _ _ ⟨ta9, [_], rfl, (fun q hq => by rw [List.mem_singleton.mp hq]; exact Nat.ne_of_gt (by assumption : _ ∧ d < _ ∧ _).2.1), .tuple (.head _) (.cons (.str _ _) (.cons (.str _ _) (.cons (.bytes _ _) .nil)))⟩ (by assumption) (fun p hp => (by assumption : News h₀ L _ _) p (by
    rcases List.mem_cons.mp hp with rfl | hp
    · exact .tail _ (.head _)
    · rcases List.mem_cons.mp hp with rfl | hp
      · exact .tail _ (.tail _ (.head _))
      · rcases List.mem_cons.mp hp with rfl | hp
        · exact .head _
        · exact .tail _ (.tail _ (.tail _ (List.mem_append_right _ hp)))))
theorem leaf_header (ok : Prop) (i1 : Nat) (j : Nat) (cs : Str) (tw tc : Tok) (bc : Array UInt8) (hwd : ∀ ta, WCon w 18 368 [.ref x] x d b td kd ka ta i i1 (fun v => ∃ t, v = .str "X-Y" t)) (hl : ∀ ta tc, WB w 18 347 [.ref x, .str cs tc] x d b td kd ka ta i1 j ok (.bytes bc)) :
    WB w 24 396 [.ref x, .str "HEADER" tw, .str cs tc] x d b td kd ka ta i j ok (.tuple [.str "header", .str "x-y", .bytes bc]) := by
  have elow : lowerT "X-Y" = "x-y" := by decide +kernel
  unfold WB
  intro rest hoff
  refine BCon.mk5 ?_
  k_fill
  (k_with_none; (k_with "units_room" => ((ktr_units))); (k_with "k_room" => ((ktr_room))); (k_with "k_all" => (first | assumption | exact fun q hq => Nat.ne_of_lt (ktn_ltOf (by assumption) q hq))); (k_with "exec While BoolOp cons nil" => ((k_here; k_extra "W"))); (k_with "exec While Compare cons nil" => ((k_here; k_extra "W"))); (k_with "call ref" => ((k_here; first | k_extra "C" | (k_extra "HOLD"; refine Hold.out ?_)))); (k_with "eval ListComp" => ((k_here; k_extra "L"))); (k_with "pyIter ref" => ((k_here; k_extra "F"))); (k_with "exec For Name Call cons nil" => ((k_here; k_extra "FOR"; (rename Fr _ _ _ _ => lF'); (with_unfolding_all refine' For_invVF lF' ?k1 ?k2 ?_; (case k1 => exact rfl); (case k2 => exact rfl); k_whole)))); (k_with "exec For Name Name cons nil" => ((k_here; k_extra "FOR"; (rename Fr _ _ _ _ => lF'); (with_unfolding_all refine' For_invVF lF' ?k1 ?k2 ?_; (case k1 => exact rfl); (case k2 => exact rfl); k_whole)))); (k_with "compareOp In int bytes" => ((k_here; refine in_bytes_K (by omega) (by omega) ?_))); (k_with "compareOp NotIn int bytes" => ((k_here; refine notin_bytes_K (by omega) (by omega) ?_))); (k_with "pyIter bytes" => ((k_here; k_extra "FB"))); (k_with "call type:bytes" => ((k_here; (with_reducible show wpAny _ _ (call (Value.type "bytes") [Value.bytes _ _]) _ _ _); refine call_bytes_bytes ?_))); (k_with "NE1" => (first | with_reducible assumption | exact And.right (by with_reducible assumption) | exact And.right (And.right (by with_reducible assumption)) | exact And.right (And.right (And.right (by with_reducible assumption))))); (k_with "NE2" => (first | with_reducible assumption | exact And.right (by with_reducible assumption) | exact And.right (And.right (by with_reducible assumption)) | exact And.right (And.right (And.right (by with_reducible assumption))) | exact And.right (And.right (And.right (And.right (by k_extra "NE1")))))); (k_with "NE3" => (first | with_reducible assumption | exact And.right (by with_reducible assumption) | exact And.right (And.right (by with_reducible assumption)) | exact And.right (And.right (And.right (by with_reducible assumption))) | exact And.right (And.right (And.right (And.right (by k_extra "NE2")))))); (k_with "kwd_less" => (first | with_reducible assumption | exact And.left (by k_extra "NE3") | exact And.right (by k_extra "NE3"))); (k_with "k_ne" => (((try dsimp only); first | with_reducible assumption | exact Ne.symm (by with_reducible assumption) | (refine ne_gt ?_; kwd_less) | (refine ne_lt ?_; kwd_less) | kwd_less | (refine Ne.symm ?_; kwd_less)))); (k_with "ktr_room" => (first | exact room_lt (by assumption) (by rfl) | exact room_same (by assumption) (by rfl))); (k_with "ktr_units" => (exact units_lt (by assumption) (by rfl))); (k_with "eval Constant bytes" => ((refine xs_bytes ?_))); (k_with "binaryOp Sub int int" => ((refine xs_sub ?_))); (k_with "binaryOp Mod int int" => ((k_here; refine xs_mod (by decide) ?_))); (k_with "newList" => ((k_here; k_dflt (refine' xs_list ?xlF ?xlN ?_; (case xlF => k_asm); (case xlN => k_asm); k_whole); intro _ _ _ _ xll; (try k_lt xll); (try k_sweep)))); (k_with "eval Constant int" => ((refine xs_int ?_))); (k_with "eval Constant str" => ((refine xs_str ?_))); (k_with "binaryOp Add int int" => ((refine xs_add ?_))); (k_with "storeName" => ((k_here; k_dflt (refine' xs_store ?xsF ?xsN ?_ ?xsa ?xsb; (case xsF => k_asm); (case xsN => k_asm); (case xsa => rfl); (case xsb => rfl); k_whole; intro _ _ _; (try k_sweep))))); (k_with "newTuple" => ((k_here; kup_bare; k_dflt (refine' xs_tuple ?xtF ?xtN ?_ ?xtz; (case xtF => k_asm); (case xtN => k_asm); (case xtz => kmk_size)); intro _ _ _ _ xtl; (try k_lt xtl); (try k_sweep)))); (k_with "leaving ref" => ((k_here; k_extra "LV"))))
  intro dp un gd cn cs' a ccd cl outer A₀ base h₀ L m hp0 gn0 dr0 tk0 os0 mean mg mb Q E B F X XB N T TB hcs hdp hun hret herr
  refine wpAny_call ?_
  k_dflt ktr_enter
  k_with "HOLD" => skip
  k_with "C" => (first
    | ((with_reducible show wpAny _ _ (call (Value.ref 368) _) _ _ _); k_dflt (refine' WCon.use5 (hwd _) ?hx ?U ?B ?F ?X ?N ?T ?hk ?hd ?hu ?_; (first | (((case N => k_asm); (case hx => k_mem); (case U => (intro _; k_upd)); (case B => k_asm); (case F => k_asm); (case X => k_asm); (case T => k_asm); (case hk => first | exact rfl | assumption); (case hd => ktr_room); (case hu => ktr_units))) | tb_rel)); intro v9 ta9 h9 tk9 hP9 F9 N9; obtain ⟨t9, hP9⟩ := hP9; subst hP9; try dsimp only)
    | ((with_reducible show wpAny _ _ (call (Value.ref 159) _) _ _ _); k_dflt (refine' Con.use5 (lower_text_con w "X-Y" _ (by decide) (by decide) _) ?B ?F ?X ?N ?T ?hk ?hd ?hu ?_; (first | (((case N => k_asm); (case B => k_asm); (case F => k_asm); (case X => k_asm); (case T => k_asm); (case hk => first | exact rfl | assumption); (case hd => ktr_room); (case hu => ktr_units))) | tb_start)); intro v9 h9 tk9 hP9 F9 N9; obtain ⟨t9, hP9⟩ := hP9; rw [elow] at hP9; subst hP9; (try dsimp only))
    | ((with_reducible show wpAny _ _ (call (Value.ref 347) _) _ _ _); k_dflt (refine' WB.use5 (hl _ _) hoff ?hx ?hm ?hr ?B ?F ?X ?XB ?N ?T ?TB ?hk ?hd ?hu ?ret ?err; (first | (((case N => k_asm); (case B => k_asm); (case F => k_asm); (case X => k_asm); (case T => k_asm); (case hk => first | exact rfl | assumption); (case hd => ktr_room); (case hu => ktr_units))) | tb_start); (case XB => k_asm); (case TB => k_asm); (case hx => k_mem); (case hm => k_mem); (case hr => first | exact fun p hp => .tail _ (.tail _ hp) | exact fun p hp => .tail _ (.tail _ (.tail _ hp)) | exact fun p hp => .tail _ (.tail _ (.tail _ (.tail _ hp))) | exact fun p hp => .tail _ (.tail _ (.tail _ (.tail _ (.tail _ hp)))) | exact fun p hp => .tail _ (.tail _ (.tail _ (.tail _ (.tail _ (.tail _ hp))))))); (case' ret => (intro hok9 v9 ta9 tl9 h9 tk9 ho9 hD9 F9 N9; cases hD9; try dsimp only)); (case' err => intro hno9 e9 h9 tk9 hT9)))
  k_with "LV" => (refine leave_onX (by assumption) (by assumption) hT9 fun h' hT' => herr hno9 _ _ _ hT')
  k_steps
  exact hret hok9 _ _ _ _ ⟨ta9, [_], rfl, (fun q hq => by rw [List.mem_singleton.mp hq]; exact Nat.ne_of_gt (by assumption : _ ∧ d < _ ∧ _).2.1), .tuple (.head _) (.cons (.str _ _) (.cons (.str _ _) (.cons (.bytes _ _) .nil)))⟩ (by assumption) (fun p hp => (by assumption : News h₀ L _ _) p (by
    rcases List.mem_cons.mp hp with rfl | hp
    · exact .tail _ (.head _)
    · rcases List.mem_cons.mp hp with rfl | hp
      · exact .tail _ (.tail _ (.head _))
      · rcases List.mem_cons.mp hp with rfl | hp
        · exact .head _
        · exact .tail _ (.tail _ (.tail _ (List.mem_append_right _ hp)))))
end
end

section

section
variable (w : World) (x d : Nat) (b : Array UInt8) (td kd ka ta : Tok) (i : Nat) (ks : List Int) (hk : KBw.bInts b = ks) (hlen : ks.length ≤ 4000) (hxd : x ≠ d)
include hk hlen hxd
set_option linter.unusedSectionVars false
example : True := by ((k_with "leaving ref" => ((k_here; k_extra "LV"))); trivial)
theorem key_leaf (ok : Prop) (i1 j : Nat) (cs : Str) (tc td' : Tok) (c0 : Int) (word : Str) (dat : Dat) (h1 : i < ks.length) (hp : ks.getD i 0 = c0) (h40 : c0 ≠ 40) (hc0 : 0 ≤ c0) (hc1 : c0 < 256) (hset : (#[48, 49, 50, 51, 52, 53, 54, 55, 56, 57, 58, 42, 44] : Array UInt8).contains c0.toNat.toUInt8 = false)
    (hw1 : word ≠ "NOT") (hw2 : word ≠ "OR") (hkw : ∀ ta, WCon w 10 333 [.ref x] x d b td kd ka ta i i1 (fun v => ∃ t, v = .str word t))
    (hfl : ∀ t news, Con w 8 382 [.str word t] news (fun v n' => n' = news ∧ v = .none)) (hl : ∀ ta tw tc, WB w 24 396 [.ref x, .str word tw, .str cs tc] x d b td kd ka ta i1 j ok dat) :
    WB w 30 410 [.ref x, .str cs tc, .int 0 td'] x d b td kd ka ta i j ok dat := by
  unfold WB
  intro rest hoff
  refine BCon.mk5 ?_
  k_fill
  (k_with_none; (k_with "units_room" => ((ktr_units))); (k_with "k_room" => ((ktr_room))); (k_with "k_all" => (first | assumption | exact fun q hq => Nat.ne_of_lt (ktn_ltOf (by assumption) q hq))); (k_with "exec While BoolOp cons nil" => ((k_here; k_extra "W"))); (k_with "exec While Compare cons nil" => ((k_here; k_extra "W"))); (k_with "call ref" => ((k_here; first | k_extra "C" | (k_extra "HOLD"; refine Hold.out ?_)))); (k_with "eval ListComp" => ((k_here; k_extra "L"))); (k_with "pyIter ref" => ((k_here; k_extra "F"))); (k_with "exec For Name Call cons nil" => ((k_here; k_extra "FOR"; (rename Fr _ _ _ _ => lF'); (with_unfolding_all refine' For_invVF lF' ?k1 ?k2 ?_; (case k1 => exact rfl); (case k2 => exact rfl); k_whole)))); (k_with "exec For Name Name cons nil" => ((k_here; k_extra "FOR"; (rename Fr _ _ _ _ => lF'); (with_unfolding_all refine' For_invVF lF' ?k1 ?k2 ?_; (case k1 => exact rfl); (case k2 => exact rfl); k_whole)))); (k_with "compareOp In int bytes" => ((k_here; refine in_bytes_K (by omega) (by omega) ?_))); (k_with "compareOp NotIn int bytes" => ((k_here; refine notin_bytes_K (by omega) (by omega) ?_))); (k_with "pyIter bytes" => ((k_here; k_extra "FB"))); (k_with "call type:bytes" => ((k_here; (with_reducible show wpAny _ _ (call (Value.type "bytes") [Value.bytes _ _]) _ _ _); refine call_bytes_bytes ?_))); (k_with "NE1" => (first | with_reducible assumption | exact And.right (by with_reducible assumption) | exact And.right (And.right (by with_reducible assumption)) | exact And.right (And.right (And.right (by with_reducible assumption))))); (k_with "NE2" => (first | with_reducible assumption | exact And.right (by with_reducible assumption) | exact And.right (And.right (by with_reducible assumption)) | exact And.right (And.right (And.right (by with_reducible assumption))) | exact And.right (And.right (And.right (And.right (by k_extra "NE1")))))); (k_with "NE3" => (first | with_reducible assumption | exact And.right (by with_reducible assumption) | exact And.right (And.right (by with_reducible assumption)) | exact And.right (And.right (And.right (by with_reducible assumption))) | exact And.right (And.right (And.right (And.right (by k_extra "NE2")))))); (k_with "kwd_less" => (first | with_reducible assumption | exact And.left (by k_extra "NE3") | exact And.right (by k_extra "NE3"))); (k_with "k_ne" => (((try dsimp only); first | with_reducible assumption | exact Ne.symm (by with_reducible assumption) | (refine ne_gt ?_; kwd_less) | (refine ne_lt ?_; kwd_less) | kwd_less | (refine Ne.symm ?_; kwd_less)))); (k_with "ktr_room" => (first | exact room_lt (by assumption) (by rfl) | exact room_same (by assumption) (by rfl))); (k_with "ktr_units" => (exact units_lt (by assumption) (by rfl))); (k_with "eval Constant bytes" => ((refine xs_bytes ?_))); (k_with "binaryOp Sub int int" => ((refine xs_sub ?_))); (k_with "binaryOp Mod int int" => ((k_here; refine xs_mod (by decide) ?_))); (k_with "newList" => ((k_here; k_dflt (refine' xs_list ?xlF ?xlN ?_; (case xlF => k_asm); (case xlN => k_asm); k_whole); intro _ _ _ _ xll; (try k_lt xll); (try k_sweep)))); (k_with "eval Constant int" => ((refine xs_int ?_))); (k_with "eval Constant str" => ((refine xs_str ?_))); (k_with "binaryOp Add int int" => ((refine xs_add ?_))); (k_with "storeName" => ((k_here; k_dflt (refine' xs_store ?xsF ?xsN ?_ ?xsa ?xsb; (case xsF => k_asm); (case xsN => k_asm); (case xsa => rfl); (case xsb => rfl); k_whole; intro _ _ _; (try k_sweep))))); (k_with "newTuple" => ((k_here; kup_bare; k_dflt (refine' xs_tuple ?xtF ?xtN ?_ ?xtz; (case xtF => k_asm); (case xtN => k_asm); (case xtz => kmk_size)); intro _ _ _ _ xtl; (try k_lt xtl); (try k_sweep)))); (k_with "leaving ref" => ((k_here; k_extra "LV"))))
  intro dp un gd cn cs' a ccd cl outer A₀ base h₀ L m hp0 gn0 dr0 tk0 os0 mean mg mb Q E B F X XB N T TB hcs hdp hun hret herr
  refine wpAny_call ?_
  k_dflt ktr_enter
  k_with "HOLD" => skip
  k_with "C" => (first
    | ((with_reducible show wpAny _ _ (call (Value.ref 530) _) _ _ _); k_dflt (refine' Con.use5 (peek_con w x d b td kd ka _ i ks hk hlen hxd _ h1 ?M1 ?M2) ?B ?F ?X ?N ?T ?hk ?hd ?hu ?_; (first | (((case N => k_asm); (case B => k_asm); (case F => k_asm); (case X => k_asm); (case T => k_asm); (case hk => first | exact rfl | assumption); (case hd => ktr_room); (case hu => ktr_units))) | tb_start); (case M1 => k_mem); (case M2 => k_mem)); intro v9 h9 tk9 hP9 F9 N9; obtain ⟨t9, hP9⟩ := hP9; rw [hp] at hP9; subst hP9; try dsimp only)
    | ((with_reducible show wpAny _ _ (call (Value.ref 333) _) _ _ _); k_dflt (refine' WCon.use5 (hkw _) ?hx ?U ?B ?F ?X ?N ?T ?hk ?hd ?hu ?_; (first | (((case N => k_asm); (case hx => k_mem); (case U => (intro _; k_upd)); (case B => k_asm); (case F => k_asm); (case X => k_asm); (case T => k_asm); (case hk => first | exact rfl | assumption); (case hd => ktr_room); (case hu => ktr_units))) | tb_rel)); intro v9 ta9 h9 tk9 hP9 F9 N9; obtain ⟨t9, hP9⟩ := hP9; subst hP9; try dsimp only)
    | ((with_reducible show wpAny _ _ (call (Value.ref 382) _) _ _ _); k_dflt (refine' Con.use5 (hfl _ _) ?B ?F ?X ?N ?T ?hk ?hd ?hu ?_; (first | (((case N => k_asm); (case B => k_asm); (case F => k_asm); (case X => k_asm); (case T => k_asm); (case hk => first | exact rfl | assumption); (case hd => ktr_room); (case hu => ktr_units))) | tb_start)); intro v9 h9 tk9 hP9 F9 N9; subst hP9; try dsimp only)
    | ((with_reducible show wpAny _ _ (call (Value.ref 396) _) _ _ _); k_dflt (refine' WB.use5 (hl _ _ _) hoff ?hx ?hm ?hr ?B ?F ?X ?XB ?N ?T ?TB ?hk ?hd ?hu ?ret ?err; (first | (((case N => k_asm); (case B => k_asm); (case F => k_asm); (case X => k_asm); (case T => k_asm); (case hk => first | exact rfl | assumption); (case hd => ktr_room); (case hu => ktr_units))) | tb_start); (case XB => k_asm); (case TB => k_asm); (case hx => k_mem); (case hm => k_mem); (case hr => exact fun p hp => .tail _ (.tail _ hp))); (case' ret => (intro hok9 v9 ta9 tl9 h9 tk9 ho9 hD9 F9 N9; try dsimp only)); (case' err => intro hno9 e9 h9 tk9 hT9)))
  k_with "LV" => (refine leave_onX (by assumption) (by assumption) hT9 fun h' hT' => herr hno9 _ _ _ hT')
  k_steps
  all_goals first
    | (exfalso; omega)
    | exact absurd (beq_iff_eq.mp (by assumption)) hw1
    | exact absurd (beq_iff_eq.mp (by assumption)) hw2
    | (exfalso; rw [hset] at *; contradiction)
    | exact hret hok9 _ _ _ _ ⟨ta9, tl9, rfl, ho9, hD9⟩ (by assumption) (by assumption)
    | fail
theorem key_seen (i1 : Nat) (cs : Str) (tc td' : Tok) (h1 : i < ks.length) (hp : ks.getD i 0 = 83) (hkw : ∀ ta, WCon w 10 333 [.ref x] x d b td kd ka ta i i1 (fun v => ∃ t, v = .str "SEEN" t)) (ok : Prop) (hok : ok) :
    WB w 30 410 [.ref x, .str cs tc, .int 0 td'] x d b td kd ka ta i i1 ok (.tuple [.str "flag", .str "\\Seen"]) := by
  unfold WB
  intro rest hoff
  refine BCon.mk5 ?_
  k_fill
  (k_with_none; (k_with "units_room" => ((ktr_units))); (k_with "k_room" => ((ktr_room))); (k_with "k_all" => (first | assumption | exact fun q hq => Nat.ne_of_lt (ktn_ltOf (by assumption) q hq))); (k_with "exec While BoolOp cons nil" => ((k_here; k_extra "W"))); (k_with "exec While Compare cons nil" => ((k_here; k_extra "W"))); (k_with "call ref" => ((k_here; first | k_extra "C" | (k_extra "HOLD"; refine Hold.out ?_)))); (k_with "eval ListComp" => ((k_here; k_extra "L"))); (k_with "pyIter ref" => ((k_here; k_extra "F"))); (k_with "exec For Name Call cons nil" => ((k_here; k_extra "FOR"; (rename Fr _ _ _ _ => lF'); (with_unfolding_all refine' For_invVF lF' ?k1 ?k2 ?_; (case k1 => exact rfl); (case k2 => exact rfl); k_whole)))); (k_with "exec For Name Name cons nil" => ((k_here; k_extra "FOR"; (rename Fr _ _ _ _ => lF'); (with_unfolding_all refine' For_invVF lF' ?k1 ?k2 ?_; (case k1 => exact rfl); (case k2 => exact rfl); k_whole)))); (k_with "compareOp In int bytes" => ((k_here; refine in_bytes_K (by omega) (by omega) ?_))); (k_with "compareOp NotIn int bytes" => ((k_here; refine notin_bytes_K (by omega) (by omega) ?_))); (k_with "pyIter bytes" => ((k_here; k_extra "FB"))); (k_with "call type:bytes" => ((k_here; (with_reducible show wpAny _ _ (call (Value.type "bytes") [Value.bytes _ _]) _ _ _); refine call_bytes_bytes ?_))); (k_with "NE1" => (first | with_reducible assumption | exact And.right (by with_reducible assumption) | exact And.right (And.right (by with_reducible assumption)) | exact And.right (And.right (And.right (by with_reducible assumption))))); (k_with "NE2" => (first | with_reducible assumption | exact And.right (by with_reducible assumption) | exact And.right (And.right (by with_reducible assumption)) | exact And.right (And.right (And.right (by with_reducible assumption))) | exact And.right (And.right (And.right (And.right (by k_extra "NE1")))))); (k_with "NE3" => (first | with_reducible assumption | exact And.right (by with_reducible assumption) | exact And.right (And.right (by with_reducible assumption)) | exact And.right (And.right (And.right (by with_reducible assumption))) | exact And.right (And.right (And.right (And.right (by k_extra "NE2")))))); (k_with "kwd_less" => (first | with_reducible assumption | exact And.left (by k_extra "NE3") | exact And.right (by k_extra "NE3"))); (k_with "k_ne" => (((try dsimp only); first | with_reducible assumption | exact Ne.symm (by with_reducible assumption) | (refine ne_gt ?_; kwd_less) | (refine ne_lt ?_; kwd_less) | kwd_less | (refine Ne.symm ?_; kwd_less)))); (k_with "ktr_room" => (first | exact room_lt (by assumption) (by rfl) | exact room_same (by assumption) (by rfl))); (k_with "ktr_units" => (exact units_lt (by assumption) (by rfl))); (k_with "eval Constant bytes" => ((refine xs_bytes ?_))); (k_with "binaryOp Sub int int" => ((refine xs_sub ?_))); (k_with "binaryOp Mod int int" => ((k_here; refine xs_mod (by decide) ?_))); (k_with "newList" => ((k_here; k_dflt (refine' xs_list ?xlF ?xlN ?_; (case xlF => k_asm); (case xlN => k_asm); k_whole); intro _ _ _ _ xll; (try k_lt xll); (try k_sweep)))); (k_with "eval Constant int" => ((refine xs_int ?_))); (k_with "eval Constant str" => ((refine xs_str ?_))); (k_with "binaryOp Add int int" => ((refine xs_add ?_))); (k_with "storeName" => ((k_here; k_dflt (refine' xs_store ?xsF ?xsN ?_ ?xsa ?xsb; (case xsF => k_asm); (case xsN => k_asm); (case xsa => rfl); (case xsb => rfl); k_whole; intro _ _ _; (try k_sweep))))); (k_with "newTuple" => ((k_here; kup_bare; k_dflt (refine' xs_tuple ?xtF ?xtN ?_ ?xtz; (case xtF => k_asm); (case xtN => k_asm); (case xtz => kmk_size)); intro _ _ _ _ xtl; (try k_lt xtl); (try k_sweep)))); (k_with "leaving ref" => ((k_here; k_extra "LV"))))
  intro dp un gd cn cs' a ccd cl outer A₀ base h₀ L m hp0 gn0 dr0 tk0 os0 mean mg mb Q E B F X XB N T TB hcs hdp hun hret herr
  refine wpAny_call ?_
  k_dflt ktr_enter
  k_with "HOLD" => skip
  k_with "C" => (first
    | ((with_reducible show wpAny _ _ (call (Value.ref 530) _) _ _ _); k_dflt (refine' Con.use5 (peek_con w x d b td kd ka _ i ks hk hlen hxd _ h1 ?M1 ?M2) ?B ?F ?X ?N ?T ?hk ?hd ?hu ?_; (first | (((case N => k_asm); (case B => k_asm); (case F => k_asm); (case X => k_asm); (case T => k_asm); (case hk => first | exact rfl | assumption); (case hd => ktr_room); (case hu => ktr_units))) | tb_start); (case M1 => k_mem); (case M2 => k_mem)); intro v9 h9 tk9 hP9 F9 N9; obtain ⟨t9, hP9⟩ := hP9; rw [hp] at hP9; subst hP9; try dsimp only)
    | ((with_reducible show wpAny _ _ (call (Value.ref 333) _) _ _ _); k_dflt (refine' WCon.use5 (hkw _) ?hx ?U ?B ?F ?X ?N ?T ?hk ?hd ?hu ?_; (first | (((case N => k_asm); (case hx => k_mem); (case U => (intro _; k_upd)); (case B => k_asm); (case F => k_asm); (case X => k_asm); (case T => k_asm); (case hk => first | exact rfl | assumption); (case hd => ktr_room); (case hu => ktr_units))) | tb_rel)); intro v9 ta9 h9 tk9 hP9 F9 N9; obtain ⟨t9, hP9⟩ := hP9; subst hP9; try dsimp only)
    | ((with_reducible show wpAny _ _ (call (Value.ref 382) _) _ _ _); k_dflt (refine' Con.useR5 (flag_seen w _ _) ?B ?F ?X ?N (fun p hp => hp) ?T ?hk ?hd ?hu ?_; (first | (((case N => k_asm); (case B => k_asm); (case F => k_asm); (case X => k_asm); (case T => k_asm); (case hk => first | exact rfl | assumption); (case hd => ktr_room); (case hu => ktr_units))) | tb_start)); intro v9 h9 tk9 n9 hP9 F9 N9; obtain ⟨d9, t9, u9, hP9, hn9⟩ := hP9; subst hP9; subst hn9; try dsimp only))
  k_steps
  · exact absurd (show (#[48, 49, 50, 51, 52, 53, 54, 55, 56, 57, 58, 42, 44] : Array UInt8).contains (Int.toNat 83).toUInt8 = true by assumption) (by decide +kernel)
  · (with_reducible rename News _ _ _ _ => hN)
    have hne : d9 ≠ d := fun z => by
      have q1 := (hN _ (.head _)).1
      have q2 := (hN _ (.tail _ (.tail _ (.head _)))).1
      have z' : d9 = d := z
      rw [← z', q1] at q2
      have q3 := congrArg Obj.cls (Option.some.inj q2)
      injection q3 with q4
      exact absurd q4 (by decide)
    exact hret hok _ _ _ _ ⟨ta9, [_], rfl, (fun q hq => by rw [List.mem_singleton.mp hq]; exact hne), .tuple (.head _) (.cons (.str _ _) (.cons (.str _ _) .nil))⟩ (by assumption) (fun p hp => hN p (by
     rcases List.mem_cons.mp hp with rfl | hp
     · exact .tail _ (.head _)
     · rcases List.mem_cons.mp hp with rfl | hp
       · exact .tail _ (.tail _ (.head _))
       · rcases List.mem_cons.mp hp with rfl | hp
         · exact .head _
         · exact .tail _ (.tail _ (.tail _ hp))))
end
end

section

def treeD (dat : Nat → Dat) : Nat → Dat
  | 0 => dat 0
  | c + 1 => .tuple [.str "and", treeD dat c, dat (c + 1)]
theorem keys_mem {w : World} {x d D : Addr} {b : Array UInt8} {td kd ka ta : Tok} {i : Nat} {o : Obj} {l1 l2 l3 : Led} : ∀ p ∈ wire w x d b td kd ka ta i (((D, o) :: (l1 ++ l2)) ++ l3), p ∈ (D, o) :: wire w x d b td kd ka ta i (l1 ++ (l2 ++ l3)) := by
  intro p hp
  simp only [List.mem_cons, List.mem_append] at hp ⊢
  grind
section
variable (w : World) (x d : Nat) (b : Array UInt8) (td kd ka ta : Tok) (i : Nat) (ks : List Int) (hk : KBw.bInts b = ks) (hlen : ks.length ≤ 4000) (hxd : x ≠ d)
include hk hlen hxd
set_option linter.unusedSectionVars false
example : True := by ((k_with "leaving ref" => ((k_here; k_extra "LV"))); (k_with "KswEnd" => ((refine Hold.out ?_))); trivial)
theorem keys_con (n : Nat) (s0 e0 : Nat → Nat) (ok : Nat → Prop) (dat : Nat → Dat) (cs : Str) (tc td' : Tok) (hi : s0 0 = i) (he : ∀ c, c ≤ n → e0 c < ks.length) (hb : ∀ c, c < n → ks.getD (e0 c) 0 = 32 ∧ (ks.drop (e0 c)).take 1 = [32] ∧ s0 (c + 1) = e0 c + 1) (hq : ks.getD (e0 n) 0 ≠ 32)
    (hkey : ∀ c, c ≤ n → ∀ ta tc td', WB w 30 410 [.ref x, .str cs tc, .int 0 td'] x d b td kd ka ta (s0 c) (e0 c) (ok c) (dat c)) :
    WB w 34 417 [.ref x, .str cs tc, .int 0 td'] x d b td kd ka ta i (e0 n) (∀ c, c ≤ n → ok c) (treeD dat n) := by
  subst hi
  have hlt_of : ∀ c, c ≤ n → ks.getD (e0 c) 0 = 32 → c < n := fun c h1 h2 => by
    rcases Nat.lt_or_ge c n with h | h
    · exact h
    · have : c = n := Nat.le_antisymm h1 h
      subst this; exact absurd h2 hq
  have hkeyS : ∀ c, c < n → ∀ ta tc td', WB w 30 410 [.ref x, .str cs tc, .int 0 td'] x d b td kd ka ta (e0 c + 1) (e0 (c + 1)) (ok (c + 1)) (dat (c + 1)) := fun c hc => (hb c hc).2.2 ▸ hkey (c + 1) hc
  unfold WB
  intro rest hoff
  refine BCon.mk5 ?_
  k_fill
  (k_with_none; (k_with "units_room" => ((ktr_units))); (k_with "k_room" => ((ktr_room))); (k_with "k_all" => (first | assumption | exact fun q hq => Nat.ne_of_lt (ktn_ltOf (by assumption) q hq))); (k_with "exec While BoolOp cons nil" => ((k_here; k_extra "W"))); (k_with "exec While Compare cons nil" => ((k_here; k_extra "W"))); (k_with "call ref" => ((k_here; first | k_extra "C" | (k_extra "HOLD"; refine Hold.out ?_)))); (k_with "eval ListComp" => ((k_here; k_extra "L"))); (k_with "pyIter ref" => ((k_here; k_extra "F"))); (k_with "exec For Name Call cons nil" => ((k_here; k_extra "FOR"; (rename Fr _ _ _ _ => lF'); (with_unfolding_all refine' For_invVF lF' ?k1 ?k2 ?_; (case k1 => exact rfl); (case k2 => exact rfl); k_whole)))); (k_with "exec For Name Name cons nil" => ((k_here; k_extra "FOR"; (rename Fr _ _ _ _ => lF'); (with_unfolding_all refine' For_invVF lF' ?k1 ?k2 ?_; (case k1 => exact rfl); (case k2 => exact rfl); k_whole)))); (k_with "compareOp In int bytes" => ((k_here; refine in_bytes_K (by omega) (by omega) ?_))); (k_with "compareOp NotIn int bytes" => ((k_here; refine notin_bytes_K (by omega) (by omega) ?_))); (k_with "pyIter bytes" => ((k_here; k_extra "FB"))); (k_with "call type:bytes" => ((k_here; (with_reducible show wpAny _ _ (call (Value.type "bytes") [Value.bytes _ _]) _ _ _); refine call_bytes_bytes ?_))); (k_with "NE1" => (first | with_reducible assumption | exact And.right (by with_reducible assumption) | exact And.right (And.right (by with_reducible assumption)) | exact And.right (And.right (And.right (by with_reducible assumption))))); (k_with "NE2" => (first | with_reducible assumption | exact And.right (by with_reducible assumption) | exact And.right (And.right (by with_reducible assumption)) | exact And.right (And.right (And.right (by with_reducible assumption))) | exact And.right (And.right (And.right (And.right (by k_extra "NE1")))))); (k_with "NE3" => (first | with_reducible assumption | exact And.right (by with_reducible assumption) | exact And.right (And.right (by with_reducible assumption)) | exact And.right (And.right (And.right (by with_reducible assumption))) | exact And.right (And.right (And.right (And.right (by k_extra "NE2")))))); (k_with "kwd_less" => (first | with_reducible assumption | exact And.left (by k_extra "NE3") | exact And.right (by k_extra "NE3"))); (k_with "k_ne" => (((try dsimp only); first | with_reducible assumption | exact Ne.symm (by with_reducible assumption) | (refine ne_gt ?_; kwd_less) | (refine ne_lt ?_; kwd_less) | kwd_less | (refine Ne.symm ?_; kwd_less)))); (k_with "ktr_room" => (first | exact room_lt (by assumption) (by rfl) | exact room_same (by assumption) (by rfl))); (k_with "ktr_units" => (exact units_lt (by assumption) (by rfl))); (k_with "eval Constant bytes" => ((refine xs_bytes ?_))); (k_with "binaryOp Sub int int" => ((refine xs_sub ?_))); (k_with "binaryOp Mod int int" => ((k_here; refine xs_mod (by decide) ?_))); (k_with "newList" => ((k_here; k_dflt (refine' xs_list ?xlF ?xlN ?_; (case xlF => k_asm); (case xlN => k_asm); k_whole); intro _ _ _ _ xll; (try k_lt xll); (try k_sweep)))); (k_with "eval Constant int" => ((refine xs_int ?_))); (k_with "eval Constant str" => ((refine xs_str ?_))); (k_with "binaryOp Add int int" => ((refine xs_add ?_))); (k_with "storeName" => ((k_here; k_dflt (refine' xs_store ?xsF ?xsN ?_ ?xsa ?xsb; (case xsF => k_asm); (case xsN => k_asm); (case xsa => rfl); (case xsb => rfl); k_whole; intro _ _ _; (try k_sweep))))); (k_with "newTuple" => ((k_here; kup_bare; k_dflt (refine' xs_tuple ?xtF ?xtN ?_ ?xtz; (case xtF => k_asm); (case xtN => k_asm); (case xtz => kmk_size)); intro _ _ _ _ xtl; (try k_lt xtl); (try k_sweep)))); (k_with "leaving ref" => ((k_here; k_extra "LV"))); (k_with "KswEnd" => ((refine Hold.out ?_))))
  intro dp un gd cn cs' a ccd cl outer A₀ base h₀ L m hp0 gn0 dr0 tk0 os0 mean mg mb Q E B F X XB N T TB hcs hdp hun hret herr
  refine wpAny_call ?_
  k_dflt ktr_enter
  k_with "HOLD" => skip
  k_with "W" => (with_reducible rename Fr _ _ _ _ => wF; with_reducible rename News _ _ _ _ => wN; refine' ksw_while (σ := Nat × Tok × Value × Led) (fun c => wire w x d b td kd ka c.2.1 (e0 c.1) (c.2.2.2 ++ rest)) (fun c => [(Str.ofString "tree", c.2.2.1)]) (fun _ => True) [] (fun c => c.1 ≤ n ∧ (∀ q ∈ c.2.2.2, q.1 ≠ d) ∧ DatIn c.2.2.2 c.2.2.1 (treeD dat c.1) ∧ ∀ k, k ≤ c.1 → ok k) (fun c => n - c.1) (0, ta9, v9, tl9) wF wN trivial ?hk9 ?hp9 ?turn; (case hk9 => exact List.forall_mem_cons.mpr ⟨by with_unfolding_all rfl, List.forall_mem_nil _⟩); (case hp9 => k_dflt exact ⟨Nat.zero_le _, ho9, hD9, fun k hk' => by rw [Nat.le_zero.mp hk']; exact hok9⟩); clear wF wN; intro c9 u9 h9 tk9 hf9 hp9 F9 N9; obtain ⟨c9, tc9, v8, tl8⟩ := c9; dsimp only at hp9 N9 F9 ⊢; obtain ⟨hlo9, ho8, hD8, hk8⟩ := hp9; (have hin9 := he c9 hlo9); (have hoff8 : ∀ q ∈ tl8 ++ rest, q.1 ≠ d := fun q hq => (List.mem_append.mp hq).elim (ho8 q) (hoff q)))
  k_with "C" => (first
    | ((with_reducible show wpAny _ _ (call (Value.ref 530) _) _ _ _); k_dflt (refine' Con.use5 (peek_con w x d b td kd ka _ (e0 c9) ks hk hlen hxd _ hin9 ?M1 ?M2) ?B ?F ?X ?N ?T ?hk ?hd ?hu ?_; (first | (((case N => k_asm); (case B => k_asm); (case F => k_asm); (case X => k_asm); (case T => k_asm); (case hk => first | exact rfl | assumption); (case hd => ktr_room); (case hu => ktr_units))) | tb_start); (case M1 => k_mem); (case M2 => k_mem)); intro v9 h9 tk9 hP9 F9 N9; obtain ⟨t9, hP9⟩ := hP9; subst hP9; try dsimp only)
    | ((with_reducible show wpAny _ _ (call (Value.ref 551) _) _ _ _); (have hlt9 : c9 < n := hlt_of c9 hlo9 (by assumption)); (have hb9 := hb c9 hlt9); k_dflt (refine' WCon.use5 (space_con w x d b td kd ka _ (e0 c9) ks hk hlen hxd hin9 hb9.2.1) ?hx ?U ?B ?F ?X ?N ?T ?hk ?hd ?hu ?_; (first | (((case N => k_asm); (case hx => k_mem); (case U => (intro _; k_upd)); (case B => k_asm); (case F => k_asm); (case X => k_asm); (case T => k_asm); (case hk => first | exact rfl | assumption); (case hd => ktr_room); (case hu => ktr_units))) | tb_rel)); intro v9 ta9 h9 tk9 hP9 F9 N9; subst hP9; (try dsimp only))
    | ((with_reducible show wpAny _ _ (call (Value.ref 410) _) _ _ _); first
      | (k_dflt (refine' WB.use5 (hkeyS c9 hlt9 _ _ _) (rest := tl8 ++ rest) hoff8 ?hx ?hm ?hr ?B ?F ?X ?XB ?N ?T ?TB ?hk ?hd ?hu ?ret2 ?err2; (first | (((case N => k_asm); (case B => k_asm); (case F => k_asm); (case X => k_asm); (case T => k_asm); (case hk => first | exact rfl | assumption); (case hd => ktr_room); (case hu => ktr_units))) | tb_start); (case XB => k_asm); (case TB => k_asm); (case hx => k_mem); (case hm => k_mem); (case hr => exact fun p hp => .tail _ (.tail _ hp))); (case' ret2 => (intro hok9 v9 ta9 tl9 h9 tk9 ho9 hD9 F9 N9; try dsimp only)); (case' err2 => intro hno9 e9 h9 tk9 hT9))
      | (k_dflt (refine' WB.use5 (hkey 0 (Nat.zero_le _) _ _ _) hoff ?hx ?hm ?hr ?B ?F ?X ?XB ?N ?T ?TB ?hk ?hd ?hu ?ret ?err; (first | (((case N => k_asm); (case B => k_asm); (case F => k_asm); (case X => k_asm); (case T => k_asm); (case hk => first | exact rfl | assumption); (case hd => ktr_room); (case hu => ktr_units))) | tb_start); (case XB => k_asm); (case TB => k_asm); (case hx => k_mem); (case hm => k_mem); (case hr => exact fun p hp => .tail _ (.tail _ hp))); (case' ret => (intro hok9 v9 ta9 tl9 h9 tk9 ho9 hD9 F9 N9; try dsimp only)); (case' err => intro hno9 e9 h9 tk9 hT9))))
  k_with "LV" => (refine leave_onX (by assumption) (by assumption) hT9 fun h' hT' => herr (fun hall => hno9 (hall _ (by first | exact hlt9 | exact Nat.zero_le _))) _ _ _ hT')
  k_steps
  all_goals first
    | (have hcn : c9 = n := (by rcases Nat.lt_or_ge c9 n with h | h; exact absurd (hb c9 h).1 (by assumption); exact Nat.le_antisymm hlo9 h)
       subst hcn
       exact hret hk8 _ _ _ _ ⟨tc9, tl8, rfl, ho8, hD8⟩ (by assumption) (by assumption))
    | (unfold Hold
       (with_reducible rename x < _ ∧ d < _ ∧ _ => hlt)
       (with_reducible rename News _ _ _ _ => N')
       (with_reducible rename Fr _ _ _ _ => F')
       (rename_i D' _ _)
       (refine' ksw_end (c9 + 1, ta9, .ref D', (D', ?o) :: (tl9 ++ tl8)) F' N' ?hn trivial ?hk ?hsame ⟨hlt9, ?ho, ?hD, ?hok⟩ ?hless)
       case hn => exact keys_mem
       case hD => exact .tuple (.head _) (.cons (.str _ _) (.cons (DatIn.mono (fun p hp => .tail _ (List.mem_append.mpr (.inr hp))) hD8) (.cons (DatIn.mono (fun p hp => .tail _ (List.mem_append.mpr (.inl hp))) hD9) .nil)))
       case hok =>
         intro k hk'
         rcases Nat.lt_or_ge c9 k with h | h
         · have : k = c9 + 1 := Nat.le_antisymm hk' h
           subst this; exact hok9
         · exact hk8 k h
       case hless => dsimp only; omega
       case ho =>
         intro q hq
         rcases List.mem_cons.mp hq with rfl | hq
         · exact (Nat.ne_of_lt hlt.2.1).symm
         · rcases List.mem_append.mp hq with hq | hq
           · exact ho9 q hq
           · exact ho8 q hq
       case hk => exact List.forall_mem_cons.mpr ⟨by with_unfolding_all rfl, List.forall_mem_nil _⟩
       case hsame =>
         intro z h2 h3
         have h2' : z ≠ Str.ofString "tree" := h2 _ (.head _)
         dsimp only [kstB]
         simp only [if_neg h2', List.contains_nil, Bool.false_eq_true, if_false]
         try trivial)

end
end

section

example : True := by ((k_with "InAnd" => ((refine InAnd.mk ?_ ?_; k_in))); (k_with "RaiseEnd" => ((refine Hold.out ?_))); (k_with "exec Raise some none" => ((k_here; k_extra "RX"))); (k_with "leaving ref" => ((k_here; k_extra "LV"))); trivial)
section
variable (w : World) (x d : Nat) (b : Array UInt8) (td kd ka ta : Tok) (i : Nat) (ks : List Int) (hk : KBw.bInts b = ks) (hlen : ks.length ≤ 4000) (hxd : x ≠ d)
include hk hlen hxd
set_option linter.unusedSectionVars false
theorem query_con (j : Nat) (al : Str) (tal : Tok) (hx : al.cps.size ≤ 100) (ha : ∀ c ∈ al.cps.toList, c < 128) (r : Str) (hr : (PySem.Spec.lookup (PyData.str (lowerT al)) csTab).getD (.str "") = .str r) (ok : Prop) (dat : Dat)
    (hq : r ≠ "" → ∀ ta tc td', WB w 34 417 [.ref x, .str r tc, .int 0 td'] x d b td kd ka ta i j ok dat) :
    WB w 38 424 [.ref x, .str al tal] x d b td kd ka ta i j (r ≠ "" ∧ ok) dat := by
  unfold WB
  intro rest hoff
  refine BCon.mk5 ?_
  k_fill
  (k_with_none; (k_with "units_room" => ((ktr_units))); (k_with "k_room" => ((ktr_room))); (k_with "k_all" => (first | assumption | exact fun q hq => Nat.ne_of_lt (ktn_ltOf (by assumption) q hq))); (k_with "exec While BoolOp cons nil" => ((k_here; k_extra "W"))); (k_with "exec While Compare cons nil" => ((k_here; k_extra "W"))); (k_with "call ref" => ((k_here; first | k_extra "C" | (k_extra "HOLD"; refine Hold.out ?_)))); (k_with "eval ListComp" => ((k_here; k_extra "L"))); (k_with "pyIter ref" => ((k_here; k_extra "F"))); (k_with "exec For Name Call cons nil" => ((k_here; k_extra "FOR"; (rename Fr _ _ _ _ => lF'); (with_unfolding_all refine' For_invVF lF' ?k1 ?k2 ?_; (case k1 => exact rfl); (case k2 => exact rfl); k_whole)))); (k_with "exec For Name Name cons nil" => ((k_here; k_extra "FOR"; (rename Fr _ _ _ _ => lF'); (with_unfolding_all refine' For_invVF lF' ?k1 ?k2 ?_; (case k1 => exact rfl); (case k2 => exact rfl); k_whole)))); (k_with "compareOp In int bytes" => ((k_here; refine in_bytes_K (by omega) (by omega) ?_))); (k_with "compareOp NotIn int bytes" => ((k_here; refine notin_bytes_K (by omega) (by omega) ?_))); (k_with "pyIter bytes" => ((k_here; k_extra "FB"))); (k_with "call type:bytes" => ((k_here; (with_reducible show wpAny _ _ (call (Value.type "bytes") [Value.bytes _ _]) _ _ _); refine call_bytes_bytes ?_))); (k_with "NE1" => (first | with_reducible assumption | exact And.right (by with_reducible assumption) | exact And.right (And.right (by with_reducible assumption)) | exact And.right (And.right (And.right (by with_reducible assumption))))); (k_with "NE2" => (first | with_reducible assumption | exact And.right (by with_reducible assumption) | exact And.right (And.right (by with_reducible assumption)) | exact And.right (And.right (And.right (by with_reducible assumption))) | exact And.right (And.right (And.right (And.right (by k_extra "NE1")))))); (k_with "NE3" => (first | with_reducible assumption | exact And.right (by with_reducible assumption) | exact And.right (And.right (by with_reducible assumption)) | exact And.right (And.right (And.right (by with_reducible assumption))) | exact And.right (And.right (And.right (And.right (by k_extra "NE2")))))); (k_with "kwd_less" => (first | with_reducible assumption | exact And.left (by k_extra "NE3") | exact And.right (by k_extra "NE3"))); (k_with "k_ne" => (((try dsimp only); first | with_reducible assumption | exact Ne.symm (by with_reducible assumption) | (refine ne_gt ?_; kwd_less) | (refine ne_lt ?_; kwd_less) | kwd_less | (refine Ne.symm ?_; kwd_less)))); (k_with "ktr_room" => (first | exact room_lt (by assumption) (by rfl) | exact room_same (by assumption) (by rfl))); (k_with "ktr_units" => (exact units_lt (by assumption) (by rfl))); (k_with "eval Constant bytes" => ((refine xs_bytes ?_))); (k_with "binaryOp Sub int int" => ((refine xs_sub ?_))); (k_with "binaryOp Mod int int" => ((k_here; refine xs_mod (by decide) ?_))); (k_with "newList" => ((k_here; k_dflt (refine' xs_list ?xlF ?xlN ?_; (case xlF => k_asm); (case xlN => k_asm); k_whole); intro _ _ _ _ xll; (try k_lt xll); (try k_sweep)))); (k_with "eval Constant int" => ((refine xs_int ?_))); (k_with "eval Constant str" => ((refine xs_str ?_))); (k_with "binaryOp Add int int" => ((refine xs_add ?_))); (k_with "storeName" => ((k_here; k_dflt (refine' xs_store ?xsF ?xsN ?_ ?xsa ?xsb; (case xsF => k_asm); (case xsN => k_asm); (case xsa => rfl); (case xsb => rfl); k_whole; intro _ _ _; (try k_sweep))))); (k_with "newTuple" => ((k_here; kup_bare; k_dflt (refine' xs_tuple ?xtF ?xtN ?_ ?xtz; (case xtF => k_asm); (case xtN => k_asm); (case xtz => kmk_size)); intro _ _ _ _ xtl; (try k_lt xtl); (try k_sweep)))); (k_with "InAnd" => ((refine InAnd.mk ?_ ?_; k_in))); (k_with "RaiseEnd" => ((refine Hold.out ?_))); (k_with "exec Raise some none" => ((k_here; k_extra "RX"))); (k_with "leaving ref" => ((k_here; k_extra "LV"))))
  intro dp un gd cn cs' a ccd cl outer A₀ base h₀ L m hp0 gn0 dr0 tk0 os0 mean mg mb Q E B F X XB N T TB hcs hdp hun hret herr
  refine wpAny_call ?_
  k_dflt ktr_enter
  k_with "HOLD" => skip
  k_with "RX" => (k_dflt (refine' Raise_XE (C := 119) (excOk_ w (.inr rfl)) ?F ?X ?T ?ex ?_ ?he ?hp ?hk ?hx ?hd; (case F => k_asm); (case X => k_asm); (case T => k_asm); (case ex => k_is); (case he => rfl); (case hp => rfl); (case hk => rfl); (case hx => rfl); (case hd => decide); k_whole))
  k_with "C" => (first
    | ((with_reducible show wpAny _ _ (call (Value.ref 184) _) _ _ _); k_dflt (refine' Con.use5 (charset_name_con w al tal hx ha r hr _) ?B ?F ?X ?N ?T ?hk ?hd ?hu ?_; (first | (((case N => k_asm); (case B => k_asm); (case F => k_asm); (case X => k_asm); (case T => k_asm); (case hk => first | exact rfl | assumption); (case hd => ktr_room); (case hu => ktr_units))) | tb_start)); intro v9 h9 tk9 hP9 F9 N9; obtain ⟨t9, hP9⟩ := hP9; subst hP9; (try dsimp only))
    | ((with_reducible show wpAny _ _ (call (Value.ref 417) _) _ _ _); have hne9 : r ≠ "" := (fun z => by subst z; contradiction); k_dflt (refine' WB.use5 (hq hne9 _ _ _) hoff ?hx ?hm ?hr ?B ?F ?X ?XB ?N ?T ?TB ?hk ?hd ?hu ?ret ?err; (first | (((case N => k_asm); (case B => k_asm); (case F => k_asm); (case X => k_asm); (case T => k_asm); (case hk => first | exact rfl | assumption); (case hd => ktr_room); (case hu => ktr_units))) | tb_start); (case XB => k_asm); (case TB => k_asm); (case hx => k_mem); (case hm => k_mem); (case hr => exact fun p hp => .tail _ (.tail _ hp))); (case' ret => (intro hok9 v9 ta9 tl9 h9 tk9 ho9 hD9 F9 N9; try dsimp only)); (case' err => intro hno9 e9 h9 tk9 hT9))
    | ((with_reducible show wpAny _ _ (call (Value.ref 119) _) _ _ _); k_dflt (refine' Con.useR5 (exc_con w 119 (.inr rfl) _ _ _ _ _).con ?B ?F ?X ?N (fun p hp => hp) ?T ?hk ?hd ?hu ?_; (first | (((case N => k_asm); (case B => k_asm); (case F => k_asm); (case X => k_asm); (case T => k_asm); (case hk => first | exact rfl | assumption); (case hd => ktr_room); (case hu => ktr_units))) | tb_start)); intro v9 h9 tk9 n9 hP9 F9 N9; obtain ⟨e9, t9, dx9, ws9, hP9, hn9, hl9⟩ := hP9; subst hP9; subst hn9; (try dsimp only)))
  k_with "LV" => (refine leave_onX (by assumption) (by assumption) hT9 fun h' hT' => herr (fun hall => hno9 hall.2) _ _ _ hT')
  k_steps
  all_goals first
    | exact hret ⟨hne9, hok9⟩ _ _ _ _ ⟨ta9, tl9, rfl, ho9, hD9⟩ (by assumption) (by assumption)
    | (unfold Hold
       refine RaiseEnd.mk (by assumption) (by assumption) N9 (wpAny_raiseNew_none rfl (leave_newX (by assumption) (by assumption) (KtsTurn.refl) (by assumption) N9 (by assumption) rfl fun h' B hs hB hBG hw => ?_))
       exact herr (fun z => by have hre : (r == "") = true := by assumption
                               exact z.1 (beq_iff_eq.mp hre)) _ _ _ ⟨_, _, _, _, by assumption, hs, hB, hBG, hw⟩)
end
end

section

open Builtin
theorem slot_join : Slot "bytes" "join" "bytes.join" :=
  .of (owner := "bytes") (n := "join") (by rw [typeLookup_type, builtinLookup_eq_fast]; kernel_rfl) (by decide +kernel) (by decide +kernel) (by decide +kernel)
    (by first | exact .inl (by decide +kernel) | exact .inr (by decide +kernel)) (by rw [isSubtype_type]; kernel_rfl)
theorem type_join : typeOf (.builtin "bytes.join") = pure (.type "method_descriptor") := by show builtinType _ = _; rw [builtinType_eq_fast]; kernel_rfl
theorem entry_join : entryFor table "bytes.join" = some Builtin.«bytes.join» := entryFor_of_tree (by kernel_rfl)
theorem args_join (a b : Value) : argsOk "bytes.join" ⟨[a, b], []⟩ := by
  unfold argsOk; rw [signature?_of (id := "bytes.join") (n := ['n', 'i', 'o', 'j']) (o := ['s', 'e', 't', 'y', 'b']) (by kernel_rfl) FB.owner_bytes]; kernel_rfl
theorem method_join {M : Model} {A : Around} {E : Value → Shared → Prop} {s : Shared} {t : Tok} {b : Array UInt8} {pl : Sem Bool} {Q : Value × List Value → Shared → Prop} (h : Q (.builtin "bytes.join", [.bytes b t]) s) : wpAny M A (getMethod (.bytes b t) "join" pl) Q E s := by
  with_reducible exact KBd.method_of (.bytes b t) (typeIs_bytes _ _ _) slot_join type_join KBd.noRef h
theorem taken_wp {M : Model} {A : Around} {E : Value → Shared → Prop} {s : Shared} {id : String} {b : Array UInt8} {t : Tok} {Q : Option (Array UInt8 × Option Value) → Shared → Prop} (h : Q (some (b, none)) s) : wpAny M A (Bytes.takeBufferQuiet? id (.bytes b t) 0) Q E s := by
  unfold Bytes.takeBufferQuiet? Bytes.takeBuffer?
  rw [KBy.special_eq KBy.look_buffer, KBy.own_buffer]
  simp only [pure_bind]
  refine wpAny_bind (wpAny_attempt ?_)
  refine bm_if_false rfl ?_
  refine wpAny_bind (wpAny_of_eq KBy.buffer_eq ?_)
  exact wpAny_pure (wpAny_pure h)
theorem join_loop {M : Model} {A : Around} {E : Value → Shared → Prop} {s : Shared} {β : Type} (st : Nat → β) {f : Nat → β → Sem (ForInStep β)} {Q : β → Shared → Prop} {n : Nat}
   (hf : ∀ k, k < n → ∀ Q' : ForInStep β → Shared → Prop, Q' (.yield (st (k + 1))) s → wpAny M A (f k (st k)) Q' E s) (h : Q (st n) s) : ∀ m k, k + m = n → wpAny M A (forIn (List.range' k m 1) (st k) f) Q E s := by
  intro m
  induction m with
  | zero => intro k hk; have : k = n := hk
            subst this; exact wpAny_pure h
  | succ m ih =>
    intro k hk
    rw [List.range'_succ]
    exact KPc.turn (hf k (by omega) _ (ih (k + 1) (by omega)))
theorem joined_fold (sep : Array UInt8) : ∀ (l : List (Array UInt8)) (k : Nat) (out : Array UInt8), ((l.zipIdx k).foldl (fun out (p, i) => (if i > 0 then out ++ sep else out) ++ p) out).size ≤ out.size + ((l.map (·.size)).sum + l.length * sep.size) := by
  intro l
  induction l with
  | nil => intro k out; simp
  | cons x l ih =>
    intro k out
    rw [List.zipIdx_cons, List.foldl_cons]
    refine Nat.le_trans (ih _ _) ?_
    rw [List.map_cons, List.sum_cons, List.length_cons, Nat.succ_mul]
    have h : ((if k > 0 then out ++ sep else out) ++ x).size ≤ out.size + sep.size + x.size := by
      split
      · rw [Array.size_append, Array.size_append]; omega
      · rw [Array.size_append]; omega
    dsimp only
    omega
theorem joined_size (sep : Array UInt8) (l : List (Array UInt8)) : (Bytes.joined sep l).size ≤ (l.map (·.size)).sum + l.length * sep.size := by
  have := joined_fold sep l 0 #[]
  simpa [Bytes.joined] using this
def mkB (p : Array UInt8 × Tok) : Value := .bytes p.1 p.2
theorem letGo_noview {M : Model} {A : Around} {E : Value → Shared → Prop} {s : Shared} (l : List Value) (keep : List Value) {Q : Unit → Shared → Prop} (h : Q () s) : wpAny M A (Bytes.joinLetGo (l.map fun v => (v, none)) keep) Q E s := by
  induction l with
  | nil => exact wpAny_pure h
  | cons v l ih =>
    unfold Bytes.joinLetGo
    exact wpAny_bind (wpAny_letGo ih)
theorem meets_join {M : Model} {A : Around} {E : Value → Shared → Prop} {s : Shared} {D : Addr} {ps : List (Array UInt8 × Tok)} {sep : Array UInt8} {t : Tok} {R : Result → Shared → Prop}
   (hl : s.heap.IsList D (ps.map mkB).toArray) (hsz : ((ps.map (·.1)).map (·.size)).sum + ps.length * sep.size ≤ 16777216) (h : ∀ t' k, R (.ok (.ret (.bytes (Bytes.joined sep (ps.map (·.1))) t'))) { s with toks := k }) :
   wpAny M A («bytes.join» ⟨[.bytes sep t, .ref D], []⟩) (fun fin s' => ∃ v, fin = .done (.ret v) ∧ R (.ok (.ret v)) s') E s := by
  obtain ⟨o, ho, hc, n, hd⟩ := id hl
  have hT : s.TypeIs (.ref D) "list" := hl.typeIs
  unfold «bytes.join» Bytes.joinM
  refine wpAny_bind (wpAny_of_eq (a := (Value.bytes sep t, Value.ref D)) rfl ?_)
  dsimp only
  refine wpAny_bind ?_
  show wpAny _ _ (Bytes.joinItems (.ref D)) _ _ _
  unfold Bytes.joinItems
  refine wpAny_bind (wpAny_typeOf hT ?_)
  show wpAny _ _ (pure (Value.ref D)) _ _ _
  refine wpAny_pure ?_
  refine wpAny_bind ?_
  show wpAny _ _ (load D >>= _) _ _ _
  refine wpAny_bind (wpAny_load ho ?_)
  rw [hd]
  refine wpAny_pure ?_
  dsimp only
  rw [if_pos (by rfl)]
  rcases ps with _ | ⟨p, _ | ⟨q, r⟩⟩
  · refine wpAny_bind ?_
    rw [KPc.range_list]
    refine wpAny_pure ?_
    refine wpAny_bind (wpAny_of_eq (a := sep) rfl ?_)
    rw [if_neg (by simp [Bytes.tooLong])]
    refine wpAny_bind ?_
    show wpAny _ _ (mkBytes (Bytes.joined sep [])) _ _ _
    refine wpAny_mkBytes ?_ (Nat.zero_le _)
    refine wpAny_bind (wpAny_holding (wpAny_point ?_))
    refine wpAny_bind (wpAny_pure ?_)
    exact wpAny_pure ⟨_, rfl, h _ _⟩
  · refine wpAny_bind (wpAny_typeOf (typeIs_bytes _ _ _) ?_)
    rw [if_pos (by rfl)]
    refine wpAny_bind (wpAny_rule ?_)
    refine wpAny_pure ?_
    refine ⟨_, rfl, ?_⟩
    have e : Bytes.joined sep ([p].map (·.1)) = p.1 := by simp [Bytes.joined]
    rw [e] at h
    exact h p.2 s.toks
  · refine wpAny_bind ?_
    rw [KPc.range_list]
    generalize p :: q :: r = ps at *
    have hsize : (ps.map mkB).toArray.size = ps.length := by simp
    refine join_loop (fun k => (((ps.take k).map (·.1)).toArray, (ps.take k).map fun p => (mkB p, none))) (n := (ps.map mkB).toArray.size) ?_ ?_ _ 0 (Nat.zero_add _)
    · intro k hk Q' hQ'
      rw [hsize] at hk
      have hget : (ps.map mkB).toArray.getD k Value.none = mkB ps[k] := by simp [Array.getD, hk]
      refine wpAny_bind (show wpAny _ _ (load D >>= _) _ _ _ from wpAny_bind (wpAny_load ho ?_))
      rw [hd]
      refine wpAny_pure ?_
      dsimp only
      have hno : (Bytes.Kind.bytes == Bytes.Kind.bytearray || ((ps.take k).map fun p => (mkB p, (none : Option Value))).any fun x => x.fst.onHeap) = false := by
        have h1 : (((ps.take k).map fun p => (mkB p, (none : Option Value))).any fun x => x.fst.onHeap) = false := List.any_eq_false.mpr fun x hx => by
          obtain ⟨p, _, rfl⟩ := List.mem_map.mp hx
          exact Bool.false_ne_true
        rw [h1]; rfl
      rw [hno, if_neg (by simp), hget]
      refine wpAny_bind (wpAny_holding (taken_wp ?_))
      dsimp only
      refine wpAny_bind (show wpAny _ _ (load D >>= _) _ _ _ from wpAny_bind (wpAny_load ho ?_))
      rw [hd]
      refine wpAny_pure ?_
      dsimp only
      rw [if_neg (by simp)]
      refine wpAny_pure ?_
      have e1 : ps.take (k + 1) = ps.take k ++ [ps[k]] := by rw [List.take_succ_eq_append_getElem hk]
      rw [e1, List.map_append, List.map_append] at hQ'
      rw [List.push_toArray]
      exact hQ'
    · rw [hsize, List.take_length]
      refine wpAny_bind (wpAny_of_eq (a := sep) rfl ?_)
      have e : ∀ (l : List (Array UInt8)) (a : Nat), l.foldl (fun x1 x2 => x1 + x2.size) a = a + (l.map (·.size)).sum := by
        intro l
        induction l with
        | nil => intro a; rfl
        | cons x l ih => intro a; rw [List.foldl_cons, ih, List.map_cons, List.sum_cons, Nat.add_assoc]
      have hm : sep.size * (ps.length - 1) ≤ ps.length * sep.size := by rw [Nat.mul_comm]; exact Nat.mul_le_mul_right _ (Nat.sub_le _ _)
      have hT : ¬ (Bytes.tooLong (Array.foldl (fun x1 x2 => x1 + x2.size) (sep.size * (((ps.map (·.1)).toArray).size - 1)) ((ps.map (·.1)).toArray)) = true) := by
        rw [KBy.tooLong_not]
        · decide
        · rw [List.foldl_toArray', e]
          · simp only [List.size_toArray, List.length_map]; omega
          · rfl
      rw [if_neg hT]
      refine wpAny_bind ?_
      show wpAny _ _ (mkBytes (Bytes.joined sep (ps.map (·.1)))) _ _ _
      refine wpAny_mkBytes ?_ ?_
      · refine wpAny_bind (wpAny_holding (wpAny_point ?_))
        refine wpAny_bind ?_
        have e2 : (ps.map fun p => (mkB p, (none : Option Value))) = (ps.map mkB).map fun v => (v, none) := by rw [List.map_map]; rfl
        rw [e2]
        exact letGo_noview _ _ (wpAny_pure ⟨_, rfl, h _ _⟩)
      · rw [sizeLine_eq]; exact Nat.le_trans (joined_size _ _) (by rw [List.length_map]; exact hsz)

theorem bytes_join {prog : Program} {w : World} {A : Around} {E : Value → Shared → Prop} {s : Shared} {D : Addr} {ps : List (Array UInt8 × Tok)} {sep : Array UInt8} {t : Tok} {Q : Value → Shared → Prop}
   (hl : s.heap.IsList D (ps.map mkB).toArray) (hsz : ((ps.map (·.1)).map (·.size)).sum + ps.length * sep.size ≤ 16777216) (h : ∀ t' k, Q (.bytes (Bytes.joined sep (ps.map (·.1))) t') { s with toks := k }) :
   wpAny (model prog w) A (call (.builtin "bytes.join") [.bytes sep t, .ref D]) Q E s :=
  call_meets (S := fun _ R s => s.heap.IsList D (ps.map mkB).toArray ∧ ∀ t' k, R (.ok (.ret (.bytes (Bytes.joined sep (ps.map (·.1))) t'))) { s with toks := k }) slot_join (typeIs_bytes _ _ _) entry_join (args_join _ _)
    (.of_wp fun _ _ _ _ _ hS => meets_join hS.1 hsz hS.2) ⟨hl, h⟩
end

section

example : True := by ((k_with "call type:bytes" => ((k_here; k_extra "BY"))); trivial)
theorem enc_in' {c : Int} (h0 : 0 ≤ c) (h1 : c < 65536) : KBa.In (enc c) := by
  intro v hv
  unfold enc at hv
  split at hv
  · simp only [List.mem_cons, List.not_mem_nil, or_false] at hv; omega
  · split at hv
    · simp only [List.mem_cons, List.not_mem_nil, or_false] at hv; omega
    · simp only [List.mem_cons, List.not_mem_nil, or_false] at hv; omega
theorem enc_short (c : Int) : (enc c).length ≤ 16777216 := by
  unfold enc
  split
  · exact Nat.le_of_ble_eq_true rfl
  · split <;> exact Nat.le_of_ble_eq_true rfl
theorem wide_con (w : World) (c : Int) (t : Tok) (h0 : 0 ≤ c) (h1 : c < 65536) (news : Led) :
    Con w 2 715 [.int c t] news (fun v n' => n' = news ∧ ∃ t, v = .bytes (byteArr (enc c)) t) := by
  have hin := enc_in' h0 h1
  have e1 : c / 64 = c.fdiv 64 := (Int.fdiv_eq_ediv_of_nonneg _ (by decide)).symm
  have e2 : c % 64 = c.fmod 64 := (Int.fmod_eq_emod_of_nonneg _ (by decide)).symm
  have e3 : c / 4096 = c.fdiv 4096 := (Int.fdiv_eq_ediv_of_nonneg _ (by decide)).symm
  have e4 : (c / 64) % 64 = (c.fdiv 64).fmod 64 := by rw [e1]; exact (Int.fmod_eq_emod_of_nonneg _ (by decide)).symm
  refine Con.mk5 ?_
  k_fill
  (k_with_none; (k_with "units_room" => ((ktr_units))); (k_with "k_room" => ((ktr_room))); (k_with "k_all" => (first | assumption | exact fun q hq => Nat.ne_of_lt (ktn_ltOf (by assumption) q hq))); (k_with "exec While BoolOp cons nil" => ((k_here; k_extra "W"))); (k_with "exec While Compare cons nil" => ((k_here; k_extra "W"))); (k_with "call ref" => ((k_here; first | k_extra "C" | (k_extra "HOLD"; refine Hold.out ?_)))); (k_with "eval ListComp" => ((k_here; k_extra "L"))); (k_with "pyIter ref" => ((k_here; k_extra "F"))); (k_with "exec For Name Call cons nil" => ((k_here; k_extra "FOR"; (rename Fr _ _ _ _ => lF'); (with_unfolding_all refine' For_invVF lF' ?k1 ?k2 ?_; (case k1 => exact rfl); (case k2 => exact rfl); k_whole)))); (k_with "exec For Name Name cons nil" => ((k_here; k_extra "FOR"; (rename Fr _ _ _ _ => lF'); (with_unfolding_all refine' For_invVF lF' ?k1 ?k2 ?_; (case k1 => exact rfl); (case k2 => exact rfl); k_whole)))); (k_with "compareOp In int bytes" => ((k_here; refine in_bytes_K (by omega) (by omega) ?_))); (k_with "compareOp NotIn int bytes" => ((k_here; refine notin_bytes_K (by omega) (by omega) ?_))); (k_with "pyIter bytes" => ((k_here; k_extra "FB"))); (k_with "call type:bytes" => ((k_here; (with_reducible show wpAny _ _ (call (Value.type "bytes") [Value.bytes _ _]) _ _ _); refine call_bytes_bytes ?_))); (k_with "NE1" => (first | with_reducible assumption | exact And.right (by with_reducible assumption) | exact And.right (And.right (by with_reducible assumption)) | exact And.right (And.right (And.right (by with_reducible assumption))))); (k_with "NE2" => (first | with_reducible assumption | exact And.right (by with_reducible assumption) | exact And.right (And.right (by with_reducible assumption)) | exact And.right (And.right (And.right (by with_reducible assumption))) | exact And.right (And.right (And.right (And.right (by k_extra "NE1")))))); (k_with "NE3" => (first | with_reducible assumption | exact And.right (by with_reducible assumption) | exact And.right (And.right (by with_reducible assumption)) | exact And.right (And.right (And.right (by with_reducible assumption))) | exact And.right (And.right (And.right (And.right (by k_extra "NE2")))))); (k_with "kwd_less" => (first | with_reducible assumption | exact And.left (by k_extra "NE3") | exact And.right (by k_extra "NE3"))); (k_with "k_ne" => (((try dsimp only); first | with_reducible assumption | exact Ne.symm (by with_reducible assumption) | (refine ne_gt ?_; kwd_less) | (refine ne_lt ?_; kwd_less) | kwd_less | (refine Ne.symm ?_; kwd_less)))); (k_with "ktr_room" => (first | exact room_lt (by assumption) (by rfl) | exact room_same (by assumption) (by rfl))); (k_with "ktr_units" => (exact units_lt (by assumption) (by rfl))); (k_with "eval Constant bytes" => ((refine xs_bytes ?_))); (k_with "binaryOp Sub int int" => ((refine xs_sub ?_))); (k_with "binaryOp Mod int int" => ((k_here; refine xs_mod (by decide) ?_))); (k_with "newList" => ((k_here; k_dflt (refine' xs_list ?xlF ?xlN ?_; (case xlF => k_asm); (case xlN => k_asm); k_whole); intro _ _ _ _ xll; (try k_lt xll); (try k_sweep)))); (k_with "eval Constant int" => ((refine xs_int ?_))); (k_with "eval Constant str" => ((refine xs_str ?_))); (k_with "binaryOp Add int int" => ((refine xs_add ?_))); (k_with "storeName" => ((k_here; k_dflt (refine' xs_store ?xsF ?xsN ?_ ?xsa ?xsb; (case xsF => k_asm); (case xsN => k_asm); (case xsa => rfl); (case xsb => rfl); k_whole; intro _ _ _; (try k_sweep))))); (k_with "newTuple" => ((k_here; kup_bare; k_dflt (refine' xs_tuple ?xtF ?xtN ?_ ?xtz; (case xtF => k_asm); (case xtN => k_asm); (case xtz => kmk_size)); intro _ _ _ _ xtl; (try k_lt xtl); (try k_sweep)))); (k_with "call type:bytes" => ((k_here; k_extra "BY"))))
  intro dp un gd cn cs' a ccd cl outer A₀ base h₀ L m hp0 gn0 dr0 tk0 os0 mean mg mb Q E B F X N T hcs hdp hun hret
  refine wpAny_call ?_
  k_dflt ktr_enter
  k_with "HOLD" => skip
  k_with "BY" => ((with_reducible show wpAny _ _ (call (Value.type "bytes") [Value.ref _]) _ _ _); k_dflt (refine' KBa.make_K (ns := enc c) ?F ?N ?hh ?hl ?hi ?hr ?hn ?_; (case F => k_asm); (case N => k_asm); (case hh => rfl); (case hl => exact News.isList (by k_asm) (List.Mem.head _)); (case hr => exact hin); (case hi => (unfold enc; first | (rw [if_pos (by omega)]; exact .cons _ _ .nil) | (rw [if_neg (by omega), if_pos (by omega), e1, e2]; exact .cons _ _ (.cons _ _ .nil)) | (rw [if_neg (by omega), if_neg (by omega), e4, e3, e2]; exact .cons _ _ (.cons _ _ (.cons _ _ .nil))))); (case hn => exact enc_short c)); intro h' t' k' F' N' _)
  k_steps
  all_goals exact hret _ _ _ _ ⟨rfl, _, rfl⟩ (by assumption) (fun p hp => (by assumption : News h₀ L _ _) p (List.mem_cons_of_mem _ hp))
end

section

theorem take_use {w : World} {B l : Nat} {many : Int} {tm t0 : Tok} {c0 c1 : Nat} {us : List Value} {ns : List Int} {k : Int} {news : Led} {n1 : Int → Tok → Nat → Led} {n2 : Int → Tok → Nat → List Value → Nat → Led}
  {dp un : Nat} {gd : Option (List Code)} {cn : Str} {cs : Scope} {a : Addr} {ccd : Value} {cl : List (Str × Addr)} {outer : List Env} {A₀ : Around} {base h₀ : Heap} {L : Addr} {m : Str → Option Value} {s : Shared}
  {mean : ExcName → Option Value} {mg mb : Str → Option Value} {Q E : Value → Shared → Prop}
  (hm : 0 < many ∧ many ≤ 10) (hi : IntsAre us ns) (hlen : us.length ≤ 63) (hBl : B ≠ l) (hl : (l, W.listOf us.toArray c1) ∈ news)
  (U1 : ∀ k' t' d0, Upd B (W.listOf [.ref l, .int k t0].toArray c0) (W.listOf [.ref l, .int k' t'].toArray d0) news (n1 k' t' d0))
  (U2 : ∀ k' t' d0 us' d1, Upd l (W.listOf us.toArray c1) (W.listOf us'.toArray d1) (n1 k' t' d0) (n2 k' t' d0 us' d1))
  (B' : Below A₀ base outer h₀) (F : Fr h₀ L s.heap m) (X : (pre.heap_1 w.params).In h₀) (N : News h₀ L s.heap news)
  (T : Top pre.view_1 (looseW pre.view_1 [Str.ofString "PostError", Str.ofString "CHARSETS"]) mean mg mb h₀) (hk : cs.kind = .function) (hd : dp + 10 + 1 < recursionLimit) (hu : un + 200 + 8 * 1 < cLine)
  (ret : ∀ j t us' ns' k' t' d0 d1 h' tk', 0 ≤ j → j < many → IntsAre us' ns' → us'.length ≤ 63 → Fr h₀ L h' m → News h₀ L h' (n2 k' t' d0 us' d1) → Q (.int j t) { s with heap := h', toks := tk' }) :
  wpAny (model PySem.Challenge.rw_or0070_01.row.prog w) (ktrTop dp un gd cn cs L a ccd cl outer) (call (.ref 708) [.ref B, .int many tm]) Q E s := by
  have T1 := take_con w B l many tm t0 hm c0 c1 us ns k ((news.filter fun q => q.1 ≠ B ∧ q.1 ≠ l)) hi hlen hBl (fun q hq => by simpa using (List.mem_filter.mp hq).2 |> of_decide_eq_true |>.1) (fun q hq => by simpa using (List.mem_filter.mp hq).2 |> of_decide_eq_true |>.2)
  have hB : (B, W.listOf [.ref l, .int k t0].toArray c0) ∈ news := by
    obtain ⟨pre, post, e1, e2, a1, a2⟩ := (U1 0 0 0).split
    rw [e1]; exact List.mem_append.mpr (.inr (.head _))
  refine T1 _ _ _ _ _ _ _ _ _ _ _ _ _ _ _ _ _ _ _ _ B' F X (fun p hp => ?_) T hk hd hu (fun v h' tk' n' hR F' N' => ?_)
  · rcases List.mem_cons.mp hp with rfl | hp
    · exact N _ hB
    · rcases List.mem_cons.mp hp with rfl | hp
      · exact N _ hl
      · exact N _ (List.mem_filter.mp hp).1
  · obtain ⟨j, t, rfl, h0, h1, us', ns', k', t', d0, d1, rfl, hi', hl'⟩ := hR
    refine ret j t us' ns' k' t' d0 d1 h' tk' h0 h1 hi' hl' F' fun p hp => N' p ?_
    obtain ⟨p1, q1, e1, e2, a1, a2⟩ := (U1 k' t' d0).split
    obtain ⟨p2, q2, e3, e4, b1, b2⟩ := (U2 k' t' d0 us' d1).split
    rw [e4] at hp
    have key : ∀ q ∈ p2 ++ q2, q ∈ n1 k' t' d0 := fun q hq => by
      rw [e3]; rcases List.mem_append.mp hq with h | h
      · exact List.mem_append.mpr (.inl h)
      · exact List.mem_append.mpr (.inr (.tail _ h))
    have hnl : ∀ q ∈ p2 ++ q2, q.1 ≠ l := fun q hq => (List.mem_append.mp hq).elim (b1 q) (b2 q)
    have fin : ∀ q ∈ p2 ++ q2, q ∈ (B, W.listOf [.ref l, .int k' t'].toArray d0) :: (l, W.listOf us'.toArray d1) :: (news.filter fun q => q.1 ≠ B ∧ q.1 ≠ l) := fun q hq => by
      have hq1 := key q hq
      rw [e2] at hq1
      have hmem : q ∈ p1 ++ q1 → q ∈ (B, W.listOf [.ref l, .int k' t'].toArray d0) :: (l, W.listOf us'.toArray d1) :: (news.filter fun q => q.1 ≠ B ∧ q.1 ≠ l) := fun hh => by
        refine .tail _ (.tail _ (List.mem_filter.mpr ⟨?_, decide_eq_true ⟨(List.mem_append.mp hh).elim (a1 q) (a2 q), hnl q hq⟩⟩))
        rw [e1]
        rcases List.mem_append.mp hh with h | h
        · exact List.mem_append.mpr (.inl h)
        · exact List.mem_append.mpr (.inr (.tail _ h))
      rcases List.mem_append.mp hq1 with h | h
      · exact hmem (List.mem_append.mpr (.inl h))
      · rcases List.mem_cons.mp h with rfl | h
        · exact .head _
        · exact hmem (List.mem_append.mpr (.inr h))
    rcases List.mem_append.mp hp with h | h
    · exact fin _ (List.mem_append.mpr (.inl h))
    · rcases List.mem_cons.mp h with rfl | h
      · exact .tail _ (.head _)
      · exact fin _ (List.mem_append.mpr (.inr h))

theorem take_use5 {w : World} {B l : Nat} {many : Int} {tm t0 : Tok} {c0 c1 : Nat} {us : List Value} {ns : List Int} {k : Int} {news : Led} {n1 : Int → Tok → Nat → Led} {n2 : Int → Tok → Nat → List Value → Nat → Led}
  {dp un : Nat} {gd : Option (List Code)} {cn : Str} {cs : Scope} {a : Addr} {ccd : Value} {cl : List (Str × Addr)} {outer : List Env} {A₀ : Around} {base h₀ : Heap} {L : Addr} {m : Str → Option Value} {hp5 : Heap} {gn5 : Array GenState} {dr5 : Drawn} {tk5 : Nat} {os5 : OsState}
  {mean : ExcName → Option Value} {mg mb : Str → Option Value} {Q E : Value → Shared → Prop}
  (hm : 0 < many ∧ many ≤ 10) (hi : IntsAre us ns) (hlen : us.length ≤ 63) (hBl : B ≠ l) (hl : (l, W.listOf us.toArray c1) ∈ news)
  (U1 : ∀ k' t' d0, Upd B (W.listOf [.ref l, .int k t0].toArray c0) (W.listOf [.ref l, .int k' t'].toArray d0) news (n1 k' t' d0))
  (U2 : ∀ k' t' d0 us' d1, Upd l (W.listOf us.toArray c1) (W.listOf us'.toArray d1) (n1 k' t' d0) (n2 k' t' d0 us' d1))
  (B' : Below A₀ base outer h₀) (F : Fr h₀ L hp5 m) (X : (pre.heap_1 w.params).In h₀) (N : News h₀ L hp5 news)
  (T : Top pre.view_1 (looseW pre.view_1 [Str.ofString "PostError", Str.ofString "CHARSETS"]) mean mg mb h₀) (hk : cs.kind = .function) (hd : dp + 10 + 1 < recursionLimit) (hu : un + 200 + 8 * 1 < cLine)
  (ret : ∀ j t us' ns' k' t' d0 d1 h' tk', 0 ≤ j → j < many → IntsAre us' ns' → us'.length ≤ 63 → Fr h₀ L h' m → News h₀ L h' (n2 k' t' d0 us' d1) → Q (.int j t) ⟨h', gn5, dr5, tk', os5⟩) :
  wpAny (model PySem.Challenge.rw_or0070_01.row.prog w) (ktrTop dp un gd cn cs L a ccd cl outer) (call (.ref 708) [.ref B, .int many tm]) Q E ⟨hp5, gn5, dr5, tk5, os5⟩ :=
  take_use (s := ⟨hp5, gn5, dr5, tk5, os5⟩) hm hi hlen hBl hl U1 U2 B' F X N T hk hd hu ret
end

section

def signsOf (way : Str) : List Int := if way = "ascii" then [65, 122, 32, 34, 10] else if way = "latin" then [65, 233, 255, 160, 13] else if way = "wide" then [65, 233, 8364, 2047, 65533] else [65, 66, 67, 68, 69]
def csOf (way : Str) : Str := if way = "ascii" then "us-ascii" else if way = "latin" then "iso-8859-1" else if way = "wide" then "utf-8" else ""
def encs (cs : List Int) : List Int := cs.flatMap enc
def wayOk (way : Str) : Prop := way = "ascii" ∨ way = "latin" ∨ way = "wide"
theorem signs_ascii : signsOf "ascii" = [65, 122, 32, 34, 10] := by decide +kernel
theorem signs_latin : signsOf "latin" = [65, 233, 255, 160, 13] := by decide +kernel
theorem signs_wide : signsOf "wide" = [65, 233, 8364, 2047, 65533] := by decide +kernel
theorem cs_ascii : csOf "ascii" = "us-ascii" := by decide +kernel
theorem cs_latin : csOf "latin" = "iso-8859-1" := by decide +kernel
theorem cs_wide : csOf "wide" = "utf-8" := by decide +kernel
theorem wide_ne1 : ("ascii" : Str) ≠ "wide" := by decide +kernel
theorem wide_ne2 : ("latin" : Str) ≠ "wide" := by decide +kernel
theorem encs_append (a b : List Int) : encs (a ++ b) = encs a ++ encs b := by unfold encs; rw [List.flatMap_append]
theorem encs_cons (a : Int) (b : List Int) : encs (a :: b) = enc a ++ encs b := by unfold encs; rw [List.flatMap_cons]
theorem encs_at {cs : List Int} {j : Nat} {c : Int} (h : cs[j]? = some c) (post : List Int) : (encs cs ++ post).drop (encs (cs.take j)).length = enc c ++ (encs (cs.drop (j + 1)) ++ post) := by
  have e : cs = cs.take j ++ c :: cs.drop (j + 1) := by
    obtain ⟨hj, rfl⟩ := List.getElem?_eq_some_iff.mp h
    rw [List.getElem_cons_drop, List.take_append_drop]
  conv => lhs; rw [e]
  rw [encs_append, encs_cons, List.append_assoc]
  have e2 : (encs (List.take j cs)).length = (encs (List.take j (cs.take j ++ c :: cs.drop (j + 1)))).length := by rw [← e]
  rw [← e]
  rw [List.drop_left, List.append_assoc]
theorem encs_take_succ {cs : List Int} {j : Nat} {c : Int} (h : cs[j]? = some c) : (encs (cs.take (j + 1))).length = (encs (cs.take j)).length + (enc c).length := by
  rw [List.take_add_one, h, encs_append, List.length_append]
  simp [encs]
theorem encs_length_le (cs : List Int) : (encs cs).length ≤ 3 * cs.length := by
  induction cs with
  | nil => exact Nat.le_refl _
  | cons c l ih => rw [encs_cons, List.length_append, List.length_cons]; have := enc_len c; omega
section
variable (w : World) (b : Array UInt8) (ks : List Int) (hk : KBw.bInts b = ks) (hlen : ks.length ≤ 4000)
include hk hlen
theorem sign_wide (tc t0 ti : Tok) (p : Nat) (news : Led) (c : Int) (r : List Int) (hc : c ∈ [(65 : Int), 233, 8364, 2047, 65533]) (h : ks.drop p = enc c ++ r) :
    Con w 8 224 [.str "utf-8" tc, .bytes b t0, .int (p : Int) ti] news (SignR c (enc c).length news) := by
  have hl : p + (enc c).length ≤ ks.length := len_of h (enc_pos c)
  refine sa_utf8 w b tc t0 ti p news c _ ?_
  simp only [List.mem_cons, List.not_mem_nil, or_false] at hc
  rcases hc with rfl | rfl | rfl | rfl | rfl
  · exact us_one w b t0 ti ks hk hlen p (by simp only [enc1 (c := 65) (by decide), List.length_cons, List.length_nil] at hl; omega) 65 (getD_of (r := r) h) (by decide) news
  · have h' : ks.drop p = [195] ++ (169 :: r) := h
    exact us_e9 w b t0 ti ks hk hlen p (by have : (enc 233).length = 2 := rfl; omega) (getD_of h) (getD_of (drop_of h')) news
  · have h' : ks.drop p = [226] ++ (130 :: 172 :: r) := h
    have h2 : ks.drop p = [226, 130] ++ (172 :: r) := h
    exact us_euro w b t0 ti ks hk hlen p (by have : (enc 8364).length = 3 := rfl; omega) (getD_of h) (getD_of (drop_of h')) (getD_of (drop_of h2)) news
  · have h' : ks.drop p = [223] ++ (191 :: r) := h
    exact us_7ff w b t0 ti ks hk hlen p (by have : (enc 2047).length = 2 := rfl; omega) (getD_of h) (getD_of (drop_of h')) news
  · have h' : ks.drop p = [239] ++ (191 :: 189 :: r) := h
    have h2 : ks.drop p = [239, 191] ++ (189 :: r) := h
    exact us_fffd w b t0 ti ks hk hlen p (by have : (enc 65533).length = 3 := rfl; omega) (getD_of h) (getD_of (drop_of h')) (getD_of (drop_of h2)) news
end
def textOf (cs : List Int) : Str := ⟨((List.range cs.length).map fun j => (cs.getD j 0).toNat).toArray⟩
theorem getD_some {cs : List Int} {j : Nat} (h : j < cs.length) : cs[j]? = some (cs.getD j 0) := by rw [List.getD_eq_getElem?_getD, List.getElem?_eq_getElem h]; rfl
theorem mem_getD {cs : List Int} {j : Nat} (h : j < cs.length) : cs.getD j 0 ∈ cs := List.mem_of_getElem? (getD_some h)
theorem drop_getD {ks : List Int} {j : Nat} (h : j < ks.length) : ∃ r, ks.drop j = ks.getD j 0 :: r := ⟨ks.drop (j + 1), by rw [List.getD_eq_getElem?_getD, List.getElem?_eq_getElem h]; exact (List.getElem_cons_drop h).symm⟩
theorem good_small {way : Str} {cs : List Int} (hcs : ∀ c ∈ cs, c ∈ signsOf way) {c : Int} (h : c ∈ cs) : 0 ≤ c ∧ c < 65536 := by
  have := hcs c h
  unfold signsOf at this
  split at this
  · simp only [List.mem_cons, List.not_mem_nil, or_false] at this; omega
  · split at this
    · simp only [List.mem_cons, List.not_mem_nil, or_false] at this; omega
    · split at this <;> (simp only [List.mem_cons, List.not_mem_nil, or_false] at this; omega)
theorem strict_good (w : World) (way : Str) (hw : wayOk way) (cs : List Int) (hcs : ∀ c ∈ cs, c ∈ signsOf way) (hl : cs.length ≤ 6) (b : Array UInt8) (hb : KBw.bInts b = if way = "wide" then encs cs else cs) (tc t0 : Tok) (news : Led) :
    Con w 12 231 [.str (csOf way) tc, .bytes b t0] news (fun v n' => n' = news ∧ ∃ t, v = .str (textOf cs) t) := by
  have hsm : ∀ j, j < cs.length → (cs.getD j 0).toNat < 1114112 := fun j hj => by have := good_small hcs (mem_getD hj); omega
  rcases hw with rfl | rfl | rfl
  · rw [if_neg wide_ne1] at hb
    rw [signs_ascii] at hcs
    rw [cs_ascii]
    refine strict_ok w b _ tc t0 cs hb (by omega) (.inl rfl) cs.length (by omega) (fun j => j) (fun j => (cs.getD j 0).toNat) (fun _ => 1) rfl rfl (fun j h => h) (fun j _ => rfl) hsm (fun j hj ti news => ?_) news
    have hm := hcs _ (mem_getD hj)
    have hz : 0 ≤ cs.getD j 0 ∧ cs.getD j 0 < 128 := by simp only [List.mem_cons, List.not_mem_nil, or_false] at hm; omega
    rw [Int.toNat_of_nonneg hz.1]
    exact sa_ascii w b tc t0 ti cs hb (by omega) j news hj _ rfl hz.2
  · rw [if_neg wide_ne2] at hb
    rw [signs_latin] at hcs
    rw [cs_latin]
    refine strict_ok w b _ tc t0 cs hb (by omega) (.inr (.inl rfl)) cs.length (by omega) (fun j => j) (fun j => (cs.getD j 0).toNat) (fun _ => 1) rfl rfl (fun j h => h) (fun j _ => rfl) hsm (fun j hj ti news => ?_) news
    have hm := hcs _ (mem_getD hj)
    have hz : 0 ≤ cs.getD j 0 := by simp only [List.mem_cons, List.not_mem_nil, or_false] at hm; omega
    rw [Int.toNat_of_nonneg hz]
    exact sa_latin w b tc t0 ti cs hb (by omega) j news hj _ rfl
  · rw [if_pos rfl] at hb
    rw [signs_wide] at hcs
    rw [cs_wide]
    have hle := encs_length_le cs
    refine strict_ok w b _ tc t0 (encs cs) hb (by omega) (.inr (.inr rfl)) cs.length (by omega) (fun j => (encs (cs.take j)).length) (fun j => (cs.getD j 0).toNat) (fun j => (enc (cs.getD j 0)).length) rfl (by rw [List.take_length]) (fun j h => ?_) (fun j h => encs_take_succ (getD_some h)) hsm (fun j hj ti news => ?_) news
    · have h1 := encs_at (getD_some h) []
      rw [List.append_nil] at h1
      have := len_of h1 (enc_pos _)
      have := enc_pos (cs.getD j 0)
      omega
    · have hm := hcs _ (mem_getD hj)
      have hz : 0 ≤ cs.getD j 0 := by simp only [List.mem_cons, List.not_mem_nil, or_false] at hm; omega
      rw [Int.toNat_of_nonneg hz]
      have h1 := encs_at (getD_some hj) []
      rw [List.append_nil] at h1
      exact sign_wide w b (encs cs) hb (by omega) tc t0 ti _ news _ _ hm h1
theorem text_ints {cs : List Int} (h : ∀ c ∈ cs, 0 ≤ c) : ((textOf cs).cps.toList.map fun c : Nat => (c : Int)) = cs := by
  unfold textOf
  simp only [List.map_map]
  apply List.ext_getElem
  · simp
  · intro i h1 h2
    have h0 := h _ (List.getElem_mem h2)
    simp only [List.getElem_map, List.getElem_range, Function.comp]
    rw [List.getD_eq_getElem?_getD, List.getElem?_eq_getElem h2]
    show ((cs[i].toNat : Nat) : Int) = cs[i]
    omega
theorem octets_good (w : World) (way : Str) (cs : List Int) (hcs : ∀ c ∈ cs, c ∈ signsOf way) (hl : cs.length ≤ 6) (bc : Array UInt8) (hb : KBw.bInts bc = encs cs) (tc t0 : Tok) (news : Led) :
    Con w 14 245 [.str "utf-8" tc, .str (textOf cs) t0] news (fun v n' => n' = news ∧ ∃ t, v = .bytes bc t) := by
  have hg : ∀ c ∈ (textOf cs).cps.toList, goodC c = true := by
    intro c hc
    unfold textOf at hc
    simp only [List.mem_map, List.mem_range] at hc
    obtain ⟨j, hj, rfl⟩ := hc
    have hm := hcs _ (mem_getD hj)
    unfold signsOf at hm
    generalize cs.getD j 0 = c at hm
    split at hm
    · simp only [List.mem_cons, List.not_mem_nil, or_false] at hm; rcases hm with rfl | rfl | rfl | rfl | rfl <;> decide
    · split at hm
      · simp only [List.mem_cons, List.not_mem_nil, or_false] at hm; rcases hm with rfl | rfl | rfl | rfl | rfl <;> decide
      · split at hm <;> (simp only [List.mem_cons, List.not_mem_nil, or_false] at hm; rcases hm with rfl | rfl | rfl | rfl | rfl <;> decide)
  have C := octets_con w (textOf cs) hg (by unfold textOf; simp; omega) tc t0 news
  refine (fun dp un gd cn cs' a ccd cl outer A₀ base h₀ L m s mean mg mb Q E B F X N T hk hd hu ret => C dp un gd cn cs' a ccd cl outer A₀ base h₀ L m s mean mg mb Q E B F X N T hk hd hu fun v h' tk' n' hR F' N' => ?_)
  obtain ⟨rfl, bc', t, rfl, hbc⟩ := hR
  have e : bc' = bc := by
    refine bInts_inj ?_
    rw [hbc, hb]
    have e1 : ((textOf cs).cps.toList.map fun c : Nat => (c : Int)).flatMap enc = (textOf cs).cps.toList.flatMap fun c : Nat => enc (c : Int) := by rw [List.flatMap_map]
    rw [← e1, text_ints (fun c h => (good_small hcs h).1)]
    rfl
  subst e
  exact ret _ _ _ _ ⟨rfl, _, rfl⟩ F' N'

theorem strict_worse (w : World) (way : Str) (cs : List Int) (hcs : ∀ c ∈ cs, c ∈ signsOf way) (hl : cs.length ≤ 6) (b : Array UInt8) (octs : List Int) (hb : KBw.bInts b = octs)
    (ho : (way = "ascii" ∧ octs = cs ++ [233]) ∨ (way = "wide" ∧ (octs = encs cs ++ [195] ∨ octs = 128 :: encs cs ∨ octs = encs cs ++ [237, 160, 128]))) (tc t0 : Tok) (news : Led) :
    ECon w 12 231 [.str (csOf way) tc, .bytes b t0] news 71 Thrown := by
  have hle := encs_length_le cs
  rcases ho with ⟨rfl, rfl⟩ | ⟨rfl, ho⟩
  · rw [signs_ascii] at hcs
    rw [cs_ascii]
    have hlen : (cs ++ [(233 : Int)]).length ≤ 4000 := by rw [List.length_append]; simp; omega
    have hat : ∀ j, j < cs.length → (cs ++ [(233 : Int)]).getD j 0 = cs.getD j 0 := fun j hj => by simp [List.getD_eq_getElem?_getD, List.getElem?_append_left hj]
    have hend : (cs ++ [(233 : Int)]).getD cs.length 0 = 233 := by simp
    refine strict_bad w b _ tc t0 _ hb hlen (.inl rfl) cs.length (by omega) (fun j => j) (fun j => if j < cs.length then cs.getD j 0 else -1) (fun _ => 1) rfl (fun j h => by rw [List.length_append]; simp; omega) (fun j _ => rfl) (fun j hj => ?_) (by rw [if_neg (Nat.lt_irrefl _)]; decide) (fun j hj ti news => ?_) news
    · rw [if_pos hj]
      have hm := hcs _ (mem_getD hj)
      simp only [List.mem_cons, List.not_mem_nil, or_false] at hm; omega
    · have hjl : j < (cs ++ [(233 : Int)]).length := by rw [List.length_append]; simp; omega
      by_cases h : j < cs.length
      · rw [if_pos h]
        have hm := hcs _ (mem_getD h)
        exact sa_ascii w b tc t0 ti _ hb hlen j news hjl _ (hat j h) (by simp only [List.mem_cons, List.not_mem_nil, or_false] at hm; omega)
      · rw [if_neg h]
        have : j = cs.length := by omega
        subst this
        exact sa_ascii_bad w b tc t0 ti _ hb hlen _ news hjl 233 hend (by decide)
  · rw [signs_wide] at hcs
    rw [cs_wide]
    have hnn : ∀ j, j < cs.length → 0 ≤ cs.getD j 0 ∧ cs.getD j 0 < 1114112 := fun j hj => by
      have hm := hcs _ (mem_getD hj)
      simp only [List.mem_cons, List.not_mem_nil, or_false] at hm; omega
    have tailed : ∀ (post : List Int), 0 < post.length → post.length ≤ 3 → KBw.bInts b = encs cs ++ post → (∀ ti news, Con w 6 217 [.bytes b t0, .int (((encs cs).length : Nat) : Int) ti] news (SignR (-1) 1 news)) → ECon w 12 231 [.str "utf-8" tc, .bytes b t0] news 71 Thrown := by
      intro post hp1 hp2 hb hbad
      have hlen : (encs cs ++ post).length ≤ 4000 := by rw [List.length_append]; omega
      refine strict_bad w b _ tc t0 _ hb hlen (.inr (.inr rfl)) cs.length (by omega) (fun j => (encs (cs.take j)).length) (fun j => if j < cs.length then cs.getD j 0 else -1) (fun j => if j < cs.length then (enc (cs.getD j 0)).length else 1) rfl (fun j h => ?_) (fun j h => by rw [if_pos h]; exact encs_take_succ (getD_some h)) (fun j hj => by rw [if_pos hj]; exact hnn j hj) (by rw [if_neg (Nat.lt_irrefl _)]; decide) (fun j hj ti news => ?_) news
      · rcases Nat.lt_or_ge j cs.length with h' | h'
        · have h1 := encs_at (getD_some h') post
          have := len_of h1 (enc_pos _)
          have := enc_pos (cs.getD j 0)
          omega
        · have : j = cs.length := by omega
          subst this
          rw [List.take_length, List.length_append]; omega
      · by_cases h : j < cs.length
        · rw [if_pos h, if_pos h]
          exact sign_wide w b _ hb hlen tc t0 ti _ news _ _ (hcs _ (mem_getD h)) (encs_at (getD_some h) post)
        · rw [if_neg h, if_neg h]
          have : j = cs.length := by omega
          subst this
          rw [List.take_length]
          exact sa_utf8 w b tc t0 ti _ news _ _ (hbad ti news)
    rcases ho with rfl | rfl | rfl
    · refine tailed [195] (by decide) (by decide) hb fun ti news => us_badC3 w b t0 ti _ hb (by rw [List.length_append]; simp; omega) _ (by rw [List.length_append]; rfl) (getD_of (r := []) (by rw [List.drop_left])) news
    · have hlen : (128 :: encs cs).length ≤ 4000 := by rw [List.length_cons]; omega
      refine strict_bad w b _ tc t0 _ hb hlen (.inr (.inr rfl)) 0 (by omega) (fun _ => 0) (fun _ => -1) (fun _ => 1) rfl (fun j h => by rw [List.length_cons]; omega) (fun j h => absurd h (Nat.not_lt_zero _)) (fun j h => absurd h (Nat.not_lt_zero _)) (by decide) (fun j hj ti news => ?_) news
      exact sa_utf8 w b tc t0 ti _ news _ _ (us_bad80 w b t0 ti _ hb hlen 0 (by rw [List.length_cons]; omega) rfl news)
    · refine tailed [237, 160, 128] (by decide) (by decide) hb fun ti news => us_badED w b t0 ti _ hb (by rw [List.length_append]; simp; omega) _ (by rw [List.length_append]; simp) (getD_of (r := [160, 128]) (by rw [List.drop_left])) (getD_of (r := [128]) (drop_of (l := [237]) (r := [160, 128]) (by rw [List.drop_left]; rfl))) news
end

section

def litI (plus : Bool) (o : List Int) : List Int := [123] ++ ([48 + ((o.length / 10 : Nat) : Int), 48 + ((o.length % 10 : Nat) : Int)] ++ ((if plus then [43] else []) ++ ([125, 13, 10] ++ o)))
def wordI (sort : Nat) (l : List Int) : List Int := match sort with
  | 0 => [84, 69, 88, 84] ++ (32 :: l)
  | 1 => [98, 111, 100, 121] ++ (32 :: l)
  | 2 => [83, 117, 98, 106, 101, 99, 116] ++ (32 :: l)
  | 3 => [72, 69, 65, 68, 69, 82] ++ (32 :: ([88, 45, 89] ++ (32 :: l)))
  | _ => [83, 69, 69, 78]
def keyD (sort : Nat) (kept : Array UInt8) : Dat := match sort with
  | 0 => .tuple [.str "text", .bytes kept]
  | 1 => .tuple [.str "body", .bytes kept]
  | 2 => .tuple [.str "header", .str "subject", .bytes kept]
  | 3 => .tuple [.str "header", .str "x-y", .bytes kept]
  | _ => .tuple [.str "flag", .str "\\Seen"]
def StrRes (way : Str) (kept : Option (List Int)) (octs : List Int) : Prop :=
  ∃ cs : List Int, cs.length ≤ 6 ∧ (∀ c ∈ cs, c ∈ signsOf way) ∧
    ((kept = some (encs cs) ∧ octs = if way = "wide" then encs cs else cs) ∨
     (kept = none ∧ ((way = "ascii" ∧ octs = cs ++ [233]) ∨ (way = "wide" ∧ (octs = encs cs ++ [195] ∨ octs = 128 :: encs cs ∨ octs = encs cs ++ [237, 160, 128])))))
theorem encs_inB {cs : List Int} (h : ∀ c ∈ cs, 0 ≤ c ∧ c < 65536) : KBa.In (encs cs) := by
  intro v hv
  obtain ⟨c, h1, h2⟩ := List.mem_flatMap.mp hv
  exact enc_in' (h c h1).1 (h c h1).2 v h2
theorem res_len {way : Str} {kept : Option (List Int)} {octs : List Int} (h : StrRes way kept octs) : octs.length ≤ 21 := by
  obtain ⟨cs, h1, h2, h3⟩ := h
  have hle := encs_length_le cs
  rcases h3 with ⟨_, rfl⟩ | ⟨_, ⟨_, rfl⟩ | ⟨_, rfl | rfl | rfl⟩⟩
  · split <;> omega
  · rw [List.length_append]; simp; omega
  · rw [List.length_append]; simp; omega
  · rw [List.length_cons]; omega
  · rw [List.length_append]; simp; omega
section
variable (w : World) (x d : Nat) (b : Array UInt8) (td kd ka ta : Tok) (i : Nat) (ks : List Int) (hk : KBw.bInts b = ks) (hlen : ks.length ≤ 4000) (hxd : x ≠ d)
include hk hlen hxd
set_option linter.unusedSectionVars false
theorem lit_any (plus : Bool) (octs post : List Int) (bo : Array UInt8) (hbo : KBw.bInts bo = octs) (hl : octs.length ≤ 99) (hks : ks.drop i = litI plus octs ++ post) :
    WCon w 10 628 [.ref x] x d b td kd ka ta i (i + (litI plus octs).length) (fun v => ∃ t, v = .bytes bo t) := by
  have f1 : isFig (48 + ((octs.length / 10 : Nat) : Int)) = true := by unfold isFig; exact decide_eq_true (by omega)
  have f2 : isFig (48 + ((octs.length % 10 : Nat) : Int)) = true := by unfold isFig; exact decide_eq_true (by omega)
  cases plus with
  | true =>
    have e : i + (litI true octs).length = i + 7 + octs.length := by simp [litI]; omega
    rw [e]
    exact literal_t w x d b td kd ka ta i ks hk hlen hxd _ _ octs post bo hbo f1 f2 (by omega) (by rw [hks]; simp [litI])
  | false =>
    have e : i + (litI false octs).length = i + 6 + octs.length := by simp [litI]; omega
    rw [e]
    exact literal_f w x d b td kd ka ta i ks hk hlen hxd _ _ octs post bo hbo f1 f2 (by omega) (by rw [hks]; simp [litI])
theorem ast_lit (plus : Bool) (octs post : List Int) (bo : Array UInt8) (hbo : KBw.bInts bo = octs) (hl : octs.length ≤ 99) (hks : ks.drop i = litI plus octs ++ post) :
    WCon w 16 649 [.ref x] x d b td kd ka ta i (i + (litI plus octs).length) (fun v => ∃ t, v = .bytes bo t) := by
  have h0 : ks.drop i = 123 :: _ := hks
  have h1 : i < ks.length := by have := congrArg List.length h0; rw [List.length_drop, List.length_cons] at this; omega
  exact astring_con w x d b td kd ka ta i ks hk hlen hxd _ bo fun ta => string_or_lit w x d b td kd ka ta i ks hk hlen hxd _ bo h1 (getD_of h0) fun ta => lit_any w x d b td kd ka ta i ks hk hlen hxd plus octs post bo hbo hl hks
theorem looked_any (way : Str) (hw : wayOk way) (kept : Option (List Int)) (octs post : List Int) (hS : StrRes way kept octs) (plus : Bool) (bo bc : Array UInt8) (hbo : KBw.bInts bo = octs) (hbc : ∀ k, kept = some k → KBw.bInts bc = k) (hks : ks.drop i = 32 :: (litI plus octs ++ post)) (ok : Prop) (hok : ok ↔ kept ≠ none) (tc : Tok) :
    WB w 18 347 [.ref x, .str (csOf way) tc] x d b td kd ka ta i (i + 1 + (litI plus octs).length) ok (.bytes bc) := by
  have hlo := res_len hS
  have k0 : ks.drop i = [32] ++ (litI plus octs ++ post) := hks
  have k1 : ks.drop (i + 1) = litI plus octs ++ post := drop_of k0
  have h1 : i + 1 ≤ ks.length := len_of k0 (by decide)
  obtain ⟨cs, g1, g2, g3⟩ := hS
  refine looked_B w x d b td kd ka ta i ks hk hlen hxd ok _ (csOf way) tc bo bc h1 (take_of k0) (fun ta => ast_lit w x d b td kd ka ta (i + 1) ks hk hlen hxd plus octs post bo hbo (by omega) k1) (fun h => ?_) (fun h => ?_)
  · have hkn := hok.mp h
    rcases g3 with ⟨rfl, rfl⟩ | ⟨rfl, _⟩
    · exact ⟨textOf cs, fun tc t0 news => strict_good w way hw cs g2 g1 bo hbo tc t0 news, fun tc t0 news => octets_good w way cs g2 g1 bc (hbc _ rfl) tc t0 news⟩
    · exact absurd rfl hkn
  · have hkn : kept = none := Classical.byContradiction fun z => h (hok.mpr z)
    subst hkn
    rcases g3 with ⟨q, _⟩ | ⟨_, ho⟩
    · cases q
    · exact fun tc t0 news => strict_worse w way cs g2 g1 bo octs hbo ho tc t0 news
theorem kw (ls : List Int) (bw : Array UInt8) (hbw : KBw.bInts bw = ls) (word : Str) (hwd : upperT (KStt.txt ls) = word) (hne : 0 < bw.size) (hall : ∀ k ∈ ls, isLetter k = true) (hsz : ls.length ≤ 100) (c : Int) (r : List Int) (hks : ks.drop i = ls ++ (c :: r)) (hc : isLetter c = false) :
    WCon w 10 333 [.ref x] x d b td kd ka ta i (i + ls.length) (fun v => ∃ t, v = .str word t) := by
  subst hwd
  have h2 := drop_of hks
  have h3 : i + ls.length < ks.length := by have := congrArg List.length h2; rw [List.length_drop, List.length_cons] at this; omega
  exact key_word_con w x d b td kd ka ta i ks hk hlen hxd (i + ls.length) ls bw hbw (Nat.le_add_right _ _) h3 (by rw [Nat.add_sub_cancel_left]; exact take_of hks) hne hsz hall (by rw [getD_of h2]; exact hc)
end
end

section

theorem up_text : upperT (KStt.txt [84, 69, 88, 84]) = "TEXT" := by decide +kernel
theorem up_body : upperT (KStt.txt [98, 111, 100, 121]) = "BODY" := by decide +kernel
theorem up_subj : upperT (KStt.txt [83, 117, 98, 106, 101, 99, 116]) = "SUBJECT" := by decide +kernel
theorem up_head : upperT (KStt.txt [72, 69, 65, 68, 69, 82]) = "HEADER" := by decide +kernel
theorem up_seen : upperT (KStt.txt [83, 69, 69, 78]) = "SEEN" := by decide +kernel
theorem txt_xy : KStt.txt [88, 45, 89] = "X-Y" := by decide +kernel
theorem noset {c : Int} (h : c = 84 ∨ c = 98 ∨ c = 83 ∨ c = 72) : (#[48, 49, 50, 51, 52, 53, 54, 55, 56, 57, 58, 42, 44] : Array UInt8).contains c.toNat.toUInt8 = false := by
  rcases h with rfl | rfl | rfl | rfl <;> decide +kernel
section
variable (w : World) (x d : Nat) (b : Array UInt8) (td kd ka ta : Tok) (i : Nat) (ks : List Int) (hk : KBw.bInts b = ks) (hlen : ks.length ≤ 4000) (hxd : x ≠ d)
include hk hlen hxd
set_option linter.unusedSectionVars false
theorem key_any (way : Str) (hw : wayOk way) (kept : Option (List Int)) (octs post : List Int) (hS : StrRes way kept octs) (plus : Bool) (bo bc : Array UInt8) (hbo : KBw.bInts bo = octs) (hbc : ∀ k, kept = some k → KBw.bInts bc = k)
    (sort : Nat) (hs : sort < 5) (c : Int) (hc : c = 32 ∨ c = 13) (hks : ks.drop i = wordI sort (litI plus octs) ++ (c :: post)) (ok : Prop) (hok : ok ↔ (kept ≠ none ∨ sort = 4)) (tc td' : Tok) :
    WB w 30 410 [.ref x, .str (csOf way) tc, .int 0 td'] x d b td kd ka ta i (i + (wordI sort (litI plus octs)).length) ok (keyD sort bc) := by
  have hnl : isLetter c = false := by rcases hc with rfl | rfl <;> decide
  have hi : i < ks.length := by
    have := congrArg List.length hks
    rw [List.length_drop, List.length_append, List.length_cons] at this; omega
  match sort, hs, hks, hok with
  | 0, _, hks, hok =>
    have hks' : ks.drop i = [84, 69, 88, 84] ++ (32 :: (litI plus octs ++ (c :: post))) := by rw [hks]; simp [wordI]
    have e : i + (wordI 0 (litI plus octs)).length = i + 4 + 1 + (litI plus octs).length := by simp [wordI]; omega
    rw [e]
    exact key_leaf w x d b td kd ka ta i ks hk hlen hxd ok (i + 4) _ (csOf way) tc td' 84 "TEXT" _ hi (getD_of hks') (by decide) (by decide) (by decide) (noset (.inl rfl)) (by decide +kernel) (by decide +kernel)
      (fun ta => kw w x d b td kd ka ta i ks hk hlen hxd [84, 69, 88, 84] #[84, 69, 88, 84] rfl _ up_text (by decide) (by decide) (by decide) _ _ hks' (by decide)) (fun t news => flag_none w _ t (.inl rfl) news)
      (fun ta tw tc => leaf_text w x d b td kd ka ta (i + 4) ks hk hlen hxd ok _ (csOf way) tw tc bc fun ta tc => looked_any w x d b td kd ka ta (i + 4) ks hk hlen hxd way hw kept octs _ hS plus bo bc hbo hbc (drop_of hks') ok (hok.trans (by simp)) tc)
  | 1, _, hks, hok =>
    have hks' : ks.drop i = [98, 111, 100, 121] ++ (32 :: (litI plus octs ++ (c :: post))) := by rw [hks]; simp [wordI]
    have e : i + (wordI 1 (litI plus octs)).length = i + 4 + 1 + (litI plus octs).length := by simp [wordI]; omega
    rw [e]
    exact key_leaf w x d b td kd ka ta i ks hk hlen hxd ok (i + 4) _ (csOf way) tc td' 98 "BODY" _ hi (getD_of hks') (by decide) (by decide) (by decide) (noset (.inr (.inl rfl))) (by decide +kernel) (by decide +kernel)
      (fun ta => kw w x d b td kd ka ta i ks hk hlen hxd [98, 111, 100, 121] #[98, 111, 100, 121] rfl _ up_body (by decide) (by decide) (by decide) _ _ hks' (by decide)) (fun t news => flag_none w _ t (.inr (.inl rfl)) news)
      (fun ta tw tc => leaf_body w x d b td kd ka ta (i + 4) ks hk hlen hxd ok _ (csOf way) tw tc bc fun ta tc => looked_any w x d b td kd ka ta (i + 4) ks hk hlen hxd way hw kept octs _ hS plus bo bc hbo hbc (drop_of hks') ok (hok.trans (by simp)) tc)
  | 2, _, hks, hok =>
    have hks' : ks.drop i = [83, 117, 98, 106, 101, 99, 116] ++ (32 :: (litI plus octs ++ (c :: post))) := by rw [hks]; simp [wordI]
    have e : i + (wordI 2 (litI plus octs)).length = i + 7 + 1 + (litI plus octs).length := by simp [wordI]; omega
    rw [e]
    exact key_leaf w x d b td kd ka ta i ks hk hlen hxd ok (i + 7) _ (csOf way) tc td' 83 "SUBJECT" _ hi (getD_of hks') (by decide) (by decide) (by decide) (noset (.inr (.inr (.inl rfl)))) (by decide +kernel) (by decide +kernel)
      (fun ta => kw w x d b td kd ka ta i ks hk hlen hxd [83, 117, 98, 106, 101, 99, 116] #[83, 117, 98, 106, 101, 99, 116] rfl _ up_subj (by decide) (by decide) (by decide) _ _ hks' (by decide)) (fun t news => flag_none w _ t (.inr (.inr (.inl rfl))) news)
      (fun ta tw tc => leaf_subject w x d b td kd ka ta (i + 7) ks hk hlen hxd ok _ (csOf way) tw tc bc fun ta tc => looked_any w x d b td kd ka ta (i + 7) ks hk hlen hxd way hw kept octs _ hS plus bo bc hbo hbc (drop_of hks') ok (hok.trans (by simp)) tc)
  | 3, _, hks, hok =>
    have hks' : ks.drop i = [72, 69, 65, 68, 69, 82] ++ (32 :: ([88, 45, 89] ++ (32 :: (litI plus octs ++ (c :: post))))) := by rw [hks]; simp [wordI]
    have h6 := drop_of hks'
    have h6' : ks.drop (i + 6) = [32] ++ ([88, 45, 89] ++ (32 :: (litI plus octs ++ (c :: post)))) := h6
    have h7 := drop_of h6'
    have h10 := drop_of h7
    have l6 := len_of h6' (by decide)
    have l10 : i + 6 + 1 + 3 < ks.length := by have := congrArg List.length h10; rw [List.length_drop, List.length_cons] at this; simp only [List.length_cons, List.length_nil] at this; omega
    have e : i + (wordI 3 (litI plus octs)).length = i + 10 + 1 + (litI plus octs).length := by simp [wordI]; omega
    rw [e]
    have hwd : ∀ ta, WCon w 18 368 [.ref x] x d b td kd ka ta (i + 6) (i + 10) (fun v => ∃ t, v = .str "X-Y" t) := fun ta => by
      have q := word_con w x d b td kd ka ta (i + 6) ks hk hlen hxd (i + 10) #[88, 45, 89] [88, 45, 89] rfl (by decide) (by decide) l6 (take_of h6') fun ta => astring_con w x d b td kd ka ta (i + 6 + 1) ks hk hlen hxd (i + 10) #[88, 45, 89] fun ta =>
        string_or_run w x d b td kd ka ta (i + 6 + 1) ks hk hlen hxd (i + 10) [88, 45, 89] #[88, 45, 89] rfl (by omega) l10 (by rw [show i + 10 - (i + 6 + 1) = 3 by omega]; exact take_of h7) (by decide +kernel) (by rw [getD_of (i := i + 10) h10]; decide +kernel) (by rw [getD_of (i := i + 6 + 1) h7]; decide) (by rw [getD_of (i := i + 6 + 1) h7]; decide)
      rw [txt_xy] at q
      exact q
    exact key_leaf w x d b td kd ka ta i ks hk hlen hxd ok (i + 6) _ (csOf way) tc td' 72 "HEADER" _ hi (getD_of hks') (by decide) (by decide) (by decide) (noset (.inr (.inr (.inr rfl)))) (by decide +kernel) (by decide +kernel)
      (fun ta => kw w x d b td kd ka ta i ks hk hlen hxd [72, 69, 65, 68, 69, 82] #[72, 69, 65, 68, 69, 82] rfl _ up_head (by decide) (by decide) (by decide) _ _ hks' (by decide)) (fun t news => flag_none w _ t (.inr (.inr (.inr rfl))) news)
      (fun ta tw tc => leaf_header w x d b td kd ka ta (i + 6) ks hk hlen hxd ok (i + 10) _ (csOf way) tw tc bc hwd fun ta tc => looked_any w x d b td kd ka ta (i + 10) ks hk hlen hxd way hw kept octs _ hS plus bo bc hbo hbc h10 ok (hok.trans (by simp)) tc)
  | 4, _, hks, hok =>
    have hks' : ks.drop i = [83, 69, 69, 78] ++ (c :: post) := by rw [hks]; simp [wordI]
    have e : i + (wordI 4 (litI plus octs)).length = i + 4 := by simp [wordI]
    rw [e]
    exact key_seen w x d b td kd ka ta i ks hk hlen hxd (i + 4) (csOf way) tc td' hi (getD_of hks') (fun ta => kw w x d b td kd ka ta i ks hk hlen hxd [83, 69, 69, 78] #[83, 69, 69, 78] rfl _ up_seen (by decide) (by decide) (by decide) _ _ hks' hnl) ok (hok.mpr (.inr rfl))
  | n + 5, hs, _, _ => omega
end
end

section

example : True := by ((k_with "k_all" => (first | assumption | exact fun q hq => Nat.ne_of_lt (ktn_ltOf (by assumption) q hq) | exact fun q hq => Nat.ne_of_lt (Nat.lt_succ_of_lt (ktn_ltOf (by assumption) q hq)) | exact fun q hq => Nat.ne_of_lt (Nat.lt_succ_of_lt (Nat.lt_succ_of_lt (ktn_ltOf (by assumption) q hq))))); (k_with "exec Assign cons ListComp" => ((k_here; k_extra "AL"))); (k_with "CompSrc" => ((refine Hold.out ?_))); (k_with "eval Dict" => ((k_here; k_dflt (refine' kdn_str ?q ?F ?N ?b ?a ?l ?e ?n ?_; (case q => rfl); (case F => k_asm); (case N => first | k_asm | exact News.nil); (case b => exact Top.nolimit (by k_asm)); (case a => rfl); (case l => rfl); (case e => exact List.cons_ne_nil _ _); (case n => exact Nat.le_of_ble_eq_true rfl)); intro d' h' o' F' N' l1 lo' hd'; (try k_lt l1)))); trivial)
abbrev ledB (S c1 c2 B l : Addr) (oS o1 o2 : Obj) (rest : Led) (k : Int) (t : Tok) (d0 : Nat) (us : List Value) (d1 : Nat) : Led := (S, oS) :: (c1, o1) :: (c2, o2) :: (B, W.listOf [.ref l, .int k t].toArray d0) :: (l, W.listOf us.toArray d1) :: rest
def CJ (sg : List Int) (S c1 c2 B l : Addr) (oS o1 o2 : Obj) (rest : Led) (i : Nat) (ys : List Value) (nw : Led) : Prop :=
  ∃ us ns k t d0 d1 cs, nw = ledB S c1 c2 B l oS o1 o2 rest k t d0 us d1 ∧ IntsAre us ns ∧ us.length ≤ 63 ∧ IntsAre ys cs ∧ (∀ c ∈ cs, c ∈ sg) ∧ cs.length = i
theorem codes_src {prog : Program} {w : World} {A : Around} {h₀ : Heap} {L : Addr} {m : Str → Option Value} {env : Env} {elt : Expr} {x : Str} {scope : Scope} {cl : List (Str × Addr)} {Fin : Shared → List Value → Led → Prop} {s₁ : Shared}
    (sg : List Int) {S c1 c2 B l : Addr} {oS o1 o2 : Obj} {rest : Led} {k : Int} {t : Tok} {d0 : Nat} {us : List Value} {ns : List Int} {d1 : Nat} {r : Addr} {j : Int} {ta tb tc : Tok}
    (hh : A.handled = none) (F : Fr h₀ L s₁.heap m) (N : News h₀ L s₁.heap (ledB S c1 c2 B l oS o1 o2 rest k t d0 us d1)) (hr : IsRange s₁.heap r 0 j 1 ta tb tc) (h0 : 0 ≤ j) (h1 : j < 7) (hi : IntsAre us ns) (hlen : us.length ≤ 63)
    (step : ∀ g i ys us ns k t d0 d1 cs, i < 6 → IntsAre us ns → us.length ≤ 63 → IntsAre ys cs → (∀ c ∈ cs, c ∈ sg) → cs.length = i → ∀ v I oI C oC D m₂ h tk (E' : Value → Shared → Prop), (∃ t, v = .int (0 + (i : Int)) t) → NsObj oC m₂ → m₂ x = some v → Fr h₀ L h m → News h₀ L h ((I, oI) :: (C, oC) :: (D, lst ys) :: ledB S c1 c2 B l oS o1 o2 rest k t d0 us d1) → Off3 I C D (ledB S c1 c2 B l oS o1 o2 rest k t d0 us d1) → ((@Ne Nat I C) ∧ (@Ne Nat I D) ∧ (@Ne Nat C D)) →
      wpAny (model prog w) A (eval elt (compEnvC scope cl C env)) (CompEnd h₀ L m { ({ s₁ with heap := g } : Shared) with heap := h, toks := tk } I oI C oC D (lst ys) (fun _ => True) (fun y news' => CJ sg S c1 c2 B l oS o1 o2 rest (i + 1) (ys ++ [y]) news')) E' { ({ s₁ with heap := g } : Shared) with heap := h, toks := tk })
    (fin : ∀ g ys us ns k t d0 d1 cs, IntsAre us ns → us.length ≤ 63 → IntsAre ys cs → (∀ c ∈ cs, c ∈ sg) → cs.length ≤ 6 → Fin { s₁ with heap := g } ys (ledB S c1 c2 B l oS o1 o2 rest k t d0 us d1)) :
    CompSrc prog w A h₀ L m env elt x scope cl Fin (.ref r) s₁ := by
  refine LCg.CompSrc.range (n := (j - 0).toNat) hh F N hr (small_one (by omega) (by omega) (by omega) (by omega)) (rangeSize_nat _ _) (by rw [sizeLine_eq]; omega) (fun g => comp_inv (j - 0).toNat (CJ sg S c1 c2 B l oS o1 o2 rest) ?_ ?_ _ _ _ _ (by omega) ⟨us, ns, k, t, d0, d1, [], rfl, hi, hlen, .nil, (fun _ h => nomatch h), rfl⟩)
  · intro i ys nw hi' hJ v I oI C oC D m₂ h tk E' hP hn hx F' N' off ne
    obtain ⟨us, ns, k, t, d0, d1, cs, rfl, a1, a2, a3, a4, a5⟩ := hJ
    exact step g i ys us ns k t d0 d1 cs (by omega) a1 a2 a3 a4 a5 v I oI C oC D m₂ h tk E' hP hn hx F' N' off ne
  · intro ys nw hJ
    obtain ⟨us, ns, k, t, d0, d1, cs, rfl, a1, a2, a3, a4, a5⟩ := hJ
    exact fin g ys us ns k t d0 d1 cs a1 a2 a3 a4 (by omega)
theorem fold_ints (sep : Array UInt8) : ∀ (l : List (Array UInt8)) (k : Nat) (out : Array UInt8), 0 < k → KBw.bInts ((l.zipIdx k).foldl (fun out (p, i) => (if i > 0 then out ++ sep else out) ++ p) out) = KBw.bInts out ++ l.flatMap fun p => KBw.bInts sep ++ KBw.bInts p := by
  intro l
  induction l with
  | nil => intro k out _; simp
  | cons x l ih =>
    intro k out hk
    rw [List.zipIdx_cons, List.foldl_cons, ih _ _ (by omega), List.flatMap_cons]
    dsimp only
    rw [if_pos hk, KBw.ints_app (KBw.ints_app rfl rfl) rfl]
    simp only [List.append_assoc]
theorem joined_ints (sep p : Array UInt8) (r : List (Array UInt8)) : KBw.bInts (PySem.Builtin.Bytes.joined sep (p :: r)) = KBw.bInts p ++ r.flatMap fun q => KBw.bInts sep ++ KBw.bInts q := by
  unfold PySem.Builtin.Bytes.joined
  rw [List.zipIdx_cons, List.foldl_cons, fold_ints sep r _ _ (by omega)]
  dsimp only
  rw [if_neg (by omega), KBw.ints_app rfl rfl]
  rfl
theorem joined_nil (sep : Array UInt8) : PySem.Builtin.Bytes.joined sep [] = #[] := rfl
theorem joined_encs (cs : List Int) (h : ∀ c ∈ cs, 0 ≤ c ∧ c < 65536) : KBw.bInts (PySem.Builtin.Bytes.joined #[] (cs.map fun c => byteArr (enc c))) = encs cs := by
  cases cs with
  | nil => rfl
  | cons c r =>
    rw [List.map_cons, joined_ints, encs_cons]
    have e : ∀ l : List Int, (∀ c ∈ l, 0 ≤ c ∧ c < 65536) → ((l.map fun c => byteArr (enc c)).flatMap fun q => KBw.bInts #[] ++ KBw.bInts q) = encs l := by
      intro l
      induction l with
      | nil => intro _; rfl
      | cons a l ih =>
        intro hl
        rw [List.map_cons, List.flatMap_cons, encs_cons, ih fun c hc => hl c (.tail _ hc), KBa.ints_make (enc_in' (hl a (.head _)).1 (hl a (.head _)).2)]
        rfl
    rw [e r fun c hc => h c (.tail _ hc), KBa.ints_make (enc_in' (h c (.head _)).1 (h c (.head _)).2)]
theorem intsAre_at {ys : List Value} {cs : List Int} (h : IntsAre ys cs) : ∀ {i : Nat} {v : Value}, ys[i]? = some v → ∃ c t, cs[i]? = some c ∧ v = .int c t := by
  induction h with
  | nil => intro i v hv; cases hv
  | cons n t r ih =>
    intro i v hv
    cases i with
    | zero => cases hv; exact ⟨n, t, rfl, rfl⟩
    | succ i => exact ih hv
theorem CompEnd.weak {h₀ : Heap} {L I C D : Addr} {m : Str → Option Value} {s₁ : Shared} {oI oC oD : Obj} {S : Led → Prop} {r r' : Value → Led → Prop} {y : Value} {s₂ : Shared} (h : CompEnd h₀ L m s₁ I oI C oC D oD S r y s₂) (k : ∀ y n, r y n → r' y n) : CompEnd h₀ L m s₁ I oI C oC D oD S r' y s₂ := by
  obtain ⟨h', tk, news', e, F, N, o, hS, hr⟩ := h
  exact ⟨h', tk, news', e, F, N, o, hS, k _ _ hr⟩
theorem wides_src {prog : Program} {w : World} {A : Around} {h₀ : Heap} {L : Addr} {m : Str → Option Value} {env : Env} {elt : Expr} {x : Str} {scope : Scope} {cl : List (Str × Addr)} {Fin : Shared → List Value → Led → Prop} {s₁ : Shared}
    {D : Addr} {ys : List Value} {cs : List Int} {led : Led} (hh : A.handled = none) (F : Fr h₀ L s₁.heap m) (N : News h₀ L s₁.heap led) (hm : (D, lst ys) ∈ led) (hys : IntsAre ys cs) (hcl : cs.length ≤ 6)
    (step : ∀ g c t, c ∈ cs → ∀ ys' I oI C oC D' m₂ h tk (E' : Value → Shared → Prop), NsObj oC m₂ → m₂ x = some (.int c t) → Fr h₀ L h m → News h₀ L h ((I, oI) :: (C, oC) :: (D', lst ys') :: led) → Off3 I C D' led → ((@Ne Nat I C) ∧ (@Ne Nat I D') ∧ (@Ne Nat C D')) →
      wpAny (model prog w) A (eval elt (compEnvC scope cl C env)) (CompEnd h₀ L m { ({ s₁ with heap := g } : Shared) with heap := h, toks := tk } I oI C oC D' (lst ys') (fun _ => True) (fun y news' => news' = led ∧ ∃ t, y = .bytes (byteArr (enc c)) t)) E' { ({ s₁ with heap := g } : Shared) with heap := h, toks := tk })
    (fin : ∀ g (ps : List (Array UInt8 × Tok)), ps.map (·.1) = cs.map (fun c => byteArr (enc c)) → Fin { s₁ with heap := g } (ps.map mkB) led) :
    CompSrc prog w A h₀ L m env elt x scope cl Fin (.ref D) s₁ := by
  have hl : ys.toArray.size = cs.length := by rw [List.size_toArray, IntsAre.length hys]
  refine LCg.CompSrc.ledger hh F N hm (by rw [hl, sizeLine_eq]; omega) (fun g => comp_inv ys.toArray.size (fun i ys' nw => nw = led ∧ ∃ ps : List (Array UInt8 × Tok), ys' = ps.map mkB ∧ ps.map (·.1) = (cs.take i).map fun c => byteArr (enc c)) ?_ ?_ _ _ _ _ (by omega) ⟨rfl, [], rfl, by rw [List.take_zero]; rfl⟩)
  · intro i ys' nw hi' hJ v I oI C oC D' m₂ h tk E' hP hn hx F' N' off ne
    obtain ⟨rfl, ps, rfl, hps⟩ := hJ
    have hP' : ys[i]? = some v := by simpa using hP
    obtain ⟨c, t, hc, rfl⟩ := intsAre_at hys hP'
    refine wpAny_mono (step g c t (List.mem_of_getElem? hc) _ I oI C oC D' m₂ h tk E' hn hx F' N' off ne) (fun y s₂ z => ?_) fun _ _ z => z
    obtain ⟨h', tk', news', e1, F2, N2, o2, _, rfl, t', rfl⟩ := z
    exact ⟨h', tk', news', e1, F2, N2, o2, .inr ⟨_, hm, rfl, _, rfl⟩, rfl, ps ++ [(byteArr (enc c), t')], by rw [List.map_append]; rfl, by rw [List.map_append, hps, List.take_add_one, hc, List.map_append]; rfl⟩
  · intro ys' nw hJ
    obtain ⟨rfl, ps, rfl, hps⟩ := hJ
    refine fin g ps ?_
    rw [hps, hl, List.take_length]
example : True := by ((k_with "call type:bytes" => ((k_here; k_extra "BY"))); trivial)
theorem join_room {ps : List (Array UInt8 × Tok)} {cs : List Int} (h : ps.map (·.1) = cs.map fun c => byteArr (enc c)) (hcl : cs.length ≤ 6) : ((ps.map (·.1)).map (·.size)).sum + ps.length * (#[] : Array UInt8).size ≤ 16777216 := by
  rw [h]
  have e : ∀ l : List Int, ((l.map fun c => byteArr (enc c)).map (·.size)).sum ≤ 3 * l.length := by
    intro l
    induction l with
    | nil => exact Nat.le_refl _
    | cons c l ih => rw [List.map_cons, List.map_cons, List.sum_cons, List.length_cons]; have := enc_len c; have := byteArr_size (enc c); omega
  have := e cs
  simp only [List.size_toArray, List.length_nil, Nat.mul_zero]
  omega
example : True := by ((k_with "getMethod bytes" => ((k_here; refine method_join ?_))); (k_with "call builtin:bytes.join" => ((k_here; k_extra "BJ"))); trivial)
def KeptV (kv : Value) : Option (List Int) → Prop
  | none => kv = .none
  | some ks => ∃ b t, kv = .bytes b t ∧ KBw.bInts b = ks
def LRes (way : Str) (B l : Addr) (rest : Led) (v : Value) (n' : Led) : Prop :=
  ∃ D kv ob tb kept octs us ns k t d0 d1, v = .ref D ∧ n' = (D, tupObj #[kv, .bytes ob tb]) :: (B, W.listOf [.ref l, .int k t].toArray d0) :: (l, W.listOf us.toArray d1) :: rest ∧ IntsAre us ns ∧ us.length ≤ 63 ∧ KBw.bInts ob = octs ∧ KeptV kv kept ∧ StrRes way kept octs
theorem sub3 {a b c : Addr × Obj} {led rest : Led} (h1 : a ∈ led) (h2 : b ∈ led) (h3 : c ∈ led) (h4 : ∀ p ∈ rest, p ∈ led) : ∀ p ∈ a :: b :: c :: rest, p ∈ led := fun p hp => by
  rcases List.mem_cons.mp hp with rfl | hp
  · exact h1
  · rcases List.mem_cons.mp hp with rfl | hp
    · exact h2
    · rcases List.mem_cons.mp hp with rfl | hp
      · exact h3
      · exact h4 p hp
theorem res_of {way : Str} {B l D : Addr} {rest led : Led} {h₀ h' : Heap} {L : Addr} {kv : Value} {ob : Array UInt8} {tb : Tok} {kept : Option (List Int)} {octs : List Int} {us : List Value} {ns : List Int} {k : Int} {t : Tok} {d0 d1 : Nat}
    (N : News h₀ L h' led) (h1 : (D, tupObj #[kv, .bytes ob tb]) ∈ led) (h2 : (B, W.listOf [.ref l, .int k t].toArray d0) ∈ led) (h3 : (l, W.listOf us.toArray d1) ∈ led) (h4 : ∀ p ∈ rest, p ∈ led) (hi : IntsAre us ns) (hl : us.length ≤ 63) (ho : KBw.bInts ob = octs) (hk : KeptV kv kept) (hS : StrRes way kept octs) :
    ∃ n', LRes way B l rest (.ref D) n' ∧ News h₀ L h' n' := ⟨_, ⟨D, kv, ob, tb, kept, octs, us, ns, k, t, d0, d1, rfl, rfl, hi, hl, ho, hk, hS⟩, fun p hp => N p (sub3 h1 h2 h3 h4 p hp)⟩
theorem signs_none : signsOf "" = [65, 66, 67, 68, 69] := by decide +kernel
theorem wide_ne3 : ("" : Str) ≠ "wide" := by decide +kernel
theorem get_way {prog : Program} {w : World} {A : Around} {E : Value → Shared → Prop} {s : Shared} {h₀ : Heap} {L d Sa Sl Sw Sn : Addr} {o : Obj} {news led2 : Led} {way : Str} {t ta tl tw : Tok} {x1 x2 x3 x4 x5 y1 y2 y3 y4 y5 z1 z2 z3 z4 z5 u1 u2 u3 u4 u5 : Tok} {Q : Value → Shared → Prop}
    (N : News h₀ L s.heap news) (hp : (d, o) ∈ news) (hd : o.IsDictOf (PySem.strKind prog w) (strPairs [(.str "ascii" ta, .ref Sa), (.str "latin" tl, .ref Sl), (.str "wide" tw, .ref Sw)])) (lo : (d == sysModules) = false) (hw : wayOk way ∨ way = "")
    (ma : (Sa, tupObj #[.int 65 x1, .int 122 x2, .int 32 x3, .int 34 x4, .int 10 x5]) ∈ news) (ml : (Sl, tupObj #[.int 65 y1, .int 233 y2, .int 255 y3, .int 160 y4, .int 13 y5]) ∈ news) (mw : (Sw, tupObj #[.int 65 z1, .int 233 z2, .int 8364 z3, .int 2047 z4, .int 65533 z5]) ∈ news) (mn : (Sn, tupObj #[.int 65 u1, .int 66 u2, .int 67 u3, .int 68 u4, .int 69 u5]) ∈ news)
    (h2 : ∀ p ∈ led2, p ∈ news) (pa : AllLt Sa led2) (pl : AllLt Sl led2) (pw : AllLt Sw led2) (pn : AllLt Sn led2)
    (h : ∀ S a1 a2 a3 a4 a5 t1 t2 t3 t4 t5, signsOf way = [a1, a2, a3, a4, a5] → AllLt S led2 → News h₀ L s.heap ((S, tupObj #[.int a1 t1, .int a2 t2, .int a3 t3, .int a4 t4, .int a5 t5]) :: led2) → Q (.ref S) { s with toks := s.toks + 1 }) :
    wpAny (model prog w) A (call (.builtin "dict.get") [.ref d, .str way t, .ref Sn]) Q E s := by
  have mk : ∀ {q : Addr × Obj}, q ∈ news → News h₀ L s.heap (q :: led2) := fun {q} hq p hp => by
    rcases List.mem_cons.mp hp with rfl | hp
    · exact N _ hq
    · exact N _ (h2 p hp)
  rcases hw with (rfl | rfl | rfl) | rfl
  · exact kdg_get2 (knd := PySem.strKind _ _) N hp hd lo (strKind_is _ _ _ _) (some (.ref Sa)) (by rfl) (h Sa _ _ _ _ _ _ _ _ _ _ signs_ascii pa (mk ma))
  · exact kdg_get2 (knd := PySem.strKind _ _) N hp hd lo (strKind_is _ _ _ _) (some (.ref Sl)) (by rfl) (h Sl _ _ _ _ _ _ _ _ _ _ signs_latin pl (mk ml))
  · exact kdg_get2 (knd := PySem.strKind _ _) N hp hd lo (strKind_is _ _ _ _) (some (.ref Sw)) (by rfl) (h Sw _ _ _ _ _ _ _ _ _ _ signs_wide pw (mk mw))
  · exact kdg_get2 (knd := PySem.strKind _ _) N hp hd lo (strKind_is _ _ _ _) none (by rfl) (h Sn _ _ _ _ _ _ _ _ _ _ signs_none pn (mk mn))
theorem item5 {prog : Program} {w : World} {A : Around} {E : Value → Shared → Prop} {s : Shared} {h₀ : Heap} {L S : Addr} {news : Led} {value slice : Expr} {a1 a2 a3 a4 a5 : Int} {t1 t2 t3 t4 t5 u : Tok} {j : Int} {Q : Value → Shared → Prop} (N : News h₀ L s.heap news) (hm : (S, tupObj #[.int a1 t1, .int a2 t2, .int a3 t3, .int a4 t4, .int a5 t5]) ∈ news)
    (h0 : 0 ≤ j) (h1 : j < 5) (h : ∀ c t, c ∈ [a1, a2, a3, a4, a5] → Q (.int c t) s) (hs : subscripted slice false (.ref S) (.int j u) = operate [.ref S, .int j u] (getItem (.ref S) (.int j u)) := by with_unfolding_all rfl) :
    wpAny (model prog w) A (subscriptTail value slice (.ref S) (.int j u)) Q E s := by
  have hT : IsTup s.heap S [.int a1 t1, .int a2 t2, .int a3 t3, .int a4 t4, .int a5 t5].toArray := News.isTup N hm
  rcases (by omega : j = 0 ∨ j = 1 ∨ j = 2 ∨ j = 3 ∨ j = 4) with rfl | rfl | rfl | rfl | rfl
  · exact item_tupleT hT (by decide) (by decide) rfl rfl (h _ _ (by simp)) hs
  · exact item_tupleT hT (by decide) (by decide) rfl rfl (h _ _ (by simp)) hs
  · exact item_tupleT hT (by decide) (by decide) rfl rfl (h _ _ (by simp)) hs
  · exact item_tupleT hT (by decide) (by decide) rfl rfl (h _ _ (by simp)) hs
  · exact item_tupleT hT (by decide) (by decide) rfl rfl (h _ _ (by simp)) hs
theorem in_way {way : Str} {cs : List Int} (hw : wayOk way ∨ way = "") (hn : way ≠ "wide") (hcs : ∀ c ∈ cs, c ∈ signsOf way) : KBa.In cs := by
  intro c hc
  have h := hcs c hc
  rcases hw with (rfl | rfl | rfl) | rfl
  · rw [signs_ascii] at h; simp only [List.mem_cons, List.not_mem_nil, or_false] at h; omega
  · rw [signs_latin] at h; simp only [List.mem_cons, List.not_mem_nil, or_false] at h; omega
  · exact absurd rfl hn
  · rw [signs_none] at h; simp only [List.mem_cons, List.not_mem_nil, or_false] at h; omega
theorem any_ascii {way : Str} (h : ([Str.ofString "ascii", Str.ofString "wide"].any fun x => x == way) = true) (hn : (way == "wide") = false) : way = "ascii" := by
  simp only [List.any_cons, List.any_nil, Bool.or_false, Bool.or_eq_true] at h
  rcases h with h | h
  · exact (eq_of_beq h).symm
  · have := eq_of_beq h
    subst this
    simp at hn
example : True := by ((k_with "call builtin:dict.get" => ((k_here; k_extra "GW"))); (k_with "subscriptTail Name Call ref int" => ((k_here; k_extra "S5"))); trivial)
theorem news_mid {h₀ h : Heap} {L : Addr} {a b c : Addr × Obj} {r : List (Addr × Obj)} (N : News h₀ L h (a :: b :: c :: r)) : News h₀ L h (b :: r) := fun p hp => N p (by rcases List.mem_cons.mp hp with rfl | hp; exact .tail _ (.head _); exact .tail _ (.tail _ (.tail _ hp)))
/-- a test whose turns come together again: the heap's ledger stays, and what a yes says is kept -/
theorem test_join {M : Model} {A : Around} {E : Value → Shared → Prop} {hp : Heap} {gn : _} {dr : _} {tk : Nat} {os : _} {x : Expr} {env : Env} {c : _} {Q : Bool → Shared → Prop} {h₀ : Heap} {L : Addr} {m : Str → Option Value} {news : Led} (_F : Fr h₀ L hp m) (_N : News h₀ L hp news) (P : Prop)
    (h : wpAny M A (isTrue x env c) (fun b s' => ∃ h' tk', s' = ⟨h', gn, dr, tk', os⟩ ∧ Fr h₀ L h' m ∧ News h₀ L h' news ∧ (b = true → P)) E ⟨hp, gn, dr, tk, os⟩)
    (k : ∀ b h' tk', Fr h₀ L h' m → News h₀ L h' news → (b = true → P) → Q b ⟨h', gn, dr, tk', os⟩) : wpAny M A (isTrue x env c) Q E ⟨hp, gn, dr, tk, os⟩ :=
  wpAny_mono h (fun b s' hj => by obtain ⟨h', tk', rfl, F, N, hb⟩ := hj; exact k b h' tk' F N hb) fun _ _ x => x
theorem octs_join {M : Model} {A : Around} {E : Value → Shared → Prop} {hp : Heap} {gn : _} {dr : _} {tk : Nat} {os : _} {x : Expr} {env : Env} {Q : Value → Shared → Prop} {h₀ : Heap} {L : Addr} {m : Str → Option Value} {news : Led} (_F : Fr h₀ L hp m) (_N : News h₀ L hp news) (ks : List Int)
    (h : wpAny M A (eval x env) (fun v s' => ∃ h' tk' ob t, v = .bytes ob t ∧ s' = ⟨h', gn, dr, tk', os⟩ ∧ Fr h₀ L h' m ∧ News h₀ L h' news ∧ KBw.bInts ob = ks) E ⟨hp, gn, dr, tk, os⟩)
    (k : ∀ ob t h' tk', Fr h₀ L h' m → News h₀ L h' news → KBw.bInts ob = ks → Q (.bytes ob t) ⟨h', gn, dr, tk', os⟩) : wpAny M A (eval x env) Q E ⟨hp, gn, dr, tk, os⟩ :=
  wpAny_mono h (fun v s' hj => by obtain ⟨h', tk', ob, t, rfl, rfl, F, N, hb⟩ := hj; exact k ob t h' tk' F N hb) fun _ _ x => x
example : True := by ((k_with "eval IfExp" => ((k_here; k_extra "OJ"))); (k_with "isTrue BoolOp" => ((k_here; k_extra "TJ"))); trivial)
theorem lstring_con (w : World) (way : Str) (hw : wayOk way ∨ way = "") (B l : Nat) (tw t0 : Tok) (c0 c1 : Nat) (us : List Value) (ns : List Int) (k : Int) (rest : Led) (hi : IntsAre us ns) (hlen : us.length ≤ 63) (hBl : B ≠ l) (h1 : ∀ q ∈ rest, q.1 ≠ B) (h2 : ∀ q ∈ rest, q.1 ≠ l) :
    Con w 6 720 [.ref B, .str way tw] ((B, W.listOf [.ref l, .int k t0].toArray c0) :: (l, W.listOf us.toArray c1) :: rest) (LRes way B l rest) := by
  refine Con.mk5 ?_
  k_fill
  (k_with_none; (k_with "units_room" => ((ktr_units))); (k_with "k_room" => ((ktr_room))); (k_with "k_all" => (first | assumption | exact fun q hq => Nat.ne_of_lt (ktn_ltOf (by assumption) q hq))); (k_with "exec While BoolOp cons nil" => ((k_here; k_extra "W"))); (k_with "exec While Compare cons nil" => ((k_here; k_extra "W"))); (k_with "call ref" => ((k_here; first | k_extra "C" | (k_extra "HOLD"; refine Hold.out ?_)))); (k_with "eval ListComp" => ((k_here; k_extra "L"))); (k_with "pyIter ref" => ((k_here; k_extra "F"))); (k_with "exec For Name Call cons nil" => ((k_here; k_extra "FOR"; (rename Fr _ _ _ _ => lF'); (with_unfolding_all refine' For_invVF lF' ?k1 ?k2 ?_; (case k1 => exact rfl); (case k2 => exact rfl); k_whole)))); (k_with "exec For Name Name cons nil" => ((k_here; k_extra "FOR"; (rename Fr _ _ _ _ => lF'); (with_unfolding_all refine' For_invVF lF' ?k1 ?k2 ?_; (case k1 => exact rfl); (case k2 => exact rfl); k_whole)))); (k_with "compareOp In int bytes" => ((k_here; refine in_bytes_K (by omega) (by omega) ?_))); (k_with "compareOp NotIn int bytes" => ((k_here; refine notin_bytes_K (by omega) (by omega) ?_))); (k_with "pyIter bytes" => ((k_here; k_extra "FB"))); (k_with "call type:bytes" => ((k_here; (with_reducible show wpAny _ _ (call (Value.type "bytes") [Value.bytes _ _]) _ _ _); refine call_bytes_bytes ?_))); (k_with "NE1" => (first | with_reducible assumption | exact And.right (by with_reducible assumption) | exact And.right (And.right (by with_reducible assumption)) | exact And.right (And.right (And.right (by with_reducible assumption))))); (k_with "NE2" => (first | with_reducible assumption | exact And.right (by with_reducible assumption) | exact And.right (And.right (by with_reducible assumption)) | exact And.right (And.right (And.right (by with_reducible assumption))) | exact And.right (And.right (And.right (And.right (by k_extra "NE1")))))); (k_with "NE3" => (first | with_reducible assumption | exact And.right (by with_reducible assumption) | exact And.right (And.right (by with_reducible assumption)) | exact And.right (And.right (And.right (by with_reducible assumption))) | exact And.right (And.right (And.right (And.right (by k_extra "NE2")))))); (k_with "kwd_less" => (first | with_reducible assumption | exact And.left (by k_extra "NE3") | exact And.right (by k_extra "NE3"))); (k_with "k_ne" => (((try dsimp only); first | with_reducible assumption | exact Ne.symm (by with_reducible assumption) | (refine ne_gt ?_; kwd_less) | (refine ne_lt ?_; kwd_less) | kwd_less | (refine Ne.symm ?_; kwd_less)))); (k_with "ktr_room" => (first | exact room_lt (by assumption) (by rfl) | exact room_same (by assumption) (by rfl))); (k_with "ktr_units" => (exact units_lt (by assumption) (by rfl))); (k_with "eval Constant bytes" => ((refine xs_bytes ?_))); (k_with "binaryOp Sub int int" => ((refine xs_sub ?_))); (k_with "binaryOp Mod int int" => ((k_here; refine xs_mod (by decide) ?_))); (k_with "newList" => ((k_here; k_dflt (refine' xs_list ?xlF ?xlN ?_; (case xlF => k_asm); (case xlN => k_asm); k_whole); intro _ _ _ _ xll; (try k_lt xll); (try k_sweep)))); (k_with "eval Constant int" => ((refine xs_int ?_))); (k_with "eval Constant str" => ((refine xs_str ?_))); (k_with "binaryOp Add int int" => ((refine xs_add ?_))); (k_with "storeName" => ((k_here; k_dflt (refine' xs_store ?xsF ?xsN ?_ ?xsa ?xsb; (case xsF => k_asm); (case xsN => k_asm); (case xsa => rfl); (case xsb => rfl); k_whole; intro _ _ _; (try k_sweep))))); (k_with "newTuple" => ((k_here; kup_bare; k_dflt (refine' xs_tuple ?xtF ?xtN ?_ ?xtz; (case xtF => k_asm); (case xtN => k_asm); (case xtz => kmk_size)); intro _ _ _ _ xtl; (try k_lt xtl); (try k_sweep)))); (k_with "k_all" => (first | assumption | exact fun q hq => Nat.ne_of_lt (ktn_ltOf (by assumption) q hq) | exact fun q hq => Nat.ne_of_lt (Nat.lt_succ_of_lt (ktn_ltOf (by assumption) q hq)) | exact fun q hq => Nat.ne_of_lt (Nat.lt_succ_of_lt (Nat.lt_succ_of_lt (ktn_ltOf (by assumption) q hq))))); (k_with "exec Assign cons ListComp" => ((k_here; k_extra "AL"))); (k_with "CompSrc" => ((refine Hold.out ?_))); (k_with "eval Dict" => ((k_here; k_dflt (refine' kdn_str ?q ?F ?N ?b ?a ?l ?e ?n ?_; (case q => rfl); (case F => k_asm); (case N => first | k_asm | exact News.nil); (case b => exact Top.nolimit (by k_asm)); (case a => rfl); (case l => rfl); (case e => exact List.cons_ne_nil _ _); (case n => exact Nat.le_of_ble_eq_true rfl)); intro d' h' o' F' N' l1 lo' hd'; (try k_lt l1)))); (k_with "call type:bytes" => ((k_here; k_extra "BY"))); (k_with "getMethod bytes" => ((k_here; refine method_join ?_))); (k_with "call builtin:bytes.join" => ((k_here; k_extra "BJ"))); (k_with "call builtin:dict.get" => ((k_here; k_extra "GW"))); (k_with "subscriptTail Name Call ref int" => ((k_here; k_extra "S5"))); (k_with "eval IfExp" => ((k_here; k_extra "OJ"))); (k_with "isTrue BoolOp" => ((k_here; k_extra "TJ"))))
  intro dp un gd cn cs' a ccd cl outer A₀ base h₀ L m hp0 gn0 dr0 tk0 os0 mean mg mb Q E B' F X N T hcs hdp hun hret
  refine wpAny_call ?_
  k_dflt (first | ((refine' code_defC ?k1 ?k2 ?k3 ?k4 ?k5 ?kA ?kF ?kK ?k6 ?k7 ?k8 ?k9 ?kB ?kD ?_ ?c2 ?c3 ?c4; (case kA => exact rfl); (case kF => exact rfl); (case kK => assumption); (case k1 => k_asm); (case k2 => k_asm); (case k3 => k_asm); (case k4 => k_asm); (case k5 => k_asm); (case k6 => k_is); (case k7 => k_is); (case k8 => ktr_room); (case k9 => exact BindsTo.of_eq rfl); (case kB => exact rfl); (case kD => decide +kernel); (case c2 => exact rfl); (case c3 => exact rfl); (case c4 => exact rfl); k_whole; intro g' L' h' tk' cells' FG' F' N' Y' B' X' T' l1; (try k_lt l1); k_cells Y'; (try simp only [List.cons_append, List.nil_append] at N'); (try dsimp only); (try k_fold))) | ktr_enter)
  k_with "HOLD" => skip
  k_with "GW" => (k_dflt (refine' get_way (way := way) ?N ?hp ?hd ?lo hw ?ma ?ml ?mw ?mn ?h2 ?pa ?pl ?pw ?pn ?_; (case N => k_asm); (case hd => k_asm); (case hp => k_mem); (case lo => k_asm); (case ma => k_mem); (case ml => k_mem); (case mw => k_mem); (case mn => k_mem); (case h2 => exact fun p hp => .tail _ (.tail _ (.tail _ (.tail _ (.tail _ hp))))); (case pa => (first | (first | assumption | exact And.right (by assumption) | exact And.right (And.right (by assumption)) | exact And.right (And.right (And.right (by assumption))) | exact And.right (And.right (And.right (And.right (by assumption))))) | kwd_inv)); (case pl => (first | (first | assumption | exact And.right (by assumption) | exact And.right (And.right (by assumption)) | exact And.right (And.right (And.right (by assumption))) | exact And.right (And.right (And.right (And.right (by assumption))))) | kwd_inv)); (case pw => (first | (first | assumption | exact And.right (by assumption) | exact And.right (And.right (by assumption)) | exact And.right (And.right (And.right (by assumption))) | exact And.right (And.right (And.right (And.right (by assumption))))) | kwd_inv)); (case pn => (first | (first | assumption | exact And.right (by assumption) | exact And.right (And.right (by assumption)) | exact And.right (And.right (And.right (by assumption))) | exact And.right (And.right (And.right (And.right (by assumption))))) | kwd_inv))); intro S9 a1 a2 a3 a4 a5 x1 x2 x3 x4 x5 hsg9 hS9 N9; (dsimp only at N9); (simp only [AllLt] at hS9); dsimp only)
  k_with "AL" => (k_dflt (refine LCg.Assign_ListComp_U (F₀ := by k_asm) (by rfl) (by with_unfolding_all rfl) (by rfl) (by decide) (by rfl) (by decide) (by rfl) (by rfl) (by rfl) ?_))
  k_with "C" => (first
    | ((with_reducible show wpAny _ _ (call (Value.ref 708) _) _ _ _); k_dflt (refine' take_use5 (l := l) ?hm ?hi ?hlen ?hBl ?hl ?U1 ?U2 ?B ?F ?X ?N ?T ?hk ?hd ?hu ?_; (first | (((case N => k_asm); (case hl => k_mem); (case U1 => (intro _ _ _; k_upd)); (case U2 => (intro _ _ _ _ _; k_upd)); (case B => k_asm); (case F => k_asm); (case X => k_asm); (case T => k_asm); (case hk => first | exact rfl | assumption); (case hd => ktr_room); (case hu => ktr_units); (case hm => decide); (case hi => assumption); (case hlen => assumption); (case hBl => assumption))) | ktd_rel)); intro j9 t9 us9 ns9 k9 u9 d9 e9 h9 tk9 hj0 hj1 hi9 hl9 F9 N9; (try dsimp only)))
  k_with "S5" => (k_dflt (refine' item5 ?N ?hm hj0 hj1 ?_; (case N => exact N9); (case hm => k_mem)); intro c9 y9 hc9)
  k_steps
  unfold Hold
  (with_reducible rename News _ _ _ _ => N8)
  refine' codes_src (signsOf way) rfl ?F N8 (by assumption) hj0 hj1 hi9 hl9 ?step ?fin
  (case F => k_asm)
  case step =>
    clear N8
    intro g i ys us ns k t d0 d1 cs hi6 hI hle hys hcs hcl v I oI C oC D m₂ h tk E' hP hn hx F N off ne
    (dsimp only [ledB] at N)
    obtain ⟨⟨o1, o2, o3⟩, ⟨o4, o5, o6⟩, ⟨o7, o8, o9⟩, ⟨o10, o11, o12⟩, ⟨o13, o14, o15⟩, ofr⟩ := off
    obtain ⟨oe1, oe2, oe3⟩ := ne
    k_steps
    exact CompEnd.intro (by assumption) N9 _ (fun p hp => hp) ⟨⟨o1, o2, o3⟩, ⟨o4, o5, o6⟩, ⟨o7, o8, o9⟩, ⟨o10, o11, o12⟩, ⟨o13, o14, o15⟩, ofr⟩ trivial ⟨us9, ns9, k9, u9, d9, e9, cs ++ [_], rfl, hi9, hl9, IntsAre.append hys (.cons _ _ .nil), (fun c hc => (List.mem_append.mp hc).elim (hcs c) fun hc => by rw [List.mem_singleton.mp hc, hsg9]; exact hc9), by rw [List.length_append, hcl]; rfl⟩
  case fin =>
    clear N8
    intro g ys us ns k t d0 d1 cs hI hle hys hcs hcl D h tk F N off
    (dsimp only [ledB] at N)
    obtain ⟨o1, o2, o3, o4, o5, ofr⟩ := off
    dsimp only
    k_with "L" => (k_dflt (refine LCg.ListComp_U (F₀ := by k_asm) (by rfl) (by decide) (by rfl) (by decide) (by rfl) ?_))
    k_steps
    unfold Hold
    have hsm : ∀ c ∈ cs, 0 ≤ c ∧ c < 65536 := fun c hc => good_small hcs hc
    refine' wides_src rfl ?F N (.head _) hys hcl ?step2 ?fin2
    (case F => k_asm)
    case step2 =>
      intro g2 c t hc ys' I oI C oC D' m₂ h tk E' hn hx F N off ne
      have hc2 := hsm c hc
      k_with "C" => ((with_reducible show wpAny _ _ (call (Value.ref 715) _) _ _ _); k_dflt (refine' Con.use5 (wide_con w c _ hc2.1 hc2.2 _) ?B ?F ?X ?N ?T ?hk ?hd ?hu ?_; (first | (((case N => k_asm); (case B => k_asm); (case F => k_asm); (case X => k_asm); (case T => k_asm); (case hk => first | exact rfl | assumption); (case hd => ktr_room); (case hu => ktr_units))) | tb_start)); intro v9 h9 tk9 hP9 F9 N9; obtain ⟨t9, hP9⟩ := hP9; subst hP9; (try dsimp only))
      k_steps
      exact CompEnd.intro (by assumption) N9 _ (fun p hp => hp) off trivial ⟨rfl, _, rfl⟩
    case fin2 =>
      intro g2 ps hps D2 h tk F N off
      obtain ⟨p1, p2, p3, p4, p5, p6, pfr⟩ := off
      dsimp only
      have hle := encs_length_le cs
      obtain ⟨bk, hbk, hbi⟩ : ∃ bk, PySem.Builtin.Bytes.joined #[] (cs.map fun c => byteArr (enc c)) = bk ∧ KBw.bInts bk = encs cs := ⟨_, rfl, joined_encs cs hsm⟩
      k_with "BJ" => (refine bytes_join (ps := ps) (News.isList (by k_asm) (List.Mem.head _)) (join_room hps hcl) ?_; intro t5 k5; rw [hps, hbk])
      k_with "BY" => ((with_reducible show wpAny _ _ (call (Value.type "bytes") [Value.ref _]) _ _ _); have hnw9 : way ≠ "wide" := (by simpa using (by assumption : (way == _) = false)); have hin9 : KBa.In cs := in_way hw hnw9 hcs; k_dflt (refine' KBa.make_K (ns := cs) ?F ?N ?hh ?hl ?hi ?hr ?hn ?_; (case F => k_asm); (case N => k_asm); (case hh => rfl); (case hl => exact News.isList (by k_asm) (by k_mem)); (case hi => exact hys); (case hr => exact hin9); (case hn => omega)); intro h' t' k' F' N' _)
      k_with "OJ" => ((with_reducible rename Fr _ _ _ _ => lF'); (with_reducible rename News _ _ _ _ => lN'); (have lW := news_mid lN'); refine' octs_join lF' lW (if way = "wide" then encs cs else cs) ?oj ?ok; (case' ok => (clear lF' lN' lW; intro ob8 tb8 h8 tk8 F8 N8 hob8; (obtain ⟨ok8, hok8⟩ : ∃ z, z = (if way = "wide" then encs cs else cs) := ⟨_, rfl⟩); (rw [← hok8] at hob8); (have hol8 : ok8.length ≤ 18 := (by rw [hok8]; split <;> omega)); (try dsimp only))); (case' oj => (with_reducible refine IfExp_ ?_)))
      k_with "TJ" => ((with_reducible rename Fr _ _ _ _ => lF'); (with_reducible rename News _ _ _ _ => lN'); first
        | ((with_reducible show wpAny _ _ (isTrue (Expr.BoolOp _ [_, _, _] _) _ _) _ _ _); refine' test_join lF' lN' True ?tj1 ?tk1; (case' tk1 => (clear lF' lN'; intro b8 h8 tk8 F8 N8 hb8; (try dsimp only); rcases b8 with _ | _)); (case' tj1 => (with_reducible refine isTrue_or ?_)))
        | ((with_reducible show wpAny _ _ (isTrue (Expr.BoolOp BoolOp.And [_, Expr.Compare _ _ [Expr.Constant (Const.str (Str.ofString "ascii")) _ _] _] _) _ _) _ _ _); refine' test_join lF' lN' (way = "ascii") ?tj2 ?tk2; (case' tk2 => (clear lF' lN'; intro b8 h8 tk8 F8 N8 hb8; (try dsimp only); rcases b8 with _ | _)); (case' tj2 => (with_reducible refine isTrue_and ?_)))
        | ((with_reducible show wpAny _ _ (isTrue (Expr.BoolOp BoolOp.And [_, Expr.Compare _ _ [Expr.Constant (Const.str (Str.ofString "wide")) _ _] _] _) _ _) _ _ _); refine' test_join lF' lN' (way = "wide") ?tj3 ?tk3; (case' tk3 => (clear lF' lN'; intro b8 h8 tk8 F8 N8 hb8; (try dsimp only); rcases b8 with _ | _)); (case' tj3 => (with_reducible refine isTrue_and ?_)))
        | ((with_reducible show wpAny _ _ (isTrue (Expr.BoolOp BoolOp.And [_, Expr.Compare _ _ [Expr.Constant (Const.str (Str.ofString "wide")) _ _] _] _) _ _) _ _ _); refine' test_join lF' lN' (way = "wide") ?tj4 ?tk4; (case' tk4 => (clear lF' lN'; intro b8 h8 tk8 F8 N8 hb8; (try dsimp only); rcases b8 with _ | _)); (case' tj4 => (with_reducible refine isTrue_and ?_)))
        | ((with_reducible show wpAny _ _ (isTrue (Expr.BoolOp BoolOp.And [_, Expr.Compare _ _ [Expr.Constant (Const.str (Str.ofString "wide")) _ _] _] _) _ _) _ _ _); refine' test_join lF' lN' (way = "wide") ?tj5 ?tk5; (case' tk5 => (clear lF' lN'; intro b8 h8 tk8 F8 N8 hb8; (try dsimp only); rcases b8 with _ | _)); (case' tj5 => (with_reducible refine isTrue_and ?_))))
      k_steps
      all_goals first
        | assumption
        | exact hbi.trans (if_pos (eq_of_beq (by assumption))).symm
        | exact (KBa.ints_make (by assumption)).trans (if_neg (by simpa using (by assumption : (way == _) = false))).symm
        | exact trivial
        | exact news_mid (by assumption)
        | ((with_reducible rename News _ _ _ _ => nX); first | exact fun p hp => nX p (.tail _ hp) | exact fun p hp => nX p (.tail _ (.tail _ hp)))
        | exact absurd (by assumption : false = true) (by decide)
        | exact eq_of_beq (by assumption)
        | ((with_reducible rename News h₀ L _ _ => N7); exact Exists.elim (res_of (way := way) (B := B) (l := l) (rest := rest) N7 (.head _) (by k_mem) (by k_mem) (fun p hp => by repeat (first | exact hp | refine List.Mem.tail _ ?_)) hi9 hl9 hob8 (kept := some (encs cs)) ⟨_, _, rfl, hbi⟩ ⟨cs, hcl, hcs, .inl ⟨rfl, hok8⟩⟩) (fun n' hn' => hret _ _ _ _ hn'.1 (by assumption) hn'.2))
        | ((with_reducible rename News h₀ L _ _ => N7); (have q8 := hb8 rfl); subst q8; first
          | exact Exists.elim (res_of (way := "ascii") (B := B) (l := l) (rest := rest) N7 (.head _) (by k_mem) (by k_mem) (fun p hp => by repeat (first | exact hp | refine List.Mem.tail _ ?_)) hi9 hl9 (KBw.ints_app (hob8.trans (hok8.trans (if_neg wide_ne1))) (ls := [233]) rfl) (kept := none) rfl ⟨cs, hcl, hcs, .inr ⟨rfl, .inl ⟨rfl, rfl⟩⟩⟩) (fun n' hn' => hret _ _ _ _ hn'.1 (by assumption) hn'.2)
          | exact Exists.elim (res_of (way := "wide") (B := B) (l := l) (rest := rest) N7 (.head _) (by k_mem) (by k_mem) (fun p hp => by repeat (first | exact hp | refine List.Mem.tail _ ?_)) hi9 hl9 (KBw.ints_app (hob8.trans (hok8.trans (if_pos rfl))) (ls := [195]) rfl) (kept := none) rfl ⟨cs, hcl, hcs, .inr ⟨rfl, .inr ⟨rfl, .inl rfl⟩⟩⟩) (fun n' hn' => hret _ _ _ _ hn'.1 (by assumption) hn'.2)
          | exact Exists.elim (res_of (way := "wide") (B := B) (l := l) (rest := rest) N7 (.head _) (by k_mem) (by k_mem) (fun p hp => by repeat (first | exact hp | refine List.Mem.tail _ ?_)) hi9 hl9 (KBw.ints_app (ks := [128]) rfl (hob8.trans (hok8.trans (if_pos rfl)))) (kept := none) rfl ⟨cs, hcl, hcs, .inr ⟨rfl, .inr ⟨rfl, .inr (.inl rfl)⟩⟩⟩) (fun n' hn' => hret _ _ _ _ hn'.1 (by assumption) hn'.2)
          | exact Exists.elim (res_of (way := "wide") (B := B) (l := l) (rest := rest) N7 (.head _) (by k_mem) (by k_mem) (fun p hp => by repeat (first | exact hp | refine List.Mem.tail _ ?_)) hi9 hl9 (KBw.ints_app (hob8.trans (hok8.trans (if_pos rfl))) (ls := [237, 160, 128]) rfl) (kept := none) rfl ⟨cs, hcl, hcs, .inr ⟨rfl, .inr ⟨rfl, .inr (.inr rfl)⟩⟩⟩) (fun n' hn' => hret _ _ _ _ hn'.1 (by assumption) hn'.2))
        | fail
end

section

section
variable {prog : Program} {w : World} {A : Around} {E : Value → Shared → Prop} {s : Shared} {env : Env} {h₀ : Heap} {x : Str} {body : List Stmt} {Q : Flow → Shared → Prop}
theorem kfor_range {σ : Type} {r : Addr} {a₀ b₀ : Int} {t₀ u₀ v₀ : Tok} {n : Nat} {m₀ : Str → Option Value} (Led : σ → List (Addr × Obj)) (ps : σ → List (Str × Value)) (Facts : σ → Prop) (stored : List Str) (P : List Int → σ → Prop) (c₀ : σ)
    (hh : A.handled = none) (hr : IsRange s.heap r a₀ b₀ 1 t₀ u₀ v₀) (hsmall : Builtin.Range.small a₀ b₀ 1 = true) (hn : Builtin.Range.rangeSize a₀ b₀ 1 = (n : Int)) (F : Fr h₀ env.locals s.heap m₀) (N : News h₀ env.locals s.heap (Led c₀)) (hf : Facts c₀) (hk : ∀ p ∈ ps c₀, m₀ p.1 = some p.2) (hp : P [] c₀)
    (turn : ∀ (c : σ) (pre : List Int) (k : Int) t (u : Str → Option Value) h tk own, k = a₀ + (pre.length : Int) → pre.length < n → TbOff own (Led c) → Facts c → P pre c →
      Fr h₀ env.locals h (fun y => if y = x then some (.int k t) else kstB (fun z => if stored.contains z then u z else m₀ z) (ps c) y) → News h₀ env.locals h (Led c ++ own) →
      wpAny (model prog w) A (execs body env) (TbPost h₀ env.locals (KstS Led ps Facts x stored m₀ P (pre ++ [k])) own { s with heap := h, toks := tk } Q) E { s with heap := h, toks := tk })
    (done : ∀ (c : σ) (u : Str → Option Value) h tk, Facts c → P (rangeKs a₀ n) c → Fr h₀ env.locals h (fun y => if y = x then u y else kstB (fun z => if stored.contains z then u z else m₀ z) (ps c) y) → News h₀ env.locals h (Led c) → Q .next { s with heap := h, toks := tk }) :
    wpAny (model prog w) A (pyIter (.ref r)) (fun it s₂ => LoopAtV prog w A h₀ env x body Q E it s₂) E s := by
  refine wpAny_pyIter_range hr hsmall ?_
  have W : Walks prog w A s.heap.objs.size [s.heap.objs.size] [s.heap.objs.size] n (fun i v => i < n ∧ ∃ t, v = .int (a₀ + i * 1) t)
      (fun i h => IsRangeIter h s.heap.objs.size (a₀ + (i : Nat) * 1) ((n : Int) - (i : Nat)) 1) := (Walks.range hh _ a₀ 1 n).bound
  refine ⟨_, _, _, n, _, _, m₀, Led c₀, fun i m nx => KstS Led ps Facts x stored m₀ P ((rangeKs a₀ n).take i) m nx, rfl, W, ?_, ?_, ?_, (by show IsRangeIter _ _ _ _ _; rw [hn]; simpa using Heap.get?_push_size _ rfl), F.push _, (fun p hp => ⟨Heap.get?_push_of_some _ (N p hp).1, (N p hp).2⟩), ⟨c₀, rfl, hf, hk, fun _ _ _ _ => rfl, by simpa using hp⟩, ?_, ?_⟩
  · intro hm
    exact absurd F.ns.lt ((List.mem_singleton.mp hm) ▸ Nat.lt_irrefl _)
  · intro b hb
    rw [List.mem_singleton.mp hb]
    exact next_is_new F
  · intro p hp hI
    exact absurd (Heap.lt_size (N p hp).1) ((List.mem_singleton.mp hI) ▸ Nat.lt_irrefl _)
  · rintro i v m₁ nx s₁ own ⟨h, tk, rfl⟩ hin ⟨hi, t, rfl⟩ ⟨c, rfl, hf', h1, h2, hp'⟩ hoff hown _ hmem hst F₁ N₁
    have e1 : a₀ + (i : Int) * 1 = a₀ + (i : Int) := by omega
    rw [e1] at F₁
    have hI : ∃ oi, (s.heap.objs.size, oi) ∈ own := ⟨_, hmem _ (.head _) (next_is_new F) _ hst⟩
    obtain ⟨oi, hI⟩ := hI
    have hsep : TbOff own (Led c) := fun p hp q hq e => hoff q hq (by rw [← e]; exact hown p hp)
    have hk' : (rangeKs a₀ n)[i]? = some (a₀ + (i : Int)) := by simp [rangeKs, hi]
    have hs : (rangeKs a₀ n).take (i + 1) = (rangeKs a₀ n).take i ++ [a₀ + (i : Int)] := by simp [List.take_add_one, hk']
    have hlen : ((rangeKs a₀ n).take i).length = i := by rw [List.length_take, rangeKs_length]; omega
    have N₂ : News h₀ env.locals h (Led c ++ own) := fun p hp => N₁ p ((List.mem_append.mp hp).elim (fun h => List.mem_append.mpr (.inr h)) fun h => List.mem_append.mpr (.inl h))
    dsimp only
    rw [hs]
    refine wpAny_mono (turn c _ _ t m₁ h tk own (by rw [hlen]) (by rw [hlen]; exact hi) hsep hf' hp' (kst_fr h1 h2 F₁) N₂) (fun f s₂ p => ?_) fun _ _ e => e
    have fin : TbEnd h₀ env.locals (KstS Led ps Facts x stored m₀ P ((rangeKs a₀ n).take i ++ [a₀ + (i : Int)])) own { s with heap := h, toks := tk } s₂ → LoopStepU h₀ env.locals [s.heap.objs.size] own (KstS Led ps Facts x stored m₀ P ((rangeKs a₀ n).take i ++ [a₀ + (i : Int)])) { s with heap := h, toks := tk } .next s₂ := by
      rintro ⟨h', tk, m', news', nx, e, F', N', hn, ho, ha, hm⟩
      exact ⟨rfl, h', tk, m', nx, e, F', fun p hp => N' p ((List.mem_append.mp hp).elim (ho p) (hn p)), fun p hp hq => ha _ hI p hp (List.mem_singleton.mp hq).symm, hm⟩
    cases f with
    | ret v => exact .ret p
    | brk => exact .brk p
    | next => exact .next (fin p)
    | cont => exact .cont (fin p)
  · rintro h tk m₁ nx F₁ N₁ _ ⟨c, rfl, hf', h1, h2, hp'⟩
    have hl : (rangeKs a₀ n).take n = rangeKs a₀ n := List.take_of_length_le (Nat.le_of_eq (rangeKs_length _ _))
    rw [hl] at hp'
    exact done c m₁ h tk hf' hp' (kst_frOut h1 h2 F₁) N₁
theorem kfor_end {σ : Type} {Led : σ → List (Addr × Obj)} {ps : σ → List (Str × Value)} {Facts : σ → Prop} {stored : List Str} {m₀ : Str → Option Value} {P : List Int → σ → Prop} {pre : List Int} (c : σ) {L : Addr} {m' : Str → Option Value} {own news' : List (Addr × Obj)} {s₁ : Shared} {h' : Heap} {tk : Nat}
    (F : Fr h₀ L h' m') (N : News h₀ L h' news') (hn : ∀ p ∈ Led c, p ∈ news') (ho : ∀ p ∈ own, p ∈ news') (ha : TbOff own (Led c)) (hf : Facts c) (hk : ∀ p ∈ ps c, m' p.1 = some p.2) (hr : ∀ z, z ≠ x → (∀ p ∈ ps c, z ≠ p.1) → stored.contains z = false → m' z = m₀ z) (hp : P pre c) :
    TbEnd h₀ L (KstS Led ps Facts x stored m₀ P pre) own s₁ { s₁ with heap := h', toks := tk } :=
  ⟨h', tk, m', news', Led c, rfl, F, N, hn, ho, ha, c, rfl, hf, hk, hr, hp⟩
end
end

section

open PySem.SeqAt
def dOk : Nat → Dat → Bool
  | _, .str _ => true
  | _, .bytes _ => true
  | n + 1, .tuple ds => ds.all (dOk n)
  | _, _ => false
section
variable {A : Around} {s : Shared} {h₀ : Heap} {L : Addr} {news : Led}
theorem eqAt_bytes (b : Array UInt8) (t u : Tok) : EqAt A s (.bytes b t) (.bytes b u) true := fun prog w E Q h => by
  unfold eqBool
  refine wpAny_holding ?_
  refine wpAny_ite_split (fun _ => ?_) (fun _ => ?_)
  · exact wpAny_bind (wpAny_rule (wpAny_pure h))
  · refine wpAny_bind (eq_bytes ?_)
    rw [beq_self_eq_true]
    exact wpAny_truthy_bool h
theorem eqAt_str (x : Str) (t u : Tok) : EqAt A s (.str x t) (.str x u) true := by
  have := (eqGives_str x x t u).at A s
  rwa [beq_self_eq_true] at this
theorem datAll_at {vs : List Value} {ds : List Dat} (h : DatAll news vs ds) : vs.length = ds.length ∧ ∀ j (hj : j < vs.length) (hj' : j < ds.length), DatIn news vs[j] ds[j] := by
  induction vs generalizing ds with
  | nil => cases h; exact ⟨rfl, fun j hj => absurd hj (Nat.not_lt_zero _)⟩
  | cons v vs ih =>
    cases h with
    | cons h1 h2 =>
      obtain ⟨e, k⟩ := ih h2
      refine ⟨by rw [List.length_cons, List.length_cons, e], fun j hj hj' => ?_⟩
      cases j with
      | zero => exact h1
      | succ j => exact k j (Nat.lt_of_succ_lt_succ hj) (Nat.lt_of_succ_lt_succ hj')
theorem rc_tuples (N : News h₀ L s.heap news) (n : Nat) (ih : ∀ {v1 v2 : Value} {d : Dat}, dOk n d = true → DatIn news v1 d → DatIn news v2 d → EqAt A.in1 s v1 v2 true) (hu : A.units < cLine) {a b : Addr} {va vb : List Value} {na nb : Nat} {ds : List Dat} (hd : ∀ d ∈ ds, dOk n d = true)
    (ma : (a, ({ cls := .type "tuple", data := .seq va.toArray na } : Obj)) ∈ news) (mb : (b, ({ cls := .type "tuple", data := .seq vb.toArray nb } : Obj)) ∈ news) (da : DatAll news va ds) (db : DatAll news vb ds) : RcAt A s (.ref a) (.ref b) true := by
  obtain ⟨e1, k1⟩ := datAll_at da
  obtain ⟨e2, k2⟩ := datAll_at db
  have ta : s.heap.IsTuple a va.toArray := ⟨_, (N _ ma).1, rfl, _, rfl⟩
  have tb : s.heap.IsTuple b vb.toArray := ⟨_, (N _ mb).1, rfl, _, rfl⟩
  have h := RcAt.tuples (e := fun _ => true) ta tb hu (fun j h1 h2 => by
    have h1' : j < va.length := by simpa using h1
    have h2' : j < vb.length := by simpa using h2
    have hj : j < ds.length := by omega
    have := ih (hd _ (List.getElem_mem hj)) (k1 j h1' hj) (k2 j h2' hj)
    simpa using this)
  have e : ((List.range (min va.toArray.size vb.toArray.size)).all (fun _ => true) && va.toArray.size == vb.toArray.size) = true := by simp; omega
  rwa [e] at h
theorem dat_eqAt : ∀ (n : Nat) {A : Around} {v1 v2 : Value} {d : Dat}, News h₀ L s.heap news → A.units + n < cLine → dOk n d = true → DatIn news v1 d → DatIn news v2 d → EqAt A s v1 v2 true := by
  intro n
  induction n with
  | zero =>
    intro A v1 v2 d N hu hd h1 h2
    cases h1 with
    | str x t => cases h2; exact eqAt_str _ _ _
    | bytes b t => cases h2; exact eqAt_bytes _ _ _
    | _ => simp [dOk] at hd
  | succ n ih =>
    intro A v1 v2 d N hu hd h1 h2
    cases h1 with
    | str x t => cases h2; exact eqAt_str _ _ _
    | bytes b t => cases h2; exact eqAt_bytes _ _ _
    | tuple ma da =>
      cases h2 with
      | tuple mb db =>
        rename_i a va na ds b vb nb
        by_cases hab : a = b
        · subst hab; exact EqAt.same _
        · refine EqAt.of_refs hab (rc_tuples N n (fun hd' q1 q2 => ih (A := A.in1) N ?_ hd' q1 q2) (by omega) (by simpa [dOk] using hd) ma mb da db)
          show A.units + 1 + n < cLine
          omega
    | _ => simp [dOk] at hd
end
theorem eq_dat {prog : Program} {w : World} {A : Around} {E : Value → Shared → Prop} {s : Shared} {h₀ : Heap} {L a b : Addr} {news : Led} {d : Dat} {Q : Value → Shared → Prop} (n : Nat) (N : News h₀ L s.heap news) (hd : dOk (n + 1) d = true) (h1 : DatIn news (.ref a) d) (h2 : DatIn news (.ref b) d) (hu : A.units + (n + 1) < cLine)
    (h : Q (.bool true) s) : wpAny (model prog w) A (compareOp .Eq (.ref a) (.ref b)) Q E s := by
  cases h1 with
  | tuple ma da =>
    cases h2 with
    | tuple mb db =>
      exact rc_tuples N n (fun hd' q1 q2 => dat_eqAt n (A := A.in1) N (by show A.units + 1 + n < cLine; omega) hd' q1 q2) (by omega) (by simpa [dOk] using hd) ma mb da db prog w E Q h
  | list _ _ => simp [dOk] at hd
theorem dOk_mono : ∀ (n : Nat) (d : Dat), dOk n d = true → dOk (n + 1) d = true := by
  intro n
  induction n with
  | zero => intro d h; cases d <;> simp_all [dOk]
  | succ n ih =>
    intro d h
    cases d with
    | tuple ds => simp only [dOk, List.all_eq_true] at h ⊢; exact fun e he => ih e (h e he)
    | str x => rfl
    | bytes b => rfl
    | _ => simp [dOk] at h
end

section

structure TD where
  kept : Option (List Int)
  octs : List Int
  plus : Bool
  sort : Nat
def TD.ok (d : TD) : Prop := d.kept ≠ none ∨ d.sort = 4
def TD.ints (d : TD) : List Int := wordI d.sort (litI d.plus d.octs)
def TD.dat (d : TD) : Dat := keyD d.sort (byteArr (d.kept.getD []))
def TD.is (way : Str) (d : TD) : Prop := StrRes way d.kept d.octs ∧ d.sort < 5
def noTD : TD := ⟨none, [], false, 0⟩
def treeT (td : List TD) : Dat := treeD (fun c => (td.getD c noTD).dat) (td.length - 1)
theorem treeD_congr {f g : Nat → Dat} : ∀ n, (∀ c, c ≤ n → f c = g c) → treeD f n = treeD g n := by
  intro n
  induction n with
  | zero => intro h; exact h 0 (Nat.le_refl _)
  | succ n ih => intro h; unfold treeD; rw [ih fun c hc => h c (Nat.le_succ_of_le hc), h (n + 1) (Nat.le_refl _)]
theorem treeT_one (d : TD) : treeT [d] = d.dat := rfl
theorem treeT_snoc {td : List TD} (h : td ≠ []) (d : TD) : treeT (td ++ [d]) = .tuple [.str "and", treeT td, d.dat] := by
  obtain ⟨n, hn⟩ : ∃ n, td.length = n + 1 := ⟨td.length - 1, by have := List.length_pos_iff.mpr h; omega⟩
  unfold treeT
  rw [List.length_append, hn, show n + 1 + [d].length - 1 = n + 1 from rfl, show n + 1 - 1 = n from rfl]
  show Dat.tuple [.str "and", treeD (fun c => ((td ++ [d]).getD c noTD).dat) n, ((td ++ [d]).getD (n + 1) noTD).dat] = _
  have e1 : treeD (fun c => ((td ++ [d]).getD c noTD).dat) n = treeD (fun c => (td.getD c noTD).dat) n := treeD_congr n fun c hc => by
    rw [List.getD_eq_getElem?_getD, List.getElem?_append_left (by omega), ← List.getD_eq_getElem?_getD]
  have e2 : ((td ++ [d]).getD (n + 1) noTD) = d := by rw [List.getD_eq_getElem?_getD, List.getElem?_append_right (by omega), hn]; simp
  rw [e2]
  exact congrArg (fun z => Dat.tuple [Dat.str "and", z, d.dat]) e1
def rowW : List (List Int) → List Int
  | [] => []
  | a :: r => a ++ r.flatMap fun q => 32 :: q
def posW (ws : List (List Int)) (c : Nat) : Nat := ((ws.take c).map fun q => q.length + 1).sum
theorem rowW_two (a b : List Int) (r : List (List Int)) : rowW (a :: b :: r) = a ++ (32 :: rowW (b :: r)) := by
  show a ++ (b :: r).flatMap (fun q => 32 :: q) = a ++ (32 :: (b ++ r.flatMap fun q => 32 :: q))
  rw [List.flatMap_cons]; rfl
theorem row_at (fin : List Int) : ∀ (ws : List (List Int)) (c : Nat) (hc : c < ws.length), (rowW ws ++ fin).drop (posW ws c) = ws[c] ++ (if c + 1 < ws.length then 32 :: (rowW (ws.drop (c + 1)) ++ fin) else fin) := by
  intro ws
  induction ws with
  | nil => intro c hc; exact absurd hc (Nat.not_lt_zero _)
  | cons a r ih =>
    intro c hc
    cases c with
    | zero =>
      show (rowW (a :: r) ++ fin).drop 0 = _
      rw [List.drop_zero]
      cases r with
      | nil => simp [rowW]
      | cons b r => rw [if_pos (by simp), rowW_two]; simp
    | succ c =>
      have hc' : c < r.length := by simpa using hc
      have e : posW (a :: r) (c + 1) = a.length + 1 + posW r c := by simp [posW]
      cases r with
      | nil => exact absurd hc' (Nat.not_lt_zero _)
      | cons b r =>
        rw [e, rowW_two, ← List.drop_drop, List.append_assoc, show a ++ (32 :: rowW (b :: r) ++ fin) = (a ++ [32]) ++ (rowW (b :: r) ++ fin) by simp, List.drop_left' (by simp)]
        rw [ih c hc']
        simp
theorem posW_succ {ws : List (List Int)} {c : Nat} (hc : c < ws.length) : posW ws (c + 1) = posW ws c + ws[c].length + 1 := by
  unfold posW
  rw [List.take_add_one, List.getElem?_eq_getElem hc, List.map_append, List.sum_append]
  show _ + ((ws[c].length + 1) + 0) = _
  omega
theorem row_len : ∀ (ws : List (List Int)) (n : Nat) (hn : ws.length = n + 1), (rowW ws).length = posW ws n + (ws[n]'(by omega)).length := by
  intro ws
  induction ws with
  | nil => intro n hn; cases hn
  | cons a r ih =>
    intro n hn
    cases r with
    | nil =>
      have : n = 0 := by simpa using hn.symm
      subst this
      simp [rowW, posW]
    | cons b r =>
      cases n with
      | zero => simp at hn
      | succ n =>
        have h := ih n (by simpa using hn)
        have e : posW (a :: b :: r) (n + 1) = a.length + 1 + posW (b :: r) n := by simp [posW]
        rw [rowW_two, e, List.length_append, List.length_cons, h]
        simp
        omega
theorem kept_in {way : Str} {k : List Int} {octs : List Int} (h : StrRes way (some k) octs) : KBa.In k := by
  obtain ⟨cs, h1, h2, h3⟩ := h
  rcases h3 with ⟨q, _⟩ | ⟨q, _⟩
  · cases q; exact encs_inB fun c hc => good_small h2 hc
  · cases q
theorem in_append {a b : List Int} (h1 : KBa.In a) (h2 : KBa.In b) : KBa.In (a ++ b) := fun v hv => (List.mem_append.mp hv).elim (h1 v) (h2 v)
theorem octs_in {way : Str} {kept : Option (List Int)} {octs : List Int} (h : StrRes way kept octs) : KBa.In octs := by
  obtain ⟨cs, h1, h2, h3⟩ := h
  have he : KBa.In (encs cs) := encs_inB fun c hc => good_small h2 hc
  have hb : ∀ l : List Int, (l.all fun v => decide (0 ≤ v) && decide (v < 256)) = true → KBa.In l := fun l hl v hv => by
    have := List.all_eq_true.mp hl v hv
    simpa using this
  rcases h3 with ⟨_, rfl⟩ | ⟨_, ⟨rfl, rfl⟩ | ⟨rfl, rfl | rfl | rfl⟩⟩
  · split
    · exact he
    · rename_i hw
      intro c hc
      have h := h2 c hc
      unfold signsOf at h
      split at h
      · simp only [List.mem_cons, List.not_mem_nil, or_false] at h; omega
      · split at h
        · simp only [List.mem_cons, List.not_mem_nil, or_false] at h; omega
        · simp only [List.mem_cons, List.not_mem_nil, or_false] at h; omega
  · refine in_append (fun c hc => ?_) (hb _ rfl)
    have h := h2 c hc
    rw [signs_ascii] at h
    simp only [List.mem_cons, List.not_mem_nil, or_false] at h; omega
  · exact in_append he (hb _ rfl)
  · exact in_append (hb [128] rfl) he
  · exact in_append he (hb _ rfl)
theorem ok_iff {w : World} {r : Nat} {f : Addr} {vs : List Value} {x d : Addr} {b : Array UInt8} {td kd ka ta : Tok} {i j : Nat} {ok ok' : Prop} {dat : Dat} (h : ok ↔ ok') (C : WB w r f vs x d b td kd ka ta i j ok dat) : WB w r f vs x d b td kd ka ta i j ok' dat := (propext h) ▸ C
section
variable (w : World) (x d : Nat) (b : Array UInt8) (td kd ka ta : Tok) (ks : List Int) (hk : KBw.bInts b = ks) (hlen : ks.length ≤ 4000) (hxd : x ≠ d)
include hk hlen hxd
set_option linter.unusedSectionVars false
theorem law_query (way al : Str) (tal : Tok) (hx : al.cps.size ≤ 100) (ha : ∀ c ∈ al.cps.toList, c < 128) (hr : (PySem.Spec.lookup (PyData.str (lowerT al)) csTab).getD (.str "") = .str (csOf way)) (hw : wayOk way ∨ way = "")
    (ts : List TD) (n : Nat) (hn : ts.length = n + 1) (hT : ∀ t ∈ ts, t.is way) (hks : ks = rowW (ts.map TD.ints) ++ [13, 10]) :
    WB w 38 424 [.ref x, .str al tal] x d b td kd ka ta 0 (ks.length - 2) (way ≠ "" ∧ ∀ t ∈ ts, t.ok) (treeT ts) := by
  let ws := ts.map TD.ints
  have hwl : ws.length = n + 1 := by rw [← hn]; exact List.length_map _
  have hwc : ∀ c (hc : c < ts.length), ws[c]'(by rw [hwl, ← hn]; exact hc) = ts[c].ints := fun c hc => List.getElem_map _
  have htot : ks.length = posW ws n + (ws[n]'(by omega)).length + 2 := by rw [hks, List.length_append, row_len ws n hwl]; rfl
  have hgd : ∀ c (hc : c < ts.length), ts.getD c noTD = ts[c] := fun c hc => by rw [List.getD_eq_getElem?_getD, List.getElem?_eq_getElem hc]; rfl
  have hat : ∀ c (hc : c < ws.length), ks.drop (posW ws c) = ws[c] ++ (if c + 1 < ws.length then 32 :: (rowW (ws.drop (c + 1)) ++ [13, 10]) else [13, 10]) := fun c hc => by rw [hks]; exact row_at [13, 10] ws c hc
  have hmono : ∀ c, c ≤ n → posW ws c + (ws.getD c []).length ≤ posW ws n + (ws[n]'(by omega)).length := by
    intro c hc
    have hgw : ∀ c (hc : c < ws.length), ws.getD c [] = ws[c] := fun c hc => by rw [List.getD_eq_getElem?_getD, List.getElem?_eq_getElem hc]; rfl
    have : ∀ k c, c + k = n → posW ws c + (ws.getD c []).length ≤ posW ws n + (ws[n]'(by omega)).length := by
      intro k
      induction k with
      | zero => intro c hc; have hcn : c = n := by omega
                subst hcn; rw [hgw _ (by omega)]; exact Nat.le_refl _
      | succ k ih =>
        intro c hc
        have h1 := ih (c + 1) (by omega)
        rw [posW_succ (by omega : c < ws.length)] at h1
        rw [hgw _ (by omega : c < ws.length)]
        omega
    exact this (n - c) c (by omega)
  by_cases hw0 : way = ""
  · subst hw0
    have hr0 : csOf "" = "" := by decide +kernel
    rw [hr0] at hr
    refine ok_iff (ok := ("" : Str) ≠ "" ∧ True) ?_ (query_con w x d b td kd ka ta 0 ks hk hlen hxd _ al tal hx ha "" hr True _ (fun h => absurd rfl h))
    exact ⟨fun h => absurd rfl h.1, fun h => absurd rfl h.1⟩
  · have hw' : wayOk way := hw.resolve_right hw0
    have hr1 : csOf way ≠ "" := by rcases hw' with rfl | rfl | rfl <;> decide +kernel
    have he : ks.length - 2 = posW ws n + (ws[n]'(by omega)).length := by omega
    have hgw : ∀ c (hc : c < ws.length), ws.getD c [] = ws[c] := fun c hc => by rw [List.getD_eq_getElem?_getD, List.getElem?_eq_getElem hc]; rfl
    have hen : ks.length - 2 = posW ws n + (ws.getD n []).length := by rw [he, hgw n (by omega)]
    refine ok_iff (ok := csOf way ≠ "" ∧ ∀ c, c ≤ n → (ts.getD c noTD).ok) ?_ (query_con w x d b td kd ka ta 0 ks hk hlen hxd _ al tal hx ha _ hr (∀ c, c ≤ n → (ts.getD c noTD).ok) _ fun _ ta tc td' => ?_)
    · refine ⟨fun h => ⟨hw0, fun t ht => ?_⟩, fun h => ⟨hr1, fun c hc => ?_⟩⟩
      · obtain ⟨c, hc, rfl⟩ := List.getElem_of_mem ht
        have := h.2 c (by omega)
        rwa [hgd c hc] at this
      · rw [hgd c (by omega)]
        exact h.2 _ (List.getElem_mem _)
    · have htree : treeT ts = treeD (fun c => (ts.getD c noTD).dat) n := by unfold treeT; rw [hn]; rfl
      rw [htree, hen]
      refine keys_con w x d b td kd ka ta 0 ks hk hlen hxd n (posW ws) (fun c => posW ws c + (ws.getD c []).length) (fun c => (ts.getD c noTD).ok) (fun c => (ts.getD c noTD).dat) (csOf way) tc td' rfl (fun c hc => ?_) (fun c hc => ?_) ?_ (fun c hc ta tc td' => ?_)
      · have := hmono c hc; omega
      · have h1 := hat c (by omega)
        rw [if_pos (by omega)] at h1
        rw [hgw c (by omega)]
        have h2 : ks.drop (posW ws c + (ws[c]'(by omega)).length) = 32 :: (rowW (ws.drop (c + 1)) ++ [13, 10]) := drop_of h1
        refine ⟨getD_of h2, by rw [h2]; rfl, ?_⟩
        rw [posW_succ (by omega : c < ws.length)]
      · have h1 := hat n (by omega)
        rw [if_neg (by omega)] at h1
        rw [hgw n (by omega)]
        have h2 : ks.drop (posW ws n + (ws[n]'(by omega)).length) = 13 :: [10] := drop_of h1
        rw [getD_of h2]; decide
      · have hct : c < ts.length := by omega
        have h1 := hat c (by omega)
        rw [hgw c (by omega)]
        rw [hwc c hct] at h1 ⊢
        rw [hgd c hct]
        have hS := hT _ (List.getElem_mem hct)
        generalize ts[c] = t at h1 hS ⊢
        have hoc : KBw.bInts (byteArr t.octs) = t.octs := KBa.ints_make (octs_in hS.1)
        have hkc : ∀ k, t.kept = some k → KBw.bInts (byteArr (t.kept.getD [])) = k := fun k hk => by
          rw [hk]
          exact KBa.ints_make (kept_in (hk ▸ hS.1))
        have hnext : ∃ e post, (if c + 1 < ws.length then (32 : Int) :: (rowW (ws.drop (c + 1)) ++ [13, 10]) else [13, 10]) = e :: post ∧ (e = 32 ∨ e = 13) := by
          split
          · exact ⟨_, _, rfl, .inl rfl⟩
          · exact ⟨_, _, rfl, .inr rfl⟩
        obtain ⟨e, post, he1, he2⟩ := hnext
        rw [he1] at h1
        exact key_any w x d b td kd ka ta (posW ws c) ks hk hlen hxd way hw' t.kept t.octs post hS.1 t.plus (byteArr t.octs) (byteArr (t.kept.getD [])) hoc hkc t.sort hS.2 e he2 h1 t.ok Iff.rfl tc td'
end
end

section

def aliasL : List (Str × Str) := [("us-ascii", "ascii"), ("ANSI_X3.4-1968", "ascii"), ("ISO-8859-1", "latin"), ("latin1", "latin"), ("L1", "latin"), ("UTF-8", "wide"), ("Utf8", "wide"), ("koi8-r", ""), ("", ""), ("utf-16", "")]
theorem aliases_item {w : World} {A : Around} {E : Value → Shared → Prop} {s : Shared} {h₀ : Heap} {L : Addr} {m : Str → Option Value} {value slice : Expr} {u : Tok} {j : Int} {Q : Value → Shared → Prop} (F : Fr h₀ L s.heap m) (X : (pre.heap_1 w.params).In h₀)
    (h0 : 0 ≤ j) (h1 : j < 10) (h : ∀ a al way ta tw, (al, way) ∈ aliasL → IsTup s.heap a [.str al ta, .str way tw].toArray → Q (.ref a) s) (hs : subscripted slice false (.ref 701) (.int j u) = operate [.ref 701, .int j u] (getItem (.ref 701) (.int j u)) := by with_unfolding_all rfl) :
    wpAny (model PySem.Challenge.rw_or0070_01.row.prog w) A (subscriptTail value slice (.ref 701) (.int j u)) Q E s := by
  revert X
  k_fill
  intro X
  have hT : IsTup s.heap 701 [.ref 691, .ref 692, .ref 693, .ref 694, .ref 695, .ref 696, .ref 697, .ref 698, .ref 699, .ref 700].toArray := kun_topT F X (by k_is)
  rcases (by omega : j = 0 ∨ j = 1 ∨ j = 2 ∨ j = 3 ∨ j = 4 ∨ j = 5 ∨ j = 6 ∨ j = 7 ∨ j = 8 ∨ j = 9) with rfl | rfl | rfl | rfl | rfl | rfl | rfl | rfl | rfl | rfl
  · exact item_tupleT hT (by decide) (by decide) rfl rfl (h _ "us-ascii" "ascii" _ _ (by simp [aliasL]) (kun_topT F X (by k_is))) hs
  · exact item_tupleT hT (by decide) (by decide) rfl rfl (h _ "ANSI_X3.4-1968" "ascii" _ _ (by simp [aliasL]) (kun_topT F X (by k_is))) hs
  · exact item_tupleT hT (by decide) (by decide) rfl rfl (h _ "ISO-8859-1" "latin" _ _ (by simp [aliasL]) (kun_topT F X (by k_is))) hs
  · exact item_tupleT hT (by decide) (by decide) rfl rfl (h _ "latin1" "latin" _ _ (by simp [aliasL]) (kun_topT F X (by k_is))) hs
  · exact item_tupleT hT (by decide) (by decide) rfl rfl (h _ "L1" "latin" _ _ (by simp [aliasL]) (kun_topT F X (by k_is))) hs
  · exact item_tupleT hT (by decide) (by decide) rfl rfl (h _ "UTF-8" "wide" _ _ (by simp [aliasL]) (kun_topT F X (by k_is))) hs
  · exact item_tupleT hT (by decide) (by decide) rfl rfl (h _ "Utf8" "wide" _ _ (by simp [aliasL]) (kun_topT F X (by k_is))) hs
  · exact item_tupleT hT (by decide) (by decide) rfl rfl (h _ "koi8-r" "" _ _ (by simp [aliasL]) (kun_topT F X (by k_is))) hs
  · exact item_tupleT hT (by decide) (by decide) rfl rfl (h _ "" "" _ _ (by simp [aliasL]) (kun_topT F X (by k_is))) hs
  · exact item_tupleT hT (by decide) (by decide) rfl rfl (h _ "utf-16" "" _ _ (by simp [aliasL]) (kun_topT F X (by k_is))) hs
theorem item_any {prog : Program} {w : World} {A : Around} {E : Value → Shared → Prop} {s : Shared} {h₀ : Heap} {L S : Addr} {news : Led} {value slice : Expr} {vs : List Value} {u : Tok} {j : Int} {Q : Value → Shared → Prop} (N : News h₀ L s.heap news) (hm : (S, tupObj vs.toArray) ∈ news)
    (h0 : 0 ≤ j) (h1 : j < (vs.length : Int)) (hb : vs.length ≤ 100) (h : ∀ v, vs[j.toNat]? = some v → Q v s) (hs : subscripted slice false (.ref S) (.int j u) = operate [.ref S, .int j u] (getItem (.ref S) (.int j u)) := by with_unfolding_all rfl) :
    wpAny (model prog w) A (subscriptTail value slice (.ref S) (.int j u)) Q E s := by
  have hT : IsTup s.heap S vs.toArray := News.isTup N hm
  have hlt : j.toNat < vs.length := by omega
  refine item_tupleT (j := j.toNat) (x := vs[j.toNat]) hT (by omega) (by omega) ?_ (List.getElem?_eq_getElem hlt) (h _ (List.getElem?_eq_getElem hlt)) hs
  unfold seqIndex?
  have e1 : ¬ j < 0 := by omega
  simp only [if_neg e1]
  have e2 : (decide (0 ≤ j) && decide (j < (vs.length : Int))) = true := by simp; omega
  rw [if_pos e2]
def AlOk (x way : Str) : Prop := x.cps.size ≤ 100 ∧ (∀ c ∈ x.cps.toList, c < 128) ∧ (PySem.Spec.lookup (PyData.str (lowerT x)) csTab).getD (.str "") = .str (csOf way) ∧ (wayOk way ∨ way = "")
theorem alias_len {al way : Str} (h : (al, way) ∈ aliasL) : al.length ≤ 20 := by
  simp only [aliasL, List.mem_cons, List.not_mem_nil, or_false, Prod.mk.injEq] at h
  rcases h with ⟨rfl, rfl⟩ | ⟨rfl, rfl⟩ | ⟨rfl, rfl⟩ | ⟨rfl, rfl⟩ | ⟨rfl, rfl⟩ | ⟨rfl, rfl⟩ | ⟨rfl, rfl⟩ | ⟨rfl, rfl⟩ | ⟨rfl, rfl⟩ | ⟨rfl, rfl⟩ <;> decide +kernel
theorem alok_of {x way : Str} (h1 : decide (x.cps.size ≤ 100) = true) (h2 : (x.cps.toList.all fun c => decide (c < 128)) = true) (h3 : (PySem.Spec.lookup (PyData.str (lowerT x)) csTab).getD (.str "") = .str (csOf way)) (h4 : wayOk way ∨ way = "") : AlOk x way :=
  ⟨of_decide_eq_true h1, fun c hc => of_decide_eq_true (List.all_eq_true.mp h2 c hc), h3, h4⟩
theorem alias_ok {al way : Str} (h : (al, way) ∈ aliasL) : AlOk al way ∧ AlOk (Txt.lower al) way ∧ AlOk (Txt.upper al) way := by
  have ka : wayOk "ascii" ∨ ("ascii" : Str) = "" := .inl (.inl rfl)
  have kl : wayOk "latin" ∨ ("latin" : Str) = "" := .inl (.inr (.inl rfl))
  have kw : wayOk "wide" ∨ ("wide" : Str) = "" := .inl (.inr (.inr rfl))
  have kn : wayOk "" ∨ ("" : Str) = "" := .inr rfl
  simp only [aliasL, List.mem_cons, List.not_mem_nil, or_false, Prod.mk.injEq] at h
  rcases h with ⟨rfl, rfl⟩ | ⟨rfl, rfl⟩ | ⟨rfl, rfl⟩ | ⟨rfl, rfl⟩ | ⟨rfl, rfl⟩ | ⟨rfl, rfl⟩ | ⟨rfl, rfl⟩ | ⟨rfl, rfl⟩ | ⟨rfl, rfl⟩ | ⟨rfl, rfl⟩ <;>
    exact ⟨alok_of (by kernel_rfl) (by kernel_rfl) (by kernel_rfl) (by assumption), alok_of (by kernel_rfl) (by kernel_rfl) (by kernel_rfl) (by assumption), alok_of (by kernel_rfl) (by kernel_rfl) (by kernel_rfl) (by assumption)⟩
theorem alias_pick {al way : Str} {y1 y2 y3 : Tok} {j : Int} {v : Value} (h : (al, way) ∈ aliasL) (h0 : 0 ≤ j) (h1 : j < 3) (hv : [Value.str al y1, .str (Txt.lower al) y2, .str (Txt.upper al) y3][j.toNat]? = some v) : ∃ x t, v = .str x t ∧ AlOk x way := by
  obtain ⟨k1, k2, k3⟩ := alias_ok h
  rcases (by omega : j = 0 ∨ j = 1 ∨ j = 2) with rfl | rfl | rfl
  · cases hv; exact ⟨_, _, rfl, k1⟩
  · cases hv; exact ⟨_, _, rfl, k2⟩
  · cases hv; exact ⟨_, _, rfl, k3⟩
end

section

structure LS where
  k : Int
  t : Tok
  d0 : Nat
  us : List Value
  d1 : Nat
  ws : List Value
  wn : Nat
  tv : Value
  tl : Led
  ir : Bool
  ts : List TD
abbrev ledL (B l Wd : Addr) (c : LS) : Led := (B, W.listOf [.ref l, .int c.k c.t].toArray c.d0) :: (l, W.listOf c.us.toArray c.d1) :: (Wd, W.listOf c.ws.toArray c.wn) :: c.tl
def LInv (way : Str) (B l Wd : Addr) (pre : List Int) (c : LS) : Prop :=
  c.ts.length = pre.length ∧ (∃ ns, IntsAre c.us ns) ∧ c.us.length ≤ 63 ∧ (∃ ps : List (Array UInt8 × Tok), c.ws = ps.map mkB ∧ (ps.map fun p => KBw.bInts p.1) = c.ts.map TD.ints) ∧ (∀ t ∈ c.ts, t.is way) ∧ (c.ir = true ↔ way ≠ "" ∧ ∀ t ∈ c.ts, t.ok) ∧
    ((c.ts = [] ∧ c.tv = .none) ∨ (c.ts ≠ [] ∧ (∃ a, c.tv = .ref a) ∧ (c.ir = true → DatIn c.tl c.tv (treeT c.ts)))) ∧ (∀ q ∈ c.tl, q.1 ≠ B ∧ q.1 ≠ l ∧ q.1 ≠ Wd) ∧ B ≠ l ∧ Wd ≠ B ∧ Wd ≠ l
theorem led3 {h₀ h : Heap} {L B l Wd : Addr} {led : Led} {k : Int} {t : Tok} {d0 d1 n : Nat} {us : List Value} {ir : Bool} (N : News h₀ L h led) (hB : (B, W.listOf [.ref l, .int k t].toArray d0) ∈ led) (hl : (l, W.listOf us.toArray d1) ∈ led) (hW : (Wd, W.listOf ([] : List Value).toArray n) ∈ led) :
    News h₀ L h (ledL B l Wd ⟨k, t, d0, us, d1, [], n, .none, [], ir, []⟩) := fun p hp => by
  rcases List.mem_cons.mp hp with rfl | hp
  · exact N _ hB
  · rcases List.mem_cons.mp hp with rfl | hp
    · exact N _ hl
    · rcases List.mem_cons.mp hp with rfl | hp
      · exact N _ hW
      · cases hp
theorem linv0 {way : Str} {B l Wd : Addr} {k : Int} {t : Tok} {d0 d1 n : Nat} {us : List Value} {ns : List Int} (hi : IntsAre us ns) (hl : us.length ≤ 63) (h1 : B ≠ l) (h2 : Wd ≠ B) (h3 : Wd ≠ l) : LInv way B l Wd [] ⟨k, t, d0, us, d1, [], n, .none, [], way != "", []⟩ := by
  refine ⟨rfl, ⟨ns, hi⟩, hl, ⟨[], rfl, rfl⟩, (fun _ h => nomatch h), ?_, .inl ⟨rfl, rfl⟩, (fun _ h => nomatch h), h1, h2, h3⟩
  simp [bne_iff_ne]
def BytesOr (Q : Value → Shared → Prop) (b : Bool) (s : Shared) : Prop := ∀ bb t, KBw.bInts bb = (if b then [43] else []) ++ [125] → Q (.bytes bb t) { s with toks := s.toks + 1 }
theorem ifexp_join {prog : Program} {w : World} {A : Around} {E : Value → Shared → Prop} {s : Shared} {env : Env} {test : Expr} {k1 k2 : Nat} {p1 p2 pos : Pos} {Q : Value → Shared → Prop} (h : wpAny (model prog w) A (isTrue test env (eval test env)) (BytesOr Q) E s) :
    wpAny (model prog w) A (eval (.IfExp test (.Constant (.bytes [43, 125]) k1 p1) (.Constant (.bytes [125]) k2 p2) pos) env) Q E s := by
  rw [eval_IfExp]
  refine wpAny_bind (wpAny_mono h (fun b s' h' => ?_) fun _ _ x => x)
  cases b
  · exact Constant_bytes (k := k2) (pos := p2) (h' _ _ rfl)
  · exact Constant_bytes (k := k1) (pos := p1) (h' _ _ rfl)
/-- what a key's tuple is -/
def KeyIs (a : Addr) (o : Obj) (sort : Nat) (kv : Value) : Prop := ∀ news : Led, (a, o) ∈ news → ∀ b, ((∃ t, kv = .bytes b t) ∨ sort = 4) → DatIn news (.ref a) (keyD sort b)
theorem key_item {prog : Program} {w : World} {A : Around} {E : Value → Shared → Prop} {s : Shared} {h₀ : Heap} {L S D0 D1 D2 D3 D4 : Addr} {news led2 : Led} {value slice : Expr} {kv : Value} {u y0 y1 y2 y3 y4 y5 y6 y7 : Tok} {j : Int} {Q : Value → Shared → Prop}
    (N : News h₀ L s.heap news) (hm : (S, tupObj #[.ref D0, .ref D1, .ref D2, .ref D3, .ref D4]) ∈ news) (m0 : (D0, tupObj #[.str "text" y0, kv]) ∈ news) (m1 : (D1, tupObj #[.str "body" y1, kv]) ∈ news) (m2 : (D2, tupObj #[.str "header" y2, .str "subject" y3, kv]) ∈ news) (m3 : (D3, tupObj #[.str "header" y4, .str "x-y" y5, kv]) ∈ news) (m4 : (D4, tupObj #[.str "flag" y6, .str "\\Seen" y7]) ∈ news)
    (h0 : 0 ≤ j) (h1 : j < 5) (h2 : ∀ p ∈ led2, p ∈ news) (q0 : AllLt D0 led2) (q1 : AllLt D1 led2) (q2 : AllLt D2 led2) (q3 : AllLt D3 led2) (q4 : AllLt D4 led2)
    (h : ∀ a o, KeyIs a o j.toNat kv → AllLt a led2 → News h₀ L s.heap ((a, o) :: led2) → Q (.ref a) s) (hs : subscripted slice false (.ref S) (.int j u) = operate [.ref S, .int j u] (getItem (.ref S) (.int j u)) := by with_unfolding_all rfl) :
    wpAny (model prog w) A (subscriptTail value slice (.ref S) (.int j u)) Q E s := by
  have mk : ∀ {q : Addr × Obj}, q ∈ news → News h₀ L s.heap (q :: led2) := fun {q} hq p hp => by
    rcases List.mem_cons.mp hp with rfl | hp
    · exact N _ hq
    · exact N _ (h2 p hp)
  refine item_any (vs := [.ref D0, .ref D1, .ref D2, .ref D3, .ref D4]) N hm h0 (by simpa using h1) (Nat.le_of_ble_eq_true rfl) (fun v hv => ?_) hs
  rcases (by omega : j = 0 ∨ j = 1 ∨ j = 2 ∨ j = 3 ∨ j = 4) with rfl | rfl | rfl | rfl | rfl
  · cases hv
    refine h D0 _ (fun news' hm' b hb => ?_) q0 (mk m0)
    rcases hb with ⟨t, rfl⟩ | hb
    · exact .tuple hm' (.cons (.str _ _) (.cons (.bytes _ _) .nil))
    · exact absurd hb (by decide)
  · cases hv
    refine h D1 _ (fun news' hm' b hb => ?_) q1 (mk m1)
    rcases hb with ⟨t, rfl⟩ | hb
    · exact .tuple hm' (.cons (.str _ _) (.cons (.bytes _ _) .nil))
    · exact absurd hb (by decide)
  · cases hv
    refine h D2 _ (fun news' hm' b hb => ?_) q2 (mk m2)
    rcases hb with ⟨t, rfl⟩ | hb
    · exact .tuple hm' (.cons (.str _ _) (.cons (.str _ _) (.cons (.bytes _ _) .nil)))
    · exact absurd hb (by decide)
  · cases hv
    refine h D3 _ (fun news' hm' b hb => ?_) q3 (mk m3)
    rcases hb with ⟨t, rfl⟩ | hb
    · exact .tuple hm' (.cons (.str _ _) (.cons (.str _ _) (.cons (.bytes _ _) .nil)))
    · exact absurd hb (by decide)
  · cases hv
    exact h D4 _ (fun news' hm' b hb => .tuple hm' (.cons (.str _ _) (.cons (.str _ _) .nil))) q4 (mk m4)
theorem words_item {prog : Program} {w : World} {A : Around} {E : Value → Shared → Prop} {s : Shared} {h₀ : Heap} {L S : Addr} {news : Led} {value slice : Expr} {lb : Array UInt8} {lit : List Int} {u y0 y1 y2 y3 y4 : Tok} {j : Int} {Q : Value → Shared → Prop}
    (N : News h₀ L s.heap news) (hl : KBw.bInts lb = lit) (hm : (S, tupObj #[.bytes (#[84, 69, 88, 84, 32] ++ lb) y0, .bytes (#[98, 111, 100, 121, 32] ++ lb) y1, .bytes (#[83, 117, 98, 106, 101, 99, 116, 32] ++ lb) y2, .bytes (#[72, 69, 65, 68, 69, 82, 32, 88, 45, 89, 32] ++ lb) y3, .bytes #[83, 69, 69, 78] y4]) ∈ news)
    (h0 : 0 ≤ j) (h1 : j < 5) (h : ∀ wb t, KBw.bInts wb = wordI j.toNat lit → Q (.bytes wb t) s) (hs : subscripted slice false (.ref S) (.int j u) = operate [.ref S, .int j u] (getItem (.ref S) (.int j u)) := by with_unfolding_all rfl) :
    wpAny (model prog w) A (subscriptTail value slice (.ref S) (.int j u)) Q E s := by
  refine item_any (vs := [_, _, _, _, _]) N hm h0 (by simpa using h1) (Nat.le_of_ble_eq_true rfl) (fun v hv => ?_) hs
  rcases (by omega : j = 0 ∨ j = 1 ∨ j = 2 ∨ j = 3 ∨ j = 4) with rfl | rfl | rfl | rfl | rfl
  · cases hv; exact h _ _ (KBw.ints_app (ks := [84, 69, 88, 84, 32]) rfl hl)
  · cases hv; exact h _ _ (KBw.ints_app (ks := [98, 111, 100, 121, 32]) rfl hl)
  · cases hv; exact h _ _ (KBw.ints_app (ks := [83, 117, 98, 106, 101, 99, 116, 32]) rfl hl)
  · cases hv; exact h _ _ (KBw.ints_app (ks := [72, 69, 65, 68, 69, 82, 32, 88, 45, 89, 32]) rfl hl)
  · cases hv; exact h _ _ rfl
theorem key_dat {kv : Value} {kept : Option (List Int)} {octs : List Int} {way : Str} {a : Addr} {o : Obj} {sort : Nat} {plus : Bool} {news : Led} (hS : StrRes way kept octs) (hk : KeptV kv kept) (hK : KeyIs a o sort kv) (hm : (a, o) ∈ news) (hok : TD.ok ⟨kept, octs, plus, sort⟩) : DatIn news (.ref a) (TD.dat ⟨kept, octs, plus, sort⟩) := by
  refine hK news hm _ ?_
  rcases hok with h | h
  · cases kept with
    | none => exact absurd rfl h
    | some ks =>
      obtain ⟨b, t, rfl, hb⟩ := hk
      refine .inl ⟨t, ?_⟩
      rw [show b = byteArr ks from bInts_inj (by rw [hb, KBa.ints_make (kept_in hS)])]
      rfl
  · exact .inr h

theorem linv_next {way : Str} {B l Wd : Addr} {pre : List Int} {kk : Int} {k : Int} {t : Tok} {d0 d1 wn n : Nat} {us us' : List Value} {ns' : List Int} {ws : List Value} {tv tv' : Value} {tl tl' : Led} {ir ir' : Bool} {ts : List TD} {k' : Int} {t' : Tok} {e0 e1 : Nat} {kept : Option (List Int)} {octs : List Int} {plus : Bool} {sort : Nat} {wb : Array UInt8} {tb : Tok}
    (h : LInv way B l Wd pre ⟨k, t, d0, us, d1, ws, wn, tv, tl, ir, ts⟩) (hi : IntsAre us' ns') (hl : us'.length ≤ 63) (hS : StrRes way kept octs) (hs : sort < 5) (hwb : KBw.bInts wb = wordI sort (litI plus octs)) (hir : ir' = true ↔ ir = true ∧ TD.ok ⟨kept, octs, plus, sort⟩)
    (hv : ∃ b, tv' = .ref b) (hD : ir' = true → DatIn tl' tv' (treeT (ts ++ [⟨kept, octs, plus, sort⟩]))) (ho : ∀ q ∈ tl', q.1 ≠ B ∧ q.1 ≠ l ∧ q.1 ≠ Wd) :
    LInv way B l Wd (pre ++ [kk]) ⟨k', t', e0, us', e1, ws ++ [.bytes wb tb], n, tv', tl', ir', ts ++ [⟨kept, octs, plus, sort⟩]⟩ := by
  obtain ⟨a1, a2, a3, ⟨ps, a4, a5⟩, a6, a7, a8, a9, b1, b2, b3⟩ := h
  dsimp only at a1 a3 a4 a5 a6 a7
  refine ⟨by simp only [List.length_append, a1, List.length_cons, List.length_nil], ⟨ns', hi⟩, hl, ⟨ps ++ [(wb, tb)], by rw [a4, List.map_append]; rfl, ?_⟩, ?_, ?_, .inr ⟨by simp, hv, hD⟩, ho, b1, b2, b3⟩
  · rw [List.map_append, List.map_append, a5]
    exact congrArg (List.append _) (by rw [List.map_cons, hwb]; rfl)
  · intro q hq
    rcases List.mem_append.mp hq with hq | hq
    · exact a6 q hq
    · rw [List.mem_singleton.mp hq]; exact ⟨hS, hs⟩
  · rw [hir, a7]
    constructor
    · rintro ⟨⟨h1, h2⟩, h3⟩
      refine ⟨h1, fun q hq => ?_⟩
      rcases List.mem_append.mp hq with hq | hq
      · exact h2 q hq
      · rw [List.mem_singleton.mp hq]; exact h3
    · rintro ⟨h1, h2⟩
      exact ⟨⟨h1, fun q hq => h2 q (List.mem_append.mpr (.inl hq))⟩, h2 _ (List.mem_append.mpr (.inr (.head _)))⟩
end

section

theorem off_next {B l Wd : Addr} {c c' : LS} {own new : Led} (h : TbOff own (ledL B l Wd c)) (e : c'.tl = new ++ c.tl) (hn : ∀ q ∈ new, ∀ p ∈ own, p.1 ≠ q.1) : TbOff own (ledL B l Wd c') := fun p hp q hq => by
  rcases List.mem_cons.mp hq with rfl | hq
  · exact h p hp (B, W.listOf [.ref l, .int c.k c.t].toArray c.d0) (.head _)
  · rcases List.mem_cons.mp hq with rfl | hq
    · exact h p hp (l, W.listOf c.us.toArray c.d1) (.tail _ (.head _))
    · rcases List.mem_cons.mp hq with rfl | hq
      · exact h p hp (Wd, W.listOf c.ws.toArray c.wn) (.tail _ (.tail _ (.head _)))
      · rw [e] at hq
        rcases List.mem_append.mp hq with hq | hq
        · exact hn q hq p hp
        · exact h p hp q (.tail _ (.tail _ (.tail _ hq)))
theorem lt_own {a : Addr} {tl own : Led} (h : AllLt a (tl ++ own)) : ∀ p ∈ own, p.1 ≠ a := fun p hp => Nat.ne_of_lt (ktn_ltOf h p (List.mem_append.mpr (.inr hp)))
theorem ok_sort {kept : Option (List Int)} {octs : List Int} {plus ir b : Bool} {j : Int} (h0 : 0 ≤ j) (h1 : j < 5) (h : b = true ↔ ir = true ∧ (kept ≠ none ∨ j = 4)) : b = true ↔ ir = true ∧ TD.ok ⟨kept, octs, plus, j.toNat⟩ := by
  have e : j = 4 ↔ j.toNat = 4 := by omega
  rw [h, e]
  exact Iff.rfl
theorem tree_first {ts : List TD} (hz : ts = []) {kept : Option (List Int)} {octs : List Int} {way : Str} {plus ir b : Bool} {sort : Nat} {kv : Value} {a : Addr} {o : Obj} {tl : Led} (hS : StrRes way kept octs) (hk : KeptV kv kept) (hK : KeyIs a o sort kv) (hb : b = true ↔ ir = true ∧ TD.ok ⟨kept, octs, plus, sort⟩) :
    b = true → DatIn ((a, o) :: tl) (.ref a) (treeT (ts ++ [⟨kept, octs, plus, sort⟩])) := fun h => by
  subst hz
  exact key_dat hS hk hK (.head _) (hb.mp h).2
theorem tree_next {ts : List TD} (hz : ts ≠ []) {kept : Option (List Int)} {octs : List Int} {way : Str} {plus ir b : Bool} {sort : Nat} {kv : Value} {a a6 D : Addr} {o : Obj} {t : Tok} {tl : Led} (hS : StrRes way kept octs) (hk : KeptV kv kept) (hK : KeyIs a o sort kv) (hb : b = true ↔ ir = true ∧ TD.ok ⟨kept, octs, plus, sort⟩)
    (ht : ir = true → DatIn tl (.ref a6) (treeT ts)) : b = true → DatIn ((D, tupObj #[.str "and" t, .ref a6, .ref a]) :: (a, o) :: tl) (.ref D) (treeT (ts ++ [⟨kept, octs, plus, sort⟩])) := fun h => by
  rw [treeT_snoc hz]
  exact .tuple (.head _) (.cons (.str _ _) (.cons (DatIn.mono (fun p hp => .tail _ (.tail _ hp)) (ht (hb.mp h).1)) (.cons (key_dat hS hk hK (.tail _ (.head _)) (hb.mp h).2) .nil)))
theorem off_cons {B l Wd a : Addr} {o : Obj} {tl : Led} (h1 : a ≠ B) (h2 : a ≠ l) (h3 : a ≠ Wd) (h : ∀ q ∈ tl, q.1 ≠ B ∧ q.1 ≠ l ∧ q.1 ≠ Wd) : ∀ q ∈ (a, o) :: tl, q.1 ≠ B ∧ q.1 ≠ l ∧ q.1 ≠ Wd := fun q hq => by
  rcases List.mem_cons.mp hq with rfl | hq
  · exact ⟨h1, h2, h3⟩
  · exact h q hq
end

section

theorem lit_len0 {octs : List Int} (plus : Bool) (h : octs.length ≤ 21) : (litI plus octs).length ≤ 30 := by cases plus <;> simp [litI] <;> omega
theorem ints_len {way : Str} {t : TD} (h : t.is way) : t.ints.length ≤ 45 := by
  have h1 := lit_len0 t.plus (res_len h.1)
  unfold TD.ints wordI
  split <;> simp only [List.length_append, List.length_cons, List.length_nil] <;> omega
theorem words_sum {way : Str} : ∀ {ts : List TD} {ps : List (Array UInt8 × Tok)}, (ps.map fun p => KBw.bInts p.1) = ts.map TD.ints → (∀ t ∈ ts, t.is way) → ((ps.map (·.1)).map (·.size)).sum ≤ 45 * ts.length ∧ ps.length = ts.length
  | [], [], _, _ => ⟨Nat.le_refl _, rfl⟩
  | [], _ :: _, h, _ => nomatch h
  | _ :: _, [], h, _ => nomatch h
  | t :: ts, p :: ps, h, hT => by
    rw [List.map_cons, List.map_cons, List.cons.injEq] at h
    have ih := words_sum h.2 fun q hq => hT q (.tail _ hq)
    have h1 := ints_len (hT t (.head _))
    rw [← h.1, KBw.ints_length] at h1
    simp only [List.map_cons, List.sum_cons, List.length_cons]
    omega
theorem joined_row : ∀ (l : List (Array UInt8)), KBw.bInts (PySem.Builtin.Bytes.joined #[32] l) = rowW (l.map KBw.bInts)
  | [] => rfl
  | x :: l => by
    rw [joined_ints, List.map_cons]
    show _ = KBw.bInts x ++ (l.map KBw.bInts).flatMap fun q => 32 :: q
    rw [List.flatMap_map]
    rfl
theorem law_words {way : Str} {ts : List TD} {ps : List (Array UInt8 × Tok)} (h : (ps.map fun p => KBw.bInts p.1) = ts.map TD.ints) (hT : ∀ t ∈ ts, t.is way) (hl : ts.length ≤ 3) :
    ((ps.map (·.1)).map (·.size)).sum + ps.length * (#[32] : Array UInt8).size ≤ 16777216 ∧ KBw.bInts (PySem.Builtin.Bytes.joined #[32] (ps.map (·.1))) = rowW (ts.map TD.ints) ∧ (rowW (ts.map TD.ints)).length ≤ 200 := by
  have h1 := words_sum h hT
  have h2 := joined_size #[32] (ps.map (·.1))
  have h3 : KBw.bInts (PySem.Builtin.Bytes.joined #[32] (ps.map (·.1))) = rowW (ts.map TD.ints) := by
    rw [joined_row, List.map_map, ← h]; rfl
  have h4 := KBw.ints_length (PySem.Builtin.Bytes.joined #[32] (ps.map (·.1)))
  rw [h3] at h4
  have h5 : (#[32] : Array UInt8).size = 1 := rfl
  rw [List.length_map] at h2
  rw [h5] at h2 ⊢
  refine ⟨by omega, h3, by omega⟩
theorem dat_dOk (t : TD) : dOk 1 t.dat = true := by
  unfold TD.dat keyD
  split <;> rfl
theorem tree_dOk (f : Nat → Dat) (h : ∀ c, dOk 1 (f c) = true) : ∀ n, dOk (n + 1) (treeD f n) = true
  | 0 => h 0
  | n + 1 => by
    have h1 := tree_dOk f h n
    have h2 : dOk (n + 1) (f (n + 1)) = true := by
      have : ∀ k, dOk (k + 1) (f (n + 1)) = true := fun k => by
        induction k with
        | zero => exact h _
        | succ k ih => exact dOk_mono _ _ ih
      exact this n
    show (dOk (n + 1) (Dat.str "and") && (dOk (n + 1) (treeD f n) && (dOk (n + 1) (f (n + 1)) && true))) = true
    rw [h1, h2]; rfl
theorem treeT_dOk {ts : List TD} (hl : ts.length ≤ 3) : dOk 3 (treeT ts) = true := by
  have h := tree_dOk (fun c => (ts.getD c noTD).dat) (fun c => dat_dOk _)
  unfold treeT
  rcases (by omega : ts.length - 1 = 0 ∨ ts.length - 1 = 1 ∨ ts.length - 1 = 2) with e | e | e <;> rw [e]
  · exact dOk_mono _ _ (dOk_mono _ _ (h 0))
  · exact dOk_mono _ _ (h 1)
  · exact h 2
theorem tree_ref {news : Led} {v : Value} {ts : List TD} (h : DatIn news v (treeT ts)) : ∃ a, v = .ref a := by
  have hk : ∀ t : TD, ∃ ds, t.dat = .tuple ds := fun t => by
    unfold TD.dat keyD
    split <;> exact ⟨_, rfl⟩
  have ht : ∀ n, ∃ ds, treeD (fun c => (ts.getD c noTD).dat) n = .tuple ds := fun n => by
    cases n with
    | zero => exact hk _
    | succ n => exact ⟨_, rfl⟩
  obtain ⟨ds, e⟩ := ht (ts.length - 1)
  rw [show treeT ts = .tuple ds from e] at h
  cases h
  exact ⟨_, rfl⟩
theorem tree_eq {prog : Program} {w : World} {A : Around} {E : Value → Shared → Prop} {s : Shared} {h₀ : Heap} {L a b x d : Addr} {o1 o2 : Obj} {tl tl' : Led} {ts : List TD} {Q : Value → Shared → Prop} (N : News h₀ L s.heap ((x, o1) :: (d, o2) :: (tl ++ tl'))) (hl : ts.length ≤ 3) (h1 : DatIn tl (.ref a) (treeT ts)) (h2 : DatIn tl' (.ref b) (treeT ts)) (hu : A.units + 3 < cLine)
    (h : Q (.bool true) s) : wpAny (model prog w) A (compareOp .Eq (.ref a) (.ref b)) Q E s :=
  eq_dat 2 N (treeT_dOk hl) (DatIn.mono (fun _ hp => .tail _ (.tail _ (List.mem_append_left _ hp))) h1) (DatIn.mono (fun _ hp => .tail _ (.tail _ (List.mem_append_right _ hp))) h2) hu h
theorem fr_turn {fs : List Addr} {g g' h : Heap} {L : Addr} {m : Str → Option Value} (F : Fr g' L h m) (T : KtsTurn fs g g') (hf : fs = []) : Fr g L h m :=
  ⟨F.ns, fun b o e => F.keep b o (T.other b o e (by rw [hf]; exact List.not_mem_nil)), T.size ▸ F.above⟩
end

section
example : True := by ((k_with_none; (k_with "units_room" => ((ktr_units))); (k_with "k_room" => ((ktr_room))); (k_with "k_all" => (first | assumption | exact fun q hq => Nat.ne_of_lt (ktn_ltOf (by assumption) q hq))); (k_with "exec While BoolOp cons nil" => ((k_here; k_extra "W"))); (k_with "exec While Compare cons nil" => ((k_here; k_extra "W"))); (k_with "call ref" => ((k_here; first | k_extra "C" | (k_extra "HOLD"; refine Hold.out ?_)))); (k_with "eval ListComp" => ((k_here; k_extra "L"))); (k_with "pyIter ref" => ((k_here; k_extra "F"))); (k_with "exec For Name Call cons nil" => ((k_here; k_extra "FOR"; (rename Fr _ _ _ _ => lF'); (with_unfolding_all refine' For_invVF lF' ?k1 ?k2 ?_; (case k1 => exact rfl); (case k2 => exact rfl); k_whole)))); (k_with "exec For Name Name cons nil" => ((k_here; k_extra "FOR"; (rename Fr _ _ _ _ => lF'); (with_unfolding_all refine' For_invVF lF' ?k1 ?k2 ?_; (case k1 => exact rfl); (case k2 => exact rfl); k_whole)))); (k_with "compareOp In int bytes" => ((k_here; refine in_bytes_K (by omega) (by omega) ?_))); (k_with "compareOp NotIn int bytes" => ((k_here; refine notin_bytes_K (by omega) (by omega) ?_))); (k_with "pyIter bytes" => ((k_here; k_extra "FB"))); (k_with "call type:bytes" => ((k_here; (with_reducible show wpAny _ _ (call (Value.type "bytes") [Value.bytes _ _]) _ _ _); refine call_bytes_bytes ?_))); (k_with "NE1" => (first | with_reducible assumption | exact And.right (by with_reducible assumption) | exact And.right (And.right (by with_reducible assumption)) | exact And.right (And.right (And.right (by with_reducible assumption))))); (k_with "NE2" => (first | with_reducible assumption | exact And.right (by with_reducible assumption) | exact And.right (And.right (by with_reducible assumption)) | exact And.right (And.right (And.right (by with_reducible assumption))) | exact And.right (And.right (And.right (And.right (by k_extra "NE1")))))); (k_with "NE3" => (first | with_reducible assumption | exact And.right (by with_reducible assumption) | exact And.right (And.right (by with_reducible assumption)) | exact And.right (And.right (And.right (by with_reducible assumption))) | exact And.right (And.right (And.right (And.right (by k_extra "NE2")))))); (k_with "kwd_less" => (first | with_reducible assumption | exact And.left (by k_extra "NE3") | exact And.right (by k_extra "NE3"))); (k_with "k_ne" => (((try dsimp only); first | with_reducible assumption | exact Ne.symm (by with_reducible assumption) | (refine ne_gt ?_; kwd_less) | (refine ne_lt ?_; kwd_less) | kwd_less | (refine Ne.symm ?_; kwd_less)))); (k_with "ktr_room" => (first | exact room_lt (by assumption) (by rfl) | exact room_same (by assumption) (by rfl))); (k_with "ktr_units" => (exact units_lt (by assumption) (by rfl))); (k_with "eval Constant bytes" => ((refine xs_bytes ?_))); (k_with "binaryOp Sub int int" => ((refine xs_sub ?_))); (k_with "binaryOp Mod int int" => ((k_here; refine xs_mod (by decide) ?_))); (k_with "newList" => ((k_here; k_dflt (refine' xs_list ?xlF ?xlN ?_; (case xlF => k_asm); (case xlN => k_asm); k_whole); intro _ _ _ _ xll; (try k_lt xll); (try k_sweep)))); (k_with "eval Constant int" => ((refine xs_int ?_))); (k_with "eval Constant str" => ((refine xs_str ?_))); (k_with "binaryOp Add int int" => ((refine xs_add ?_))); (k_with "storeName" => ((k_here; k_dflt (refine' xs_store ?xsF ?xsN ?_ ?xsa ?xsb; (case xsF => k_asm); (case xsN => k_asm); (case xsa => rfl); (case xsb => rfl); k_whole; intro _ _ _; (try k_sweep))))); (k_with "newTuple" => ((k_here; kup_bare; k_dflt (refine' xs_tuple ?xtF ?xtN ?_ ?xtz; (case xtF => k_asm); (case xtN => k_asm); (case xtz => kmk_size)); intro _ _ _ _ xtl; (try k_lt xtl); (try k_sweep))))); trivial)
example : True := by ((k_with "subscriptTail Name Call ref int" => ((k_here; k_extra "S1"))); (k_with "subscriptTail" => ((k_here; (with_reducible show wpAny _ _ (subscriptTail (Expr.Tuple _ _ _) _ (Value.ref _) (Value.int _ _)) _ _ _); first | k_extra "S2" | k_extra "S3"))); (k_with "call type:range" => ((k_here; k_extra "RG"; (rename Fr _ _ _ _ => F'); (rename News _ _ _ _ => N'); (with_unfolding_all refine range1_rows F' N' ?_; intro _ _ _ _ _ _ _ _ _)))); (k_with "call type:bytes" => ((k_here; k_extra "BY"))); (k_with "eval IfExp" => ((k_here; k_extra "IE"))); (k_with "BytesOr" => ((k_extra "BO"))); (k_with "TbEnd" => ((refine Hold.out ?_))); trivial)
theorem off_B {B l Wd a : Addr} {c : LS} {o : Obj} {own : Led} (h1 : Wd ≠ a) (h2 : ∀ q ∈ c.tl, q.1 ≠ a) (h3 : TbOff own (ledL B l Wd c)) {oa : Obj} (hm : (a, oa) ∈ ledL B l Wd c) : ∀ q ∈ (Wd, o) :: (c.tl ++ own), q.1 ≠ a := fun q hq => by
  rcases List.mem_cons.mp hq with rfl | hq
  · exact h1
  · rcases List.mem_append.mp hq with hq | hq
    · exact h2 q hq
    · exact h3 q hq _ hm
theorem off_W {B l Wd : Addr} {c : LS} {own : Led} (h2 : ∀ q ∈ c.tl, q.1 ≠ Wd) (h3 : TbOff own (ledL B l Wd c)) : ∀ q ∈ c.tl ++ own, q.1 ≠ Wd := fun q hq => by
  rcases List.mem_append.mp hq with hq | hq
  · exact h2 q hq
  · exact h3 q hq (Wd, _) (.tail _ (.tail _ (.head _)))
theorem two_in {n : Nat} (h : n ≤ 21) : KBa.In [48 + ((n : Nat) : Int).fdiv 10, 48 + ((n : Nat) : Int).fmod 10] := by
  rw [Int.fdiv_eq_ediv_of_nonneg _ (by decide), Int.fmod_eq_emod_of_nonneg _ (by decide)]
  intro v hv
  simp only [List.mem_cons, List.not_mem_nil, or_false] at hv
  omega
example : True := by ((k_with "assign Tuple" => ((k_here; k_extra "AT"))); (k_with "eval Name" => ((k_here; first | (with_reducible show wpAny _ _ (eval (Expr.Name (Str.ofString "bytes") _) _) _ _ _) | (with_reducible show wpAny _ _ (eval (Expr.Name (Str.ofString "len") _) _) _ _ _)); (k_dflt (refine' nameX_B ?nFq ?nXq ?nTq ?neq ?nvq ?nnq ?_ ?naq ?nbq; (case nFq => k_asm); (case nXq => k_asm); (case nTq => k_asm); (case naq => rfl); (case nbq => rfl); (case neq => k_is); (case nvq => boot_fast); (case nnq => decide))))); trivial)
theorem tup_ne_list {h₀ h : Heap} {L a b : Addr} {led : Led} {vs its : Array Value} {n : Nat} (N : News h₀ L h led) (h1 : (a, tupObj vs) ∈ led) (h2 : (b, W.listOf its n) ∈ led) : a ≠ b := fun z => by
  have q1 := (N _ h1).1
  have q2 := (N _ h2).1
  have z' : a = b := z
  rw [← z', q1] at q2
  have q3 := congrArg Obj.cls (Option.some.inj q2)
  injection q3 with q4
  exact absurd q4 (by decide)
example : True := by ((k_with "eval BoolOp" => ((k_here; k_extra "BL"))); (k_with "JoinBool" => ((refine Hold.out ?_))); (k_with "call builtin:list.append" => ((k_here; k_extra "AP"))); trivial)
theorem lit_eq {lb : Array UInt8} {p octs : List Int} {plus : Bool} (h : KBw.bInts lb = ((([123] ++ [48 + ((octs.length : Nat) : Int).fdiv 10, 48 + ((octs.length : Nat) : Int).fmod 10]) ++ p) ++ [13, 10]) ++ octs) (hp : (if plus = true then [43] else []) ++ [125] = p) : KBw.bInts lb = litI plus octs := by
  rw [h, ← hp, Int.fdiv_eq_ediv_of_nonneg _ (by decide), Int.fmod_eq_emod_of_nonneg _ (by decide)]
  unfold litI
  simp
theorem lit_len {octs : List Int} (plus : Bool) (h : octs.length ≤ 21) : (litI plus octs).length ≤ 30 := by cases plus <;> simp [litI] <;> omega
def JoinBool (s : Shared) (P : Prop) (v : Value) (s' : Shared) : Prop := ∃ tk b, s' = { s with toks := tk } ∧ v = .bool b ∧ (b = true ↔ P)
theorem bool_join {M : Model} {A : Around} {E : Value → Shared → Prop} {s : Shared} {e : Expr} {env : Env} {Q : Value → Shared → Prop} {P : Prop} (h : wpAny M A (eval e env) (JoinBool s P) E s) (k : ∀ b tk, (b = true ↔ P) → Q (.bool b) { s with toks := tk }) : wpAny M A (eval e env) Q E s :=
  wpAny_mono h (fun v s' hj => by obtain ⟨tk, b, rfl, rfl, hb⟩ := hj; exact k b tk hb) fun _ _ x => x
theorem and_head {h₀ h : Heap} {L D a b : Addr} {t : Tok} {r : Led} (_N : News h₀ L h ((D, tupObj #[.str "and" t, .ref a, .ref b]) :: r)) : ∃ D' t', D' = D ∧ t' = t := ⟨D, t, rfl, rfl⟩
example : True := by ((k_with "getMethod bytes" => ((k_here; refine method_join ?_))); (k_with "call builtin:bytes.join" => ((k_here; k_extra "BJ"))); (k_with "noteFrame ref" => ((k_here; k_extra "NF"))); (k_with "compareOp Eq ref ref" => ((k_here; k_extra "EQ"))); trivial)
namespace main
theorem tw480701840831765632 : True := trivial
theorem tw9557352009045844224 : True := trivial
theorem tw5240779543111244032 : True := trivial
theorem tw15438212644395081984 : True := trivial
theorem tw18317823674230346016 : True := trivial
theorem tw2058021452347087232 : True := trivial
theorem tw6981815665589151136 : True := trivial
theorem tw12463224122652932544 : True := trivial
theorem tw9976160756891316704 : True := trivial
theorem tw1677766988990989824 : True := trivial
theorem tw7439787175107056256 : True := trivial
theorem tw9808303207383738048 : True := trivial
theorem tw5616070069386785504 : True := trivial
theorem tw12483276189755474720 : True := trivial
theorem tw12747388180105724736 : True := trivial
theorem tw1027651156746619712 : True := trivial
theorem tw16508919721030705984 : True := trivial
theorem tw6449824600675878752 : True := trivial
theorem tw7396773899940073312 : True := trivial
theorem tw3627144658338631552 : True := trivial
theorem tw3796207824708393856 : True := trivial
theorem tw12670839924663504800 : True := trivial
theorem tw14064073609400967072 : True := trivial
theorem tw17402982504261768225 : True := trivial
theorem tw6214117541549086881 : True := trivial
theorem tw2110754180369666209 : True := trivial
theorem tw17715262827843222689 : True := trivial
theorem tw3370190323706015969 : True := trivial
theorem tw14216407083858561409 : True := trivial
theorem tw9376575566392132001 : True := trivial
theorem tw15768048840197415361 : True := trivial
theorem tw6907636171062424033 : True := trivial
theorem tw2538046985915079169 : True := trivial
theorem tw9406782406253462049 : True := trivial
theorem tw6635558491612396129 : True := trivial
theorem tw1242282695825638017 : True := trivial
theorem tw12147608041155910273 : True := trivial
theorem tw16193401482309157537 : True := trivial
theorem tw12077450504624328385 : True := trivial
theorem tw8879939841973710529 : True := trivial
theorem tw15608450976537380609 : True := trivial
theorem tw892681787802806017 : True := trivial
theorem tw15624239662980076321 : True := trivial
theorem tw15109750227778091905 : True := trivial
theorem tw6389877041954997217 : True := trivial
theorem tw5671064798259553346 : True := trivial
theorem tw11987853993630220354 : True := trivial
theorem tw14168887731352723522 : True := trivial
theorem tw16135426469972691074 : True := trivial
theorem tw4038153913678941442 : True := trivial
theorem tw15303317825217679618 : True := trivial
theorem tw7411558596216406370 : True := trivial
theorem tw5613160597433933154 : True := trivial
theorem tw12139096438432415106 : True := trivial
theorem tw9302470337196694018 : True := trivial
theorem tw11752208632293872130 : True := trivial
theorem tw7298748307773712898 : True := trivial
theorem tw1306636233014830658 : True := trivial
theorem tw16292202817602668162 : True := trivial
theorem tw4297412468100583042 : True := trivial
theorem tw1142173933681417890 : True := trivial
theorem tw16950194794029067938 : True := trivial
theorem tw6075091234017535682 : True := trivial
theorem tw11092141859048813250 : True := trivial
theorem tw11785714552879321826 : True := trivial
theorem tw6385024630547198690 : True := trivial
theorem tw6697339332421208802 : True := trivial
theorem tw10669944970481658594 : True := trivial
theorem tw961187720498965250 : True := trivial
theorem tw6508729118710982530 : True := trivial
theorem tw14666387041718499266 : True := trivial
theorem tw18284262389922463811 : True := trivial
theorem tw15467891735981029475 : True := trivial
theorem tw11409991511011244131 : True := trivial
theorem tw4817600198373253283 : True := trivial
theorem tw2007339730380871907 : True := trivial
theorem tw3626430660855392483 : True := trivial
theorem tw4900431672193113347 : True := trivial
theorem tw9957550378297406723 : True := trivial
theorem tw10609540516017602915 : True := trivial
theorem tw13406003279186336099 : True := trivial
theorem tw15558288988949320067 : True := trivial
theorem tw4605139254293405059 : True := trivial
theorem tw14771111431291430275 : True := trivial
theorem tw14849204138880929251 : True := trivial
theorem tw2647654807098235363 : True := trivial
theorem tw5837888446457221635 : True := trivial
theorem tw12702744160499308131 : True := trivial
theorem tw8466321980469482115 : True := trivial
theorem tw49674306023711395 : True := trivial
theorem tw387501639795913443 : True := trivial
theorem tw17146568849442343683 : True := trivial
theorem tw11101190512080308003 : True := trivial
theorem tw11857135199678951331 : True := trivial
theorem tw7214478077546791972 : True := trivial
theorem tw8905464785575363620 : True := trivial
theorem tw962032349192862916 : True := trivial
theorem tw13313126695403321540 : True := trivial
theorem tw6140287776057189764 : True := trivial
theorem tw2729793432009153956 : True := trivial
theorem tw2225956059507018244 : True := trivial
theorem tw5160751907100791332 : True := trivial
theorem tw10663580350406149668 : True := trivial
theorem tw714498697977054788 : True := trivial
theorem tw1587290215689348708 : True := trivial
theorem tw12222963475772708484 : True := trivial
theorem tw9840939614602229412 : True := trivial
theorem tw15097543051748444868 : True := trivial
theorem tw14539993770535171780 : True := trivial
theorem tw9756827057097773860 : True := trivial
theorem tw12252054271945606052 : True := trivial
theorem tw834873547066669988 : True := trivial
theorem tw11410963132546700228 : True := trivial
theorem tw372505627349444580 : True := trivial
theorem tw9417822746687237092 : True := trivial
theorem tw6516198228755648517 : True := trivial
theorem tw15017983477296125989 : True := trivial
theorem tw8947760058931562597 : True := trivial
theorem tw5234446048077146213 : True := trivial
theorem tw15955573374722617477 : True := trivial
theorem tw12974819211118642341 : True := trivial
theorem tw6910295442248876197 : True := trivial
theorem tw11001617756164336837 : True := trivial
theorem tw15277975159832343749 : True := trivial
theorem tw8211959896082780389 : True := trivial
theorem tw14510055921401542917 : True := trivial
theorem tw917386388269078853 : True := trivial
theorem tw10953687544409504101 : True := trivial
theorem tw10149618387772673413 : True := trivial
theorem tw2906824675625879941 : True := trivial
theorem tw9253799994812790149 : True := trivial
theorem tw16451033083921036709 : True := trivial
theorem tw8467378866343419333 : True := trivial
theorem tw7083192437325867461 : True := trivial
theorem tw16544489699163171333 : True := trivial
theorem tw3298483428156984901 : True := trivial
theorem tw4258463428174104133 : True := trivial
theorem tw3305931106042330821 : True := trivial
theorem tw14759895335926876869 : True := trivial
theorem tw15957597259013190341 : True := trivial
theorem tw1714950047550659301 : True := trivial
theorem tw1469836325065767749 : True := trivial
theorem tw16806246253224384389 : True := trivial
theorem tw13402765919934010277 : True := trivial
theorem tw14646587721710459877 : True := trivial
theorem tw2456247091588846565 : True := trivial
theorem tw365850788961202214 : True := trivial
theorem tw9903775340124721222 : True := trivial
theorem tw15350898050860989542 : True := trivial
theorem tw6936517116696306854 : True := trivial
theorem tw10750994468655217958 : True := trivial
theorem tw12298629886278197574 : True := trivial
theorem tw4458048076830672230 : True := trivial
theorem tw6511744376749373798 : True := trivial
theorem tw16952715711813285254 : True := trivial
theorem tw7273056430967151046 : True := trivial
theorem tw17297283025540448806 : True := trivial
theorem tw14009396871252706886 : True := trivial
theorem tw471287901995484742 : True := trivial
theorem tw10652863235454686790 : True := trivial
theorem tw2852251193174398662 : True := trivial
theorem tw12909650291622432550 : True := trivial
theorem tw15514936471743626214 : True := trivial
theorem tw8046773169563483271 : True := trivial
theorem tw11476092923266045095 : True := trivial
theorem tw11716418206903941319 : True := trivial
theorem tw13465503431842376007 : True := trivial
theorem tw12518504611687188807 : True := trivial
theorem tw12653679108036650311 : True := trivial
theorem tw16629339528299215175 : True := trivial
theorem tw17737603089517620647 : True := trivial
theorem tw5061512775090418087 : True := trivial
theorem tw13350764725976880583 : True := trivial
theorem tw8475525182357872103 : True := trivial
theorem tw7472368607099979303 : True := trivial
theorem tw11135027115929721415 : True := trivial
theorem tw65644731488775911 : True := trivial
theorem tw18178676814319149831 : True := trivial
theorem tw5944047624654983975 : True := trivial
theorem tw17644181745481072423 : True := trivial
theorem tw10564528347858357063 : True := trivial
theorem tw1519927702969063271 : True := trivial
theorem tw11261727412033496967 : True := trivial
theorem tw16049902774474827687 : True := trivial
theorem tw4324958949535026087 : True := trivial
theorem tw5781596087445459943 : True := trivial
theorem tw4039676971129161736 : True := trivial
theorem tw12594366453804578888 : True := trivial
theorem tw13132915859168520264 : True := trivial
theorem tw16153842264607907944 : True := trivial
theorem tw9573086628692744296 : True := trivial
theorem tw14562738103837258888 : True := trivial
theorem tw52199770228462824 : True := trivial
theorem tw6788695710022549768 : True := trivial
theorem tw12675357926760492328 : True := trivial
theorem tw11403851563620829512 : True := trivial
theorem tw6161133996638707016 : True := trivial
theorem tw8496349624203035976 : True := trivial
theorem tw12455012482086183272 : True := trivial
theorem tw17201416709059790184 : True := trivial
theorem tw13725964629573640584 : True := trivial
theorem tw18238007617527299592 : True := trivial
theorem tw12057704586751987240 : True := trivial
theorem tw244467455267321384 : True := trivial
theorem tw7308723440029596264 : True := trivial
theorem tw14864641218109852296 : True := trivial
theorem tw7751025194823839400 : True := trivial
theorem tw14097447854668400296 : True := trivial
theorem tw15734660467963936456 : True := trivial
theorem tw17477492558424962760 : True := trivial
theorem tw4088224383575840552 : True := trivial
theorem tw3706830351922483016 : True := trivial
theorem tw1270039299266317192 : True := trivial
theorem tw1980160206288974728 : True := trivial
theorem tw10418042200766032776 : True := trivial
theorem tw3372685494851243017 : True := trivial
theorem tw17052023290607921161 : True := trivial
theorem tw4908570168794737769 : True := trivial
theorem tw1453356044741674121 : True := trivial
theorem tw7358942708152152329 : True := trivial
theorem tw10450603732522932521 : True := trivial
theorem tw13077236301305049449 : True := trivial
theorem tw17268439761433841065 : True := trivial
theorem tw4261964983698606537 : True := trivial
theorem tw15589955886551607785 : True := trivial
theorem tw13039506090364352009 : True := trivial
theorem tw13693970394777133609 : True := trivial
theorem tw17699438841360665129 : True := trivial
theorem tw12992176717851604617 : True := trivial
theorem tw15737690656516749961 : True := trivial
theorem tw2402762420636078793 : True := trivial
theorem tw12872379398031375081 : True := trivial
theorem tw1454224541498743561 : True := trivial
theorem tw6702130215012162313 : True := trivial
theorem tw6164561884633627433 : True := trivial
theorem tw3557749057250611081 : True := trivial
theorem tw11595355409239048105 : True := trivial
theorem tw2900998541784483753 : True := trivial
theorem tw4156125974679941130 : True := trivial
theorem tw10092017014551392330 : True := trivial
theorem tw5240536507193477226 : True := trivial
theorem tw14218914174604095658 : True := trivial
theorem tw2566753976717531306 : True := trivial
theorem tw6855474311058116810 : True := trivial
theorem tw18431692314602308842 : True := trivial
theorem tw161903638078081290 : True := trivial
theorem tw13892077903350267210 : True := trivial
theorem tw7698036289167662538 : True := trivial
theorem tw1504049600530537962 : True := trivial
theorem tw12570134572688502250 : True := trivial
theorem tw13678406521842155018 : True := trivial
theorem tw31828345220925962 : True := trivial
theorem tw1628013610222277130 : True := trivial
theorem tw17290568124846718506 : True := trivial
theorem tw13113777628852026922 : True := trivial
theorem tw5502569546826302122 : True := trivial
theorem tw13777938177461255882 : True := trivial
theorem tw10924716458440934090 : True := trivial
theorem tw1319676515408343850 : True := trivial
theorem tw16356685582667847594 : True := trivial
theorem tw104360540948158410 : True := trivial
theorem tw10334261112615635914 : True := trivial
theorem tw6087835443962453003 : True := trivial
theorem tw11710404883906591787 : True := trivial
theorem tw12519306246395310219 : True := trivial
theorem tw18165044119631177899 : True := trivial
theorem tw10123989817122485451 : True := trivial
theorem tw5842977544298395883 : True := trivial
theorem tw11049269918873537771 : True := trivial
theorem tw833945537157984683 : True := trivial
theorem tw10169072693733980587 : True := trivial
theorem tw2496676261509829067 : True := trivial
theorem tw4330594992337426955 : True := trivial
theorem tw2279707942289718827 : True := trivial
theorem tw832900586485598795 : True := trivial
theorem tw6788530277367551627 : True := trivial
theorem tw5790326737455844299 : True := trivial
theorem tw8102450764968551371 : True := trivial
theorem tw7846812961960373227 : True := trivial
theorem tw17708487481403421675 : True := trivial
theorem tw16689149305811164139 : True := trivial
theorem tw11646826074482590764 : True := trivial
theorem tw15970538086172389420 : True := trivial
theorem tw5090093123433477228 : True := trivial
theorem tw12732289081945773324 : True := trivial
theorem tw8663697691656813868 : True := trivial
theorem tw8930851030842425676 : True := trivial
theorem tw12941917028564957548 : True := trivial
theorem tw15131278010643852716 : True := trivial
theorem tw13591255225166038476 : True := trivial
theorem tw18315214858253571532 : True := trivial
theorem tw9512817274939609580 : True := trivial
theorem tw1130211791997205004 : True := trivial
theorem tw17438294365789470252 : True := trivial
theorem tw8090509862211737132 : True := trivial
theorem tw14639212616227390028 : True := trivial
theorem tw10199874654664476236 : True := trivial
theorem tw14814594519894181452 : True := trivial
theorem tw9274054859765456524 : True := trivial
theorem tw14313897822631088780 : True := trivial
theorem tw14390754486103292620 : True := trivial
theorem tw16357356043003861740 : True := trivial
theorem tw4637267157515435788 : True := trivial
theorem tw2603640857327449932 : True := trivial
theorem tw9670510015898674028 : True := trivial
theorem tw5436791530062809996 : True := trivial
theorem tw6690441779611380620 : True := trivial
theorem tw15595112118272840620 : True := trivial
theorem tw3234112476842188716 : True := trivial
theorem tw9730157408454304684 : True := trivial
theorem tw10813080517026676716 : True := trivial
theorem tw18134284020713443437 : True := trivial
theorem tw12170992721606120685 : True := trivial
theorem tw7221758910455160077 : True := trivial
theorem tw854977524454699277 : True := trivial
theorem tw3466206800631347469 : True := trivial
theorem tw5181119749688162637 : True := trivial
theorem tw11239335112260394413 : True := trivial
theorem tw4585930131862741453 : True := trivial
theorem tw5456330333991267789 : True := trivial
theorem tw8484041278411425421 : True := trivial
theorem tw17413556829735388813 : True := trivial
theorem tw1632041292262086317 : True := trivial
theorem tw10047389527955405517 : True := trivial
theorem tw1886080085820668685 : True := trivial
theorem tw545269030811804461 : True := trivial
theorem tw9175052073728820173 : True := trivial
theorem tw13962693860625380366 : True := trivial
theorem tw6053611964639427726 : True := trivial
theorem tw6657087868060814 : True := trivial
theorem tw16959884160788844718 : True := trivial
theorem tw15643365686152983790 : True := trivial
theorem tw979501456738626862 : True := trivial
theorem tw2287757881348798766 : True := trivial
theorem tw3994622017586750766 : True := trivial
theorem tw451873465583785326 : True := trivial
theorem tw13348322127785295214 : True := trivial
theorem tw6912675738884088206 : True := trivial
theorem tw1826329307503635854 : True := trivial
theorem tw13974046611088194958 : True := trivial
theorem tw14579049591947550094 : True := trivial
theorem tw7332552209862256014 : True := trivial
theorem tw4650958065196391918 : True := trivial
theorem tw16026485685270457870 : True := trivial
theorem tw5127751686995613262 : True := trivial
theorem tw13642826006792871662 : True := trivial
theorem tw6455149578367423246 : True := trivial
theorem tw5532463470591059822 : True := trivial
theorem tw8748973510418095054 : True := trivial
theorem tw1678875084529416142 : True := trivial
theorem tw9368617206455126095 : True := trivial
theorem tw13148611719377898607 : True := trivial
theorem tw12277023271486646383 : True := trivial
theorem tw18120430973489738927 : True := trivial
theorem tw8478376212529829071 : True := trivial
theorem tw4500915450034043215 : True := trivial
theorem tw15387884906608193903 : True := trivial
theorem tw12692632004510240207 : True := trivial
theorem tw17456035664235451855 : True := trivial
theorem tw10094358506670053839 : True := trivial
theorem tw11982392923317675503 : True := trivial
theorem tw17510229520200029679 : True := trivial
theorem tw17871620999419790863 : True := trivial
theorem tw9272984997812220495 : True := trivial
theorem tw10234815189450012239 : True := trivial
theorem tw4946776927847147119 : True := trivial
theorem tw13876859957761632879 : True := trivial
theorem tw7108953243070827183 : True := trivial
theorem tw3829396358689915599 : True := trivial
theorem tw474381771622712015 : True := trivial
theorem tw6696893160125735727 : True := trivial
theorem tw5289026146741335887 : True := trivial
theorem tw1372806426800153423 : True := trivial
theorem tw13180746182150919023 : True := trivial
theorem tw8386446075699426159 : True := trivial
theorem tw9964214247947446159 : True := trivial
theorem tw17725498274588495791 : True := trivial
theorem tw5400957986263281647 : True := trivial
theorem tw14798791472264738832 : True := trivial
theorem tw12400434520335623248 : True := trivial
theorem tw5418533224930618480 : True := trivial
theorem tw6877560268529008848 : True := trivial
theorem tw6565609875121592624 : True := trivial
theorem tw13260870731297125680 : True := trivial
theorem tw15734200111481486640 : True := trivial
theorem tw12885673836220544336 : True := trivial
theorem tw18190005008629794160 : True := trivial
theorem tw8729708805864041840 : True := trivial
theorem tw4681395471914393968 : True := trivial
theorem tw14708136634888185200 : True := trivial
theorem tw11218778669853930896 : True := trivial
theorem tw2702614204127132176 : True := trivial
theorem tw17974016328880235120 : True := trivial
theorem tw1092785777240315536 : True := trivial
theorem tw6768520987592691376 : True := trivial
theorem tw12748397558918655664 : True := trivial
theorem tw15649996292582860464 : True := trivial
theorem tw17118054049896295152 : True := trivial
theorem tw8905992674379837232 : True := trivial
theorem tw5871769198996169552 : True := trivial
theorem tw6542085627976250192 : True := trivial
theorem tw12564604832814323664 : True := trivial
theorem tw12343854547171428336 : True := trivial
theorem tw13667920496262714385 : True := trivial
theorem tw16572128252103988241 : True := trivial
theorem tw452746233719593009 : True := trivial
theorem tw17582771003793410097 : True := trivial
theorem tw15651024617767166033 : True := trivial
theorem tw15616401959046598769 : True := trivial
theorem tw2544328076492683441 : True := trivial
theorem tw5921134243170700561 : True := trivial
theorem tw358491910552652209 : True := trivial
theorem tw14235155234550121937 : True := trivial
theorem tw12839114828313443825 : True := trivial
theorem tw4072190877284726289 : True := trivial
theorem tw9897820754763898449 : True := trivial
theorem tw13980345723018547825 : True := trivial
theorem tw1429040668314091153 : True := trivial
theorem tw18392154025008590481 : True := trivial
theorem tw15579395750891953841 : True := trivial
theorem tw3960113756560652017 : True := trivial
theorem tw18395943939669218033 : True := trivial
theorem tw11967333016625521393 : True := trivial
theorem tw13503263706703578961 : True := trivial
theorem tw9682133043923132273 : True := trivial
theorem tw17147588175821073265 : True := trivial
theorem tw12885385263037960081 : True := trivial
theorem tw7093617532817203218 : True := trivial
theorem tw14060465935940456498 : True := trivial
theorem tw17767330081159143506 : True := trivial
theorem tw4812270449578504274 : True := trivial
theorem tw6632538468102435922 : True := trivial
theorem tw16817993663026736274 : True := trivial
theorem tw5518243967957118194 : True := trivial
theorem tw11403970630465759474 : True := trivial
theorem tw13995172100960836882 : True := trivial
theorem tw3635900802997115186 : True := trivial
theorem tw341453280667917650 : True := trivial
theorem tw9369660151273674066 : True := trivial
theorem tw918671981122897330 : True := trivial
theorem tw3748114642381145586 : True := trivial
theorem tw9508770018378322450 : True := trivial
theorem tw4189750870438640210 : True := trivial
theorem tw3370842686811476594 : True := trivial
theorem tw14027650596787315314 : True := trivial
theorem tw5797031442667253490 : True := trivial
theorem tw6880717277089553138 : True := trivial
theorem tw7929128423345735474 : True := trivial
theorem tw9470667924834194258 : True := trivial
theorem tw10652611922669240339 : True := trivial
theorem tw17679725944135375923 : True := trivial
theorem tw16136984950599521427 : True := trivial
theorem tw12590340796369385619 : True := trivial
theorem tw14635473669698735251 : True := trivial
theorem tw4651154628705390771 : True := trivial
theorem tw17275675667316583603 : True := trivial
theorem tw2714283472998740243 : True := trivial
theorem tw8127475511531132179 : True := trivial
theorem tw16102231251864390963 : True := trivial
theorem tw5450094653865882931 : True := trivial
theorem tw10114013102757674387 : True := trivial
theorem tw4365514962571936147 : True := trivial
theorem tw3570300971023340979 : True := trivial
theorem tw6785657489111691699 : True := trivial
theorem tw1261021989165538067 : True := trivial
theorem tw10665089971535097683 : True := trivial
theorem tw5585478044538960755 : True := trivial
theorem tw17016820405989369747 : True := trivial
theorem tw4216741518440994707 : True := trivial
theorem tw2524017781993486291 : True := trivial
theorem tw6868236387235032019 : True := trivial
theorem tw6674386428176565332 : True := trivial
theorem tw3867218068155391060 : True := trivial
theorem tw8627561154394265716 : True := trivial
theorem tw6862268138105152660 : True := trivial
theorem tw15270170921892066516 : True := trivial
theorem tw11086099901593105684 : True := trivial
theorem tw3160845607165458772 : True := trivial
theorem tw17561526911342447988 : True := trivial
theorem tw9483120023164983764 : True := trivial
theorem tw3045742163950154196 : True := trivial
theorem tw11735423636902730196 : True := trivial
theorem tw1496695287857109588 : True := trivial
theorem tw2629084897520917108 : True := trivial
theorem tw2821470743931037460 : True := trivial
theorem tw1615045767204293396 : True := trivial
theorem tw11461230924637031220 : True := trivial
theorem tw17958375852430007124 : True := trivial
theorem tw5638201095994319732 : True := trivial
theorem tw1519992759497675636 : True := trivial
theorem tw10864377008497418100 : True := trivial
theorem tw2195194259037543316 : True := trivial
theorem tw10896356407431480244 : True := trivial
theorem tw3464709057266567092 : True := trivial
theorem tw9189880136782149556 : True := trivial
theorem tw8844999433837080629 : True := trivial
theorem tw14722489848711283861 : True := trivial
theorem tw18442785490491869365 : True := trivial
theorem tw2921958311620399285 : True := trivial
theorem tw7591743695986301205 : True := trivial
theorem tw453184122279072053 : True := trivial
theorem tw13724616953566380437 : True := trivial
theorem tw3454311308915712629 : True := trivial
theorem tw13293747886898857621 : True := trivial
theorem tw10363585996791799541 : True := trivial
theorem tw14148177179885854485 : True := trivial
theorem tw3137596982192898869 : True := trivial
theorem tw2583023086579268501 : True := trivial
theorem tw12205347405646519318 : True := trivial
theorem tw18344032359734412310 : True := trivial
theorem tw2173562974560187446 : True := trivial
theorem tw330327031418712150 : True := trivial
theorem tw8557395850702784662 : True := trivial
theorem tw17298425922696826006 : True := trivial
theorem tw15554039934745177238 : True := trivial
theorem tw6674893403203295414 : True := trivial
theorem tw14061640607465278742 : True := trivial
theorem tw9561784451562097942 : True := trivial
theorem tw9392487213469676918 : True := trivial
theorem tw4719957520787936630 : True := trivial
theorem tw3848698983108048278 : True := trivial
theorem tw13590572293223372214 : True := trivial
theorem tw17864028415675338326 : True := trivial
theorem tw4749052000479324790 : True := trivial
theorem tw7884331609784382070 : True := trivial
theorem tw9069182735580402390 : True := trivial
theorem tw1850612553970854742 : True := trivial
theorem tw3549514262204291990 : True := trivial
theorem tw11388154006635350966 : True := trivial
theorem tw2190695567426971638 : True := trivial
theorem tw16832360635688203351 : True := trivial
theorem tw15510692781650021527 : True := trivial
theorem tw16790050636404226231 : True := trivial
theorem tw6663778134991626487 : True := trivial
theorem tw10821422270917381399 : True := trivial
theorem tw2238316416991798583 : True := trivial
theorem tw785246043732427063 : True := trivial
theorem tw7074144079889050967 : True := trivial
theorem tw17453503289922162039 : True := trivial
theorem tw1150287232629052791 : True := trivial
theorem tw18385570937342765463 : True := trivial
theorem tw7380652910202371479 : True := trivial
theorem tw8652556701797213591 : True := trivial
theorem tw6596593509180878263 : True := trivial
theorem tw7974275031393228247 : True := trivial
theorem tw8834365191522931223 : True := trivial
theorem tw1645717771770832407 : True := trivial
theorem tw5401703158475992631 : True := trivial
theorem tw18218335207050127959 : True := trivial
theorem tw5517759331935216279 : True := trivial
theorem tw2921621734765799159 : True := trivial
theorem tw5396361742852586263 : True := trivial
theorem tw9994787619460420439 : True := trivial
theorem tw1198661942849946583 : True := trivial
theorem tw15342904991969174519 : True := trivial
theorem tw10877679251791092727 : True := trivial
theorem tw9925469786538053656 : True := trivial
theorem tw15580989882048331800 : True := trivial
theorem tw16641786646906312760 : True := trivial
theorem tw10825838108423173272 : True := trivial
theorem tw5102693214775723256 : True := trivial
theorem tw1157997071576566072 : True := trivial
theorem tw8809968196449919288 : True := trivial
theorem tw799486724532869496 : True := trivial
theorem tw11041547156204584376 : True := trivial
theorem tw645136716886899192 : True := trivial
theorem tw12027323910402764344 : True := trivial
theorem tw1156462466702112376 : True := trivial
theorem tw13626721169425172152 : True := trivial
theorem tw2744014450722944760 : True := trivial
theorem tw15225127925928830808 : True := trivial
theorem tw11692516046256081784 : True := trivial
theorem tw7624293977416268664 : True := trivial
theorem tw10429698783064695704 : True := trivial
theorem tw11815829001073249272 : True := trivial
theorem tw33456957511925785 : True := trivial
theorem tw9369988214560726041 : True := trivial
theorem tw8440099810896429113 : True := trivial
theorem tw11531331273489700057 : True := trivial
theorem tw10455743928339290457 : True := trivial
theorem tw15023316991559800185 : True := trivial
theorem tw5203219222101121401 : True := trivial
theorem tw962193829226610041 : True := trivial
theorem tw14793117695081215449 : True := trivial
theorem tw16046730324260685337 : True := trivial
theorem tw13110970153573199417 : True := trivial
theorem tw4924694640843408985 : True := trivial
theorem tw12741544251441588921 : True := trivial
theorem tw11487549891475536569 : True := trivial
theorem tw16452447596832230105 : True := trivial
theorem tw6334894449686545209 : True := trivial
theorem tw10298723112805639129 : True := trivial
theorem tw7019240024125815769 : True := trivial
theorem tw10044588960856096794 : True := trivial
theorem tw2724176850512262202 : True := trivial
theorem tw16187894506366716058 : True := trivial
theorem tw8118072479153026202 : True := trivial
theorem tw7647378279178456250 : True := trivial
theorem tw1255815211270559930 : True := trivial
theorem tw9658885295015712986 : True := trivial
theorem tw1545906260438175962 : True := trivial
theorem tw765107192605250810 : True := trivial
theorem tw10642606787283503386 : True := trivial
theorem tw12450111651097656602 : True := trivial
theorem tw5665735395497279834 : True := trivial
theorem tw656089360051881306 : True := trivial
theorem tw7590696779544312186 : True := trivial
theorem tw9498315638749924794 : True := trivial
theorem tw5995161000843957690 : True := trivial
theorem tw13219505800766818778 : True := trivial
theorem tw6655696309031964122 : True := trivial
theorem tw6886502059237256666 : True := trivial
theorem tw3934531018447913466 : True := trivial
theorem tw4839478117068044826 : True := trivial
theorem tw15062679425460387418 : True := trivial
theorem tw15622959790217612890 : True := trivial
theorem tw716429049611869786 : True := trivial
theorem tw1118068078248606362 : True := trivial
theorem tw48596604365144762 : True := trivial
theorem tw3259492374427675482 : True := trivial
theorem tw9515011664573035354 : True := trivial
theorem tw16022572192331126682 : True := trivial
theorem tw13547569757486424058 : True := trivial
theorem tw13803360072150633466 : True := trivial
theorem tw15803610866087392283 : True := trivial
theorem tw16008457594558532635 : True := trivial
theorem tw12922898485456448571 : True := trivial
theorem tw12431561837914552411 : True := trivial
theorem tw16923884221124529275 : True := trivial
theorem tw6222487380544312443 : True := trivial
theorem tw15465920861327815835 : True := trivial
theorem tw5473700226181020891 : True := trivial
theorem tw9121559901702372667 : True := trivial
theorem tw3583811862363856187 : True := trivial
theorem tw6741292078354696603 : True := trivial
theorem tw17906638245316424091 : True := trivial
theorem tw10992214633131536827 : True := trivial
theorem tw16035907590883218939 : True := trivial
theorem tw3491332818749588091 : True := trivial
theorem tw7153082081811710619 : True := trivial
theorem tw10453263994017694363 : True := trivial
theorem tw11962923498438245051 : True := trivial
theorem tw8546124895413445307 : True := trivial
theorem tw4490809748136132443 : True := trivial
theorem tw17223442867436993403 : True := trivial
theorem tw10204856939554784155 : True := trivial
theorem tw1098248734344127483 : True := trivial
theorem tw3911810758690780188 : True := trivial
theorem tw12900284412222446716 : True := trivial
theorem tw16551855485269240956 : True := trivial
theorem tw16778611742570070204 : True := trivial
theorem tw16305672181175384284 : True := trivial
theorem tw4310270188432123100 : True := trivial
theorem tw5243159528196176124 : True := trivial
theorem tw15162887387933576508 : True := trivial
theorem tw13154001654789283132 : True := trivial
theorem tw6183352029847204284 : True := trivial
theorem tw1253437644075932092 : True := trivial
theorem tw2156534451787437564 : True := trivial
theorem tw8060562821785662972 : True := trivial
theorem tw5571399437266216444 : True := trivial
theorem tw11251407683458634364 : True := trivial
theorem tw14859100970857779836 : True := trivial
theorem tw302440914744352476 : True := trivial
theorem tw14080665800827857628 : True := trivial
theorem tw9155575984036265788 : True := trivial
theorem tw11349898740250378076 : True := trivial
theorem tw11273777480241942364 : True := trivial
theorem tw796168687070700412 : True := trivial
theorem tw5649967823195072380 : True := trivial
theorem tw5309058905264134205 : True := trivial
theorem tw14027531716089632829 : True := trivial
theorem tw4917070330192852093 : True := trivial
theorem tw4766233809647381661 : True := trivial
theorem tw3958507339218470045 : True := trivial
theorem tw6112859857366181021 : True := trivial
theorem tw13116522157475607773 : True := trivial
theorem tw10572078138482761021 : True := trivial
theorem tw11181722664286889309 : True := trivial
theorem tw9381277316556691805 : True := trivial
theorem tw15356762974548107741 : True := trivial
theorem tw16480584520131690045 : True := trivial
theorem tw9558744834307401277 : True := trivial
theorem tw3864431920445960829 : True := trivial
theorem tw12927740378394474205 : True := trivial
theorem tw16819838333489098493 : True := trivial
theorem tw6044114016751833949 : True := trivial
theorem tw12915833801598196605 : True := trivial
theorem tw15485851114877660061 : True := trivial
theorem tw12338497608069007261 : True := trivial
theorem tw7761410557224570781 : True := trivial
theorem tw11311155076762098589 : True := trivial
theorem tw14640416626631428029 : True := trivial
theorem tw3343439749351644125 : True := trivial
theorem tw6660377722381337597 : True := trivial
theorem tw14788915703135433725 : True := trivial
theorem tw1777545030009416734 : True := trivial
theorem tw17128291446047057950 : True := trivial
theorem tw17450470499104002142 : True := trivial
theorem tw7623511443260959870 : True := trivial
theorem tw6418098437765475518 : True := trivial
theorem tw7054876372555587774 : True := trivial
theorem tw4333880214566435006 : True := trivial
theorem tw18425317256667529438 : True := trivial
theorem tw11399646045708457374 : True := trivial
theorem tw18418235949754561950 : True := trivial
theorem tw12751799325998411230 : True := trivial
theorem tw17336282652733537790 : True := trivial
theorem tw13270728482189477470 : True := trivial
theorem tw2759098988195820126 : True := trivial
theorem tw9563168847844234846 : True := trivial
theorem tw10876375607700338302 : True := trivial
theorem tw12361340156312767134 : True := trivial
theorem tw4775608329324902142 : True := trivial
theorem tw12543713266681445118 : True := trivial
theorem tw5623159541915647742 : True := trivial
theorem tw1236483940969888574 : True := trivial
theorem tw11221353774195762014 : True := trivial
theorem tw8079908401900000222 : True := trivial
theorem tw14368271195830560734 : True := trivial
theorem tw3299218664060906527 : True := trivial
theorem tw15806524323241146399 : True := trivial
theorem tw11544348965984651327 : True := trivial
theorem tw6368324255471102079 : True := trivial
theorem tw16656740534632174751 : True := trivial
theorem tw17665120845849184447 : True := trivial
theorem tw2704602940660078815 : True := trivial
theorem tw7293298908176781663 : True := trivial
theorem tw13187166440333854079 : True := trivial
theorem tw5287059835090251167 : True := trivial
theorem tw2750411421705246143 : True := trivial
theorem tw4948327476702027199 : True := trivial
theorem tw221909299271738847 : True := trivial
theorem tw14504180641510445567 : True := trivial
theorem tw17091655785135471103 : True := trivial
theorem tw9265829497004654079 : True := trivial
theorem tw13989496423458381343 : True := trivial
theorem tw18332899500509843999 : True := trivial
theorem tw12273490649430754879 : True := trivial
theorem tw3314904115985164895 : True := trivial
theorem tw4126091431370883743 : True := trivial
theorem tw11712081513822626495 : True := trivial
theorem tw18287795668848337631 : True := trivial
theorem tw17057053908230417247 : True := trivial
theorem tw10231336680788121439 : True := trivial
theorem tw9360745474812902239 : True := trivial
theorem tw6162249291895867263 : True := trivial
theorem tw1900339198761634783 : True := trivial
theorem tw14672674291997333471 : True := trivial
theorem tw10210597933619972095 : True := trivial
theorem tw13181984821200347402 : True := trivial
theorem tw10189284075025298233 : True := trivial
theorem tw11539556534233449701 : True := trivial
end main
set_option Elab.async true
theorem main : PySem.Challenge.rw_or0070_01.Holds := by
  w_on
  o_law
  o_head (kHook Mine.pre.heap_1 [2, 3, 15, 17, 18, 20, 21, 22, 29, 30, 32, 33, 35, 36, 37, 39, 40, 42, 43, 44, 45, 46, 47, 50, 57, 58, 59, 62, 69, 70, 71, 74, 81, 82, 83, 86, 93, 94, 95, 98, 105, 106, 107, 110, 117, 118, 119, 122, 124, 125, 127, 128, 129, 131, 132, 134, 135, 136, 138, 139, 141, 142, 143, 145, 146, 148, 149, 150, 153, 154, 155, 158, 159, 160, 163, 164, 165, 168, 169, 170, 171, 173, 174, 176, 177, 178, 180, 181, 183, 184, 185, 187, 188, 190, 191, 192, 195, 196, 197, 199, 200, 202, 203, 204, 206, 207, 209, 210, 211, 213, 214, 216, 217, 218, 220, 221, 223, 224, 225, 227, 228, 230, 231, 232, 234, 235, 237, 238, 239, 241, 242, 244, 245, 246, 247, 249, 250, 252, 253, 254, 256, 257, 259, 260, 261, 263, 264, 266, 267, 268, 271, 272, 273, 276, 277, 278, 280, 281, 283, 284, 285, 287, 288, 290, 291, 292, 294, 295, 297, 298, 299, 301, 302, 304, 305, 306, 308, 309, 311, 312, 313, 315, 316, 318, 319, 320, 322, 323, 325, 326, 327, 329, 330, 332, 333, 334, 336, 337, 339, 340, 341, 343, 344, 346, 347, 348, 350, 351, 353, 354, 355, 357, 358, 360, 361, 362, 364, 365, 367, 368, 369, 371, 372, 374, 375, 376, 378, 379, 381, 382, 383, 385, 386, 388, 389, 390, 392, 393, 395, 396, 397, 399, 400, 402, 403, 404, 406, 407, 409, 410, 411, 413, 414, 416, 417, 418, 420, 421, 423, 424, 432, 434, 435, 437, 438, 439, 441, 442, 444, 445, 446, 447, 448, 449, 450, 453, 455, 456, 458, 459, 460, 462, 463, 465, 466, 467, 469, 470, 472, 473, 474, 476, 477, 479, 480, 481, 483, 484, 486, 487, 488, 490, 491, 493, 494, 495, 497, 498, 500, 501, 509, 510, 512, 513, 515, 516, 517, 519, 520, 522, 523, 524, 526, 527, 529, 530, 531, 533, 534, 536, 537, 538, 540, 541, 543, 544, 545, 547, 548, 550, 551, 552, 554, 555, 557, 558, 559, 561, 562, 564, 565, 566, 568, 569, 571, 572, 573, 575, 576, 578, 579, 580, 582, 583, 585, 586, 587, 589, 590, 592, 593, 594, 596, 597, 599, 600, 601, 603, 604, 606, 607, 608, 610, 611, 613, 614, 615, 617, 618, 620, 621, 622, 624, 625, 627, 628, 629, 631, 632, 634, 635, 636, 638, 639, 641, 642, 643, 645, 646, 648, 649, 650, 652, 653, 655, 656, 657, 659, 660, 662, 663, 664, 666, 667, 669, 670, 671, 674, 675, 676, 677, 679, 680, 682, 683, 684, 685, 686, 687, 688, 691, 692, 693, 694, 695, 696, 697, 698, 699, 700, 701, 702, 704, 705, 707, 708, 709, 711, 712, 714, 715, 716, 719, 720, 721, 724, 725] (fun _ => by kernel_rfl))
  (case hw => w_witness2)
  k_go0
  (all_goals try k_fold)
  (with_reducible rename Top _ _ _ _ _ _ => T0)
  have T2 : Top pre.view_1 (looseW pre.view_1 [Str.ofString "PostError", Str.ofString "CHARSETS"]) _ _ _ _ := T0
  k_with "HOLD" => skip
  k_with "RG" => skip
  k_with "S1" => (k_dflt (refine' aliases_item ?Fq ?Xq hj0 hj1 ?_; (case Fq => k_asm); (case Xq => k_asm)); intro a7 al7 way7 y7 z7 hal7 hT7; (have hal7l := alias_len hal7))
  k_with "S2" => ((with_reducible show wpAny _ _ (subscriptTail (Expr.Tuple _ _ _) (Expr.Call _ _ _ _) _ _) _ _ _); k_dflt (refine' item_any (vs := [_, _, _]) ?Nq ?hmq hj0 ?h1q ?hbq ?_; (case Nq => k_asm); (case hmq => k_mem); (case h1q => (simp only [List.length_cons, List.length_nil]; omega)); (case hbq => exact Nat.le_of_ble_eq_true rfl)); intro v7 hv7; obtain ⟨x7, q7, hx7, hal8⟩ := alias_pick hal7 hj0 hj1 hv7; subst hx7)
  k_with "IE" => ((with_reducible show wpAny _ _ (eval (Expr.IfExp _ (Expr.Constant _ _ _) (Expr.Constant _ _ _) _) _) _ _ _); refine ifexp_join ?_)
  k_with "BO" => (unfold BytesOr; intro bb9 tc9 hbb9; (obtain ⟨plus9, hplus9⟩ : ∃ pl : Bool, pl = (j9 == 1) := ⟨_, rfl⟩); (rw [← hplus9] at hbb9); (have hpl9 : ((if plus9 = true then [43] else []) ++ [125] : List Int).length ≤ 2 := (by split <;> decide)); (generalize hp9 : ((if plus9 = true then [43] else []) ++ [125] : List Int) = p9 at hbb9 hpl9); dsimp only)
  k_with "BY" => ((with_reducible show wpAny _ _ (call (Value.type "bytes") [Value.ref _]) _ _ _); k_dflt (refine' KBa.make_K (ns := [_, _]) ?Fq ?Nq ?hhq ?hlq ?hiq ?hrq ?hnq ?_; (case Fq => k_asm); (case Nq => k_asm); (case hhq => rfl); (case hlq => exact News.isList (by k_asm) (by k_mem)); (case hiq => exact .cons _ _ (.cons _ _ .nil)); (case hrq => exact two_in (res_len hS9)); (case hnq => exact Nat.le_of_ble_eq_true rfl)); intro h' t' k' F' N' _)
  k_with "S3" => (k_dflt (refine' key_item ?Nq ?hmq ?m0q ?m1q ?m2q ?m3q ?m4q hj0 hj1 ?h2q ?q0q ?q1q ?q2q ?q3q ?q4q ?_; (case Nq => k_asm); (case hmq => exact .head _); (case m4q => exact .tail _ (.head _)); (case m3q => exact .tail _ (.tail _ (.head _))); (case m2q => exact .tail _ (.tail _ (.tail _ (.head _)))); (case m1q => exact .tail _ (.tail _ (.tail _ (.tail _ (.head _))))); (case m0q => exact .tail _ (.tail _ (.tail _ (.tail _ (.tail _ (.head _)))))); (case h2q => exact fun p hp => .tail _ (.tail _ (.tail _ (.tail _ (.tail _ (.tail _ (.tail _ (.tail _ (hp))))))))); (case q0q => (first | (first | assumption | exact And.right (by assumption) | exact And.right (And.right (by assumption)) | exact And.right (And.right (And.right (by assumption))) | exact And.right (And.right (And.right (And.right (by assumption)))) | exact And.right (And.right (And.right (And.right (And.right (by assumption))))) | exact And.right (And.right (And.right (And.right (And.right (And.right (by assumption)))))) | exact And.right (And.right (And.right (And.right (And.right (And.right (And.right (by assumption)))))))) | kwd_inv)); (case q1q => (first | (first | assumption | exact And.right (by assumption) | exact And.right (And.right (by assumption)) | exact And.right (And.right (And.right (by assumption))) | exact And.right (And.right (And.right (And.right (by assumption)))) | exact And.right (And.right (And.right (And.right (And.right (by assumption))))) | exact And.right (And.right (And.right (And.right (And.right (And.right (by assumption)))))) | exact And.right (And.right (And.right (And.right (And.right (And.right (And.right (by assumption)))))))) | kwd_inv)); (case q2q => (first | (first | assumption | exact And.right (by assumption) | exact And.right (And.right (by assumption)) | exact And.right (And.right (And.right (by assumption))) | exact And.right (And.right (And.right (And.right (by assumption)))) | exact And.right (And.right (And.right (And.right (And.right (by assumption))))) | exact And.right (And.right (And.right (And.right (And.right (And.right (by assumption)))))) | exact And.right (And.right (And.right (And.right (And.right (And.right (And.right (by assumption)))))))) | kwd_inv)); (case q3q => (first | (first | assumption | exact And.right (by assumption) | exact And.right (And.right (by assumption)) | exact And.right (And.right (And.right (by assumption))) | exact And.right (And.right (And.right (And.right (by assumption)))) | exact And.right (And.right (And.right (And.right (And.right (by assumption))))) | exact And.right (And.right (And.right (And.right (And.right (And.right (by assumption)))))) | exact And.right (And.right (And.right (And.right (And.right (And.right (And.right (by assumption)))))))) | kwd_inv)); (case q4q => (first | (first | assumption | exact And.right (by assumption) | exact And.right (And.right (by assumption)) | exact And.right (And.right (And.right (by assumption))) | exact And.right (And.right (And.right (And.right (by assumption)))) | exact And.right (And.right (And.right (And.right (And.right (by assumption))))) | exact And.right (And.right (And.right (And.right (And.right (And.right (by assumption)))))) | exact And.right (And.right (And.right (And.right (And.right (And.right (And.right (by assumption)))))))) | kwd_inv))); intro a8 o8 hK8 hS8 N8; (simp only [AllLt] at hS8); (rename KBw.bInts _ = _ ++ octs9 => hkb9); (have hlit9 := lit_eq hkb9 hp9); (have hll9 := lit_len plus9 hlo9); clear hkb9)
  k_with "S3" => (k_dflt (refine' words_item ?Nq hlit9 ?hmq hj0 hj1 ?_; (case Nq => k_asm); (case hmq => exact .head _)); intro wb9 tw9 hwb9)
  k_with "AP" => ((with_reducible rename News _ _ _ _ => wN); k_dflt (refine' append_K ?k1q wN ?k3q ?_ ?zq; (case k1q => k_asm); (case k3q => k_upd); (case zq => (rw [List.size_toArray, sizeLine_eq]; omega)); k_whole); clear wN; intro h' F' N')
  k_with "BL" => ((refine' bool_join (P := ir7 = true ∧ (kept9 ≠ none ∨ j9 = 4)) ?jwq ?jkq); (case' jkq => (intro b8 tk8 hb8; dsimp only)); (case' jwq => (rcases kept9 with _ | k0; all_goals (simp only [KeptV] at hkv9); all_goals (first | subst hkv9 | (obtain ⟨b0, t0, hkv0, hb0⟩ := hkv9; subst hkv0)))))
  k_with "IE" => ((with_reducible show wpAny _ _ (eval (Expr.IfExp _ (Expr.Name _ _) _ _) _) _ _ _); (rcases q6 with ⟨z1, z2⟩ | ⟨z1, ⟨a6, z2⟩, z3⟩); (all_goals subst z2))
  k_with "FOR" => skip
  k_with "F" => (refine Hold.out ?_)
  k_with "C" => (first
    | ((with_reducible show wpAny _ _ (call (Value.ref 708) _) _ _ _); k_dflt (refine' take_use5 ?hmq ?hiq ?hlenq ?hBlq ?hlq ?U1q ?U2q ?Bq ?Fq ?Xq ?Nq ?Tq ?hkq ?hdq ?huq ?_; (first | (((case Nq => k_asm); (case U1q => (intro _ _ _; k_upd)); (case hlq => k_mem); (case U2q => (intro _ _ _ _ _; k_upd)); (case Bq => k_asm); (case Fq => k_asm); (case Xq => k_asm); (case Tq => with_reducible assumption); (case hkq => first | exact rfl | assumption); (case hdq => first | decide | exact Nat.lt_of_ble_eq_true rfl); (case huq => first | decide | exact Nat.lt_of_ble_eq_true rfl); (case hmq => decide); (case hiq => assumption); (case hlenq => first | assumption | (simp only [List.length_map] at *; omega)); (case hBlq => first | assumption | k_ne | omega))) | ktd_rel)); intro j9 t9 us9 ns9 k9 u9 d9 e9 h9 tk9 hj0 hj1 hi9 hl9 F9 N9; (try dsimp only)))
  k_steps
  unfold Hold
  (with_reducible rename Fr _ _ _ _ => lF')
  (with_reducible rename News _ _ _ _ => lN')
  (rename IsRange _ _ _ _ _ _ _ _ => rgX)
  refine' kfor_range (σ := LS) (ledL ?zBq ?zlq ?zWq) (fun c => [(Str.ofString "tree", c.tv), (Str.ofString "is_right", .bool c.ir)]) (fun _ => True) [Str.ofString "kept", Str.ofString "octets", Str.ofString "literal", Str.ofString "sort", Str.ofString "key"] (LInv way7 ?zBq ?zlq ?zWq) ⟨k9, u9, d9, us9, e9, [], 0, .none, [], way7 != "", []⟩ (by rfl) rgX (small_one (by omega) (by omega) (by omega) (by omega)) (rangeSize_nat _ _) lF' ?fNq trivial ?fkq ?fpq ?turnq ?doneq
  case fNq => exact led3 lN' (by k_mem) (by k_mem) (by k_mem)
  case fkq => exact List.forall_mem_cons.mpr ⟨by with_unfolding_all rfl, List.forall_mem_cons.mpr ⟨by with_unfolding_all rfl, List.forall_mem_nil _⟩⟩
  case fpq => exact linv0 hi9 hl9 (by k_ne) (by k_ne) (by k_ne)
  case turnq =>
    clear lF' lN' rgX
    intro c pre9 kk9 tt9 u7 h7 tk7 own7 he7 hlt7 hoff7 _ hp7 F7 N7
    obtain ⟨k7, b7, d7, us7, e7, ws7, wn7, tv7, tl7, ir7, ts7⟩ := c
    have hp8 := hp7
    (rename AlOk _ _ => hal8)
    obtain ⟨q1, ⟨ns7, hi7⟩, hl7, ⟨ps7, q2, q3⟩, q4, q5, q6, q7, hBl7, hWB7, hWl7⟩ := hp7
    dsimp only at q1 q2 q3 q4 q5 q6 q7 hi7 hl7 F7
    (simp only [ledL, List.cons_append] at N7)
    have hr1 : ∀ q ∈ (_, W.listOf ws7.toArray wn7) :: (tl7 ++ own7), q.1 ≠ _ := off_B hWB7 (fun q hq => (q7 q hq).1) hoff7 (.head _)
    have hr2 : ∀ q ∈ (_, W.listOf ws7.toArray wn7) :: (tl7 ++ own7), q.1 ≠ _ := off_B hWl7 (fun q hq => (q7 q hq).2.1) hoff7 (.tail _ (.head _))
    have hr3 : ∀ q ∈ tl7 ++ own7, q.1 ≠ _ := off_W (fun q hq => (q7 q hq).2.2) hoff7
    k_with "AT" => (k_dflt (refine' unpackN_ ?k1q ?k2q ?k3q ?k4q ?k5q ?k6q ?_; (case k1q => k_asm); (case k2q => k_asm); (case k3q => exact News.isTup (by k_asm) (.head _)); (case k4q => exact rfl); (case k5q => exact rfl); (case k6q => exact rfl)); intro h' F' N')
    k_steps
    unfold Hold
    ((with_reducible show wpAny _ _ (call (Value.ref 720) _) _ _ _); k_dflt (refine' Con.useR5 (lstring_con _ way7 hal8.2.2.2 _ _ _ _ _ _ _ _ _ _ hi7 hl7 hBl7 hr1 hr2) ?Bq ?Fq ?Xq ?Nq (fun p hp => hp) ?Tq ?hkq ?hdq ?huq ?_; (first | (((case Nq => k_asm); (case Bq => k_asm); (case Fq => k_asm); (case Xq => k_asm); (case Tq => with_reducible assumption); (case hkq => first | exact rfl | assumption); (case hdq => first | decide | exact Nat.lt_of_ble_eq_true rfl); (case huq => first | decide | exact Nat.lt_of_ble_eq_true rfl))) | (((case N => k_asm); (case B => k_asm); (case F => k_asm); (case X => k_asm); (case T => k_asm); (case hk => first | exact rfl | assumption); (case hd => ktr_room); (case hu => ktr_units))) | tb_start)); intro v9 h9 tk9 n9 hP9 F9 N9; (unfold LRes at hP9); obtain ⟨D9, kv9, ob9, tb9, kept9, octs9, us9, ns9, k9, t9, d9, e9, hP9, hn9, hi9, hl9, hob9, hkv9, hS9⟩ := hP9; subst hP9; subst hn9; (try dsimp only))
    have hlo9 := res_len hS9
    have hws7 : ws7.length ≤ 3 := by have := congrArg List.length q3; rw [q2, List.length_map]; rw [List.length_map, List.length_map] at this; omega
    have hD1 := tup_ne_list N9 (.head _) (.tail _ (.head _))
    have hD2 := tup_ne_list N9 (.head _) (.tail _ (.tail _ (.head _)))
    have hD3 := tup_ne_list N9 (.head _) (.tail _ (.tail _ (.tail _ (.head _))))
    have hq1 : ∀ q ∈ tl7 ++ own7, q.1 ≠ _ := fun q hq => hr1 q (.tail _ hq)
    have hq2 : ∀ q ∈ tl7 ++ own7, q.1 ≠ _ := fun q hq => hr2 q (.tail _ hq)
    k_steps
    all_goals unfold Hold
    all_goals first
      | exact ⟨_, _, rfl, rfl, by simp [*]⟩
      | skip
    · (with_reducible rename News _ _ _ _ => wN)
      (simp only [List.push_toArray] at wN)
      have hok8 := ok_sort (octs := octs9) (plus := plus9) hj0 hj1 hb8
      obtain ⟨lt1, lt2, lt3, lt4⟩ := hS8
      refine' kfor_end ⟨k9, u9, d9, us9, e9, ws7 ++ [.bytes wb9 tw9], wn7 + 1, .ref a8, (a8, o8) :: tl7, b8, ts7 ++ [⟨kept9, octs9, plus9, j9.toNat⟩]⟩ (by assumption) wN ?enq ?eoq ?eaq trivial ?ekq ?erq (linv_next (k' := k9) (t' := u9) (e0 := d9) (e1 := e9) (n := wn7 + 1) (tb := tw9) hp8 hi9 hl9 hS9 (by omega) hwb9 hok8 ⟨_, rfl⟩ (tree_first z1 hS9 hkv9 hK8 hok8) (off_cons (ne_gt lt1) (ne_gt lt2) (ne_gt lt3) q7))
      case enq => exact sub3 (by k_mem) (by k_mem) (by k_mem) (fun p hp => by
        rcases List.mem_cons.mp hp with rfl | hp
        · exact .tail _ (.head _)
        · exact .tail _ (.tail _ (.tail _ (.tail _ (.tail _ (List.mem_append_left _ hp))))))
      case eoq => exact fun p hp => .tail _ (.tail _ (.tail _ (.tail _ (.tail _ (List.mem_append_right _ hp)))))
      case eaq => exact off_next (new := [(a8, o8)]) hoff7 rfl (fun q hq p hp => by rw [List.mem_singleton.mp hq]; exact lt_own lt4 p hp)
      case ekq => exact List.forall_mem_cons.mpr ⟨by with_unfolding_all rfl, List.forall_mem_cons.mpr ⟨by with_unfolding_all rfl, List.forall_mem_nil _⟩⟩
      case erq =>
        intro z h1 h2 h3
        have e1 := h2 _ (.head _)
        have e2 := h2 _ (.tail _ (.head _))
        dsimp only at e1 e2
        have h4 := h3
        simp only [List.contains_cons, List.contains_nil, Bool.or_false, Bool.or_eq_false_iff, beq_eq_false_iff_ne] at h4
        obtain ⟨s1, s2, s3, s4, s5⟩ := h4
        simp only [if_neg h1, if_neg e1, if_neg e2, if_neg s1, if_neg s2, if_neg s3, if_neg s4, if_neg s5, kstB, h3, Bool.false_eq_true, if_false]
        try rfl
    · (with_reducible rename News _ _ _ _ => wN)
      (simp only [List.push_toArray] at wN)
      have hok8 := ok_sort (octs := octs9) (plus := plus9) hj0 hj1 hb8
      obtain ⟨lt1, lt2, lt3, lt4⟩ := hS8
      obtain ⟨D8, t8, eD8, et8⟩ := and_head wN
      subst eD8
      subst et8
      (rename _ < D8 ∧ a8 < D8 ∧ _ => ltD)
      obtain ⟨_, _, gt1, gt2, gt3, gt4⟩ := ltD
      refine' kfor_end ⟨k9, u9, d9, us9, e9, ws7 ++ [.bytes wb9 tw9], wn7 + 1, .ref D8, (D8, tupObj #[.str "and" t8, .ref a6, .ref a8]) :: (a8, o8) :: tl7, b8, ts7 ++ [⟨kept9, octs9, plus9, j9.toNat⟩]⟩ (by assumption) wN ?enq ?eoq ?eaq trivial ?ekq ?erq (linv_next (k' := k9) (t' := u9) (e0 := d9) (e1 := e9) (n := wn7 + 1) (tb := tw9) hp8 hi9 hl9 hS9 (by omega) hwb9 hok8 ⟨_, rfl⟩ (tree_next z1 hS9 hkv9 hK8 hok8 z3) (off_cons (ne_gt gt1) (ne_gt gt2) (ne_gt gt3) (off_cons (ne_gt lt1) (ne_gt lt2) (ne_gt lt3) q7)))
      case enq => exact sub3 (by k_mem) (by k_mem) (by k_mem) (fun p hp => by
        rcases List.mem_cons.mp hp with rfl | hp
        · exact .head _
        · rcases List.mem_cons.mp hp with rfl | hp
          · exact .tail _ (.tail _ (.head _))
          · exact .tail _ (.tail _ (.tail _ (.tail _ (.tail _ (.tail _ (List.mem_append_left _ hp)))))))
      case eoq => exact fun p hp => .tail _ (.tail _ (.tail _ (.tail _ (.tail _ (.tail _ (List.mem_append_right _ hp))))))
      case eaq => exact off_next (new := [(D8, tupObj #[.str "and" t8, .ref a6, .ref a8]), (a8, o8)]) hoff7 rfl (fun q hq p hp => by
        rcases List.mem_cons.mp hq with rfl | hq
        · exact lt_own gt4 p hp
        · rw [List.mem_singleton.mp hq]; exact lt_own lt4 p hp)
      case ekq => exact List.forall_mem_cons.mpr ⟨by with_unfolding_all rfl, List.forall_mem_cons.mpr ⟨by with_unfolding_all rfl, List.forall_mem_nil _⟩⟩
      case erq =>
        intro z h1 h2 h3
        have e1 := h2 _ (.head _)
        have e2 := h2 _ (.tail _ (.head _))
        dsimp only at e1 e2
        have h4 := h3
        simp only [List.contains_cons, List.contains_nil, Bool.or_false, Bool.or_eq_false_iff, beq_eq_false_iff_ne] at h4
        obtain ⟨s1, s2, s3, s4, s5⟩ := h4
        simp only [if_neg h1, if_neg e1, if_neg e2, if_neg s1, if_neg s2, if_neg s3, if_neg s4, if_neg s5, kstB, h3, Bool.false_eq_true, if_false]
        try rfl
  case doneq =>
    intro c u7 h7 tk7 _ hp7 F7 N7
    obtain ⟨k7, b7, d7, us7, e7, ws7, wn7, tv7, tl7, ir7, ts7⟩ := c
    (rename AlOk _ _ => hal8)
    obtain ⟨q1, ⟨ns7, hi7⟩, hl7, ⟨ps7, q2, q3⟩, q4, q5, q6, q7, hBl7, hWB7, hWl7⟩ := hp7
    dsimp only at q1 q2 q3 q4 q5 q6 q7 hi7 hl7 F7
    (simp only [ledL] at N7)
    subst q2
    have hts7 : ts7.length ≤ 3 := by rw [q1, rangeKs_length]; omega
    have hts8 : ts7.length = (ts7.length - 1) + 1 := by rw [q1, rangeKs_length]; omega
    obtain ⟨hsz7, hjo7, hro7⟩ := law_words q3 q4 hts7
    have hbt7 : KBw.bInts #[13, 10] = [13, 10] := rfl
    have hks7 : (rowW (ts7.map TD.ints) ++ [13, 10]).length ≤ 4000 := by rw [List.length_append]; exact Nat.le_trans (Nat.add_le_add_right hro7 _) (by decide)
    obtain ⟨a6, z2, z3⟩ : ∃ a, tv7 = Value.ref a ∧ (ir7 = true → DatIn tl7 tv7 (treeT ts7)) := by
      rcases q6 with ⟨z1, _⟩ | ⟨_, ⟨a6, z2⟩, z3⟩
      · rw [z1] at hts8; cases hts8
      · exact ⟨a6, z2, z3⟩
    subst z2
    (k_with_none; (k_with "units_room" => ((ktr_units))); (k_with "k_room" => ((ktr_room))); (k_with "k_all" => (first | assumption | exact fun q hq => Nat.ne_of_lt (ktn_ltOf (by assumption) q hq))); (k_with "exec While BoolOp cons nil" => ((k_here; k_extra "W"))); (k_with "exec While Compare cons nil" => ((k_here; k_extra "W"))); (k_with "call ref" => ((k_here; first | k_extra "C" | (k_extra "HOLD"; refine Hold.out ?_)))); (k_with "eval ListComp" => ((k_here; k_extra "L"))); (k_with "pyIter ref" => ((k_here; k_extra "F"))); (k_with "exec For Name Call cons nil" => ((k_here; k_extra "FOR"; (rename Fr _ _ _ _ => lF'); (with_unfolding_all refine' For_invVF lF' ?k1 ?k2 ?_; (case k1 => exact rfl); (case k2 => exact rfl); k_whole)))); (k_with "exec For Name Name cons nil" => ((k_here; k_extra "FOR"; (rename Fr _ _ _ _ => lF'); (with_unfolding_all refine' For_invVF lF' ?k1 ?k2 ?_; (case k1 => exact rfl); (case k2 => exact rfl); k_whole)))); (k_with "compareOp In int bytes" => ((k_here; refine in_bytes_K (by omega) (by omega) ?_))); (k_with "compareOp NotIn int bytes" => ((k_here; refine notin_bytes_K (by omega) (by omega) ?_))); (k_with "pyIter bytes" => ((k_here; k_extra "FB"))); (k_with "call type:bytes" => ((k_here; (with_reducible show wpAny _ _ (call (Value.type "bytes") [Value.bytes _ _]) _ _ _); refine call_bytes_bytes ?_))); (k_with "NE1" => (first | with_reducible assumption | exact And.right (by with_reducible assumption) | exact And.right (And.right (by with_reducible assumption)) | exact And.right (And.right (And.right (by with_reducible assumption))))); (k_with "NE2" => (first | with_reducible assumption | exact And.right (by with_reducible assumption) | exact And.right (And.right (by with_reducible assumption)) | exact And.right (And.right (And.right (by with_reducible assumption))) | exact And.right (And.right (And.right (And.right (by k_extra "NE1")))))); (k_with "NE3" => (first | with_reducible assumption | exact And.right (by with_reducible assumption) | exact And.right (And.right (by with_reducible assumption)) | exact And.right (And.right (And.right (by with_reducible assumption))) | exact And.right (And.right (And.right (And.right (by k_extra "NE2")))))); (k_with "kwd_less" => (first | with_reducible assumption | exact And.left (by k_extra "NE3") | exact And.right (by k_extra "NE3"))); (k_with "k_ne" => (((try dsimp only); first | with_reducible assumption | exact Ne.symm (by with_reducible assumption) | (refine ne_gt ?_; kwd_less) | (refine ne_lt ?_; kwd_less) | kwd_less | (refine Ne.symm ?_; kwd_less)))); (k_with "ktr_room" => (first | exact room_lt (by assumption) (by rfl) | exact room_same (by assumption) (by rfl))); (k_with "ktr_units" => (exact units_lt (by assumption) (by rfl))); (k_with "eval Constant bytes" => ((refine xs_bytes ?_))); (k_with "binaryOp Sub int int" => ((refine xs_sub ?_))); (k_with "binaryOp Mod int int" => ((k_here; refine xs_mod (by decide) ?_))); (k_with "newList" => ((k_here; k_dflt (refine' xs_list ?xlF ?xlN ?_; (case xlF => k_asm); (case xlN => k_asm); k_whole); intro _ _ _ _ xll; (try k_lt xll); (try k_sweep)))); (k_with "eval Constant int" => ((refine xs_int ?_))); (k_with "eval Constant str" => ((refine xs_str ?_))); (k_with "binaryOp Add int int" => ((refine xs_add ?_))); (k_with "storeName" => ((k_here; k_dflt (refine' xs_store ?xsF ?xsN ?_ ?xsa ?xsb; (case xsF => k_asm); (case xsN => k_asm); (case xsa => rfl); (case xsb => rfl); k_whole; intro _ _ _; (try k_sweep))))); (k_with "newTuple" => ((k_here; kup_bare; k_dflt (refine' xs_tuple ?xtF ?xtN ?_ ?xtz; (case xtF => k_asm); (case xtN => k_asm); (case xtz => kmk_size)); intro _ _ _ _ xtl; (try k_lt xtl); (try k_sweep)))); (k_with "subscriptTail Name Call ref int" => ((k_here; k_extra "S1"))); (k_with "subscriptTail" => ((k_here; (with_reducible show wpAny _ _ (subscriptTail (Expr.Tuple _ _ _) _ (Value.ref _) (Value.int _ _)) _ _ _); first | k_extra "S2" | k_extra "S3"))); (k_with "call type:range" => ((k_here; k_extra "RG"; (rename Fr _ _ _ _ => F'); (rename News _ _ _ _ => N'); (with_unfolding_all refine range1_rows F' N' ?_; intro _ _ _ _ _ _ _ _ _)))); (k_with "call type:bytes" => ((k_here; k_extra "BY"))); (k_with "eval IfExp" => ((k_here; k_extra "IE"))); (k_with "BytesOr" => ((k_extra "BO"))); (k_with "TbEnd" => ((refine Hold.out ?_))); (k_with "assign Tuple" => ((k_here; k_extra "AT"))); (k_with "eval Name" => ((k_here; first | (with_reducible show wpAny _ _ (eval (Expr.Name (Str.ofString "bytes") _) _) _ _ _) | (with_reducible show wpAny _ _ (eval (Expr.Name (Str.ofString "len") _) _) _ _ _)); (k_dflt (refine' nameX_B ?nFq ?nXq ?nTq ?neq ?nvq ?nnq ?_ ?naq ?nbq; (case nFq => k_asm); (case nXq => k_asm); (case nTq => k_asm); (case naq => rfl); (case nbq => rfl); (case neq => k_is); (case nvq => boot_fast); (case nnq => decide))))); (k_with "eval BoolOp" => ((k_here; k_extra "BL"))); (k_with "JoinBool" => ((refine Hold.out ?_))); (k_with "call builtin:list.append" => ((k_here; k_extra "AP"))); (k_with "getMethod bytes" => ((k_here; refine method_join ?_))); (k_with "call builtin:bytes.join" => ((k_here; k_extra "BJ"))); (k_with "noteFrame ref" => ((k_here; k_extra "NF"))); (k_with "compareOp Eq ref ref" => ((k_here; k_extra "EQ"))))
    k_with "BJ" => (k_dflt (refine' bytes_join (ps := ps7) (News.isList N7 (.tail _ (.tail _ (.head _)))) hsz7 ?_); intro t' k'; (generalize PySem.Builtin.Bytes.joined #[32] (ps7.map (·.1)) = jb7 at hjo7 ⊢); (generalize hkr7 : rowW (ts7.map TD.ints) = kr7 at hjo7 hro7 hks7))
    k_with "C" => ((with_reducible show wpAny _ _ (call (Value.ref 424) _) _ _ _); k_dflt (refine' WB.use5 (law_query _ _ _ _ _ _ _ _ (kr7 ++ [13, 10]) ?hbq hks7 ?hxdq way7 x7 _ hal8.1 hal8.2.1 hal8.2.2.1 hal8.2.2.2 ts7 (ts7.length - 1) hts8 q4 (by rw [hkr7])) ?hoffq ?hxq ?hmq ?hrq ?Bq ?Fq ?Xq ?XBq ?Nq ?Tq ?TBq ?hkq ?hdq ?huq ?retq ?errq; (case hbq => assumption); (case hxdq => k_ne); (case hoffq => exact fun q hq => Nat.ne_of_lt (ktn_ltOf (by (first | (first | assumption | exact And.right (by assumption) | exact And.right (And.right (by assumption)) | exact And.right (And.right (And.right (by assumption))) | exact And.right (And.right (And.right (And.right (by assumption)))) | exact And.right (And.right (And.right (And.right (And.right (by assumption))))) | exact And.right (And.right (And.right (And.right (And.right (And.right (by assumption)))))) | exact And.right (And.right (And.right (And.right (And.right (And.right (And.right (by assumption)))))))) | kwd_inv)) q hq)); (first | (((case Nq => k_asm); (case Bq => k_asm); (case Fq => k_asm); (case Xq => k_asm); (case Tq => with_reducible assumption); (case hkq => first | exact rfl | assumption); (case hdq => first | decide | exact Nat.lt_of_ble_eq_true rfl); (case huq => first | decide | exact Nat.lt_of_ble_eq_true rfl))) | (((case N => k_asm); (case B => k_asm); (case F => k_asm); (case X => k_asm); (case T => k_asm); (case hk => first | exact rfl | assumption); (case hd => ktr_room); (case hu => ktr_units))) | tb_start); (case XBq => k_asm); (case TBq => k_asm); (case hxq => exact .tail _ (.head _)); (case hmq => first | k_mem | with_unfolding_all exact .tail _ (.tail _ (.head _))); (case hrq => exact fun p hp => .tail _ (.tail _ (.tail _ (.tail _ (.tail _ (.tail _ hp))))))); (case' retq => (intro hok9 v9 ta9 tl9 h9 tk9 ho9 hD9 F9 N9; (have hir9 := q5.mpr hok9); (subst hir9); (have z4 := z3 rfl); (obtain ⟨a9, hv9⟩ := tree_ref hD9); (subst hv9); try dsimp only)); (case' errq => (intro hno9 e9 h9 tk9 hT9; (have hir9 : ir7 = false := by cases ir7 with | false => rfl | true => exact absurd (q5.mp rfl) hno9); (subst hir9))))
    k_steps
    · obtain ⟨g8, B8, a8, c8, FG8, hsm8, hBs8, hBG8, hw8⟩ := hT9
      k_dflt (refine' catch_at FG8 hsm8 hBG8 hw8 ?Kq ?XBq ?TBq ?exq (excOk_ _ (.inr rfl)) ?_ ?hkq ?hxq ?hdq ?hEq; (case Kq => assumption); (case XBq => k_asm); (case TBq => k_asm); (case exq => k_is); (case hkq => rfl); (case hxq => rfl); (case hdq => decide); (case hEq => passes_own)); intro h8 g8' oe8 ws8 T8 F8 K8 X8 P8 N8 hd8 h28
      k_steps
      dsimp only
      (with_reducible rename Fr _ _ _ _ => wF)
      have wF2 := fr_turn wF T8 rfl
      close_w
    · with_reducible show wpAny _ _ (compareOp CmpOp.Eq (Value.ref a9) (Value.ref a6)) _ _ _
      (with_reducible rename News _ _ _ _ => wN)
      k_dflt (refine' tree_eq wN hts7 hD9 z4 ?huq ?_; (case huq => first | decide | exact Nat.le_of_ble_eq_true rfl))
      k_steps
end
end Mine
theorem PySem.Challenge.cw_or0070_01_holds : PySem.Challenge.rw_or0070_01.Holds :=
  Mine.main
