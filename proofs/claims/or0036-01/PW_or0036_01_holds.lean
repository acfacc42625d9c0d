import PyProof.Rows.All
import Wide.All
import OpenK.AllK
import Wide.FinOn
import Lean
import PySem.Challenge.RW_or0036_01
open PySem PySem.W PyProof.Rows
set_option Elab.async false
set_option maxRecDepth 100000
set_option maxHeartbeats 8000000
open PySem.Calls PySem.Spec
set_option linter.all false
set_option linter.unusedSimpArgs false
set_option linter.unusedVariables false
namespace Mine
open_top hd for PySem.Challenge.rw_or0036_01
local macro_rules | `(tactic| walk_at $s:str) => `(tactic| k_extra $s)
@[reducible] noncomputable def PG : Program := PySem.Challenge.rw_or0036_01.row.prog
@[reducible] noncomputable def LS : List Str := looseW hd.view_39 [Str.ofString "PostError", Str.ofString "CHARSETS", Str.ofString "UNKNOWN_SIGN"]
theorem fill : (PySem.Challenge.rw_or0036_01 = PySem.Challenge.rw_or0036_01) ∧ hd.heap_39 = hd.heap_39 := by w_top off; k_fill; exact ⟨rfl, rfl⟩
@[reducible] noncomputable def Led := List (Addr × Obj)
@[reducible] noncomputable def Vals := List Value
@[reducible] noncomputable def Nm := Str → Option Value
@[reducible] noncomputable def Mn := ExcName → Option Value
@[reducible] noncomputable def topA (hdl : Option Value) (dp un : Nat) (gd : Option (List Code)) (cn : Str) (cs : Scope) (L a : Addr) (ccd : Value) (cl : List (Str × Addr)) (outer : List Env) : Around :=
  { handled := hdl, depth := dp, frames := some (envX cn cs L a ccd cl :: outer), guards := gd, units := un }
noncomputable def Ctr (w : World) (mean : Mn) (mg mb : Nm) (hdl : Option Value) (f : Addr) (vs : List Value) (dd uu : Nat) (news : Led) (Post : Value → Led → Prop) : Prop :=
  ∀ (dp un : Nat) (gd : Option (List Code)) (cn : Str) (cs : Scope) (a : Addr) (ccd : Value) (cl : List (Str × Addr)) (outer : List Env) (A₀ : Around) (base h₀ : Heap) (L : Addr) (m : Nm) (s : Shared) (Q E : Value → Shared → Prop),
    Below A₀ base outer h₀ → Fr h₀ L s.heap m → (hd.heap_39 w.params).In h₀ → News h₀ L s.heap news → Top hd.view_39 LS mean mg mb h₀ → cs.kind = .function → dp + dd < recursionLimit → un + uu < cLine →
    (∀ (v : Value) (news' : Led) (h' : Heap) (tk' : Nat), Post v news' → Fr h₀ L h' m → News h₀ L h' news' → Q v { s with heap := h', toks := tk' }) →
    wpAny (model PG w) (topA hdl dp un gd cn cs L a ccd cl outer) (call (.ref f) vs) Q E s
@[reducible] noncomputable def isInt (news : Led) (x : Int) : Value → Led → Prop := fun v n => (∃ t, v = .int x t) ∧ n = news
@[reducible] noncomputable def isStr (news : Led) (x : Str) : Value → Led → Prop := fun v n => (∃ t, v = .str x t) ∧ n = news
@[reducible] noncomputable def isBool (news : Led) (x : Bool) : Value → Led → Prop := fun v n => v = .bool x ∧ n = news
@[reducible] noncomputable def tupO (vs : List Value) : Obj := { cls := .type "tuple", data := .seq vs.toArray }
@[reducible] noncomputable def lstO (vs : List Value) : Obj := { cls := .type "list", data := .seq vs.toArray }

theorem ro0 {x a c : Nat} (h : x + a < c) : x < c := Nat.lt_of_le_of_lt (Nat.le_add_right x a) h
theorem ro1 {x a b c : Nat} (h : x + a < c) (q : Nat.ble b a = true) : x + b < c := Nat.lt_of_le_of_lt (Nat.add_le_add_left (Nat.le_of_ble_eq_true q) x) h
theorem ro2 {x p a b c : Nat} (h : x + a < c) (q : Nat.ble (p + b) a = true) : x + p + b < c := Nat.add_assoc x p b ▸ ro1 h q
theorem tn_succ {a : Int} (h : 0 ≤ a) : (a + 1).toNat = a.toNat + 1 := Int.toNat_add h (by decide)
theorem tn_up {a : Int} (h : 0 ≤ a) : ((a.toNat : Nat) : Int) = a := Int.toNat_of_nonneg h
theorem su1 {k n : Nat} (h : k < n) : n - k = n - k - 1 + 1 := (Nat.sub_add_cancel (Nat.sub_pos_of_lt h)).symm
theorem su2 {k n q : Nat} (e : n - k = q + 1) : n - (k + 1) = q := by rw [Nat.sub_add_eq, e]; rfl
theorem em0 {a m : Int} (h : 0 < m) : 0 ≤ a % m := Int.emod_nonneg _ (Int.ne_of_gt h)
theorem eml {a m k : Int} (h : 0 < m) (e : k + 1 = m) : a % m ≤ k := by subst e; exact Int.le_of_lt_add_one (Int.emod_lt_of_pos a h)
theorem sx0 {c a : Int} (h : 0 ≤ c) : 0 ≤ c * 64 + a % 64 := Int.add_nonneg (Int.mul_nonneg h (by decide)) (em0 (by decide))
theorem sxl {c a m k : Int} (h : c ≤ m) (h2 : a % 64 ≤ k) : c * 64 + a % 64 ≤ m * 64 + k := Int.add_le_add (Int.mul_le_mul_of_nonneg_right h (by decide)) h2
theorem sxm {c a m : Int} (h : c ≤ m) : c * 64 + a % 64 ≤ m * 64 + 63 := sxl h (eml (by decide) rfl)
theorem sxj {c a m k : Int} (h0 : 0 ≤ k) (h1 : k < 64) (h : c * 64 + a % 64 = m * 64 + k) : c = m ∧ a % 64 = k := by
  have e1 : a % 64 < 64 := Int.emod_lt_of_pos a (by decide)
  have e0 : 0 ≤ a % 64 := em0 (by decide)
  generalize a % 64 = r at *
  omega
theorem len_at {n : Nat} {i : Int} (h0 : 0 ≤ i) (h : i < (n : Int)) : i.toNat < n := (Int.toNat_lt h0).mpr h
theorem len_le {n : Nat} {i : Int} (h : i ≤ (n : Int)) : i.toNat ≤ n := Int.toNat_le.mpr h
theorem le_len {n : Nat} {i : Int} (h : ¬ i < (n : Int)) : n ≤ i.toNat := Int.le_toNat (Int.le_trans (Int.natCast_nonneg n) (Int.not_lt.mp h)) |>.mpr (Int.not_lt.mp h)
theorem mu_lt {n : Nat} {i l : Int} (h0 : 0 ≤ i) (h : i < (n : Int)) (hl : 1 ≤ l) : n - (i + l).toNat < n - i.toNat := by
  refine Nat.sub_lt_sub_left (len_at h0 h) ?_
  rw [Int.toNat_add h0 (Int.le_trans (by decide) hl)]
  exact Nat.lt_add_of_pos_right (Int.lt_toNat.mpr (Int.lt_of_lt_of_le (by decide) hl))
theorem mu_lt1 {n : Nat} {i l : Int} (h0 : 0 ≤ i) (h : i < (n : Int)) (hl : 0 ≤ l) : n - (i + 1 + l).toNat < n - i.toNat := Int.add_assoc i 1 l ▸ mu_lt h0 h (Int.le_add_of_nonneg_right hl)
theorem drop_len {ks : List Int} {i : Int} (h0 : 0 ≤ i) (h1 : i ≤ (ks.length : Int)) : ((ks.drop i.toNat).length : Int) = (ks.length : Int) - i := by
  rw [List.length_drop, Int.ofNat_sub (len_le h1), tn_up h0]
theorem int_ok {news news' : Led} {x y : Int} {t : Tok} (h : y = x) (hn : news' = news) : isInt news x (.int y t) news' := ⟨⟨t, by rw [h]⟩, hn⟩
theorem str_ok {news news' : Led} {x y : Str} {t : Tok} (h : y = x) (hn : news' = news) : isStr news x (.str y t) news' := ⟨⟨t, by rw [h]⟩, hn⟩
theorem bool_ok {news news' : Led} {x y : Bool} (h : y = x) (hn : news' = news) : isBool news x (.bool y) news' := ⟨by rw [h], hn⟩

theorem ret_use {Post : Value → Led → Prop} {h₀ h' : Heap} {L : Addr} {m : Nm} {s : Shared} {Q : Value → Shared → Prop} {v : Value} {news' news'' : Led} {tk' : Nat}
    (hret : ∀ (v : Value) (news' : Led) (h' : Heap) (tk' : Nat), Post v news' → Fr h₀ L h' m → News h₀ L h' news' → Q v { s with heap := h', toks := tk' })
    (p : Post v news') (F : Fr h₀ L h' m) (N : News h₀ L h' news'') (S : ∀ p ∈ news', p ∈ news'') : Q v { s with heap := h', toks := tk' } :=
  hret v news' h' tk' p F (cb_drop N S)
theorem ctr_use {w : World} {mean : Mn} {mg mb : Nm} {hdl : Option Value} {f : Addr} {vs : List Value} {dd uu : Nat} {news : Led} {Post : Value → Led → Prop} {dp un : Nat} {gd : Option (List Code)} {cn : Str} {cs : Scope} {a : Addr} {ccd : Value} {cl : List (Str × Addr)} {outer : List Env} {A₀ : Around} {base h₀ : Heap} {L : Addr} {m : Nm} {s : Shared} {Q E : Value → Shared → Prop}
    (C : Ctr w mean mg mb hdl f vs dd uu news Post) (hB : Below A₀ base outer h₀) (hF : Fr h₀ L s.heap m) (hK : (hd.heap_39 w.params).In h₀) (hN : News h₀ L s.heap news) (hT : Top hd.view_39 LS mean mg mb h₀) (hk : cs.kind = .function) (hdp : dp + dd < recursionLimit) (hun : un + uu < cLine)
    (hret : ∀ (v : Value) (news' : Led) (h' : Heap) (tk' : Nat), Post v news' → Fr h₀ L h' m → News h₀ L h' news' → Q v { s with heap := h', toks := tk' }) :
    wpAny (model PG w) (topA hdl dp un gd cn cs L a ccd cl outer) (call (.ref f) vs) Q E s := C dp un gd cn cs a ccd cl outer A₀ base h₀ L m s Q E hB hF hK hN hT hk hdp hun hret
noncomputable def Kept (H h' : Heap) (sub n' : Led) : Prop := (∀ b o, H.get? b = some o → b ∉ sub.map (·.1) → h'.get? b = some o) ∧ ∀ p ∈ n', p.1 ∈ sub.map (·.1) ∨ H.get? p.1 = none
noncomputable def CtrG (w : World) (mean : Mn) (mg mb : Nm) (hdl : Option Value) (f : Addr) (vs : List Value) (dd uu : Nat) (sub : Led) (Post : Value → Led → Prop) : Prop :=
  ∀ (dp un : Nat) (gd : Option (List Code)) (cn : Str) (cs : Scope) (a : Addr) (ccd : Value) (cl : List (Str × Addr)) (outer : List Env) (A₀ : Around) (base h₀ : Heap) (L : Addr) (m : Nm) (s : Shared) (Q E : Value → Shared → Prop),
    Below A₀ base outer h₀ → Fr h₀ L s.heap m → (hd.heap_39 w.params).In h₀ → News h₀ L s.heap sub → Top hd.view_39 LS mean mg mb h₀ → cs.kind = .function → dp + dd < recursionLimit → un + uu < cLine →
    (∀ (v : Value) (n' : Led) (h' : Heap) (tk' : Nat), Post v n' → Fr h₀ L h' m → News h₀ L h' n' → Kept s.heap h' sub n' → Q v { s with heap := h', toks := tk' }) →
    wpAny (model PG w) (topA hdl dp un gd cn cs L a ccd cl outer) (call (.ref f) vs) Q E s
theorem ctr_of_G {w : World} {mean : Mn} {mg mb : Nm} {hdl : Option Value} {f : Addr} {vs : List Value} {dd uu : Nat} {sub : Led} {Post : Value → Led → Prop} (C : CtrG w mean mg mb hdl f vs dd uu sub Post) {rest : Led} (hoff : ∀ p ∈ sub, ∀ q ∈ rest, p.1 ≠ q.1) :
    Ctr w mean mg mb hdl f vs dd uu (sub ++ rest) (fun v n => ∃ n', n = n' ++ rest ∧ Post v n' ∧ ∀ p ∈ n', ∀ q ∈ rest, p.1 ≠ q.1) := by
  intro dp un gd cn cs a ccd cl outer A₀ base h₀ L m s Q E hB hF hK hN hT hk hdp hun hret
  refine C dp un gd cn cs a ccd cl outer A₀ base h₀ L m s Q E hB hF hK (cb_drop hN fun p hp => List.mem_append_left _ hp) hT hk hdp hun fun v n' h' tk' hp hF' hN' hk' => ?_
  have hr : ∀ q ∈ rest, q.1 ∉ sub.map (·.1) := fun q hq hm => by
    obtain ⟨p, hp, e⟩ := List.mem_map.mp hm
    exact hoff p hp q hq e
  refine hret v (n' ++ rest) h' tk' ⟨n', rfl, hp, fun p hp q hq e => ?_⟩ hF' fun q hq => ?_
  · rcases hk'.2 p hp with hs | hs
    · rw [e] at hs; exact hr q hq hs
    · have := (hN q (List.mem_append_right _ hq)).1
      rw [e, this] at hs; cases hs
  · rcases List.mem_append.mp hq with hq | hq
    · exact hN' q hq
    · have h1 := hN q (List.mem_append_right _ hq)
      exact ⟨hk'.1 _ _ h1.1 (hr q hq), h1.2⟩
theorem ret_useG {Post : Value → Led → Prop} {H h₀ h' g : Heap} {L L' : Addr} {m m' : Nm} {s : Shared} {Q : Value → Shared → Prop} {v : Value} {sub n' n'' : Led} {tk' : Nat}
    (hret : ∀ (v : Value) (n' : Led) (h' : Heap) (tk' : Nat), Post v n' → Fr h₀ L h' m → News h₀ L h' n' → Kept H h' sub n' → Q v { s with heap := h', toks := tk' })
    (G : GSub H g (sub.map (·.1))) (p : Post v n') (F : Fr h₀ L h' m) (N : News h₀ L h' n'') (F' : Fr g L' h' m') (N' : News g L' h' n'') (S : ∀ p ∈ n', p ∈ n'') : Q v { s with heap := h', toks := tk' } := by
  refine hret v n' h' tk' p F (cb_drop N S) ⟨fun b o e n => F'.keep b o (G b o e n), fun p hp => ?_⟩
  by_cases hm : p.1 ∈ sub.map (·.1)
  · exact .inl hm
  · right
    cases e : H.get? p.1 with
    | none => rfl
    | some o =>
      have h1 := G _ _ e hm
      rw [(N' p (S p hp)).2.2] at h1; cases h1
noncomputable def AllNe (a : Addr) : Led → Prop
  | [] => True
  | p :: r => @Ne Nat a p.1 ∧ AllNe a r
theorem allNe_of {a : Addr} : ∀ {l : Led}, (∀ q ∈ l, a ≠ q.1) → AllNe a l
  | [], _ => trivial
  | q :: r, h => ⟨h q (.head _), allNe_of fun p hp => h p (.tail _ hp)⟩
noncomputable def CtrX (w : World) (mean : Mn) (mg mb : Nm) (X : Heap → Prop) (hdl : Option Value) (f : Addr) (vs : List Value) (dd uu : Nat) (sub : Led) (Post : Value → Led → Prop) : Prop :=
  ∀ (dp un : Nat) (gd : Option (List Code)) (cn : Str) (cs : Scope) (a : Addr) (ccd : Value) (cl : List (Str × Addr)) (outer : List Env) (A₀ : Around) (base h₀ : Heap) (L : Addr) (m : Nm) (s : Shared) (Q E : Value → Shared → Prop),
    Below A₀ base outer h₀ → Fr h₀ L s.heap m → (hd.heap_39 w.params).In h₀ → News h₀ L s.heap sub → Top hd.view_39 LS mean mg mb h₀ → cs.kind = .function → dp + dd < recursionLimit → un + uu < cLine → X s.heap →
    (∀ (v : Value) (n' : Led) (h' : Heap) (tk' : Nat), Post v n' → Fr h₀ L h' m → News h₀ L h' n' → Kept s.heap h' sub n' → Q v { s with heap := h', toks := tk' }) →
    wpAny (model PG w) (topA hdl dp un gd cn cs L a ccd cl outer) (call (.ref f) vs) Q E s
section
/-- the ways of one step meet again: what it gives is said by P, the frame and the ledger stand -/
noncomputable def JoinE {α : Type} (h₀ : Heap) (L : Addr) (m : Nm) (news : Led) (s : Shared) (P : α → Prop) (v : α) (s' : Shared) : Prop :=
  ∃ h' tk', P v ∧ Fr h₀ L h' m ∧ News h₀ L h' news ∧ s' = { s with heap := h', toks := tk' }
theorem JoinE.intro {α : Type} {h₀ h' : Heap} {L : Addr} {m : Nm} {news nx : Led} {s : Shared} {P : α → Prop} {v : α} {tk' : Nat} (F : Fr h₀ L h' m) (N : News h₀ L h' nx) (S : ∀ p ∈ news, p ∈ nx) (p : P v) :
    JoinE h₀ L m news s P v { s with heap := h', toks := tk' } := ⟨h', tk', p, F, cb_drop N S, rfl⟩
theorem join_v {α : Type} {M : Model} {A : Around} {E : Value → Shared → Prop} {s : Shared} {h₀ : Heap} {L : Addr} {m : Nm} {news : Led} {Q : α → Shared → Prop} {x : Sem α} (F : Fr h₀ L s.heap m) (N : News h₀ L s.heap news) (P : α → Prop)
    (h : wpAny M A x (JoinE h₀ L m news s P) E s) (k : ∀ v h' tk', P v → Fr h₀ L h' m → News h₀ L h' news → Q v { s with heap := h', toks := tk' }) : wpAny M A x Q E s :=
  wpAny_mono h (fun v _ ⟨h', tk', p, F', N', e⟩ => e ▸ k v h' tk' p F' N') fun _ _ e => e
theorem join_int {M : Model} {A : Around} {E : Value → Shared → Prop} {s : Shared} {h₀ : Heap} {L : Addr} {m : Nm} {news : Led} {Q : Value → Shared → Prop} {x : Sem Value} (n : Int) (F : Fr h₀ L s.heap m) (N : News h₀ L s.heap news)
    (h : wpAny M A x (JoinE h₀ L m news s fun v => ∃ t, v = .int n t) E s) (k : ∀ t h' tk', Fr h₀ L h' m → News h₀ L h' news → Q (.int n t) { s with heap := h', toks := tk' }) : wpAny M A x Q E s :=
  join_v F N _ h fun v h' tk' ⟨t, e⟩ F' N' => e ▸ k t h' tk' F' N'
theorem join_bool {M : Model} {A : Around} {E : Value → Shared → Prop} {s : Shared} {h₀ : Heap} {L : Addr} {m : Nm} {news : Led} {Q : Value → Shared → Prop} {x : Sem Value} (b : Bool) (F : Fr h₀ L s.heap m) (N : News h₀ L s.heap news)
    (h : wpAny M A x (JoinE h₀ L m news s fun v => v = .bool b) E s) (k : ∀ h' tk', Fr h₀ L h' m → News h₀ L h' news → Q (.bool b) { s with heap := h', toks := tk' }) : wpAny M A x Q E s :=
  join_v F N _ h fun v h' tk' e F' N' => e ▸ k h' tk' F' N'
theorem join_is {M : Model} {A : Around} {E : Value → Shared → Prop} {s : Shared} {h₀ : Heap} {L : Addr} {m : Nm} {news : Led} {Q : Bool → Shared → Prop} {x : Sem Bool} (b : Bool) (F : Fr h₀ L s.heap m) (N : News h₀ L s.heap news)
    (h : wpAny M A x (JoinE h₀ L m news s fun v => v = b) E s) (k : ∀ h' tk', Fr h₀ L h' m → News h₀ L h' news → Q b { s with heap := h', toks := tk' }) : wpAny M A x Q E s :=
  join_v F N _ h fun v h' tk' e F' N' => e ▸ k h' tk' F' N'
theorem ite_ff {a b : Prop} [i : Decidable (false = true)] (h : b) : @ite Prop (false = true) i a b := by rw [if_neg Bool.false_ne_true]; exact h
theorem ite_tt {a b : Prop} [i : Decidable (true = true)] (h : a) : @ite Prop (true = true) i a b := by rw [if_pos rfl]; exact h
theorem int_is {n k : Int} {t : Tok} (e : n = k) : ∃ u, Value.int n t = Value.int k u := ⟨t, by rw [e]⟩
/-- the ways of a statement that may store one int name meet again -/
noncomputable def JoinS (h₀ : Heap) (L : Addr) (m : Nm) (news : Led) (s : Shared) (y : Str) (f : Flow) (s' : Shared) : Prop :=
  ∃ c t h' tk', f = .next ∧ Fr h₀ L h' (fun z => if z = y then some (.int c t) else m z) ∧ News h₀ L h' news ∧ s' = { s with heap := h', toks := tk' }
theorem JoinS.stored {h₀ h' : Heap} {L : Addr} {m : Nm} {news nx : Led} {s : Shared} {y : Str} {c : Int} {t : Tok} {tk' : Nat} (F : Fr h₀ L h' (fun z => if z = y then some (.int c t) else m z)) (N : News h₀ L h' nx) (S : ∀ p ∈ news, p ∈ nx) :
    JoinS h₀ L m news s y .next { s with heap := h', toks := tk' } := ⟨c, t, h', tk', rfl, F, cb_drop N S, rfl⟩
theorem JoinS.kept {h₀ h' : Heap} {L : Addr} {m : Nm} {news nx : Led} {s : Shared} {y : Str} {c : Int} {t : Tok} {tk' : Nat} (F : Fr h₀ L h' m) (hy : m y = some (.int c t)) (N : News h₀ L h' nx) (S : ∀ p ∈ news, p ∈ nx) :
    JoinS h₀ L m news s y .next { s with heap := h', toks := tk' } := by
  refine ⟨c, t, h', tk', rfl, ?_, cb_drop N S, rfl⟩
  have e : (fun z => if z = y then some (.int c t) else m z) = m := by
    funext z
    by_cases h : z = y
    · rw [if_pos h, h, hy]
    · rw [if_neg h]
  rw [e]; exact F
theorem join_s {M : Model} {A : Around} {E : Value → Shared → Prop} {s : Shared} {h₀ : Heap} {L : Addr} {m : Nm} {news : Led} {Q : Flow → Shared → Prop} {x : Sem Flow} (y : Str) (F : Fr h₀ L s.heap m) (N : News h₀ L s.heap news)
    (h : wpAny M A x (JoinS h₀ L m news s y) E s) (k : ∀ c t h' tk', Fr h₀ L h' (fun z => if z = y then some (.int c t) else m z) → News h₀ L h' news → Q .next { s with heap := h', toks := tk' }) : wpAny M A x Q E s :=
  wpAny_mono h (fun f _ ⟨c, t, h', tk', e1, F', N', e⟩ => by subst e1; subst e; exact k c t h' tk' F' N') fun _ _ e => e
/-- the count of tokens is of no matter -/
theorem tok_any {α : Type} {M : Model} {A : Around} {E : Value → Shared → Prop} {s : Shared} {Q : α → Shared → Prop} {x : Sem α} (h : ∀ k, wpAny M A x Q E { s with toks := k }) : wpAny M A x Q E s := h s.toks
end
section
theorem said_b_span_1 : True := by
  k_with_none
  trivial
theorem said_b_span_2 : True := by
  k_with "mine room" => (first | exact ro0 (by assumption) | exact ro2 (by assumption) (by rfl) | exact ro1 (by assumption) (by rfl) | exact Nat.lt_of_succ_le (Nat.le_of_ble_eq_true (by rfl)) | ktr_room)
  k_with "mine enter" => ((refine' code_def ?zzk1 ?zzk2 ?zzk3 ?zzk4 ?zzk5 ?zzkA ?zzkF ?zzkK ?zzk6 ?zzk7 ?zzk8 ?zzk9 ?zzkB ?_ ?zzc2 ?zzc3 ?zzc4 ?zzc5; (case zzkA => exact rfl); (case zzkF => exact rfl); (case zzkK => assumption); (case zzk1 => k_asm); (case zzk2 => k_asm); (case zzk3 => k_asm); (case zzk4 => k_asm); (case zzk5 => k_asm); (case zzk6 => k_is); (case zzk7 => k_is); (case zzk8 => walk_at "mine room"); (case zzk9 => exact BindsTo.of_eq rfl); (case zzc5 => decide); (case zzkB => exact locs rfl); (case zzc2 => exact rfl); (case zzc3 => exact rfl); (case zzc4 => exact rfl); k_whole; intro g' L' h' FG' F' N' B' X' T'; (try dsimp only); (try k_lift B'); (try k_fold)))
  k_with "mine enterC" => ((refine' code_defC ?zzk1 ?zzk2 ?zzk3 ?zzk4 ?zzk5 ?zzkA ?zzkF ?zzkK ?zzk6 ?zzk7 ?zzk8 ?zzk9 ?zzkB ?zzkD ?_ ?zzc2 ?zzc3 ?zzc4; (case zzkA => exact rfl); (case zzkF => exact rfl); (case zzkK => assumption); (case zzk1 => k_asm); (case zzk2 => k_asm); (case zzk3 => k_asm); (case zzk4 => k_asm); (case zzk5 => k_asm); (case zzk6 => k_is); (case zzk7 => k_is); (case zzk8 => walk_at "mine room"); (case zzk9 => first | exact BindsTo.of_eq rfl | exact binds_K (by k_in) rfl (by k_is) rfl rfl rfl | fail "mine enterC: no rule for these arguments"); (case zzkB => exact rfl); (case zzkD => decide +kernel); (case zzc2 => exact rfl); (case zzc3 => exact rfl); (case zzc4 => exact rfl); k_whole; intro g' L' h' tk' cells' FG' F' N' Y' B' X' T' l1; (try k_lt l1); k_cells Y'; (try simp only [List.cons_append, List.nil_append] at N'); (try dsimp only); (try k_lift B'); (try k_fold)))
  k_with "mine start" => ((refine wpAny_call ?_; k_dflt (first | walk_at "mine enter" | walk_at "mine enterC")))
  k_with "mine lt" => (first | exact allLt_of (by assumption) | assumption | exact (show _ ∧ AllLt _ _ by assumption).2 | exact (show _ ∧ _ ∧ AllLt _ _ by assumption).2.2 | exact (show _ ∧ _ ∧ _ ∧ AllLt _ _ by assumption).2.2.2 | exact (show _ ∧ _ ∧ _ ∧ _ ∧ AllLt _ _ by assumption).2.2.2.2)
  k_with "execs cons" => ((k_here; (with_reducible show wpAny _ _ (execs (_ :: _) _) _ _ { heap := _, gens := _, drawn := _, toks := _ + 1, os := _ }); refine tok_any ?_; intro tkA; (try dsimp only)))
  trivial
noncomputable def span (c : Int) : Int × Int × Int :=
  if 194 ≤ c ∧ c ≤ 223 then (128, 191, 1)
  else if 224 ≤ c ∧ c ≤ 239 then (if c = 224 then 160 else 128, if c = 237 then 159 else 191, 2)
  else if 240 ≤ c ∧ c ≤ 244 then (if c = 240 then 144 else 128, if c = 244 then 143 else 191, 3)
  else (0, 0, 0)
@[reducible] noncomputable def isSpan (news : Led) (x : Int × Int × Int) : Value → Led → Prop := fun v n => ∃ a t1 t2 t3, v = .ref a ∧ AllLt a news ∧ n = (a, tupO [.int x.1 t1, .int x.2.1 t2, .int x.2.2 t3]) :: news

theorem span_ok {news : Led} {c x y z : Int} {t1 t2 t3 : Tok} {a : Addr} (h : span c = (x, y, z)) (hl : AllLt a news) :
    isSpan news (span c) (.ref a) ((a, tupO [.int x t1, .int y t2, .int z t3]) :: news) := by rw [h]; exact ⟨a, t1, t2, t3, rfl, hl, rfl⟩
theorem said_b_span_3 : True := by
  k_with "mine span end" => ((refine' ret_use (by assumption) (span_ok ?zzkp ?zzkl) ?zzkF ?zzkN ?zzkS; (case zzkF => k_asm); (case zzkN => assumption); (case zzkS => kcj_all); (case zzkl => walk_at "mine lt"); (case zzkp => first | exact spanA (by assumption) (by assumption) | exact spanB (by assumption) (by assumption) | exact spanC (by assumption) (by assumption) | exact spanD (by assumption) | exact spanE (by assumption))))
  trivial

theorem get1 {prog : Program} {w : World} {A : Around} {E : Value → Shared → Prop} {s : Shared} {h₀ : Heap} {L d : Addr} {news : Led} {o : Obj} {x y z k : Int} {t tx ty : Tok} {Q : Value → Shared → Prop} (N : News h₀ L s.heap news) (hp : (d, o) ∈ news)
    (hd : o.IsDictOf (PySem.intKind prog w) [(z, .int x tx)]) (lo : (d == sysModules) = false) (h : ∀ t, Q (.int (if k = z then x else y) t) { s with toks := s.toks + 1 }) :
    wpAny (model prog w) A (call (.builtin "dict.get") [.ref d, .int k t, .int y ty]) Q E s := by
  by_cases hk : k = z
  · subst hk
    rw [if_pos rfl] at h
    refine kdg_get2 N hp hd lo (intKind_is _ _ _ _) (some _) ?_ (h tx)
    unfold valueAt; simp
  · rw [if_neg hk] at h
    refine kdg_get2 N hp hd lo (intKind_is _ _ _ _) none ?_ (h ty)
    have hk' : ¬ z = k := fun q => hk q.symm
    unfold valueAt; simp [hk']
theorem spanA {c : Int} (h1 : 194 ≤ c) (h2 : c ≤ 223) : span c = (128, 191, 1) := if_pos ⟨h1, h2⟩
theorem spanB {c : Int} (h0 : ¬ c ≤ 223) (h2 : c ≤ 239) : span c = (if c = 224 then 160 else 128, if c = 237 then 159 else 191, 2) := (if_neg fun q => h0 q.2).trans (if_pos ⟨Int.add_one_le_of_lt (Int.not_le.mp h0), h2⟩)
theorem spanC {c : Int} (h0 : ¬ c ≤ 239) (h2 : c ≤ 244) : span c = (if c = 240 then 144 else 128, if c = 244 then 143 else 191, 3) :=
  (if_neg fun q => h0 (Int.le_trans q.2 (by decide))).trans ((if_neg fun q => h0 q.2).trans (if_pos ⟨Int.add_one_le_of_lt (Int.not_le.mp h0), h2⟩))
theorem spanD {c : Int} (h : ¬ c ≤ 244) : span c = (0, 0, 0) := (if_neg fun q => h (Int.le_trans q.2 (by decide))).trans ((if_neg fun q => h (Int.le_trans q.2 (by decide))).trans (if_neg fun q => h q.2))
theorem spanE {c : Int} (h : ¬ 194 ≤ c) : span c = (0, 0, 0) := (if_neg fun q => h q.1).trans ((if_neg fun q => h (Int.le_trans (by decide) q.1)).trans (if_neg fun q => h (Int.le_trans (by decide) q.1)))
theorem said_b_span_4 : True := by
  k_with "eval Dict" => ((k_here; k_dflt (refine' kdn_int ?zzq ?zzF ?zzN ?zzb ?zza ?zzl ?zze ?zzn ?_; (case zzq => rfl); (case zzF => k_asm); (case zzN => first | k_asm | exact News.nil); (case zzb => exact Top.nolimit (by k_asm)); (case zza => rfl); (case zzl => rfl); (case zze => exact List.cons_ne_nil _ _); (case zzn => exact Nat.le_of_ble_eq_true rfl)); intro d' h' o' F' N' l1 lo' hd'; (try k_lt l1)))
  k_with "call builtin:dict.get" => ((k_here; k_dflt (refine' get1 ?zzN ?zzp ?zzd ?zzl ?_; (case zzN => k_asm); (case zzp => k_mem); (case zzd => k_asm); (case zzl => k_asm)); intro t9; (try dsimp only)))
  trivial
theorem c_follower_span (w : World) (mean : Mn) (mg mb : Nm) (news : Led) (c : Int) (t : Tok) :
    Ctr w mean mg mb none 88 [.int c t] 1 8 news (isSpan news (span c)) := by
  intro dp un gd cn cs a ccd cl outer A₀ base h₀ L m s Q E hB hF hK hN hT hk hdp hun hret
  walk_at "mine start"
  k_steps
  all_goals walk_at "mine span end"
end
section
section
open PyProof.Rows.LCg PyProof.Rows.LCt
variable {prog : Program} {w : World} {A : Around} {E : Value → Shared → Prop} {s : Shared} {h₀ : Heap} {L : Addr} {m : Nm} {env : Env}

noncomputable def SrcOk (prog : Program) (w : World) (A : Around) (h₀ : Heap) (L : Addr) (xv : Value) (s₁ : Shared) (n : Nat) (P : Nat → Value → Prop) (S : Led → Prop) : Prop :=
  ∀ (Q : Value → Shared → Prop) (E : Value → Shared → Prop),
    (∀ (o : Obj) (fp : List Addr) (St : Nat → Heap → Prop), Walks prog w A s₁.heap.objs.size fp [s₁.heap.objs.size] n P St → St 0 (s₁.heap.push o) → (∀ b ∈ fp, b < (s₁.heap.push o).objs.size) →
      (∀ i h, St i h → ∃ o, h.get? s₁.heap.objs.size = some o) →
      (∀ i (h h' : Heap) o nw, St i h → h.get? s₁.heap.objs.size = some o → h'.get? s₁.heap.objs.size = some o → (∀ b o, h₀.get? b = some o → h'.get? b = some o) → News h₀ L h' nw → S nw → St i h') →
      Q (.ref s₁.heap.objs.size) { s₁ with heap := s₁.heap.push o }) → wpAny (model prog w) A (pyIter xv) Q E s₁

noncomputable def CSrc (prog : Program) (w : World) (A : Around) (h₀ : Heap) (L : Addr) (m : Nm) (env : Env) (ct elt : Expr) (x : Str) (scope : Scope) (cl : List (Str × Addr)) (Q : Value → Shared → Prop) (xv : Value) (s₁ : Shared) : Prop :=
  ∃ n P S news, n ≤ sizeLine ∧ Fr h₀ L s₁.heap m ∧ News h₀ L s₁.heap news ∧ S news ∧ SrcOk prog w A h₀ L xv s₁ n P S ∧
    ∀ s₂ : Shared, (∃ h, s₂ = { s₁ with heap := h }) → CompRestT prog w A h₀ L m env ct elt x scope cl s₂ S P (FinE h₀ L m s₂ Q) n 0 [] news

theorem comp_T {ct elt iter : Expr} {x : Str} {px : Pos} {scope : Scope} {cl : List (Str × Addr)} {pos : Pos} {Q : Value → Shared → Prop} (_F₀ : Fr h₀ L s.heap m)
    (hclos : closureFor scope env = pure cl) (hcell : ∀ y ∈ scope.names, y.2 ≠ .cell) (hkind : scope.kind = .function)
    (hnames : ∀ y ∈ scope.names, y.2 = .local → scope.names.lookup y.1 = some .local) (hx : scope.names.lookup x = some .local)
    (h : wpAny (model prog w) A (eval iter env) (CSrc prog w A h₀ L m env ct elt x scope cl Q) E s)
    (hs : ∀ x, foldedSetIterable iter env x = pure x) :
    wpAny (model prog w) A (eval (.ListComp elt [⟨.Name x px, iter, [ct], 0⟩] scope pos) env) Q E s := by
  rw [eval_ListComp]
  refine wpAny_comprehension_free (use := none) rfl hs hclos hkind hnames (wpAny_mono h (fun xv s₁ h₁ => ?_) fun _ _ e => e)
  obtain ⟨n, P, S, news, hsz, F, N, hS, src, R⟩ := h₁
  refine src _ _ fun o fp St W hst hfp hIo hSt => ?_
  refine block_T W hsz hIo hSt hcell hkind hx hst hfp (F.keeps fun _ _ e => Heap.get?_push_of_some _ e) (N.grown fun _ _ e => Heap.get?_push_of_some _ e) (Nat.ne_of_lt F.ns.lt) (next_is_new F) (fun p hp => Nat.ne_of_lt (Heap.lt_size (N p hp).1)) hS (R _ ⟨_, rfl⟩) ?_
  intro D C h tk m' ys news' F' N' o1 hn hC₀ hD₀ hCL hDL hCD offC fin
  refine ⟨m', hn, fun h'' hs'' => fin D h'' tk (F'.change hs'' hCL hC₀) (fun p hp => ?_) o1⟩
  refine ⟨hs''.extBut _ _ ?_ (N' p hp).1, (N' p hp).2⟩
  rcases List.mem_cons.mp hp with rfl | hp
  · exact Ne.symm hCD
  · exact offC p hp

theorem srcOk_str {x : Str} {t : Tok} {s₁ : Shared} (hh : A.handled = none) : SrcOk prog w A h₀ L (.str x t) s₁ x.cps.size (SignAt x) (fun _ => True) := by
  intro Q E h
  cases ha : x.cps.all (· < 128)
  · refine wpAny_pyIter_wide ha (h _ _ _ (Walks.strWide hh _ x t) ⟨_, Heap.get?_push_size _ rfl, rfl, rfl⟩ (fun b hb => ?_) (fun i h st => ⟨_, st.choose_spec.1⟩) fun i h h' o nw st e e' _ _ _ => ?_)
    · rw [List.mem_singleton.mp hb, Heap.size_push]; exact Nat.lt_succ_self _
    · obtain ⟨o', q, r⟩ := st; rw [e] at q; cases q; exact ⟨o, e', r⟩
  · refine wpAny_pyIter_ascii ha (h _ _ _ (Walks.strAscii hh _ x t) ⟨_, Heap.get?_push_size _ rfl, rfl, rfl⟩ (fun b hb => ?_) (fun i h st => ⟨_, st.choose_spec.1⟩) fun i h h' o nw st e e' _ _ _ => ?_)
    · rw [List.mem_singleton.mp hb, Heap.size_push]; exact Nat.lt_succ_self _
    · obtain ⟨o', q, r⟩ := st; rw [e] at q; cases q; exact ⟨o, e', r⟩

theorem srcOk_bytes {b : Array UInt8} {t : Tok} {s₁ : Shared} (hh : A.handled = none) : SrcOk prog w A h₀ L (.bytes b t) s₁ b.size (fun i v => ∃ c u, b[i]? = some c ∧ v = .int (c.toNat : Int) u) (fun _ => True) := by
  intro Q E h
  refine KBw.pyIter_bytes (h _ _ _ (KBw.walks hh _ b t) ⟨_, Heap.get?_push_size _ rfl, rfl, rfl⟩ (fun b hb => ?_) (fun i h st => ⟨_, st.choose_spec.1⟩) fun i h h' o nw st e e' _ _ _ => ?_)
  · rw [List.mem_singleton.mp hb, Heap.size_push]; exact Nat.lt_succ_self _
  · obtain ⟨o', q, r⟩ := st; rw [e] at q; cases q; exact ⟨o, e', r⟩

theorem srcOk_tuple {ax : Addr} {its : List Value} {s₁ : Shared} {news : Led} (hh : A.handled = none) (N : News h₀ L s₁.heap news) (hm : (ax, tupO its) ∈ news) :
    SrcOk prog w A h₀ L (.ref ax) s₁ its.toArray.size (fun i v => its.toArray[i]? = some v) (fun nw => (ax, tupO its) ∈ nw) := by
  intro Q E h
  have hget := (N _ hm).1
  have hlt : ax < s₁.heap.objs.size := Heap.lt_size hget
  have ht : s₁.heap.IsTuple ax its.toArray := ⟨_, hget, rfl, _, rfl⟩
  refine wpAny_pyIter_tuple ht (h _ _ _ (Walks.tuple hh _ ax (Nat.ne_of_lt hlt) its.toArray) ⟨⟨_, Heap.get?_push_size _ rfl, rfl, rfl⟩, ht.push _⟩ (fun b hb => ?_) (fun i h st => ⟨_, st.1.choose_spec.1⟩) fun i h h' o nw st e e' _ N' hS => ?_)
  · rw [Heap.size_push]
    rcases List.mem_cons.mp hb with rfl | hb
    · exact Nat.lt_succ_self _
    · rw [List.mem_singleton.mp hb]; exact Nat.lt_succ_of_lt hlt
  · obtain ⟨o', q, r⟩ := st.1
    rw [e] at q; cases q
    exact ⟨⟨o, e', r⟩, ⟨_, (N' _ hS).1, rfl, _, rfl⟩⟩

theorem restT_ind {ct elt : Expr} {x : Str} {scope : Scope} {cl : List (Str × Addr)} {S : Led → Prop} {P : Nat → Value → Prop} {Fin : List Value → Led → Prop} (n : Nat) (J : Nat → List Value → Led → Prop)
    (hstep : ∀ i ys news, i < n → J i ys news → ∀ v I oI C oC D m₂ h tk (E' : Value → Shared → Prop), P i v → NsObj oC m₂ → m₂ x = some v → Fr h₀ L h m → News h₀ L h ((I, oI) :: (C, oC) :: (D, lst ys) :: news) → Off3 I C D news → ((@Ne Nat I C) ∧ (@Ne Nat I D) ∧ (@Ne Nat C D)) →
      wpAny (model prog w) A (isTrue ct (compEnvC scope cl C env) (eval ct (compEnvC scope cl C env))) (fun ok s' => if ok = true then
        wpAny (model prog w) A (eval elt (compEnvC scope cl C env)) (CompEnd h₀ L m { s with heap := h, toks := tk } I oI C oC D (lst ys) S (fun y news' => J (i + 1) (ys ++ [y]) news')) E' s'
        else CompEnd h₀ L m { s with heap := h, toks := tk } I oI C oC D (lst ys) S (fun _ news' => J (i + 1) ys news') Value.none s') E' { s with heap := h, toks := tk })
    (hfin : ∀ ys news, J n ys news → Fin ys news) : ∀ k i ys news, i + k = n → J i ys news → CompRestT prog w A h₀ L m env ct elt x scope cl s S P Fin k i ys news := by
  intro k
  induction k with
  | zero => intro i ys news e j; exact CompRestT.zero (hfin _ _ (by obtain rfl : i = n := e; exact j))
  | succ k ih =>
    intro i ys news e j
    refine CompRestT.succ fun v I oI C oC D m₂ h tk E' p1 p2 p3 p4 p5 p6 p7 => ?_
    refine wpAny_mono (hstep i ys news (by omega) j v I oI C oC D m₂ h tk E' p1 p2 p3 p4 p5 p6 p7) (fun ok s' hk => ?_) fun _ _ e => e
    cases ok with
    | true =>
      simp only [if_true] at hk ⊢
      refine wpAny_mono hk (fun y s₂ hy => ?_) fun _ _ e => e
      obtain ⟨h', tk', news', e1, e2, e3, e4, e5, e6⟩ := hy
      exact ⟨h', tk', news', e1, e2, e3, e4, e5, ih _ _ _ (by omega) e6⟩
    | false =>
      simp only [Bool.false_eq_true, if_false] at hk ⊢
      obtain ⟨h', tk', news', e1, e2, e3, e4, e5, e6⟩ := hk
      exact ⟨h', tk', news', e1, e2, e3, e4, e5, ih _ _ _ (by omega) e6⟩

theorem CSrc.tuple {ct elt : Expr} {x : Str} {scope : Scope} {cl : List (Str × Addr)} {Q : Value → Shared → Prop} {ax : Addr} {its : List Value} {news : Led} {s₁ : Shared}
    (hh : A.handled = none) (F : Fr h₀ L s₁.heap m) (N : News h₀ L s₁.heap news) (hm : (ax, tupO its) ∈ news) (hsz : its.toArray.size ≤ sizeLine)
    (h : ∀ g, CompRestT prog w A h₀ L m env ct elt x scope cl { s₁ with heap := g } (fun nw => (ax, tupO its) ∈ nw) (fun i v => its.toArray[i]? = some v) (FinE h₀ L m { s₁ with heap := g } Q) its.toArray.size 0 [] news) :
    CSrc prog w A h₀ L m env ct elt x scope cl Q (.ref ax) s₁ := ⟨_, _, _, news, hsz, F, N, hm, srcOk_tuple hh N hm, fun _ ⟨g, e⟩ => e ▸ h g⟩
theorem CSrc.str {ct elt : Expr} {x : Str} {scope : Scope} {cl : List (Str × Addr)} {Q : Value → Shared → Prop} {y : Str} {t : Tok} {news : Led} {s₁ : Shared}
    (hh : A.handled = none) (F : Fr h₀ L s₁.heap m) (N : News h₀ L s₁.heap news) (hsz : y.cps.size ≤ sizeLine)
    (h : ∀ g, CompRestT prog w A h₀ L m env ct elt x scope cl { s₁ with heap := g } (fun _ => True) (SignAt y) (FinE h₀ L m { s₁ with heap := g } Q) y.cps.size 0 [] news) :
    CSrc prog w A h₀ L m env ct elt x scope cl Q (.str y t) s₁ := ⟨_, _, _, news, hsz, F, N, trivial, srcOk_str hh, fun _ ⟨g, e⟩ => e ▸ h g⟩
theorem CSrc.bytes {ct elt : Expr} {x : Str} {scope : Scope} {cl : List (Str × Addr)} {Q : Value → Shared → Prop} {b : Array UInt8} {t : Tok} {news : Led} {s₁ : Shared}
    (hh : A.handled = none) (F : Fr h₀ L s₁.heap m) (N : News h₀ L s₁.heap news) (hsz : b.size ≤ sizeLine)
    (h : ∀ g, CompRestT prog w A h₀ L m env ct elt x scope cl { s₁ with heap := g } (fun _ => True) (fun i v => ∃ c u, b[i]? = some c ∧ v = .int (c.toNat : Int) u) (FinE h₀ L m { s₁ with heap := g } Q) b.size 0 [] news) :
    CSrc prog w A h₀ L m env ct elt x scope cl Q (.bytes b t) s₁ := ⟨_, _, _, news, hsz, F, N, trivial, srcOk_bytes hh, fun _ ⟨g, e⟩ => e ▸ h g⟩
end
end
section
section
open PyProof.Rows.LCg PyProof.Rows.LCt
variable {prog : Program} {w : World} {A : Around} {E : Value → Shared → Prop} {s : Shared} {h₀ : Heap} {L : Addr} {m : Nm} {env : Env}
theorem bInts_at {bb : Array UInt8} {i : Nat} {c : UInt8} (h : bb[i]? = some c) : (KBw.bInts bb)[i]? = some ((c.toNat : Nat) : Int) := by
  show (bb.toList.map fun c : UInt8 => ((c.toNat : Nat) : Int))[i]? = _
  rw [List.getElem?_map, Array.getElem?_toList, h]; rfl
theorem filt_snoc {xs : List Int} {i : Nat} {c : Int} (p : Int → Bool) (h : xs[i]? = some c) : (xs.take (i + 1)).filter p = (xs.take i).filter p ++ (if p c = true then [c] else []) := by
  rw [List.take_add_one, h, List.filter_append]
  congr 1
  simp only [Option.toList, List.filter_cons, List.filter_nil]
theorem CSrc.filt {ct elt : Expr} {x : Str} {scope : Scope} {cl : List (Str × Addr)} {Q : Value → Shared → Prop} {bb : Array UInt8} {t : Tok} {news : Led} {s₁ : Shared} {ls : List Int} (p : Int → Bool) (hbb : KBw.bInts bb = ls)
    (hh : A.handled = none) (F : Fr h₀ L s₁.heap m) (N : News h₀ L s₁.heap news) (hsz : ls.length ≤ 65536)
    (hstep : ∀ (g : Heap) (c : Int) (u : Tok) ys I oI C oC D m₂ h tk (E' : Value → Shared → Prop), c ∈ ls → NsObj oC m₂ → m₂ x = some (.int c u) → Fr h₀ L h m → News h₀ L h ((I, oI) :: (C, oC) :: (D, lst ys) :: news) → Off3 I C D news → ((@Ne Nat I C) ∧ (@Ne Nat I D) ∧ (@Ne Nat C D)) →
      wpAny (model prog w) A (isTrue ct (compEnvC scope cl C env) (eval ct (compEnvC scope cl C env))) (fun ok s' => if ok = true then
        wpAny (model prog w) A (eval elt (compEnvC scope cl C env)) (CompEnd h₀ L m { s₁ with heap := h, toks := tk } I oI C oC D (lst ys) (fun _ => True) (fun y nw => p c = true ∧ (∃ u', y = .int c u') ∧ nw = news)) E' s'
        else CompEnd h₀ L m { s₁ with heap := h, toks := tk } I oI C oC D (lst ys) (fun _ => True) (fun _ nw => p c = false ∧ nw = news) Value.none s') E' { s₁ with heap := h, toks := tk })
    (hfin : ∀ g ys, IntsAre ys (ls.filter p) → FinE h₀ L m { s₁ with heap := g } Q ys news) :
    CSrc prog w A h₀ L m env ct elt x scope cl Q (.bytes bb t) s₁ := by
  have hlen : bb.size = ls.length := by rw [← hbb, KBw.ints_length]
  refine CSrc.bytes hh F N (by rw [hlen, sizeLine_eq]; omega) fun g => ?_
  refine restT_ind bb.size (fun j ys nw => IntsAre ys ((ls.take j).filter p) ∧ nw = news) ?_ ?_ bb.size 0 [] news (Nat.zero_add _) ⟨IntsAre.nil, rfl⟩
  · rintro i ys nw hi ⟨hy, rfl⟩ v I oI C oC D m₂ h tk E' ⟨c, u, hc, rfl⟩ p2 p3 p4 p5 p6 p7
    have hl : ls[i]? = some ((c.toNat : Nat) : Int) := by rw [← hbb]; exact bInts_at hc
    have hm := List.mem_of_getElem? hl
    have hs := filt_snoc p hl
    refine wpAny_mono (hstep g _ u ys I oI C oC D m₂ h tk E' hm p2 p3 p4 p5 p6 p7) (fun ok s' q => ?_) fun _ _ e => e
    cases ok with
    | true =>
      simp only [if_true] at q ⊢
      refine wpAny_mono q (fun y s₂ hq => ?_) fun _ _ e => e
      obtain ⟨h', tk', nw', e1, e2, e3, e4, e5, e6, ⟨u', e7⟩, e8⟩ := hq
      refine ⟨h', tk', nw', e1, e2, e3, e4, e5, ?_, e8⟩
      rw [hs, if_pos e6, e7]
      exact IntsAre.append hy (.cons _ _ .nil)
    | false =>
      simp only [Bool.false_eq_true, if_false] at q ⊢
      obtain ⟨h', tk', nw', e1, e2, e3, e4, e5, e6, e8⟩ := q
      refine ⟨h', tk', nw', e1, e2, e3, e4, e5, ?_, e8⟩
      rw [hs, if_neg (by rw [e6]; decide), List.append_nil]
      exact hy
  · rintro ys nw ⟨hy, rfl⟩
    rw [hlen, List.take_length] at hy
    exact hfin g ys hy
theorem ints_at : ∀ {vs : List Value} {ns : List Int} {i : Nat} {v : Value}, IntsAre vs ns → vs[i]? = some v → ∃ c t, v = .int c t ∧ ns[i]? = some c
  | _, _, i, v, .nil, h => by simp at h
  | _, _, 0, v, .cons c t _, h => ⟨c, t, by simpa using h.symm, rfl⟩
  | _, _, i + 1, v, .cons c t r, h => by
    simp only [List.getElem?_cons_succ] at h ⊢
    exact ints_at r h
theorem CSrc.tups {ct elt : Expr} {x : Str} {scope : Scope} {cl : List (Str × Addr)} {Q : Value → Shared → Prop} {ax : Addr} {its : List Value} {ns : List Int} {news : Led} {s₁ : Shared} (p : Int → Bool) (hi : IntsAre its ns) (hl : ns.length ≤ 1000)
    (hh : A.handled = none) (F : Fr h₀ L s₁.heap m) (N : News h₀ L s₁.heap news) (hm : (ax, tupO its) ∈ news)
    (hstep : ∀ (g : Heap) (c : Int) (u : Tok) ys I oI C oC D m₂ h tk (E' : Value → Shared → Prop), NsObj oC m₂ → m₂ x = some (.int c u) → Fr h₀ L h m → News h₀ L h ((I, oI) :: (C, oC) :: (D, lst ys) :: news) → Off3 I C D news → ((@Ne Nat I C) ∧ (@Ne Nat I D) ∧ (@Ne Nat C D)) →
      wpAny (model prog w) A (isTrue ct (compEnvC scope cl C env) (eval ct (compEnvC scope cl C env))) (fun ok s' => if ok = true then
        wpAny (model prog w) A (eval elt (compEnvC scope cl C env)) (CompEnd h₀ L m { s₁ with heap := h, toks := tk } I oI C oC D (lst ys) (fun nw => (ax, tupO its) ∈ nw) (fun y nw => p c = true ∧ (∃ u', y = .int c u') ∧ nw = news)) E' s'
        else CompEnd h₀ L m { s₁ with heap := h, toks := tk } I oI C oC D (lst ys) (fun nw => (ax, tupO its) ∈ nw) (fun _ nw => p c = false ∧ nw = news) Value.none s') E' { s₁ with heap := h, toks := tk })
    (hfin : ∀ g ys, IntsAre ys (ns.filter p) → FinE h₀ L m { s₁ with heap := g } Q ys news) :
    CSrc prog w A h₀ L m env ct elt x scope cl Q (.ref ax) s₁ := by
  have hlen : its.toArray.size = ns.length := by rw [← hi.length]; simp
  refine CSrc.tuple hh F N hm (by rw [hlen, sizeLine_eq]; omega) fun g => ?_
  refine restT_ind its.toArray.size (fun j ys nw => IntsAre ys ((ns.take j).filter p) ∧ nw = news) ?_ ?_ its.toArray.size 0 [] news (Nat.zero_add _) ⟨IntsAre.nil, rfl⟩
  · rintro i ys nw _ ⟨hy, rfl⟩ v I oI C oC D m₂ h tk E' hv p2 p3 p4 p5 p6 p7
    obtain ⟨c, u, rfl, hc⟩ := ints_at hi (by simpa using hv)
    have hs := filt_snoc p hc
    refine wpAny_mono (hstep g c u ys I oI C oC D m₂ h tk E' p2 p3 p4 p5 p6 p7) (fun ok s' q => ?_) fun _ _ e => e
    cases ok with
    | true =>
      simp only [if_true] at q ⊢
      refine wpAny_mono q (fun y s₂ hq => ?_) fun _ _ e => e
      obtain ⟨h', tk', nw', e1, e2, e3, e4, e5, e6, ⟨u', e7⟩, e8⟩ := hq
      refine ⟨h', tk', nw', e1, e2, e3, e4, e5, ?_, e8⟩
      rw [hs, if_pos e6, e7]
      exact IntsAre.append hy (.cons _ _ .nil)
    | false =>
      simp only [Bool.false_eq_true, if_false] at q ⊢
      obtain ⟨h', tk', nw', e1, e2, e3, e4, e5, e6, e8⟩ := q
      refine ⟨h', tk', nw', e1, e2, e3, e4, e5, ?_, e8⟩
      rw [hs, if_neg (by rw [e6]; decide), List.append_nil]
      exact hy
  · rintro ys nw ⟨hy, rfl⟩
    rw [hlen, List.take_length] at hy
    exact hfin g ys hy
end
end
section
theorem said_d_len_1 : True := by
  k_with_none
  trivial
theorem said_d_len_2 : True := by
  k_with "mine room" => (first | exact ro0 (by assumption) | exact ro2 (by assumption) (by rfl) | exact ro1 (by assumption) (by rfl) | exact Nat.lt_of_succ_le (Nat.le_of_ble_eq_true (by rfl)) | ktr_room)
  k_with "mine enter" => ((refine' code_def ?zzk1 ?zzk2 ?zzk3 ?zzk4 ?zzk5 ?zzkA ?zzkF ?zzkK ?zzk6 ?zzk7 ?zzk8 ?zzk9 ?zzkB ?_ ?zzc2 ?zzc3 ?zzc4 ?zzc5; (case zzkA => exact rfl); (case zzkF => exact rfl); (case zzkK => assumption); (case zzk1 => k_asm); (case zzk2 => k_asm); (case zzk3 => k_asm); (case zzk4 => k_asm); (case zzk5 => k_asm); (case zzk6 => k_is); (case zzk7 => k_is); (case zzk8 => walk_at "mine room"); (case zzk9 => exact BindsTo.of_eq rfl); (case zzc5 => decide); (case zzkB => exact locs rfl); (case zzc2 => exact rfl); (case zzc3 => exact rfl); (case zzc4 => exact rfl); k_whole; intro g' L' h' FG' F' N' B' X' T'; (try dsimp only); (try k_lift B'); (try k_fold)))
  k_with "mine enterC" => ((refine' code_defC ?zzk1 ?zzk2 ?zzk3 ?zzk4 ?zzk5 ?zzkA ?zzkF ?zzkK ?zzk6 ?zzk7 ?zzk8 ?zzk9 ?zzkB ?zzkD ?_ ?zzc2 ?zzc3 ?zzc4; (case zzkA => exact rfl); (case zzkF => exact rfl); (case zzkK => assumption); (case zzk1 => k_asm); (case zzk2 => k_asm); (case zzk3 => k_asm); (case zzk4 => k_asm); (case zzk5 => k_asm); (case zzk6 => k_is); (case zzk7 => k_is); (case zzk8 => walk_at "mine room"); (case zzk9 => first | exact BindsTo.of_eq rfl | exact binds_K (by k_in) rfl (by k_is) rfl rfl rfl | fail "mine enterC: no rule for these arguments"); (case zzkB => exact rfl); (case zzkD => decide +kernel); (case zzc2 => exact rfl); (case zzc3 => exact rfl); (case zzc4 => exact rfl); k_whole; intro g' L' h' tk' cells' FG' F' N' Y' B' X' T' l1; (try k_lt l1); k_cells Y'; (try simp only [List.cons_append, List.nil_append] at N'); (try dsimp only); (try k_lift B'); (try k_fold)))
  k_with "mine start" => ((refine wpAny_call ?_; k_dflt (first | walk_at "mine enter" | walk_at "mine enterC")))
  k_with "mine int end" => ((refine' ret_use (by assumption) (int_ok ?_ rfl) ?zzkF ?zzkN ?zzkS; (case zzkF => k_asm); (case zzkN => assumption); (case zzkS => kcj_all)))
  k_with "eval ListComp" => ((k_here; k_dflt (refine comp_T (by k_asm) (by with_unfolding_all rfl) (by decide) (by rfl) (by decide) (by rfl) ?_ (fun _ => by rfl))))
  k_with "CSrc" => ((k_here; k_dflt (refine CSrc.tuple (by rfl) (by k_asm) (by k_asm) (by k_mem) (by first | size_fits | exact Nat.le_of_ble_eq_true rfl) ?_; intro g'; lct_lit)))
  k_with "CompEnd" => ((k_here; (refine' LCg.CompEnd.intro ?zzkF ?zzkN _ (fun _ h => h) ?zzkO ?zzkS ?_; (case zzkF => k_asm); (case zzkN => assumption); (case zzkO => with_unfolding_all assumption); (case zzkS => first | exact True.intro | k_mem))))
  k_with "execs cons" => ((k_here; (with_reducible show wpAny _ _ (execs (_ :: _) _) _ _ { heap := _, gens := _, drawn := _, toks := _ + 1, os := _ }); refine tok_any ?_; intro tkA; (try dsimp only)))
  trivial
@[reducible] noncomputable def offU (c : Int) : Prop := (55296 ≤ c ∧ c ≤ 57343) ∨ ¬ (0 ≤ c ∧ c ≤ 1114111)
noncomputable def u8len (c : Int) : Int := if (55296 ≤ c ∧ c ≤ 57343) ∨ ¬ (0 ≤ c ∧ c ≤ 1114111) then 0 else 1 + (if c > 127 then 1 else 0) + (if c > 2047 then 1 else 0) + (if c > 65535 then 1 else 0)
theorem fl_cons {c a : Int} {r : List Int} : (((a :: r).filter fun k => decide (k < c)).length : Int) = (if a < c then 1 else 0) + ((r.filter fun k => decide (k < c)).length : Int) := by
  rw [List.filter_cons]
  by_cases h : a < c
  · rw [if_pos (decide_eq_true h), if_pos h, List.length_cons]; omega
  · rw [if_neg (by rw [decide_eq_false h]; decide), if_neg h]; omega
theorem u8len_in {c : Int} (h : ¬ offU c) : 1 + ((([127, 2047, 65535] : List Int).filter fun k => decide (k < c)).length : Int) = u8len c := by
  unfold u8len
  rw [if_neg h, fl_cons, fl_cons, fl_cons, Int.add_assoc, Int.add_assoc]
  show _ + (_ + (_ + (_ + ((0 : Nat) : Int)))) = _
  rw [Int.natCast_zero, Int.add_zero]
theorem u8len_off {c : Int} (h : offU c) : (0 : Int) = u8len c := by unfold u8len; rw [if_pos h]
theorem off_1 {c : Int} (h : 55296 ≤ c) (h2 : c ≤ 57343) : true = decide (offU c) := (decide_eq_true (.inl ⟨h, h2⟩)).symm
theorem len_ys {prog : Program} {w : World} {A : Around} {E : Value → Shared → Prop} {s : Shared} {h₀ : Heap} {L l : Addr} {news : Led} {ys : List Value} {ns : List Int} {Q : Value → Shared → Prop} (N : News h₀ L s.heap news) (hm : (l, LCg.lst ys) ∈ news) (hi : IntsAre ys ns) (hl : ns.length ≤ 1000)
    (h : Q (.int (ns.length : Int) (s.toks + 1)) { s with toks := s.toks + 1 + 1 }) : wpAny (model prog w) A (call (.builtin "len") [.ref l]) Q E s := by
  have e : ys.toArray.size = ns.length := by rw [← hi.length]; simp
  refine PyProof.Rows.len_list (hl := ⟨_, (N _ hm).1, rfl, _, rfl⟩) (by rw [e]; omega) ?_
  rw [e]; exact h
theorem said_d_len_3 : True := by
  k_with "isTrue BoolOp" => ((k_here; (fail_if_success (with_reducible show wpAny _ _ _ (JoinE _ _ _ _ _ _) _ _)); (refine' join_is (decide (offU c)) ?zzF ?zzN ?_ ?_; (case zzF => k_asm); (case zzN => k_asm)); rotate_left; intro h9 tk9 F9 N9; by_cases hoff : offU c; (rw [decide_eq_true hoff]); (rotate_left; rw [decide_eq_false hoff]; rotate_left); (try dsimp only)))
  k_with "JoinE" => ((k_here; (refine' JoinE.intro ?zzF ?zzN ?zzS ?zzp; (case zzF => k_asm); (case zzN => assumption); (case zzS => first | with_reducible exact fun p h => h | kcj_all); (case zzp => first | exact (decide_eq_true (show offU c by omega)).symm | exact (decide_eq_false (show ¬ offU c by omega)).symm))))
  k_with "ite" => (with_reducible first | refine ite_ff ?_ | refine ite_tt ?_)
  k_with "CSrc" => ((k_here; k_dflt (refine' CSrc.tups (ns := [127, 2047, 65535]) (fun k => decide (k < c)) (.cons _ _ (.cons _ _ (.cons _ _ .nil))) ?zzl ?zzq ?zzF ?zzN ?zzm ?_ ?_; (case zzl => decide); (case zzq => rfl); (case zzF => k_asm); (case zzN => k_asm); (case zzm => k_mem)); intro g9 c9 u9 ys9 I9 oI9 C9 oC9 D9 m9 h9 tk9 E9 hO9 hx9 F9 N9 off9 ne9; (try simp only [LCg.Off3, and_true] at off9); (try dsimp only)))
  k_with "CompEnd" => ((k_here; (refine' LCg.CompEnd.intro ?zzkF ?zzkN _ (fun _ h => h) ?zzkO ?zzkS ?zzkR; (case zzkF => k_asm); (case zzkN => assumption); (case zzkO => with_unfolding_all assumption); (case zzkS => k_mem); (case zzkR => first | exact ⟨decide_eq_true (by assumption), ⟨_, rfl⟩, rfl⟩ | exact ⟨decide_eq_false (by assumption), rfl⟩))))
  k_with "call builtin:len" => ((k_here; k_dflt (refine' len_ys ?zzk1 ?zzk2 ?zzk3 ?zzk4 ?_; (case zzk1 => k_asm); (case zzk2 => k_mem); (case zzk3 => assumption); (case zzk4 => exact Nat.le_trans (List.length_filter_le _ _) (by decide)))))
  trivial
theorem c_utf8_length (w : World) (mean : Mn) (mg mb : Nm) (news : Led) (c : Int) (t : Tok) :
    Ctr w mean mg mb none 74 [.int c t] 1 8 news (isInt news (u8len c)) := by
  intro dp un gd cn cs a ccd cl outer A₀ base h₀ L m s Q E hB hF hK hN hT hk hdp hun hret
  walk_at "mine start"
  k_steps
  · walk_at "mine int end"
    exact u8len_off hoff
  · walk_at "mine int end"
    exact u8len_in hoff
end
section
theorem said_e_has_1 : True := by
  k_with_none
  trivial
theorem said_e_has_2 : True := by
  k_with "mine room" => (first | exact ro0 (by assumption) | exact ro2 (by assumption) (by rfl) | exact ro1 (by assumption) (by rfl) | exact Nat.lt_of_succ_le (Nat.le_of_ble_eq_true (by rfl)) | ktr_room)
  k_with "mine units" => (first | exact ro2 (by assumption) (by rfl) | exact ro1 (by assumption) (by rfl) | exact Nat.lt_of_succ_le (Nat.le_of_ble_eq_true (by rfl)) | ktr_units)
  k_with "mine enter" => ((refine' code_def ?zzk1 ?zzk2 ?zzk3 ?zzk4 ?zzk5 ?zzkA ?zzkF ?zzkK ?zzk6 ?zzk7 ?zzk8 ?zzk9 ?zzkB ?_ ?zzc2 ?zzc3 ?zzc4 ?zzc5; (case zzkA => exact rfl); (case zzkF => exact rfl); (case zzkK => assumption); (case zzk1 => k_asm); (case zzk2 => k_asm); (case zzk3 => k_asm); (case zzk4 => k_asm); (case zzk5 => k_asm); (case zzk6 => k_is); (case zzk7 => k_is); (case zzk8 => walk_at "mine room"); (case zzk9 => exact BindsTo.of_eq rfl); (case zzc5 => decide); (case zzkB => exact locs rfl); (case zzc2 => exact rfl); (case zzc3 => exact rfl); (case zzc4 => exact rfl); k_whole; intro g' L' h' FG' F' N' B' X' T'; (try dsimp only); (try k_lift B'); (try k_fold)))
  k_with "mine enterC" => ((refine' code_defC ?zzk1 ?zzk2 ?zzk3 ?zzk4 ?zzk5 ?zzkA ?zzkF ?zzkK ?zzk6 ?zzk7 ?zzk8 ?zzk9 ?zzkB ?zzkD ?_ ?zzc2 ?zzc3 ?zzc4; (case zzkA => exact rfl); (case zzkF => exact rfl); (case zzkK => assumption); (case zzk1 => k_asm); (case zzk2 => k_asm); (case zzk3 => k_asm); (case zzk4 => k_asm); (case zzk5 => k_asm); (case zzk6 => k_is); (case zzk7 => k_is); (case zzk8 => walk_at "mine room"); (case zzk9 => first | exact BindsTo.of_eq rfl | exact binds_K (by k_in) rfl (by k_is) rfl rfl rfl | fail "mine enterC: no rule for these arguments"); (case zzkB => exact rfl); (case zzkD => decide +kernel); (case zzc2 => exact rfl); (case zzc3 => exact rfl); (case zzc4 => exact rfl); k_whole; intro g' L' h' tk' cells' FG' F' N' Y' B' X' T' l1; (try k_lt l1); k_cells Y'; (try simp only [List.cons_append, List.nil_append] at N'); (try dsimp only); (try k_lift B'); (try k_fold)))
  k_with "mine start" => ((refine wpAny_call ?_; k_dflt (first | walk_at "mine enter" | walk_at "mine enterC")))
  k_with "mine bool end" => ((refine' ret_use (by assumption) (bool_ok ?_ rfl) ?zzkF ?zzkN ?zzkS; (case zzkF => k_asm); (case zzkN => assumption); (case zzkS => kcj_all)))
  k_with "eval ListComp" => ((k_here; k_dflt (refine comp_T (by k_asm) (by with_unfolding_all rfl) (by decide) (by rfl) (by decide) (by rfl) ?_ (fun _ => by rfl))))
  k_with "CSrc" => ((k_here; k_dflt (refine CSrc.tuple (by rfl) (by k_asm) (by k_asm) (by k_mem) (by first | size_fits | exact Nat.le_of_ble_eq_true rfl) ?_; intro g'; lct_lit)))
  k_with "CompEnd" => ((k_here; (refine' LCg.CompEnd.intro ?zzkF ?zzkN _ (fun _ h => h) ?zzkO ?zzkS ?_; (case zzkF => k_asm); (case zzkN => assumption); (case zzkO => with_unfolding_all assumption); (case zzkS => first | exact True.intro | k_mem))))
  k_with "execs cons" => ((k_here; (with_reducible show wpAny _ _ (execs (_ :: _) _) _ _ { heap := _, gens := _, drawn := _, toks := _ + 1, os := _ }); refine tok_any ?_; intro tkA; (try dsimp only)))
  k_with "call ref" => ((k_here; k_dflt (refine' ctr_use (c_utf8_length _ _ _ _ _ _ _) ?zzk1 ?zzk2 ?zzk3 ?zzk4 ?zzk5 ?zzkK ?zzkd ?zzku ?_; (case zzk1 => k_asm); (case zzk2 => k_asm); (case zzk3 => k_asm); (case zzk4 => k_asm); (case zzk5 => k_asm); (case zzkK => first | exact rfl | assumption); (case zzkd => walk_at "mine room"); (case zzku => walk_at "mine units"); intro v9 n9 h9 tk9 P9 F9 N9; obtain ⟨⟨t9, e9⟩, e9'⟩ := P9; subst e9; subst e9'; (try dsimp only); (try k_sweep); (try k_fold))))
  trivial
noncomputable def hasSign (cs : Str) (c : Int) : Bool := if cs = Str.ofString "utf-8" then decide (0 < u8len c) else decide (c < 256)

theorem c_has_utf8 (w : World) (mean : Mn) (mg mb : Nm) (news : Led) (c : Int) (t u : Tok) :
    Ctr w mean mg mb none 130 [.str (Str.ofString "utf-8") u, .int c t] 2 16 news (isBool news (decide (0 < u8len c))) := by
  intro dp un gd cn cs a ccd cl outer A₀ base h₀ L m s Q E hB hF hK hN hT hk hdp hun hret
  walk_at "mine start"
  k_steps
  all_goals walk_at "mine bool end"
  all_goals rfl
theorem c_has_latin (w : World) (mean : Mn) (mg mb : Nm) (news : Led) (c : Int) (t u : Tok) :
    Ctr w mean mg mb none 130 [.str (Str.ofString "iso-8859-1") u, .int c t] 2 16 news (isBool news (decide (c < 256))) := by
  intro dp un gd cn cs a ccd cl outer A₀ base h₀ L m s Q E hB hF hK hN hT hk hdp hun hret
  walk_at "mine start"
  k_steps
  all_goals walk_at "mine bool end"
  all_goals rfl
end
section
theorem said_e_need_1 : True := by
  k_with_none
  trivial
theorem said_e_need_2 : True := by
  k_with "mine room" => (first | exact ro0 (by assumption) | exact ro2 (by assumption) (by rfl) | exact ro1 (by assumption) (by rfl) | exact Nat.lt_of_succ_le (Nat.le_of_ble_eq_true (by rfl)) | ktr_room)
  k_with "mine enter" => ((refine' code_def ?zzk1 ?zzk2 ?zzk3 ?zzk4 ?zzk5 ?zzkA ?zzkF ?zzkK ?zzk6 ?zzk7 ?zzk8 ?zzk9 ?zzkB ?_ ?zzc2 ?zzc3 ?zzc4 ?zzc5; (case zzkA => exact rfl); (case zzkF => exact rfl); (case zzkK => assumption); (case zzk1 => k_asm); (case zzk2 => k_asm); (case zzk3 => k_asm); (case zzk4 => k_asm); (case zzk5 => k_asm); (case zzk6 => k_is); (case zzk7 => k_is); (case zzk8 => walk_at "mine room"); (case zzk9 => exact BindsTo.of_eq rfl); (case zzc5 => decide); (case zzkB => exact locs rfl); (case zzc2 => exact rfl); (case zzc3 => exact rfl); (case zzc4 => exact rfl); k_whole; intro g' L' h' FG' F' N' B' X' T'; (try dsimp only); (try k_lift B'); (try k_fold)))
  k_with "mine enterC" => ((refine' code_defC ?zzk1 ?zzk2 ?zzk3 ?zzk4 ?zzk5 ?zzkA ?zzkF ?zzkK ?zzk6 ?zzk7 ?zzk8 ?zzk9 ?zzkB ?zzkD ?_ ?zzc2 ?zzc3 ?zzc4; (case zzkA => exact rfl); (case zzkF => exact rfl); (case zzkK => assumption); (case zzk1 => k_asm); (case zzk2 => k_asm); (case zzk3 => k_asm); (case zzk4 => k_asm); (case zzk5 => k_asm); (case zzk6 => k_is); (case zzk7 => k_is); (case zzk8 => walk_at "mine room"); (case zzk9 => first | exact BindsTo.of_eq rfl | exact binds_K (by k_in) rfl (by k_is) rfl rfl rfl | fail "mine enterC: no rule for these arguments"); (case zzkB => exact rfl); (case zzkD => decide +kernel); (case zzc2 => exact rfl); (case zzc3 => exact rfl); (case zzc4 => exact rfl); k_whole; intro g' L' h' tk' cells' FG' F' N' Y' B' X' T' l1; (try k_lt l1); k_cells Y'; (try simp only [List.cons_append, List.nil_append] at N'); (try dsimp only); (try k_lift B'); (try k_fold)))
  k_with "mine start" => ((refine wpAny_call ?_; k_dflt (first | walk_at "mine enter" | walk_at "mine enterC")))
  k_with "execs cons" => ((k_here; (with_reducible show wpAny _ _ (execs (_ :: _) _) _ _ { heap := _, gens := _, drawn := _, toks := _ + 1, os := _ }); refine tok_any ?_; intro tkA; (try dsimp only)))
  k_with "compareOp NotIn str ref" => ((k_here; k_dflt (refine' notin_tuple_strs (kun_topT (by k_asm) (by k_asm) (by k_is)) ?zzk2 ?_; (case zzk2 => kde_strs))))
  trivial
theorem none_ok {news news' : Led} (hn : news' = news) : (fun v n => v = Value.none ∧ n = news) Value.none news' := ⟨rfl, hn⟩
theorem c_need_utf8 (w : World) (mean : Mn) (mg mb : Nm) (hdl : Option Value) (news : Led) (u : Tok) :
    Ctr w mean mg mb hdl 69 [.str (Str.ofString "utf-8") u] 1 8 news (fun v n => v = .none ∧ n = news) := by
  intro dp un gd cn cs a ccd cl outer A₀ base h₀ L m s Q E hB hF hK hN hT hk hdp hun hret
  walk_at "mine start"
  k_steps
  all_goals (refine' ret_use (by assumption) (none_ok rfl) ?kF ?kN ?kS; (case kF => k_asm); (case kN => assumption); (case kS => kcj_all))
theorem c_need_latin (w : World) (mean : Mn) (mg mb : Nm) (hdl : Option Value) (news : Led) (u : Tok) :
    Ctr w mean mg mb hdl 69 [.str (Str.ofString "iso-8859-1") u] 1 8 news (fun v n => v = .none ∧ n = news) := by
  intro dp un gd cn cs a ccd cl outer A₀ base h₀ L m s Q E hB hF hK hN hT hk hdp hun hret
  walk_at "mine start"
  k_steps
  all_goals (refine' ret_use (by assumption) (none_ok rfl) ?kF ?kN ?kS; (case kF => k_asm); (case kN => assumption); (case kS => kcj_all))
end
section
theorem said_e_oct_1 : True := by
  k_with_none
  trivial
theorem said_e_oct_2 : True := by
  k_with "mine room" => (first | exact ro0 (by assumption) | exact ro2 (by assumption) (by rfl) | exact ro1 (by assumption) (by rfl) | exact Nat.lt_of_succ_le (Nat.le_of_ble_eq_true (by rfl)) | ktr_room)
  k_with "mine units" => (first | exact ro2 (by assumption) (by rfl) | exact ro1 (by assumption) (by rfl) | exact Nat.lt_of_succ_le (Nat.le_of_ble_eq_true (by rfl)) | ktr_units)
  k_with "mine enterG" => ((refine wpAny_call ?_; refine' code_defG ?zzk1 ?zzk2 ?zzk3 ?zzk4 ?zzk5 ?zzkA ?zzkF ?zzkK ?zzk6 ?zzk7 ?zzk8 ?zzk9 ?zzkB ?_ ?zzc2 ?zzc3 ?zzc4 ?zzc5; (case zzkA => exact rfl); (case zzkF => exact rfl); (case zzkK => assumption); (case zzk1 => k_asm); (case zzk2 => k_asm); (case zzk3 => k_asm); (case zzk4 => k_asm); (case zzk5 => k_asm); (case zzk6 => k_is); (case zzk7 => k_is); (case zzk8 => walk_at "mine room"); (case zzk9 => first | exact BindsTo.of_eq rfl | exact binds_K (by k_in) rfl (by k_is) rfl rfl rfl); (case zzc5 => decide); (case zzkB => exact locs rfl); (case zzc2 => exact rfl); (case zzc3 => exact rfl); (case zzc4 => exact rfl); k_whole; intro g' L' h' FG' F' N' B' X' T' kG'; (try dsimp only); (try k_lift B'); (try k_fold)))
  k_with "mine startG" => (k_dflt (walk_at "mine enterG"))
  k_with "eval ListComp" => ((k_here; k_dflt (refine comp_T (by k_asm) (by with_unfolding_all rfl) (by decide) (by rfl) (by decide) (by rfl) ?_ (fun _ => by rfl))))
  k_with "CSrc" => ((k_here; k_dflt (refine CSrc.tuple (by rfl) (by k_asm) (by k_asm) (by k_mem) (by first | size_fits | exact Nat.le_of_ble_eq_true rfl) ?_; intro g'; lct_lit)))
  k_with "CompEnd" => ((k_here; (refine' LCg.CompEnd.intro ?zzkF ?zzkN _ (fun _ h => h) ?zzkO ?zzkS ?_; (case zzkF => k_asm); (case zzkN => assumption); (case zzkO => with_unfolding_all assumption); (case zzkS => first | exact True.intro | k_mem))))
  k_with "execs cons" => ((k_here; (with_reducible show wpAny _ _ (execs (_ :: _) _) _ _ { heap := _, gens := _, drawn := _, toks := _ + 1, os := _ }); refine tok_any ?_; intro tkA; (try dsimp only)))
  trivial
theorem c_utf8_length_k (w : World) (mean : Mn) (mg mb : Nm) (news : Led) (c : Int) (t : Tok) {k : Int} (h : u8len c = k) :
    Ctr w mean mg mb none 74 [.int c t] 1 8 news (isInt news k) := h ▸ c_utf8_length w mean mg mb news c t
theorem said_e_oct_3 : True := by
  k_with "call ref" => ((k_here; k_dflt (refine' ctr_use (c_utf8_length_k _ _ _ _ _ _ _ (by assumption)) ?zzk1 ?zzk2 ?zzk3 ?zzk4 ?zzk5 ?zzkK ?zzkd ?zzku ?_; (case zzk1 => k_asm); (case zzk2 => k_asm); (case zzk3 => k_asm); (case zzk4 => k_asm); (case zzk5 => k_asm); (case zzkK => first | exact rfl | assumption); (case zzkd => walk_at "mine room"); (case zzku => walk_at "mine units"); intro v9 n9 h9 tk9 P9 F9 N9; obtain ⟨⟨t9, e9⟩, e9'⟩ := P9; subst e9; subst e9'; (try dsimp only); (try k_sweep); (try k_fold))))
  k_with "pyIter ref" => (((with_reducible show wpAny _ _ (pyIter (Value.ref _)) (fun it s₂ => LoopAtV _ _ _ _ _ _ _ _ _ it s₂) _ _); l_hasStore; k_rangeUnr))
  trivial
@[reducible] noncomputable def isInts (xs : List Int) : Value → Led → Prop := fun v n => ∃ a vs k, v = .ref a ∧ n = [(a, listOf vs k)] ∧ IntsAre vs.toList xs
theorem ints_ok {a : Addr} {vs : Array Value} {k : Nat} {xs ys : List Int} (e : ys = xs) (hv : IntsAre vs.toList ys) : isInts xs (.ref a) [(a, listOf vs k)] := ⟨a, vs, k, rfl, rfl, e ▸ hv⟩
theorem fd64 (a : Int) : Int.fdiv a 64 = a / 64 := Int.fdiv_eq_ediv_of_nonneg a (by decide)
theorem fm64 (a : Int) : Int.fmod a 64 = a % 64 := Int.fmod_eq_emod_of_nonneg a (by decide)
theorem said_e_oct_4 : True := by
  k_with "mine ints endG" => ((refine' ret_useG (by assumption) (by assumption) (ints_ok ?_ ?zzki) ?zzkF ?zzkN ?zzkF2 ?zzkN2 ?zzkS; (case zzkF => k_asm); (case zzkN => assumption); (case zzkF2 => k_asm); (case zzkN2 => k_asm); (case zzkS => kcj_all); (case zzki => first | assumption | (repeat constructor))))
  trivial
theorem c_oct1 (w : World) (mean : Mn) (mg mb : Nm) (c : Int) (t : Tok) (h1 : u8len c = 1) :
    CtrG w mean mg mb none 81 [.int c t] 2 16 [] (isInts [c]) := by
  intro dp un gd cn cs a ccd cl outer A₀ base h₀ L m s Q E hB hF hK hN hT hk hdp hun hret
  walk_at "mine startG"
  k_steps
  all_goals walk_at "mine ints endG"
  all_goals rfl
theorem c_oct2 (w : World) (mean : Mn) (mg mb : Nm) (c : Int) (t : Tok) (h1 : u8len c = 2) :
    CtrG w mean mg mb none 81 [.int c t] 2 16 [] (isInts [192 + c / 64, 128 + c % 64]) := by
  intro dp un gd cn cs a ccd cl outer A₀ base h₀ L m s Q E hB hF hK hN hT hk hdp hun hret
  walk_at "mine startG"
  k_steps
  all_goals walk_at "mine ints endG"
  all_goals (simp only [fd64, fm64]; rfl)
theorem c_oct3 (w : World) (mean : Mn) (mg mb : Nm) (c : Int) (t : Tok) (h1 : u8len c = 3) :
    CtrG w mean mg mb none 81 [.int c t] 2 16 [] (isInts [224 + c / 64 / 64, 128 + c / 64 % 64, 128 + c % 64]) := by
  intro dp un gd cn cs a ccd cl outer A₀ base h₀ L m s Q E hB hF hK hN hT hk hdp hun hret
  walk_at "mine startG"
  k_steps
  all_goals walk_at "mine ints endG"
  all_goals (simp only [fd64, fm64]; rfl)
theorem c_oct4 (w : World) (mean : Mn) (mg mb : Nm) (c : Int) (t : Tok) (h1 : u8len c = 4) :
    CtrG w mean mg mb none 81 [.int c t] 2 16 [] (isInts [240 + c / 64 / 64 / 64, 128 + c / 64 / 64 % 64, 128 + c / 64 % 64, 128 + c % 64]) := by
  intro dp un gd cn cs a ccd cl outer A₀ base h₀ L m s Q E hB hF hK hN hT hk hdp hun hret
  walk_at "mine startG"
  k_steps
  all_goals walk_at "mine ints endG"
  all_goals (simp only [fd64, fm64]; rfl)
end
section
theorem said_s_octets_1 : True := by
  k_with_none
  trivial
theorem said_s_octets_2 : True := by
  k_with "mine room" => (first | exact ro0 (by assumption) | exact ro2 (by assumption) (by rfl) | exact ro1 (by assumption) (by rfl) | exact Nat.lt_of_succ_le (Nat.le_of_ble_eq_true (by rfl)) | ktr_room)
  k_with "mine units" => (first | exact ro2 (by assumption) (by rfl) | exact ro1 (by assumption) (by rfl) | exact Nat.lt_of_succ_le (Nat.le_of_ble_eq_true (by rfl)) | ktr_units)
  k_with "mine enterG" => ((refine wpAny_call ?_; refine' code_defG ?zzk1 ?zzk2 ?zzk3 ?zzk4 ?zzk5 ?zzkA ?zzkF ?zzkK ?zzk6 ?zzk7 ?zzk8 ?zzk9 ?zzkB ?_ ?zzc2 ?zzc3 ?zzc4 ?zzc5; (case zzkA => exact rfl); (case zzkF => exact rfl); (case zzkK => assumption); (case zzk1 => k_asm); (case zzk2 => k_asm); (case zzk3 => k_asm); (case zzk4 => k_asm); (case zzk5 => k_asm); (case zzk6 => k_is); (case zzk7 => k_is); (case zzk8 => walk_at "mine room"); (case zzk9 => first | exact BindsTo.of_eq rfl | exact binds_K (by k_in) rfl (by k_is) rfl rfl rfl); (case zzc5 => decide); (case zzkB => exact locs rfl); (case zzc2 => exact rfl); (case zzc3 => exact rfl); (case zzc4 => exact rfl); k_whole; intro g' L' h' FG' F' N' B' X' T' kG'; (try dsimp only); (try k_lift B'); (try k_fold)))
  k_with "mine startG" => (k_dflt (walk_at "mine enterG"))
  k_with "eval ListComp" => ((k_here; k_dflt (refine comp_T (by k_asm) (by with_unfolding_all rfl) (by decide) (by rfl) (by decide) (by rfl) ?_ (fun _ => by rfl))))
  k_with "CSrc" => ((k_here; k_dflt (refine CSrc.tuple (by rfl) (by k_asm) (by k_asm) (by k_mem) (by first | size_fits | exact Nat.le_of_ble_eq_true rfl) ?_; intro g'; lct_lit)))
  k_with "CompEnd" => ((k_here; (refine' LCg.CompEnd.intro ?zzkF ?zzkN _ (fun _ h => h) ?zzkO ?zzkS ?_; (case zzkF => k_asm); (case zzkN => assumption); (case zzkO => with_unfolding_all assumption); (case zzkS => first | exact True.intro | k_mem))))
  k_with "execs cons" => ((k_here; (with_reducible show wpAny _ _ (execs (_ :: _) _) _ _ { heap := _, gens := _, drawn := _, toks := _ + 1, os := _ }); refine tok_any ?_; intro tkA; (try dsimp only)))
  trivial
noncomputable def oct (c : Int) : List Int :=
  if u8len c = 1 then [c] else if u8len c = 2 then [192 + c / 64, 128 + c % 64] else if u8len c = 3 then [224 + c / 64 / 64, 128 + c / 64 % 64, 128 + c % 64]
  else [240 + c / 64 / 64 / 64, 128 + c / 64 / 64 % 64, 128 + c / 64 % 64, 128 + c % 64]
theorem u8len_cases (c : Int) : u8len c = 0 ∨ u8len c = 1 ∨ u8len c = 2 ∨ u8len c = 3 ∨ u8len c = 4 := by
  unfold u8len
  split
  · exact .inl rfl
  · split <;> split <;> split <;> simp
theorem c_oct (w : World) (mean : Mn) (mg mb : Nm) (c : Int) (t : Tok) (h : 0 < u8len c) : CtrG w mean mg mb none 81 [.int c t] 2 16 [] (isInts (oct c)) := by
  rcases u8len_cases c with h0 | h0 | h0 | h0 | h0
  · omega
  · have e : oct c = [c] := by unfold oct; rw [if_pos h0]
    rw [e]; exact c_oct1 w mean mg mb c t h0
  · have e : oct c = [192 + c / 64, 128 + c % 64] := by unfold oct; rw [if_neg (by omega), if_pos h0]
    rw [e]; exact c_oct2 w mean mg mb c t h0
  · have e : oct c = [224 + c / 64 / 64, 128 + c / 64 % 64, 128 + c % 64] := by unfold oct; rw [if_neg (by omega), if_neg (by omega), if_pos h0]
    rw [e]; exact c_oct3 w mean mg mb c t h0
  · have e : oct c = [240 + c / 64 / 64 / 64, 128 + c / 64 / 64 % 64, 128 + c / 64 % 64, 128 + c % 64] := by unfold oct; rw [if_neg (by omega), if_neg (by omega), if_neg (by omega)]
    rw [e]; exact c_oct4 w mean mg mb c t h0
@[reducible] noncomputable def isIntsN (xs : List Int) (news : Led) : Value → Led → Prop := fun v n => ∃ a vs k, v = .ref a ∧ n = (a, listOf vs k) :: news ∧ IntsAre vs.toList xs ∧ AllNe a news
theorem intsN_of {w : World} {mean : Mn} {mg mb : Nm} {hdl : Option Value} {f : Addr} {vs : List Value} {dd uu : Nat} {xs : List Int} (C : CtrG w mean mg mb hdl f vs dd uu [] (isInts xs)) (rest : Led) :
    Ctr w mean mg mb hdl f vs dd uu rest (isIntsN xs rest) := by
  intro dp un gd cn cs a ccd cl outer A₀ base h₀ L m s Q E hB hF hK hN hT hk hdp hun hret
  refine ctr_of_G C (rest := rest) (by simp) dp un gd cn cs a ccd cl outer A₀ base h₀ L m s Q E hB hF hK hN hT hk hdp hun fun v n h' tk' hp F' N' => ?_
  obtain ⟨n', rfl, ⟨a', vs', k', rfl, rfl, hi⟩, hoff⟩ := hp
  exact hret _ _ _ _ ⟨a', vs', k', rfl, rfl, hi, allNe_of fun q hq => hoff _ (.head _) q hq⟩ F' N'
theorem said_s_octets_3 : True := by
  k_with "call ref" => ((k_here; k_dflt (refine' ctr_use (c_need_latin _ _ _ _ _ _ _) ?zzk1 ?zzk2 ?zzk3 ?zzk4 ?zzk5 ?zzkK ?zzkd ?zzku ?_; (case zzk1 => k_asm); (case zzk2 => k_asm); (case zzk3 => k_asm); (case zzk4 => k_asm); (case zzk5 => k_asm); (case zzkK => first | exact rfl | assumption); (case zzkd => walk_at "mine room"); (case zzku => walk_at "mine units"); intro v9 n9 h9 tk9 P9 F9 N9; obtain ⟨e9, e9'⟩ := P9; subst e9; subst e9'; (try dsimp only); (try k_sweep); (try k_fold))))
  k_with "call ref" => ((k_here; k_dflt (refine' ctr_use (c_need_utf8 _ _ _ _ _ _ _) ?zzk1 ?zzk2 ?zzk3 ?zzk4 ?zzk5 ?zzkK ?zzkd ?zzku ?_; (case zzk1 => k_asm); (case zzk2 => k_asm); (case zzk3 => k_asm); (case zzk4 => k_asm); (case zzk5 => k_asm); (case zzkK => first | exact rfl | assumption); (case zzkd => walk_at "mine room"); (case zzku => walk_at "mine units"); intro v9 n9 h9 tk9 P9 F9 N9; obtain ⟨e9, e9'⟩ := P9; subst e9; subst e9'; (try dsimp only); (try k_sweep); (try k_fold))))
  trivial
theorem has_yes (w : World) (mean : Mn) (mg mb : Nm) (news : Led) (c : Int) (t u : Tok) (h : 0 < u8len c) :
    Ctr w mean mg mb none 130 [.str (Str.ofString "utf-8") u, .int c t] 2 16 news (isBool news true) := by
  have := c_has_utf8 w mean mg mb news c t u
  rwa [decide_eq_true h] at this
theorem has_yesL (w : World) (mean : Mn) (mg mb : Nm) (news : Led) (c : Int) (t u : Tok) (h : c < 256) :
    Ctr w mean mg mb none 130 [.str (Str.ofString "iso-8859-1") u, .int c t] 2 16 news (isBool news true) := by
  have := c_has_latin w mean mg mb news c t u
  rwa [decide_eq_true h] at this
theorem said_s_octets_4 : True := by
  k_with "call ref" => ((k_here; k_dflt (refine' ctr_use (has_yes _ _ _ _ _ _ _ _ (by assumption)) ?zzk1 ?zzk2 ?zzk3 ?zzk4 ?zzk5 ?zzkK ?zzkd ?zzku ?_; (case zzk1 => k_asm); (case zzk2 => k_asm); (case zzk3 => k_asm); (case zzk4 => k_asm); (case zzk5 => k_asm); (case zzkK => first | exact rfl | assumption); (case zzkd => walk_at "mine room"); (case zzku => walk_at "mine units"); intro v9 n9 h9 tk9 P9 F9 N9; obtain ⟨e9, e9'⟩ := P9; subst e9; subst e9'; (try dsimp only); (try k_sweep); (try k_fold))))
  k_with "call ref" => ((k_here; k_dflt (refine' ctr_use (has_yesL _ _ _ _ _ _ _ _ (by assumption)) ?zzk1 ?zzk2 ?zzk3 ?zzk4 ?zzk5 ?zzkK ?zzkd ?zzku ?_; (case zzk1 => k_asm); (case zzk2 => k_asm); (case zzk3 => k_asm); (case zzk4 => k_asm); (case zzk5 => k_asm); (case zzkK => first | exact rfl | assumption); (case zzkd => walk_at "mine room"); (case zzku => walk_at "mine units"); intro v9 n9 h9 tk9 P9 F9 N9; obtain ⟨e9, e9'⟩ := P9; subst e9; subst e9'; (try dsimp only); (try k_sweep); (try k_fold))))
  k_with "call ref" => ((k_here; k_dflt (refine' ctr_use (intsN_of (c_oct _ _ _ _ _ _ (by assumption)) _) ?zzk1 ?zzk2 ?zzk3 ?zzk4 ?zzk5 ?zzkK ?zzkd ?zzku ?_; (case zzk1 => k_asm); (case zzk2 => k_asm); (case zzk3 => k_asm); (case zzk4 => k_asm); (case zzk5 => k_asm); (case zzkK => first | exact rfl | assumption); (case zzkd => walk_at "mine room"); (case zzku => walk_at "mine units"); intro v9 n9 h9 tk9 P9 F9 N9; obtain ⟨a9, vs9, k9, e9, e9', i9, l9⟩ := P9; subst e9; subst e9'; (try simp only [AllNe, and_true] at l9); (try dsimp only); (try k_sweep); (try k_fold))))
  k_with "mine to loop" => (repeat' (first | (k_unfold; (try dsimp only)) | ((fail_if_success (with_reducible show wpAny _ _ (pyIter _) _ _ _)); walk1) | ((fail_if_success (with_reducible show wpAny _ _ (pyIter _) _ _ _)); dsimp only; walk1)))
  trivial
noncomputable def OctP (cs pre row : List Int) : Prop := row = ((cs.take pre.length).map oct).flatten
theorem OctP.nil (cs : List Int) : OctP cs [] [] := rfl
theorem OctP.step {cs pre row : List Int} {c k : Int} (h : OctP cs pre row) (hc : cs[pre.length]? = some c) : OctP cs (pre ++ [k]) (row ++ oct c) := by
  unfold OctP at *
  rw [List.length_append, List.length_singleton, List.take_add_one, hc, h]
  simp
theorem OctP.all {cs pre row : List Int} (h : OctP cs pre row) (hl : pre.length = cs.length) : row = (cs.map oct).flatten := by
  unfold OctP at h
  rw [h, hl, List.take_length]
theorem cps_at {x : Str} {cs : List Int} (hx : x.cps.toList.map (fun n : Nat => (n : Int)) = cs) {j : Nat} (hj : j < cs.length) : ∃ c : Nat, x.cps[j]? = some c ∧ cs[j]? = some (c : Int) ∧ (c : Int) ∈ cs := by
  subst hx
  rw [List.length_map] at hj
  refine ⟨x.cps.toList[j], ?_, ?_, ?_⟩
  · rw [← Array.getElem?_toList]; exact List.getElem?_eq_getElem hj
  · rw [List.getElem?_map, List.getElem?_eq_getElem hj]; rfl
  · exact List.mem_map.mpr ⟨_, List.getElem_mem hj, rfl⟩
theorem item_at {x : Str} {cs : List Int} (hx : x.cps.toList.map (fun n : Nat => (n : Int)) = cs) {k : Int} {j : Nat} (hk : k = (j : Int)) (hj : j < cs.length) : cs[j]? = some (((Txt.item x k).cps.getD 0 0 : Nat) : Int) ∧ (((Txt.item x k).cps.getD 0 0 : Nat) : Int) ∈ cs := by
  obtain ⟨c, h1, h2, h3⟩ := cps_at hx hj
  have e : (Txt.item x k).cps.getD 0 0 = c := by
    rw [item_meets (x := x) (i := k) (n := c) (by omega) (by rw [hk]; exact h1)]; rfl
  rw [e]; exact ⟨h2, h3⟩
theorem oct_len (c : Int) : 1 ≤ (oct c).length ∧ (oct c).length ≤ 4 := by
  unfold oct
  split
  · simp
  · split
    · simp
    · split <;> simp
theorem octs_len (cs : List Int) : ((cs.map oct).flatten).length ≤ 4 * cs.length := by
  induction cs with
  | nil => exact Nat.le_refl _
  | cons c r ih =>
    have := oct_len c
    simp only [List.map_cons, List.flatten_cons, List.length_append, List.length_cons]
    omega
theorem OctP.len {cs pre row : List Int} (h : OctP cs pre row) (hs : cs.length ≤ 1000) : row.length ≤ 4000 := by
  rw [h]
  have h1 := octs_len (cs.take pre.length)
  have h2 : (cs.take pre.length).length ≤ cs.length := by rw [List.length_take]; omega
  omega
theorem extend_own {prog : Program} {w : World} {A : Around} {E : Value → Shared → Prop} {s : Shared} {h₀ : Heap} {L : Addr} {m : Nm} {l a9 : Addr} {vs : List Value} {vs9 : Array Value} {kk k9 : Nat} {own : Led} {row xs : List Int} {Q : Value → Shared → Prop}
    (F : Fr h₀ L s.heap m) (N : News h₀ L s.heap ((a9, listOf vs9 k9) :: (l, listOf vs.toArray kk) :: own)) (hne : a9 ≠ l) (hoff : OwnOff own [l]) (h1 : IntsAre vs row) (h2 : IntsAre vs9.toList xs) (l1 : row.length ≤ 4000) (l2 : 1 ≤ xs.length) (l3 : xs.length ≤ 4)
    (h : ∀ h', Fr h₀ L h' m → News h₀ L h' ((a9, listOf vs9 k9) :: (l, listOf (vs ++ vs9.toList).toArray (kk + 1)) :: own) → Q .none { s with heap := h' }) :
    wpAny (model prog w) A (call (.builtin "list.extend") [.ref l, .ref a9]) Q E s := by
  have e1 := h1.length
  have e2 := h2.length
  have e3 : vs9.size = xs.length := by rw [← e2]; simp
  refine kl_extend F N (b := a9) (its2 := vs9) (n2 := k9) (l := vs ++ vs9.toList) (.head _) (by simp) (by omega) (Upd.tail hne (Upd.head fun p hp => hoff p hp l (by simp))) ?_ ?_ ?_ h
  · have e4 : vs.toArray.size = vs.length := by simp
    have e5 : ¬ (vs.toArray.size + vs9.size > sizeLine) := by rw [sizeLine_eq]; omega
    simp only [Builtin.List.listTooLong, decide_eq_false e5, Bool.and_false]
    decide
  · simp only [sizeLine_eq]
    have : vs.toArray.toList.length = vs.length := rfl
    omega
  · rw [sizeLine_eq]
    have : vs.toArray.size = vs.length := by simp
    omega
theorem ints_app : ∀ {vs ws : List Value} {xs ys : List Int}, IntsAre vs xs → IntsAre ws ys → IntsAre (vs ++ ws) (xs ++ ys)
  | _, _, _, _, .nil, h => h
  | _, _, _, _, .cons z u r, h => .cons z u (ints_app r h)
theorem row_loop {prog : Program} {w : World} {A : Around} {E : Value → Shared → Prop} {s : Shared} {env : Env} {h₀ : Heap} {x : Str} {body : List Stmt} {Q : Flow → Shared → Prop} {r : Addr} {b₀ : Int} {t₀ u₀ v₀ : Tok} {m₀ : Nm} {l : Addr} (nR : Str) (stored : List Str) (P : List Int → List Int → Prop)
    (hh : A.handled = none) (hr : IsRange s.heap r 0 b₀ 1 t₀ u₀ v₀) (hb0 : 0 ≤ b₀) (hb1 : b₀ ≤ 1000000) (F : Fr h₀ env.locals s.heap m₀) (N : News h₀ env.locals s.heap [(l, listOf #[] 0)]) (hk : m₀ nR = some (.ref l)) (hp : P [] [])
    (turn : ∀ (vs : List Value) (row : List Int) (kk : Nat) (pre : List Int) (k : Int) t (u : Nm) h tk own, k = (pre.length : Int) → pre.length < b₀.toNat → OwnOff own [l] → IntsAre vs row → P pre row →
      Fr h₀ env.locals h (fun y => if y = x then some (.int k t) else if y = nR then some (.ref l) else if stored.contains y then u y else m₀ y) → News h₀ env.locals h ((l, listOf vs.toArray kk) :: own) →
      wpAny (model prog w) A (execs body env) (InvPostN h₀ env.locals (KstS (σ := List Value × List Int × Nat) (fun c => [(l, listOf c.1.toArray c.2.2)]) (fun _ => [(nR, .ref l)]) (fun c => IntsAre c.1 c.2.1) x stored m₀ (fun pre c => P pre c.2.1) (pre ++ [k])) own [l] { s with heap := h, toks := tk } Q) E { s with heap := h, toks := tk })
    (done : ∀ (vs : List Value) (row : List Int) (kk : Nat) (u : Nm) h tk, IntsAre vs row → P (rangeKs 0 b₀.toNat) row → Fr h₀ env.locals h (fun y => if y = x then u y else if y = nR then some (.ref l) else if stored.contains y then u y else m₀ y) → News h₀ env.locals h [(l, listOf vs.toArray kk)] → Q .next { s with heap := h, toks := tk }) :
    wpAny (model prog w) A (pyIter (.ref r)) (fun it s₂ => LoopAtV prog w A h₀ env x body Q E it s₂) E s := by
  refine kst_range (σ := List Value × List Int × Nat) (n := b₀.toNat) (fun c => [(l, listOf c.1.toArray c.2.2)]) (fun _ => [(nR, .ref l)]) (fun c => IntsAre c.1 c.2.1) stored (fun pre c => P pre c.2.1) ([], [], 0) hh hr (small_one (by decide) (by decide) (by omega) (by omega)) ?_ F N IntsAre.nil ?_ hp ?_ ?_
  · rw [rangeSize_nat]; simp
  · intro p hp'
    rcases List.mem_cons.mp hp' with rfl | q
    · exact hk
    · cases q
  · rintro ⟨vs, row, kk⟩ pre k t u h tk own he hlt hoff hf hP F1 N1
    exact turn vs row kk pre k t u h tk own (by omega) hlt hoff hf hP F1 N1
  · rintro ⟨vs, row, kk⟩ u h tk hf hP F1 N1
    exact done vs row kk u h tk hf hP F1 N1
theorem c_octets_utf8 (w : World) (mean : Mn) (mg mb : Nm) (x : Str) (cs : List Int) (t tt : Tok) (hx : x.cps.toList.map (fun n : Nat => (n : Int)) = cs) (hin : KBa.In ((cs.map oct).flatten)) (hv : ∀ c ∈ cs, 0 < u8len c) (hs : cs.length ≤ 1000) (hxl : x.length = cs.length) :
    CtrG w mean mg mb none 137 [.str (Str.ofString "utf-8") t, .str x tt] 6 60 [] (fun v n => ∃ b u, v = .bytes b u ∧ n = [] ∧ KBw.bInts b = (cs.map oct).flatten) := by
  intro dp un gd cn cs' a ccd cl outer A₀ base h₀ L m s Q E hB hF hK hN hT hk hdp hun hret
  walk_at "mine startG"
  have hp0 := OctP.nil cs
  walk_at "mine to loop"
  rename IsRange _ _ _ _ _ _ _ _ => rgX
  refine' row_loop (Str.ofString "row") [Str.ofString "code"] (fun pre row => OctP cs pre row) ?hh rgX ?hb0 ?hb1 ?F ?N ?hk hp0 ?turn ?done
  case hh => exact rfl
  case hb0 => omega
  case hb1 => omega
  case F => k_asm
  case N => k_asm
  case hk => exact rfl
  case turn =>
    intro vs row kk kPre kN kT kU kH kTk kOwn kEq kLt kOff kFacts kInv kFr kNews
    have kMark := kstMark
    obtain ⟨hc2, hc3⟩ := item_at hx (k := kN) (j := kPre.length) kEq (by omega)
    have hv9 := hv _ hc3
    (try k_fold)
    k_steps
    rename News _ _ _ _ => kN9
    refine' extend_own ?x1 ?x2 ?x3 kOff kFacts ?x4 (kInv.len hs) (oct_len _).1 (oct_len _).2 ?x5
    case x1 => k_asm
    case x2 => exact kN9
    case x3 => exact (show _ ∧ _ by assumption).1
    case x4 => assumption
    case x5 =>
      intro h9 F9 N9
      (try dsimp only)
      have hst := OctP.step (k := kN) kInv hc2
      k_steps
      refine' kst_end (σ := List Value × List Int × Nat) (_, _, _) ?y1 ?y2 ?y3 ?y4 rfl ?y5 ?y6 ?y7 hst
      case y1 => k_asm
      case y2 => exact N9
      case y3 => exact fun p hp => List.mem_cons_of_mem _ (by rcases List.mem_cons.mp hp with rfl | q; exact .head _; cases q)
      case y4 => exact fun p hp => List.mem_cons_of_mem _ (List.mem_cons_of_mem _ hp)
      case y5 => exact ints_app kFacts (by assumption)
      case y6 => exact fun p hp => by rcases List.mem_cons.mp hp with rfl | q; exact rfl; cases q
      case y7 =>
        intro z h2 h3 h4
        have h5 := h3 _ (.head _)
        simp only [List.contains_cons, List.contains_nil, Bool.or_false, beq_eq_false_iff_ne, ne_eq] at h4
        simp [h2, h4, h5]
  case done =>
    intro vs row kk kU kH kTk kFacts kInv kFr kNews
    have kMark := kstMark
    (try dsimp only)
    k_steps
    have hrow := kInv.all (by rw [rangeKs_length]; omega)
    refine' KBa.make_K ?z1 ?z2 rfl ?z3 kFacts ?z4 ?z5 ?z6
    case z1 => k_asm
    case z2 => exact kNews
    case z3 => exact ⟨_, (kNews _ (.head _)).1, rfl, _, rfl⟩
    case z4 => rw [hrow]; exact hin
    case z5 => have := kInv.len hs; omega
    case z6 =>
      intro h9 t9 k9 F9 N9 I9
      (try dsimp only)
      have hbe := KBa.ints_make I9
      k_steps
      refine' ret_useG hret (by assumption) ?kP ?kF ?kN ?kF2 ?kN2 ?kS
      case kP => exact ⟨_, _, rfl, rfl, hbe.trans hrow⟩
      case kF => k_asm
      case kN => assumption
      case kF2 => assumption
      case kN2 => k_asm
      case kS => exact fun p hp => absurd hp (by simp)

noncomputable def LatP (cs pre row : List Int) : Prop := row = cs.take pre.length
theorem LatP.nil (cs : List Int) : LatP cs [] [] := rfl
theorem LatP.step {cs pre row : List Int} {c k : Int} (h : LatP cs pre row) (hc : cs[pre.length]? = some c) : LatP cs (pre ++ [k]) (row ++ [c]) := by
  unfold LatP at *
  rw [List.length_append, List.length_singleton, List.take_add_one, hc, h]
  rfl
theorem LatP.all {cs pre row : List Int} (h : LatP cs pre row) (hl : pre.length = cs.length) : row = cs := by
  unfold LatP at h
  rw [h, hl, List.take_length]
theorem LatP.len {cs pre row : List Int} (h : LatP cs pre row) (hs : cs.length ≤ 1000) : row.length ≤ 4000 := by
  rw [h, List.length_take]; omega
theorem lats_in {x : Str} {cs : List Int} (hx : x.cps.toList.map (fun n : Nat => (n : Int)) = cs) (hv : ∀ c ∈ cs, c < 256) : KBa.In cs := by
  intro n hn
  refine ⟨?_, hv n hn⟩
  subst hx
  obtain ⟨k, _, rfl⟩ := List.mem_map.mp hn
  exact Int.natCast_nonneg k
theorem c_octets_latin (w : World) (mean : Mn) (mg mb : Nm) (x : Str) (cs : List Int) (t tt : Tok) (hx : x.cps.toList.map (fun n : Nat => (n : Int)) = cs) (hv : ∀ c ∈ cs, c < 256) (hs : cs.length ≤ 1000) (hxl : x.length = cs.length) :
    CtrG w mean mg mb none 137 [.str (Str.ofString "iso-8859-1") t, .str x tt] 6 60 [] (fun v n => ∃ b u, v = .bytes b u ∧ n = [] ∧ KBw.bInts b = cs) := by
  intro dp un gd cn cs' a ccd cl outer A₀ base h₀ L m s Q E hB hF hK hN hT hk hdp hun hret
  walk_at "mine startG"
  have hp0 := LatP.nil cs
  walk_at "mine to loop"
  rename IsRange _ _ _ _ _ _ _ _ => rgX
  refine' row_loop (Str.ofString "row") [Str.ofString "code"] (fun pre row => LatP cs pre row) ?hh rgX ?hb0 ?hb1 ?F ?N ?hk hp0 ?turn ?done
  case hh => exact rfl
  case hb0 => omega
  case hb1 => omega
  case F => k_asm
  case N => k_asm
  case hk => exact rfl
  case turn =>
    intro vs row kk kPre kN kT kU kH kTk kOwn kEq kLt kOff kFacts kInv kFr kNews
    have kMark := kstMark
    obtain ⟨hc2, hc3⟩ := item_at hx (k := kN) (j := kPre.length) kEq (by omega)
    have hv9 := hv _ hc3
    (try k_fold)
    k_steps
    rename News _ _ _ _ => kN9
    refine' append_K (its := vs.toArray) (n := kk) ?x1 kN9 (Upd.head fun p hp => kOff p hp _ (by simp)) ?x5 ?x6
    case x1 => k_asm
    case x6 =>
      rw [sizeLine_eq]
      have h1 := kFacts.length
      have h2 := kInv.len hs
      have : vs.toArray.size = vs.length := by simp
      omega
    case x5 =>
      intro h9 F9 N9
      (try dsimp only)
      (try simp only [List.push_toArray] at N9)
      have hst := LatP.step (k := kN) kInv hc2
      k_steps
  case done =>
    intro vs row kk kU kH kTk kFacts kInv kFr kNews
    have kMark := kstMark
    (try dsimp only)
    k_steps
    have hrow := kInv.all (by rw [rangeKs_length]; omega)
    refine' KBa.make_K ?z1 ?z2 rfl ?z3 kFacts ?z4 ?z5 ?z6
    case z1 => k_asm
    case z2 => exact kNews
    case z3 => exact ⟨_, (kNews _ (.head _)).1, rfl, _, rfl⟩
    case z4 => rw [hrow]; exact lats_in hx hv
    case z5 => have := kInv.len hs; omega
    case z6 =>
      intro h9 t9 k9 F9 N9 I9
      (try dsimp only)
      have hbe := KBa.ints_make I9
      k_steps
      refine' ret_useG hret (by assumption) ?kP ?kF ?kN ?kF2 ?kN2 ?kS
      case kP => exact ⟨_, _, rfl, rfl, hbe.trans hrow⟩
      case kF => k_asm
      case kN => assumption
      case kF2 => assumption
      case kN2 => k_asm
      case kS => exact fun p hp => absurd hp (by simp)
end
section
theorem said_f_sign_1 : True := by
  k_with_none
  trivial
theorem said_f_sign_2 : True := by
  k_with "mine room" => (first | exact ro0 (by assumption) | exact ro2 (by assumption) (by rfl) | exact ro1 (by assumption) (by rfl) | exact Nat.lt_of_succ_le (Nat.le_of_ble_eq_true (by rfl)) | ktr_room)
  k_with "mine units" => (first | exact ro2 (by assumption) (by rfl) | exact ro1 (by assumption) (by rfl) | exact Nat.lt_of_succ_le (Nat.le_of_ble_eq_true (by rfl)) | ktr_units)
  k_with "mine enterG" => ((refine wpAny_call ?_; refine' code_defG ?zzk1 ?zzk2 ?zzk3 ?zzk4 ?zzk5 ?zzkA ?zzkF ?zzkK ?zzk6 ?zzk7 ?zzk8 ?zzk9 ?zzkB ?_ ?zzc2 ?zzc3 ?zzc4 ?zzc5; (case zzkA => exact rfl); (case zzkF => exact rfl); (case zzkK => assumption); (case zzk1 => k_asm); (case zzk2 => k_asm); (case zzk3 => k_asm); (case zzk4 => k_asm); (case zzk5 => k_asm); (case zzk6 => k_is); (case zzk7 => k_is); (case zzk8 => walk_at "mine room"); (case zzk9 => first | exact BindsTo.of_eq rfl | exact binds_K (by k_in) rfl (by k_is) rfl rfl rfl); (case zzc5 => decide); (case zzkB => exact locs rfl); (case zzc2 => exact rfl); (case zzc3 => exact rfl); (case zzc4 => exact rfl); k_whole; intro g' L' h' FG' F' N' B' X' T' kG'; (try dsimp only); (try k_lift B'); (try k_fold)))
  k_with "mine startG" => (k_dflt (walk_at "mine enterG"))
  k_with "execs cons" => ((k_here; (with_reducible show wpAny _ _ (execs (_ :: _) _) _ _ { heap := _, gens := _, drawn := _, toks := _ + 1, os := _ }); refine tok_any ?_; intro tkA; (try dsimp only)))
  trivial
@[reducible] noncomputable def bsz (n : Nat) : Prop := n ≤ 1099511627776
noncomputable def ix (ks : List Int) (i : Int) : Int := ks.getD i.toNat 0
noncomputable def tailGo (ks : List Int) (at_ : Int) : Nat → Int → Int → Int → Int → Int × Int
  | 0, place, _, _, code => (code, place)
  | r + 1, place, lo, hi, code =>
    if (ks.length : Int) ≤ at_ + place ∨ ¬ (lo ≤ ks.getD (at_ + place).toNat 0 ∧ ks.getD (at_ + place).toNat 0 ≤ hi) then (-1, place)
    else tailGo ks at_ r (place + 1) 128 191 (code * 64 + ks.getD (at_ + place).toNat 0 % 64)
theorem tailGo_out {ks : List Int} {at_ : Int} {r : Nat} {place lo hi code : Int} (h : (ks.length : Int) ≤ at_ + place ∨ ¬ lo ≤ ks.getD (at_ + place).toNat 0 ∨ ¬ ks.getD (at_ + place).toNat 0 ≤ hi) : tailGo ks at_ (r + 1) place lo hi code = (-1, place) := by
  unfold tailGo; exact if_pos (h.imp_right fun q x => q.elim (fun y => y x.1) fun y => y x.2)
theorem tailGo_on {ks : List Int} {at_ : Int} {r : Nat} {place lo hi code : Int} (h : ¬ (ks.length : Int) ≤ at_ + place) (h1 : lo ≤ ks.getD (at_ + place).toNat 0) (h2 : ks.getD (at_ + place).toNat 0 ≤ hi) :
    tailGo ks at_ (r + 1) place lo hi code = tailGo ks at_ r (place + 1) 128 191 (code * 64 + ks.getD (at_ + place).toNat 0 % 64) := by
  conv => lhs; unfold tailGo
  exact if_neg fun q => q.elim h fun x => x ⟨h1, h2⟩
theorem tailGo_end {ks : List Int} {at_ : Int} {place lo hi code : Int} : tailGo ks at_ 0 place lo hi code = (code, place) := rfl
@[reducible] noncomputable def isSpan3 (news : Led) (x y z : Int) : Value → Led → Prop := fun v n => ∃ a t1 t2 t3, v = .ref a ∧ AllLt a news ∧ n = (a, tupO [.int x t1, .int y t2, .int z t3]) :: news
theorem c_span_k (w : World) (mean : Mn) (mg mb : Nm) (news : Led) (c : Int) (t : Tok) {x y z : Int} (h : span c = (x, y, z)) :
    Ctr w mean mg mb none 88 [.int c t] 1 8 news (isSpan3 news x y z) := by
  have h1 := c_follower_span w mean mg mb news c t
  rw [h] at h1
  exact h1
theorem p0 : (1 : Int) + ((0 : Nat) : Int) = 1 := rfl
theorem p1 : (1 : Int) + ((0 + 1 : Nat) : Int) = 2 := rfl
theorem p2 : (1 : Int) + ((0 + 1 + 1 : Nat) : Int) = 3 := rfl
theorem p2' : (1 : Int) + 1 = 2 := rfl
theorem p3' : (2 : Int) + 1 = 3 := rfl
theorem p4' : (3 : Int) + 1 = 4 := rfl
theorem s1' : Int.fdiv 64 (2 ^ Int.toNat 1) = 32 := rfl
theorem s2' : Int.fdiv 64 (2 ^ Int.toNat 2) = 16 := rfl
theorem s3' : Int.fdiv 64 (2 ^ Int.toNat 3) = 8 := rfl
theorem fm32 (a : Int) : Int.fmod a 32 = a % 32 := Int.fmod_eq_emod_of_nonneg a (by decide)
theorem fm16 (a : Int) : Int.fmod a 16 = a % 16 := Int.fmod_eq_emod_of_nonneg a (by decide)
theorem fm8 (a : Int) : Int.fmod a 8 = a % 8 := Int.fmod_eq_emod_of_nonneg a (by decide)
theorem fm64' (a : Int) : Int.fmod a 64 = a % 64 := Int.fmod_eq_emod_of_nonneg a (by decide)
theorem said_f_sign_3 : True := by
  k_with "call ref" => ((k_here; k_dflt (refine' ctr_use (c_span_k _ _ _ _ _ _ _ (by assumption)) ?zzk1 ?zzk2 ?zzk3 ?zzk4 ?zzk5 ?zzkK ?zzkd ?zzku ?_; (case zzk1 => k_asm); (case zzk2 => k_asm); (case zzk3 => k_asm); (case zzk4 => k_asm); (case zzk5 => k_asm); (case zzkK => first | exact rfl | assumption); (case zzkd => walk_at "mine room"); (case zzku => walk_at "mine units"); intro v9 n9 h9 tk9 P9 F9 N9; obtain ⟨a9, t1, t2, t3, e9, l9, e9'⟩ := P9; subst e9; subst e9'; (try simp only [AllLt, and_true] at l9); (try dsimp only); (try k_sweep); (try k_fold))))
  trivial
@[reducible] noncomputable def isPair (x : Int × Int) : Value → Led → Prop := fun v n => ∃ a t1 t2, v = .ref a ∧ n = [(a, tupO [.int x.1 t1, .int x.2 t2])]
theorem pair_ok {x : Int × Int} {y z : Int} {t1 t2 : Tok} {a : Addr} (h : (y, z) = x) : isPair x (.ref a) [(a, tupO [.int y t1, .int z t2])] := by subst h; exact ⟨a, t1, t2, rfl, rfl⟩
theorem said_f_sign_4 : True := by
  k_with "mine pair endG" => ((refine' ret_useG (by assumption) (by assumption) (pair_ok ?_) ?zzkF ?zzkN ?zzkF2 ?zzkN2 ?zzkS; (case zzkF => k_asm); (case zzkN => assumption); (case zzkF2 => k_asm); (case zzkN2 => k_asm); (case zzkS => kcj_all)))
  trivial

theorem said_f_sign_5 : True := by
  k_with "mine tail" => ((
      (all_goals (try simp only [p0, p1, p2, p2', p3', p4', s1', s2', s3', fm64', fm32, fm16, fm8] at *)); (all_goals (try simp only [ix]));
      (all_goals (first | rfl | (rw [tailGo_out (by omega)]; done) | (rw [tailGo_on (by omega) (by omega) (by omega)]; (try simp only [p2', p3', p4']); first | rfl | (rw [tailGo_out (by omega)]; done) | (rw [tailGo_on (by omega) (by omega) (by omega)]; (try simp only [p2', p3', p4']); first | rfl | (rw [tailGo_out (by omega)]; done) | (rw [tailGo_on (by omega) (by omega) (by omega)]; (try simp only [p2', p3', p4']); rfl)))))))
  trivial
theorem c_sign_A (w : World) (mean : Mn) (mg mb : Nm) (b : Array UInt8) (ks : List Int) (at_ : Int) (t u : Tok) (hb : KBw.bInts b = ks) (hs : ks.length ≤ 1099511627776) (h0 : 0 ≤ at_) (h1 : at_ < (ks.length : Int)) (hl : ks.getD at_.toNat 0 < 128) :
    CtrG w mean mg mb none 95 [.bytes b t, .int at_ u] 2 16 [] (isPair (ix ks at_, 1)) := by
  intro dp un gd cn cs a ccd cl outer A₀ base h₀ L m s Q E hB hF hK hN hT hk hdp hun hret
  walk_at "mine startG"
  k_steps
  all_goals first | walk_at "mine pair endG" | (exfalso; exact absurd (by assumption) (show ¬ (_ = (0 : Int)) by decide))
  all_goals walk_at "mine tail"
noncomputable def sh (n : Int) : Int := if n = 1 then 32 else if n = 2 then 16 else 8
theorem sh_pos (n : Int) : 0 < sh n := by
  unfold sh
  split
  · decide
  · split <;> decide
theorem k0123 {n : Int} (h : n = 0 ∨ n = 1 ∨ n = 2 ∨ n = 3) : 0 ≤ n ∧ n ≤ 1000 := by rcases h with rfl | rfl | rfl | rfl <;> decide
section
variable {prog : Program} {w : World} {A : Around} {E : Value → Shared → Prop} {s : Shared}
theorem shr_n {n : Int} {t u : Tok} {Q : Value → Shared → Prop} (hn : n = 1 ∨ n = 2 ∨ n = 3) (h : Q (.int (sh n) s.toks) { s with toks := s.toks + 1 }) : wpAny (model prog w) A (binaryOp .RShift (.int 64 t) (.int n u)) Q E s :=
  rshift_int (by rcases hn with rfl | rfl | rfl <;> decide) (by rcases hn with rfl | rfl | rfl <;> exact h)
theorem mod_sh {a n : Int} {t u : Tok} {Q : Value → Shared → Prop} (h : Q (.int (a % sh n) s.toks) { s with toks := s.toks + 1 }) : wpAny (model prog w) A (binaryOp .Mod (.int a t) (.int (sh n) u)) Q E s :=
  mod_int' (Int.ne_of_gt (sh_pos n)) (by rw [Int.fmod_eq_emod_of_nonneg a (Int.le_of_lt (sh_pos n))]; exact h)
theorem mod_64 {a : Int} {t u : Tok} {Q : Value → Shared → Prop} (h : Q (.int (a % 64) s.toks) { s with toks := s.toks + 1 }) : wpAny (model prog w) A (binaryOp .Mod (.int a t) (.int 64 u)) Q E s :=
  mod_int' (by decide) (by rw [Int.fmod_eq_emod_of_nonneg a (by decide)]; exact h)
theorem mul_64 {a : Int} {t u : Tok} {Q : Value → Shared → Prop} (h : Q (.int (a * 64) s.toks) { s with toks := s.toks + 1 }) : wpAny (model prog w) A (binaryOp .Mult (.int a t) (.int 64 u)) Q E s :=
  PyProof.Rows.mul_int h (PySem.IntMulOk.of_right (PySem.intBits_le_64 (by decide) (by decide)))
theorem sign_loop {env : Env} {h₀ : Heap} {x : Str} {body : List Stmt} {Q : Flow → Shared → Prop} {r : Addr} {n c₀ l₀ m₁ : Int} {t₀ u₀ v₀ tc tl th : Tok} {m₀ : Nm} {news : Led} (stored : List Str) (P : List Int → Int → Int → Int → Prop)
    (hh : A.handled = none) (hr : IsRange s.heap r 1 (n + 1) 1 t₀ u₀ v₀) (hn0 : 0 ≤ n) (hn1 : n ≤ 1000) (F : Fr h₀ env.locals s.heap m₀) (N : News h₀ env.locals s.heap news)
    (kc : m₀ (Str.ofString "code") = some (.int c₀ tc)) (kl : m₀ (Str.ofString "least") = some (.int l₀ tl)) (km : m₀ (Str.ofString "most") = some (.int m₁ th)) (hp : P [] c₀ l₀ m₁)
    (turn : ∀ (c l hi : Int) (tc tl th : Tok) (pre : List Int) (k : Int) t (u : Nm) h tk own, k = 1 + (pre.length : Int) → pre.length < n.toNat → OwnOff own (news.map (·.1)) → P pre c l hi →
      Fr h₀ env.locals h (fun y => if y = x then some (.int k t) else if y = Str.ofString "code" then some (.int c tc) else if y = Str.ofString "least" then some (.int l tl) else if y = Str.ofString "most" then some (.int hi th) else if stored.contains y then u y else m₀ y) → News h₀ env.locals h (news ++ own) →
      wpAny (model prog w) A (execs body env) (InvPostN h₀ env.locals (KstS (σ := (Int × Tok) × (Int × Tok) × (Int × Tok)) (fun _ => news) (fun c => [(Str.ofString "code", .int c.1.1 c.1.2), (Str.ofString "least", .int c.2.1.1 c.2.1.2), (Str.ofString "most", .int c.2.2.1 c.2.2.2)]) (fun _ => True) x stored m₀ (fun pre c => P pre c.1.1 c.2.1.1 c.2.2.1) (pre ++ [k])) own (news.map (·.1)) { s with heap := h, toks := tk } Q) E { s with heap := h, toks := tk })
    (done : ∀ (c l hi : Int) (tc tl th : Tok) (u : Nm) h tk, P (rangeKs 1 n.toNat) c l hi → Fr h₀ env.locals h (fun y => if y = x then u y else if y = Str.ofString "code" then some (.int c tc) else if y = Str.ofString "least" then some (.int l tl) else if y = Str.ofString "most" then some (.int hi th) else if stored.contains y then u y else m₀ y) → News h₀ env.locals h news → Q .next { s with heap := h, toks := tk }) :
    wpAny (model prog w) A (pyIter (.ref r)) (fun it s₂ => LoopAtV prog w A h₀ env x body Q E it s₂) E s := by
  refine kst_range (σ := (Int × Tok) × (Int × Tok) × (Int × Tok)) (n := n.toNat) (fun _ => news) (fun c => [(Str.ofString "code", .int c.1.1 c.1.2), (Str.ofString "least", .int c.2.1.1 c.2.1.2), (Str.ofString "most", .int c.2.2.1 c.2.2.2)]) (fun _ => True) stored (fun pre c => P pre c.1.1 c.2.1.1 c.2.2.1) ((c₀, tc), (l₀, tl), (m₁, th)) hh hr (small_one (by decide) (by decide) (by omega) (by omega)) ?_ F N trivial ?_ hp ?_ ?_
  · rw [rangeSize_nat, Int.add_sub_cancel]
  · intro p hp'
    rcases List.mem_cons.mp hp' with rfl | q
    · exact kc
    · rcases List.mem_cons.mp q with rfl | q
      · exact kl
      · rcases List.mem_singleton.mp q with rfl; exact km
  · rintro ⟨⟨c, tc⟩, ⟨l, tl⟩, ⟨hi, th⟩⟩ pre k t u h tk own he hlt hoff _ hP F1 N1
    exact turn c l hi tc tl th pre k t u h tk own he hlt hoff hP F1 N1
  · rintro ⟨⟨c, tc⟩, ⟨l, tl⟩, ⟨hi, th⟩⟩ u h tk _ hP F1 N1
    exact done c l hi tc tl th u h tk hP F1 N1
end
noncomputable def TP (ks : List Int) (i n lo hi c : Int) (pre : List Int) (c' lo' hi' : Int) : Prop := tailGo ks i n.toNat 1 lo hi c = tailGo ks i (n.toNat - pre.length) (1 + pre.length) lo' hi' c'
theorem TP.nil {ks : List Int} {i n lo hi c : Int} : TP ks i n lo hi c [] c lo hi := rfl
theorem TP.out {ks : List Int} {i n lo hi c c' lo' hi' k : Int} {pre : List Int} (h : TP ks i n lo hi c pre c' lo' hi') (hk : k = 1 + (pre.length : Int)) (hl : pre.length < n.toNat)
    (ho : (ks.length : Int) ≤ i + k ∨ ¬ lo' ≤ ks.getD (i + k).toNat 0 ∨ ¬ ks.getD (i + k).toNat 0 ≤ hi') : ((-1 : Int), k) = tailGo ks i n.toNat 1 lo hi c := by
  obtain ⟨r, hr⟩ : ∃ r, n.toNat - pre.length = r + 1 := ⟨n.toNat - pre.length - 1, su1 hl⟩
  unfold TP at h
  rw [h, hr, ← hk, tailGo_out ho]
theorem TP.on {ks : List Int} {i n lo hi c c' lo' hi' k : Int} {pre : List Int} (h : TP ks i n lo hi c pre c' lo' hi') (hk : k = 1 + (pre.length : Int)) (hl : pre.length < n.toNat)
    (h1 : ¬ (ks.length : Int) ≤ i + k) (h2 : lo' ≤ ks.getD (i + k).toNat 0) (h3 : ks.getD (i + k).toNat 0 ≤ hi') : TP ks i n lo hi c (pre ++ [k]) (c' * 64 + ks.getD (i + k).toNat 0 % 64) 128 191 := by
  obtain ⟨r, hr⟩ : ∃ r, n.toNat - pre.length = r + 1 := ⟨n.toNat - pre.length - 1, su1 hl⟩
  unfold TP at h ⊢
  rw [h, hr, ← hk, tailGo_on h1 h2 h3, List.length_append, List.length_singleton, su2 hr, show (1 : Int) + ((pre.length + 1 : Nat) : Int) = k + 1 by rw [hk, Int.natCast_add, Int.add_assoc]; rfl]
theorem TP.all {ks : List Int} {i n lo hi c c' lo' hi' : Int} (h : TP ks i n lo hi c (rangeKs 1 n.toNat) c' lo' hi') (hn : 0 ≤ n) : (c', n + 1) = tailGo ks i n.toNat 1 lo hi c := by
  unfold TP at h
  rw [h, rangeKs_length, Nat.sub_self, tailGo_end, tn_up hn, Int.add_comm]
theorem said_f_sign_6 : True := by
  k_with "mine out endG" => ((refine' ret_useG hret (by assumption) (pair_ok ?zzkv) ?zzkF ?zzkN ?zzkF2 ?zzkN2 ?zzkS; (case zzkF => k_asm); (case zzkN => assumption); (case zzkF2 => k_asm); (case zzkN2 => k_asm); (case zzkS => kcj_all); (case zzkv => exact kInv.out kEq kLt (by omega))))
  k_with "mine turn end" => ((refine' kst_end (σ := (Int × Tok) × (Int × Tok) × (Int × Tok)) ((_, _), (_, _), (_, _)) ?zzy1 ?zzy2 ?zzy3 ?zzy4 rfl trivial ?zzy6 ?zzy7 ?zzy8; (case zzy1 => k_asm); (case zzy2 => assumption); (case zzy3 => kcj_all); (case zzy4 => exact fun p hp => by (try simp only [List.mem_cons]); simp [hp]); (case zzy6 => (intro p hp; rcases List.mem_cons.mp hp with rfl | hp; exact rfl; rcases List.mem_cons.mp hp with rfl | hp; exact rfl; rcases List.mem_singleton.mp hp with rfl; exact rfl)); (case zzy7 => (intro z h2 h3 h4; (have h5 := h3 _ (.head _)); (have h6 := h3 _ (.tail _ (.head _))); (have h7 := h3 _ (.tail _ (.tail _ (.head _)))); simp [h2, h5, h6, h7])); (case zzy8 => exact kInv.on kEq kLt (by assumption) (by assumption) (by assumption))))
  k_with "mine to loop" => (repeat' (first | (k_unfold; (try dsimp only)) | ((fail_if_success (with_reducible show wpAny _ _ (pyIter _) _ _ _)); walk1) | ((fail_if_success (with_reducible show wpAny _ _ (pyIter _) _ _ _)); dsimp only; walk1)))
  k_with "binaryOp RShift int int" => ((k_here; refine shr_n (hn.resolve_left (by assumption)) ?_))
  k_with "binaryOp Mod int int" => ((k_here; with_reducible first | refine mod_sh ?_ | refine mod_64 ?_))
  k_with "binaryOp Mult int int" => ((k_here; with_reducible refine mul_64 ?_))
  trivial
theorem c_sign_C (w : World) (mean : Mn) (mg mb : Nm) (b : Array UInt8) (ks : List Int) (at_ lo hi n : Int) (t u : Tok) (hb : KBw.bInts b = ks) (hs : ks.length ≤ 1099511627776) (h0 : 0 ≤ at_) (h1 : at_ < (ks.length : Int)) (hl : ¬ ks.getD at_.toNat 0 < 128)
    (hp : span (ks.getD at_.toNat 0) = (lo, hi, n)) (hn : n = 0 ∨ n = 1 ∨ n = 2 ∨ n = 3) :
    CtrG w mean mg mb none 95 [.bytes b t, .int at_ u] 2 16 [] (isPair (if n = 0 then (-1, 1) else tailGo ks at_ n.toNat 1 lo hi (ix ks at_ % sh n))) := by
  intro dp un gd cn cs a ccd cl outer A₀ base h₀ L m s Q E hB hF hK hN hT hk hdp hun hret
  walk_at "mine startG"
  walk_at "mine to loop"
  · walk_at "mine pair endG"
    rw [if_pos (by assumption)]
  rw [if_neg (by assumption)] at hret
  rename IsRange _ _ _ _ _ _ _ _ => rgX
  refine' sign_loop [] (TP ks at_ n lo hi (ix ks at_ % sh n)) ?hh rgX ?hb0 ?hb1 ?F ?N ?kc ?kl ?km TP.nil ?turn ?done
  case hh => exact rfl
  case hb0 => exact (k0123 hn).1
  case hb1 => exact (k0123 hn).2
  case F => k_asm
  case N => k_asm
  case kc => exact rfl
  case kl => exact rfl
  case km => exact rfl
  case turn =>
    intro c l hi' tc tl th kPre kN kT kU kH kTk kOwn kEq kLt kOff kInv kFr kNews
    have kMark := kstMark
    (try k_fold)
    k_steps
    all_goals first | walk_at "mine out endG" | walk_at "mine turn end"
  case done =>
    intro c l hi' tc tl th kU kH kTk kInv kFr kNews
    have kMark := kstMark
    (try dsimp only)
    k_steps
    refine' ret_useG hret (by assumption) (pair_ok (kInv.all (k0123 hn).1)) ?kF ?kN ?kF2 ?kN2 ?kS
    case kF => k_asm
    case kN => assumption
    case kF2 => k_asm
    case kN2 => k_asm
    case kS => kcj_all
end
section
theorem n1 {a b c : Prop} (h : ¬ (a ∨ b ∨ c)) : ¬ a := fun q => h (.inl q)
theorem n2 {a b c : Prop} (h : ¬ (a ∨ ¬ b ∨ c)) : b := Classical.byContradiction fun q => h (.inr (.inl q))
theorem n3 {a b c : Prop} (h : ¬ (a ∨ b ∨ ¬ c)) : c := Classical.byContradiction fun q => h (.inr (.inr q))
theorem up0 (p : Int) (r : Nat) : p ≤ p + (r : Int) := Int.le_add_of_nonneg_right (Int.natCast_nonneg r)
theorem up1 (p : Int) (r : Nat) : p + 1 + (r : Int) = p + ((r + 1 : Nat) : Int) := by rw [Int.natCast_add, Int.add_assoc, Int.add_comm 1]; rfl
theorem fu {n i l : Int} {f : Nat} (h : n - i < ((f + 1 : Nat) : Int)) (hl : 1 ≤ l) : n - (i + l) < (f : Int) := by omega
theorem past {a b c : Int} (h1 : a ≤ b) (h2 : b ≤ c) (hk : c < a) : False := absurd (Int.le_trans h1 h2) (Int.not_le.mpr hk)
theorem tail_len (ks : List Int) (i : Int) : ∀ (r : Nat) (p lo hi c : Int), p ≤ (tailGo ks i r p lo hi c).2 ∧ (tailGo ks i r p lo hi c).2 ≤ p + r := by
  intro r
  induction r with
  | zero => intro p lo hi c; exact ⟨Int.le_refl _, up0 p 0⟩
  | succ r ih =>
    intro p lo hi c
    by_cases h : (ks.length : Int) ≤ i + p ∨ ¬ lo ≤ ks.getD (i + p).toNat 0 ∨ ¬ ks.getD (i + p).toNat 0 ≤ hi
    · rw [tailGo_out h]; exact ⟨Int.le_refl _, up0 p _⟩
    · rw [tailGo_on (n1 h) (n2 h) (n3 h)]
      exact ⟨Int.le_trans (Int.le_add_one (Int.le_refl p)) (ih (p + 1) 128 191 _).1, up1 p r ▸ (ih (p + 1) 128 191 _).2⟩
theorem tail_in (ks : List Int) (i : Int) : ∀ (r : Nat) (p lo hi c : Int), i + p ≤ (ks.length : Int) → 0 ≤ (tailGo ks i r p lo hi c).1 → i + (tailGo ks i r p lo hi c).2 ≤ (ks.length : Int) := by
  intro r
  induction r with
  | zero => intro p lo hi c h _; exact h
  | succ r ih =>
    intro p lo hi c hp
    by_cases h : (ks.length : Int) ≤ i + p ∨ ¬ lo ≤ ks.getD (i + p).toNat 0 ∨ ¬ ks.getD (i + p).toNat 0 ≤ hi
    · rw [tailGo_out h]; intro h0; exact absurd h0 (show ¬ (0 : Int) ≤ -1 by decide)
    · rw [tailGo_on (n1 h) (n2 h) (n3 h)]
      exact ih (p + 1) 128 191 _ (Int.add_assoc i p 1 ▸ Int.add_one_le_of_lt (Int.not_le.mp (n1 h)))
theorem span1 {c : Int} (h1 : 194 ≤ c) (h2 : c ≤ 223) : span c = (128, 191, 1) := by unfold span; rw [if_pos ⟨h1, h2⟩]
theorem span2 {c : Int} (h1 : 224 ≤ c) (h2 : c ≤ 239) : span c = (if c = 224 then 160 else 128, if c = 237 then 159 else 191, 2) := by
  unfold span; rw [if_neg fun q => past h1 q.2 (by decide), if_pos ⟨h1, h2⟩]
theorem span3 {c : Int} (h1 : 240 ≤ c) (h2 : c ≤ 244) : span c = (if c = 240 then 144 else 128, if c = 244 then 143 else 191, 3) := by
  unfold span; rw [if_neg fun q => past h1 q.2 (by decide), if_neg fun q => past h1 q.2 (by decide), if_pos ⟨h1, h2⟩]
theorem span_le (c : Int) : (span c).2.2 ≤ 3 := by
  unfold span
  repeat (first | (split; exact (by decide : (1 : Int) ≤ 3)) | (split; exact (by decide : (2 : Int) ≤ 3)) | (split; exact (by decide : (3 : Int) ≤ 3)))
  exact (by decide : (0 : Int) ≤ 3)
noncomputable def u8sign (ks : List Int) (at_ : Int) : Int × Int :=
  if ks.getD at_.toNat 0 < 128 then (ix ks at_, 1)
  else if (span (ks.getD at_.toNat 0)).2.2 = 0 then (-1, 1)
  else tailGo ks at_ (span (ks.getD at_.toNat 0)).2.2.toNat 1 (span (ks.getD at_.toNat 0)).1 (span (ks.getD at_.toNat 0)).2.1 (ix ks at_ % (if (span (ks.getD at_.toNat 0)).2.2 = 1 then 32 else if (span (ks.getD at_.toNat 0)).2.2 = 2 then 16 else 8))
theorem sign_len (ks : List Int) (i : Int) : 1 ≤ (u8sign ks i).2 ∧ (u8sign ks i).2 ≤ 4 := by
  unfold u8sign
  by_cases h1 : ks.getD i.toNat 0 < 128
  · rw [if_pos h1]; exact ⟨Int.le_refl _, show (1 : Int) ≤ 4 by decide⟩
  · rw [if_neg h1]
    by_cases h2 : (span (ks.getD i.toNat 0)).2.2 = 0
    · rw [if_pos h2]; exact ⟨Int.le_refl _, show (1 : Int) ≤ 4 by decide⟩
    · rw [if_neg h2]
      exact ⟨(tail_len ks i _ 1 _ _ _).1, Int.le_trans (tail_len ks i _ 1 _ _ _).2 (Int.add_le_add_left (Int.ofNat_le.mpr (Int.toNat_le.mpr (span_le _))) 1)⟩
theorem sign_in (ks : List Int) (i : Int) (h : i < (ks.length : Int)) (h0 : 0 ≤ (u8sign ks i).1) : i + (u8sign ks i).2 ≤ (ks.length : Int) := by
  unfold u8sign at h0 ⊢
  by_cases h1 : ks.getD i.toNat 0 < 128
  · rw [if_pos h1]; exact Int.add_one_le_of_lt h
  · rw [if_neg h1] at h0 ⊢
    by_cases h2 : (span (ks.getD i.toNat 0)).2.2 = 0
    · rw [if_pos h2]; exact Int.add_one_le_of_lt h
    · rw [if_neg h2] at h0 ⊢
      exact tail_in ks i _ _ _ _ _ (Int.add_one_le_of_lt h) h0

noncomputable def dGo (ks : List Int) : Nat → Int → Option (List Int)
  | 0, _ => some []
  | f + 1, i => if i < (ks.length : Int) then (if (u8sign ks i).1 < 0 then none else (dGo ks f (i + (u8sign ks i).2)).map ((u8sign ks i).1 :: ·)) else some []
theorem dGo_enough (ks : List Int) : ∀ (f f' : Nat) (i : Int), (ks.length : Int) - i < f → (ks.length : Int) - i < f' → dGo ks f i = dGo ks f' i := by
  intro f
  induction f with
  | zero =>
    intro f' i h h'
    cases f' with
    | zero => rfl
    | succ f' => show some [] = dGo ks (f' + 1) i; unfold dGo; rw [if_neg fun q => absurd (Int.sub_pos_of_lt q) (Int.not_lt.mpr (Int.le_of_lt h))]
  | succ f ih =>
    intro f' i h h'
    cases f' with
    | zero => show dGo ks (f + 1) i = some []; unfold dGo; rw [if_neg fun q => absurd (Int.sub_pos_of_lt q) (Int.not_lt.mpr (Int.le_of_lt h'))]
    | succ f' =>
      unfold dGo
      have hl := sign_len ks i
      by_cases hi : i < (ks.length : Int)
      · rw [if_pos hi, if_pos hi, ih f' (i + (u8sign ks i).2) (fu h hl.1) (fu h' hl.1)]
      · rw [if_neg hi, if_neg hi]
noncomputable def dec (ks : List Int) (i : Int) : Option (List Int) := dGo ks ((ks.length : Int) - i + 1).toNat i
theorem dec_end {ks : List Int} {i : Int} (h : ¬ i < (ks.length : Int)) : dec ks i = some [] := by
  unfold dec
  cases ((ks.length : Int) - i + 1).toNat with
  | zero => rfl
  | succ f => unfold dGo; rw [if_neg h]
theorem dec_bad {ks : List Int} {i : Int} (h : i < (ks.length : Int)) (hc : (u8sign ks i).1 < 0) : dec ks i = none := by
  unfold dec
  rw [tn_succ (Int.le_of_lt (Int.sub_pos_of_lt h))]; unfold dGo; rw [if_pos h, if_pos hc]
theorem dec_step {ks : List Int} {i : Int} (h : i < (ks.length : Int)) (hc : ¬ (u8sign ks i).1 < 0) : dec ks i = (dec ks (i + (u8sign ks i).2)).map ((u8sign ks i).1 :: ·) := by
  unfold dec
  have hl := sign_len ks i
  have hp := Int.le_of_lt (Int.sub_pos_of_lt h)
  rw [tn_succ hp]
  conv => lhs; unfold dGo
  rw [if_pos h, if_neg hc, dGo_enough ks _ ((ks.length : Int) - (i + (u8sign ks i).2) + 1).toNat _ (fu (Int.lt_of_le_of_lt (Int.le_of_eq (tn_up hp).symm) (Int.ofNat_lt.mpr (Nat.lt_succ_self _))) hl.1) (Int.lt_of_lt_of_le (Int.lt_succ _) (Int.self_le_toNat _))]
end
section
theorem said_g_signat_1 : True := by
  k_with_none
  trivial
theorem said_g_signat_2 : True := by
  k_with "mine room" => (first | exact ro0 (by assumption) | exact ro2 (by assumption) (by rfl) | exact ro1 (by assumption) (by rfl) | exact Nat.lt_of_succ_le (Nat.le_of_ble_eq_true (by rfl)) | ktr_room)
  k_with "mine units" => (first | exact ro2 (by assumption) (by rfl) | exact ro1 (by assumption) (by rfl) | exact Nat.lt_of_succ_le (Nat.le_of_ble_eq_true (by rfl)) | ktr_units)
  k_with "mine enterG" => ((refine wpAny_call ?_; refine' code_defG ?zzk1 ?zzk2 ?zzk3 ?zzk4 ?zzk5 ?zzkA ?zzkF ?zzkK ?zzk6 ?zzk7 ?zzk8 ?zzk9 ?zzkB ?_ ?zzc2 ?zzc3 ?zzc4 ?zzc5; (case zzkA => exact rfl); (case zzkF => exact rfl); (case zzkK => assumption); (case zzk1 => k_asm); (case zzk2 => k_asm); (case zzk3 => k_asm); (case zzk4 => k_asm); (case zzk5 => k_asm); (case zzk6 => k_is); (case zzk7 => k_is); (case zzk8 => walk_at "mine room"); (case zzk9 => first | exact BindsTo.of_eq rfl | exact binds_K (by k_in) rfl (by k_is) rfl rfl rfl); (case zzc5 => decide); (case zzkB => exact locs rfl); (case zzc2 => exact rfl); (case zzc3 => exact rfl); (case zzc4 => exact rfl); k_whole; intro g' L' h' FG' F' N' B' X' T' kG'; (try dsimp only); (try k_lift B'); (try k_fold)))
  k_with "mine startG" => (k_dflt (walk_at "mine enterG"))
  k_with "execs cons" => ((k_here; (with_reducible show wpAny _ _ (execs (_ :: _) _) _ _ { heap := _, gens := _, drawn := _, toks := _ + 1, os := _ }); refine tok_any ?_; intro tkA; (try dsimp only)))
  trivial
theorem span_kinds (c : Int) : (span c).2.2 = 0 ∨ (span c).2.2 = 1 ∨ (span c).2.2 = 2 ∨ (span c).2.2 = 3 := by
  unfold span
  split
  · exact .inr (.inl rfl)
  · split
    · exact .inr (.inr (.inl rfl))
    · split
      · exact .inr (.inr (.inr rfl))
      · exact .inl rfl
theorem c_sign (w : World) (mean : Mn) (mg mb : Nm) (b : Array UInt8) (ks : List Int) (at_ : Int) (t u : Tok) (hb : KBw.bInts b = ks) (hs : ks.length ≤ 1099511627776) (h0 : 0 ≤ at_) (h1 : at_ < (ks.length : Int)) :
    CtrG w mean mg mb none 95 [.bytes b t, .int at_ u] 2 16 [] (isPair (u8sign ks at_)) := by
  unfold u8sign
  by_cases hl : ks.getD at_.toNat 0 < 128
  · rw [if_pos hl]; exact c_sign_A w mean mg mb b ks at_ t u hb hs h0 h1 hl
  · rw [if_neg hl]; exact c_sign_C w mean mg mb b ks at_ _ _ _ t u hb hs h0 h1 hl rfl (span_kinds _)
theorem ctr_pure {w : World} {mean : Mn} {mg mb : Nm} {hdl : Option Value} {f : Addr} {vs : List Value} {dd uu : Nat} {Post : Value → Led → Prop} (C : CtrG w mean mg mb hdl f vs dd uu [] Post) (rest : Led) :
    Ctr w mean mg mb hdl f vs dd uu rest (fun v n => ∃ n', n = n' ++ rest ∧ Post v n' ∧ ∀ p ∈ n', ∀ q ∈ rest, p.1 ≠ q.1) := ctr_of_G (sub := []) C (fun p hp => nomatch hp)
@[reducible] noncomputable def isPairN (news : Led) (x : Int × Int) : Value → Led → Prop := fun v n => ∃ a t1 t2, v = .ref a ∧ n = (a, tupO [.int x.1 t1, .int x.2 t2]) :: news ∧ AllNe a news
theorem ctr_mono {w : World} {mean : Mn} {mg mb : Nm} {hdl : Option Value} {f : Addr} {vs : List Value} {dd uu : Nat} {news : Led} {Post Post' : Value → Led → Prop} (C : Ctr w mean mg mb hdl f vs dd uu news Post) (h : ∀ v n, Post v n → Post' v n) : Ctr w mean mg mb hdl f vs dd uu news Post' := by
  intro dp un gd cn cs a ccd cl outer A₀ base h₀ L m s Q E hB hF hK hN hT hk hdp hun hret
  exact C dp un gd cn cs a ccd cl outer A₀ base h₀ L m s Q E hB hF hK hN hT hk hdp hun fun v n h' tk hp => hret v n h' tk (h v n hp)
theorem pairN_of {w : World} {mean : Mn} {mg mb : Nm} {hdl : Option Value} {f : Addr} {vs : List Value} {dd uu : Nat} {x : Int × Int} (C : CtrG w mean mg mb hdl f vs dd uu [] (isPair x)) (rest : Led) :
    Ctr w mean mg mb hdl f vs dd uu rest (isPairN rest x) := ctr_mono (ctr_pure C rest) fun v n ⟨n', e, ⟨a, t1, t2, ev, en⟩, o⟩ => by
  subst en
  exact ⟨a, t1, t2, ev, e, allNe_of fun q hq => o _ (.head _) q hq⟩
theorem said_g_signat_3 : True := by
  k_with "call ref" => ((k_here; k_dflt (refine' ctr_use (pairN_of (c_sign _ _ _ _ _ _ _ _ _ (by assumption) (by assumption) (by assumption) (by assumption)) _) ?zzk1 ?zzk2 ?zzk3 ?zzk4 ?zzk5 ?zzkK ?zzkd ?zzku ?_; (case zzk1 => k_asm); (case zzk2 => k_asm); (case zzk3 => k_asm); (case zzk4 => k_asm); (case zzk5 => k_asm); (case zzkK => first | exact rfl | assumption); (case zzkd => walk_at "mine room"); (case zzku => walk_at "mine units"); intro v9 n9 h9 tk9 P9 F9 N9; obtain ⟨a9, t1, t2, e9, e9', l9⟩ := P9; subst e9; subst e9'; (try simp only [AllNe, and_true] at l9); (try dsimp only); (try k_sweep); (try k_fold))))
  k_with "mine pair endG" => ((refine' ret_useG (by assumption) (by assumption) (pair_ok ?_) ?zzkF ?zzkN ?zzkF2 ?zzkN2 ?zzkS; (case zzkF => k_asm); (case zzkN => assumption); (case zzkF2 => k_asm); (case zzkN2 => k_asm); (case zzkS => kcj_all)))
  trivial
theorem c_signat_utf8 (w : World) (mean : Mn) (mg mb : Nm) (b : Array UInt8) (ks : List Int) (at_ : Int) (t u x : Tok) (hb : KBw.bInts b = ks) (hs : ks.length ≤ 1099511627776) (h0 : 0 ≤ at_) (h1 : at_ < (ks.length : Int)) :
    CtrG w mean mg mb none 102 [.str (Str.ofString "utf-8") x, .bytes b t, .int at_ u] 3 24 [] (isPair (u8sign ks at_)) := by
  intro dp un gd cn cs a ccd cl outer A₀ base h₀ L m s Q E hB hF hK hN hT hk hdp hun hret
  walk_at "mine startG"
  k_steps
  all_goals walk_at "mine pair endG"
  all_goals rfl
theorem c_signat_latin (w : World) (mean : Mn) (mg mb : Nm) (hdl : Option Value) (b : Array UInt8) (ks : List Int) (at_ : Int) (t u x : Tok) (hb : KBw.bInts b = ks) (hs : ks.length ≤ 1099511627776) (h0 : 0 ≤ at_) (h1 : at_ < (ks.length : Int)) :
    CtrG w mean mg mb hdl 102 [.str (Str.ofString "iso-8859-1") x, .bytes b t, .int at_ u] 3 24 [] (isPair (ks.getD at_.toNat 0, 1)) := by
  intro dp un gd cn cs a ccd cl outer A₀ base h₀ L m s Q E hB hF hK hN hT hk hdp hun hret
  walk_at "mine startG"
  k_steps
  all_goals walk_at "mine pair endG"
  all_goals rfl
end
section
theorem ix_drop (ks : List Int) (i p : Int) (hi : 0 ≤ i) (hp : 0 ≤ p) : ks.getD (i + p).toNat 0 = (ks.drop i.toNat).getD p.toNat 0 := by
  rw [List.getD_eq_getElem?_getD, List.getD_eq_getElem?_getD, List.getElem?_drop]
  rw [Int.toNat_add hi hp]
theorem ix_drop0 (ks : List Int) (i : Int) : ks.getD i.toNat 0 = (ks.drop i.toNat).getD 0 0 := by
  rw [List.getD_eq_getElem?_getD, List.getD_eq_getElem?_getD, List.getElem?_drop]
  rfl
theorem tailGo_drop (ks : List Int) (i : Int) (hi : 0 ≤ i) (hl : i ≤ (ks.length : Int)) : ∀ (r : Nat) (p lo hi' c : Int), 0 ≤ p → tailGo ks i r p lo hi' c = tailGo (ks.drop i.toNat) 0 r p lo hi' c := by
  intro r
  induction r with
  | zero => intro p lo hi' c hp; rfl
  | succ r ih =>
    intro p lo hi' c hp
    have e := ix_drop ks i p hi hp
    have el := drop_len hi hl
    have e2 : (ks.drop i.toNat).getD (0 + p).toNat 0 = ks.getD (i + p).toNat 0 := by rw [Int.zero_add, e]
    have hc : ((ks.length : Int) - i ≤ 0 + p) ↔ ((ks.length : Int) ≤ i + p) := by rw [Int.zero_add]; exact ⟨Int.le_add_of_sub_left_le, Int.sub_left_le_of_le_add⟩
    unfold tailGo
    rw [e2, el, ih (p + 1) _ _ _ (Int.le_add_one hp)]
    by_cases h : (ks.length : Int) ≤ i + p ∨ ¬ (lo ≤ ks.getD (i + p).toNat 0 ∧ ks.getD (i + p).toNat 0 ≤ hi')
    · rw [if_pos h, if_pos (h.imp_left hc.mpr)]
    · rw [if_neg h, if_neg fun q => h (q.imp_left hc.mp)]
theorem u8_drop (ks : List Int) (i : Int) (hi : 0 ≤ i) (hl : i ≤ (ks.length : Int)) : u8sign ks i = u8sign (ks.drop i.toNat) 0 := by
  have e := ix_drop0 ks i
  unfold u8sign ix
  rw [show (0 : Int).toNat = 0 from rfl, ← e, tailGo_drop ks i hi hl _ _ _ _ _ (by decide)]
theorem dGo_drop : ∀ (f : Nat) (ks : List Int) (i : Int), 0 ≤ i → i ≤ (ks.length : Int) → dGo ks f i = dGo (ks.drop i.toNat) f 0 := by
  intro f
  induction f with
  | zero => intro ks i _ _; rfl
  | succ f ih =>
    intro ks i h0 h1
    have hl := drop_len h0 h1
    unfold dGo
    rw [← u8_drop ks i h0 h1, hl]
    by_cases h : i < (ks.length : Int)
    · rw [if_pos h, if_pos (Int.sub_pos_of_lt h)]
      by_cases hc : (u8sign ks i).1 < 0
      · rw [if_pos hc, if_pos hc]
      · rw [if_neg hc, if_neg hc]
        have h2 := (sign_len ks i).1
        have h3 := sign_in ks i h (Int.not_lt.mp hc)
        generalize (u8sign ks i).2 = n at h2 h3 ⊢
        clear hc h h1
        have h4 : 0 ≤ n := Int.le_trans (by decide) h2
        rw [Int.zero_add, ih ks (i + n) (Int.add_nonneg h0 h4) h3, ih _ n h4 (by rw [hl]; exact Int.le_sub_left_of_add_le h3), List.drop_drop, Int.toNat_add h0 h4]
    · rw [if_neg h, if_neg fun q => h (Int.lt_of_sub_pos q)]
theorem dec_drop (ks : List Int) (i : Int) (h0 : 0 ≤ i) (h1 : i ≤ (ks.length : Int)) : dec ks i = dec (ks.drop i.toNat) 0 := by
  unfold dec
  rw [dGo_drop _ ks i h0 h1, drop_len h0 h1, Int.sub_zero]
theorem dec_nil : dec [] 0 = some [] := dec_end (by decide)
theorem dec_head {ks : List Int} {c n : Int} (h : ks ≠ []) (hu : u8sign ks 0 = (c, n)) (hc : 0 ≤ c) : dec ks 0 = (dec (ks.drop n.toNat) 0).map (c :: ·) := by
  have hl : (0 : Int) < (ks.length : Int) := by
    cases ks with
    | nil => exact absurd rfl h
    | cons a r => exact Int.ofNat_lt.mpr (Nat.zero_lt_succ _)
  have h2 := sign_len ks 0
  have h3 := sign_in ks 0 hl (by rw [hu]; exact hc)
  rw [hu] at h2 h3
  rw [dec_step hl (by rw [hu]; exact Int.not_lt.mpr hc), hu]
  show (dec ks (0 + n)).map _ = _
  rw [Int.zero_add, dec_drop ks n (Int.le_trans (by decide) h2.1) (Int.zero_add n ▸ h3)]
theorem dec_head_bad {ks : List Int} (h : ks ≠ []) (hc : (u8sign ks 0).1 < 0) : dec ks 0 = none := by
  refine dec_bad ?_ hc
  cases ks with
  | nil => exact absurd rfl h
  | cons a r => exact Int.ofNat_lt.mpr (Nat.zero_lt_succ _)
/-- the four good heads, over places -/
theorem u8_one {ks : List Int} {i : Int} (h : ks.getD i.toNat 0 < 128) : u8sign ks i = (ks.getD i.toNat 0, 1) := by
  unfold u8sign ix; rw [if_pos h]
theorem u8_none {ks : List Int} {i : Int} (h : ¬ ks.getD i.toNat 0 < 128) (h2 : ¬ (194 ≤ ks.getD i.toNat 0 ∧ ks.getD i.toNat 0 ≤ 244)) : u8sign ks i = (-1, 1) := by
  unfold u8sign; rw [if_neg h]
  have : span (ks.getD i.toNat 0) = (0, 0, 0) := by
    unfold span; rw [if_neg fun q => h2 ⟨q.1, Int.le_trans q.2 (by decide)⟩, if_neg fun q => h2 ⟨Int.le_trans (by decide) q.1, Int.le_trans q.2 (by decide)⟩, if_neg fun q => h2 ⟨Int.le_trans (by decide) q.1, q.2⟩]
  rw [this]; rfl
theorem off128 {a c : Int} (h : a ≤ c) (q : 127 < a) : ¬ c < 128 := fun r => absurd (Int.le_trans h (Int.le_of_lt_add_one r)) (Int.not_le.mpr q)
theorem u8_two {ks : List Int} {i : Int} (h1 : 194 ≤ ks.getD i.toNat 0) (h2 : ks.getD i.toNat 0 ≤ 223) :
    u8sign ks i = tailGo ks i 1 1 128 191 (ks.getD i.toNat 0 % 32) := by
  unfold u8sign ix; rw [if_neg (off128 h1 (by decide)), span1 h1 h2]; rfl
theorem u8_three {ks : List Int} {i : Int} (h1 : 224 ≤ ks.getD i.toNat 0) (h2 : ks.getD i.toNat 0 ≤ 239) :
    u8sign ks i = tailGo ks i 2 1 (if ks.getD i.toNat 0 = 224 then 160 else 128) (if ks.getD i.toNat 0 = 237 then 159 else 191) (ks.getD i.toNat 0 % 16) := by
  unfold u8sign ix; rw [if_neg (off128 h1 (by decide)), span2 h1 h2]; rfl
theorem u8_four {ks : List Int} {i : Int} (h1 : 240 ≤ ks.getD i.toNat 0) (h2 : ks.getD i.toNat 0 ≤ 244) :
    u8sign ks i = tailGo ks i 3 1 (if ks.getD i.toNat 0 = 240 then 144 else 128) (if ks.getD i.toNat 0 = 244 then 143 else 191) (ks.getD i.toNat 0 % 8) := by
  unfold u8sign ix; rw [if_neg (off128 h1 (by decide)), span3 h1 h2]; rfl
theorem out_of {l h : Prop} {n k : Int} (q : ¬ (k < n ∧ l ∧ h)) : n ≤ k ∨ ¬ (l ∧ h) := (Int.lt_or_le k n).elim (fun r => .inr fun x => q ⟨r, x⟩) .inl
theorem on_of {l h : Prop} {n k : Int} (q : k < n ∧ l ∧ h) : ¬ (n ≤ k ∨ ¬ (l ∧ h)) := fun r => r.elim (Int.not_le.mpr q.1) fun x => x q.2
theorem tail1 {ks : List Int} {i lo hi c : Int} {p : Int} :
    tailGo ks i 1 p lo hi c = if i + p < (ks.length : Int) ∧ lo ≤ ks.getD (i + p).toNat 0 ∧ ks.getD (i + p).toNat 0 ≤ hi then (c * 64 + ks.getD (i + p).toNat 0 % 64, p + 1) else (-1, p) := by
  unfold tailGo
  by_cases h : i + p < (ks.length : Int) ∧ lo ≤ ks.getD (i + p).toNat 0 ∧ ks.getD (i + p).toNat 0 ≤ hi
  · rw [if_pos h, if_neg (on_of h)]; rfl
  · rw [if_neg h, if_pos (out_of h)]
theorem tailS {ks : List Int} {i lo hi c : Int} {r : Nat} {p : Int} :
    tailGo ks i (r + 1) p lo hi c = if i + p < (ks.length : Int) ∧ lo ≤ ks.getD (i + p).toNat 0 ∧ ks.getD (i + p).toNat 0 ≤ hi then tailGo ks i r (p + 1) 128 191 (c * 64 + ks.getD (i + p).toNat 0 % 64) else (-1, p) := by
  conv => lhs; unfold tailGo
  by_cases h : i + p < (ks.length : Int) ∧ lo ≤ ks.getD (i + p).toNat 0 ∧ ks.getD (i + p).toNat 0 ≤ hi
  · rw [if_pos h, if_neg (on_of h)]
  · rw [if_neg h, if_pos (out_of h)]
/-- what a good head looks like -/
noncomputable def lo3 (a : Int) : Int := if a = 224 then 160 else 128
noncomputable def hi3 (a : Int) : Int := if a = 237 then 159 else 191
noncomputable def lo4 (a : Int) : Int := if a = 240 then 144 else 128
noncomputable def hi4 (a : Int) : Int := if a = 244 then 143 else 191
theorem ends3 (a : Int) : 128 ≤ lo3 a ∧ hi3 a ≤ 191 := by
  unfold lo3 hi3
  constructor <;> split <;> decide
theorem ends4 (a : Int) : 128 ≤ lo4 a ∧ hi4 a ≤ 191 := by
  unfold lo4 hi4
  constructor <;> split <;> decide
theorem fits {a : Int} {r : List Int} {k : Nat} (h : k < (a :: r).length) : (0 : Int) + (k : Int) < ((a :: r).length : Int) := (Int.zero_add (k : Int)).symm ▸ Int.ofNat_lt.mpr h
/-- octets that are a text, one sign at a time -/
inductive Dc : List Int → List Int → Prop
  | nil : Dc [] []
  | one {a : Int} {r cr : List Int} : 0 ≤ a → a < 128 → Dc r cr → Dc (a :: r) (a :: cr)
  | two {a b : Int} {r cr : List Int} : 194 ≤ a → a ≤ 223 → 128 ≤ b → b ≤ 191 → Dc r cr → Dc (a :: b :: r) ((a % 32 * 64 + b % 64) :: cr)
  | thr {a b d : Int} {r cr : List Int} : 224 ≤ a → a ≤ 239 → lo3 a ≤ b → b ≤ hi3 a → 128 ≤ d → d ≤ 191 → Dc r cr → Dc (a :: b :: d :: r) (((a % 16 * 64 + b % 64) * 64 + d % 64) :: cr)
  | fou {a b d e : Int} {r cr : List Int} : 240 ≤ a → a ≤ 244 → lo4 a ≤ b → b ≤ hi4 a → 128 ≤ d → d ≤ 191 → 128 ≤ e → e ≤ 191 → Dc r cr → Dc (a :: b :: d :: e :: r) ((((a % 8 * 64 + b % 64) * 64 + d % 64) * 64 + e % 64) :: cr)
theorem u8a1 {a : Int} {r : List Int} (h : a < 128) : u8sign (a :: r) 0 = (a, 1) := u8_one (ks := a :: r) (i := 0) h
theorem u8a2 {a b : Int} {r : List Int} (h1 : 194 ≤ a) (h2 : a ≤ 223) (hb : 128 ≤ b) (hb' : b ≤ 191) : u8sign (a :: b :: r) 0 = (a % 32 * 64 + b % 64, 2) :=
  (u8_two (ks := a :: b :: r) (i := 0) h1 h2).trans (tail1.trans (if_pos ⟨fits (k := 1) (Nat.succ_lt_succ (Nat.zero_lt_succ _)), hb, hb'⟩))
theorem u8a3 {a b d : Int} {r : List Int} (h1 : 224 ≤ a) (h2 : a ≤ 239) (hb : lo3 a ≤ b) (hb' : b ≤ hi3 a) (hd : 128 ≤ d) (hd' : d ≤ 191) : u8sign (a :: b :: d :: r) 0 = ((a % 16 * 64 + b % 64) * 64 + d % 64, 3) :=
  (u8_three (ks := a :: b :: d :: r) (i := 0) h1 h2).trans (tailS.trans ((if_pos ⟨fits (k := 1) (Nat.succ_lt_succ (Nat.zero_lt_succ _)), hb, hb'⟩).trans
    (tail1.trans (if_pos ⟨fits (k := 2) (Nat.succ_lt_succ (Nat.succ_lt_succ (Nat.zero_lt_succ _))), hd, hd'⟩))))
theorem u8a4 {a b d e : Int} {r : List Int} (h1 : 240 ≤ a) (h2 : a ≤ 244) (hb : lo4 a ≤ b) (hb' : b ≤ hi4 a) (hd : 128 ≤ d) (hd' : d ≤ 191) (he : 128 ≤ e) (he' : e ≤ 191) : u8sign (a :: b :: d :: e :: r) 0 = (((a % 8 * 64 + b % 64) * 64 + d % 64) * 64 + e % 64, 4) :=
  (u8_four (ks := a :: b :: d :: e :: r) (i := 0) h1 h2).trans (tailS.trans ((if_pos ⟨fits (k := 1) (Nat.succ_lt_succ (Nat.zero_lt_succ _)), hb, hb'⟩).trans
    (tailS.trans ((if_pos ⟨fits (k := 2) (Nat.succ_lt_succ (Nat.succ_lt_succ (Nat.zero_lt_succ _))), hd, hd'⟩).trans
    (tail1.trans (if_pos ⟨fits (k := 3) (Nat.succ_lt_succ (Nat.succ_lt_succ (Nat.succ_lt_succ (Nat.zero_lt_succ _)))), he, he'⟩))))))
theorem no1 {p : Int} : ¬ (0 : Int) ≤ ((-1 : Int), p).1 := by show ¬ (0 : Int) ≤ -1; decide
theorem hd2 {a : Int} {r : List Int} (h1 : 194 ≤ a) (h2 : a ≤ 223) (h0 : 0 ≤ (u8sign (a :: r) 0).1) : ∃ b r', r = b :: r' ∧ 128 ≤ b ∧ b ≤ 191 := by
  rw [u8_two (ks := a :: r) (i := 0) h1 h2, tail1] at h0
  split at h0
  · rename_i hc
    cases r with
    | nil => exact absurd hc.1 (by simp)
    | cons b r => exact ⟨b, r, rfl, hc.2.1, hc.2.2⟩
  · exact absurd h0 no1
theorem hd3 {a : Int} {r : List Int} (h1 : 224 ≤ a) (h2 : a ≤ 239) (h0 : 0 ≤ (u8sign (a :: r) 0).1) : ∃ b d r', r = b :: d :: r' ∧ lo3 a ≤ b ∧ b ≤ hi3 a ∧ 128 ≤ d ∧ d ≤ 191 := by
  rw [u8_three (ks := a :: r) (i := 0) h1 h2] at h0
  change 0 ≤ (tailGo (a :: r) 0 2 1 (lo3 a) (hi3 a) (a % 16)).1 at h0
  rw [tailS, tail1] at h0
  split at h0
  · rename_i hc
    split at h0
    · rename_i hd
      rcases r with _ | ⟨b, _ | ⟨d, r⟩⟩
      · exact absurd hc.1 (by simp)
      · exact absurd hd.1 (by simp)
      · exact ⟨b, d, r, rfl, hc.2.1, hc.2.2, hd.2.1, hd.2.2⟩
    · exact absurd h0 no1
  · exact absurd h0 no1
theorem hd4 {a : Int} {r : List Int} (h1 : 240 ≤ a) (h2 : a ≤ 244) (h0 : 0 ≤ (u8sign (a :: r) 0).1) : ∃ b d e r', r = b :: d :: e :: r' ∧ lo4 a ≤ b ∧ b ≤ hi4 a ∧ 128 ≤ d ∧ d ≤ 191 ∧ 128 ≤ e ∧ e ≤ 191 := by
  rw [u8_four (ks := a :: r) (i := 0) h1 h2] at h0
  change 0 ≤ (tailGo (a :: r) 0 3 1 (lo4 a) (hi4 a) (a % 8)).1 at h0
  rw [tailS, tailS, tail1] at h0
  split at h0
  · rename_i hc
    split at h0
    · rename_i hd
      split at h0
      · rename_i he
        rcases r with _ | ⟨b, _ | ⟨d, _ | ⟨e, r⟩⟩⟩
        · exact absurd hc.1 (by simp)
        · exact absurd hd.1 (by simp)
        · exact absurd he.1 (by simp)
        · exact ⟨b, d, e, r, rfl, hc.2.1, hc.2.2, hd.2.1, hd.2.2, he.2.1, he.2.2⟩
      · exact absurd h0 no1
    · exact absurd h0 no1
  · exact absurd h0 no1
theorem map_some {o : Option (List Int)} {c : Int} {cs : List Int} (h : o.map (c :: ·) = some cs) : ∃ cr, cs = c :: cr ∧ o = some cr := by
  cases o with
  | none => cases h
  | some cr => exact ⟨cr, (Option.some.inj h).symm, rfl⟩
theorem dc_of : ∀ (n : Nat) {ks cs : List Int}, ks.length ≤ n → dec ks 0 = some cs → Dc ks cs := by
  intro n
  induction n with
  | zero =>
    intro ks cs hn h
    obtain rfl : ks = [] := List.length_eq_zero_iff.mp (Nat.le_zero.mp hn)
    rw [dec_nil] at h
    cases h; exact .nil
  | succ n ih =>
    intro ks cs hn h
    rcases ks with _ | ⟨a, r⟩
    · rw [dec_nil] at h
      cases h; exact .nil
    have hl : r.length ≤ n := Nat.le_of_succ_le_succ hn
    have hne : a :: r ≠ [] := List.cons_ne_nil _ _
    by_cases hg : (u8sign (a :: r) 0).1 < 0
    · rw [dec_head_bad hne hg] at h; cases h
    have h0 := Int.not_lt.mp hg
    by_cases h1 : a < 128
    · rw [u8a1 h1] at h0
      rw [dec_head hne (u8a1 h1) h0] at h
      obtain ⟨cr, rfl, hq⟩ := map_some h
      exact .one h0 h1 (ih hl hq)
    by_cases h2 : 194 ≤ a ∧ a ≤ 244
    · by_cases h3 : a ≤ 223
      · obtain ⟨b, r, rfl, q1, q2⟩ := hd2 h2.1 h3 h0
        have hu := u8a2 (r := r) h2.1 h3 q1 q2
        rw [hu] at h0
        rw [dec_head hne hu h0] at h
        obtain ⟨cr, rfl, hq⟩ := map_some h
        exact .two h2.1 h3 q1 q2 (ih (Nat.le_of_succ_le hl) hq)
      by_cases h4 : a ≤ 239
      · have h5 : 224 ≤ a := Int.not_le.mp h3
        obtain ⟨b, d, r, rfl, q1, q2, q3, q4⟩ := hd3 h5 h4 h0
        have hu := u8a3 (r := r) h5 h4 q1 q2 q3 q4
        rw [hu] at h0
        rw [dec_head hne hu h0] at h
        obtain ⟨cr, rfl, hq⟩ := map_some h
        exact .thr h5 h4 q1 q2 q3 q4 (ih (Nat.le_of_succ_le (Nat.le_of_succ_le hl)) hq)
      · have h5 : 240 ≤ a := Int.not_le.mp h4
        obtain ⟨b, d, e, r, rfl, q1, q2, q3, q4, q5, q6⟩ := hd4 h5 h2.2 h0
        have hu := u8a4 (r := r) h5 h2.2 q1 q2 q3 q4 q5 q6
        rw [hu] at h0
        rw [dec_head hne hu h0] at h
        obtain ⟨cr, rfl, hq⟩ := map_some h
        exact .fou h5 h2.2 q1 q2 q3 q4 q5 q6 (ih (Nat.le_of_succ_le (Nat.le_of_succ_le (Nat.le_of_succ_le hl))) hq)
    · rw [u8_none (ks := a :: r) (i := 0) h1 h2] at h0
      exact absurd h0 no1
theorem Dc.of {ks cs : List Int} (h : dec ks 0 = some cs) : Dc ks cs := dc_of _ (Nat.le_refl _) h
/-- what the law's own count asks -/
@[reducible] noncomputable def notF (c : Int) : Bool := !(decide (128 ≤ c) && decide (c < 192))
noncomputable def mo (c : Int) : Int := if c < 128 then 0 else if 194 ≤ c ∧ c < 224 then 1 else if 224 ≤ c ∧ c < 240 then 2 else if 240 ≤ c ∧ c < 245 then 3 else -1
noncomputable def loD (c : Int) : Int := if c = 224 then 160 else if c = 240 then 144 else 128
noncomputable def hiD (c : Int) : Int := if c = 237 then 160 else if c = 244 then 144 else 192
theorem mo0 {c : Int} (h : c < 128) : mo c = 0 := by unfold mo; rw [if_pos h]
theorem offr {a b c l : Int} (h : a ≤ c) (q : b ≤ a) : ¬ (l ≤ c ∧ c < b) := fun r => absurd (Int.lt_of_lt_of_le r.2 (Int.le_trans q h)) (Int.lt_irrefl _)
theorem mo1 {c : Int} (h1 : 194 ≤ c) (h2 : c ≤ 223) : mo c = 1 := by unfold mo; rw [if_neg (off128 h1 (by decide)), if_pos ⟨h1, Int.lt_add_one_of_le h2⟩]
theorem mo2 {c : Int} (h1 : 224 ≤ c) (h2 : c ≤ 239) : mo c = 2 := by unfold mo; rw [if_neg (off128 h1 (by decide)), if_neg (offr h1 (by decide)), if_pos ⟨h1, Int.lt_add_one_of_le h2⟩]
theorem mo3 {c : Int} (h1 : 240 ≤ c) (h2 : c ≤ 244) : mo c = 3 := by unfold mo; rw [if_neg (off128 h1 (by decide)), if_neg (offr h1 (by decide)), if_neg (offr h1 (by decide)), if_pos ⟨h1, Int.lt_add_one_of_le h2⟩]
theorem moK (c : Int) : c < 128 ∨ (194 ≤ c ∧ c ≤ 223) ∨ (224 ≤ c ∧ c ≤ 239) ∨ (240 ≤ c ∧ c ≤ 244) ∨ mo c = -1 := by
  by_cases h0 : c < 128
  · exact .inl h0
  by_cases h1 : 194 ≤ c ∧ c < 224
  · exact .inr (.inl ⟨h1.1, Int.le_of_lt_add_one h1.2⟩)
  by_cases h2 : 224 ≤ c ∧ c < 240
  · exact .inr (.inr (.inl ⟨h2.1, Int.le_of_lt_add_one h2.2⟩))
  by_cases h3 : 240 ≤ c ∧ c < 245
  · exact .inr (.inr (.inr (.inl ⟨h3.1, Int.le_of_lt_add_one h3.2⟩)))
  exact .inr (.inr (.inr (.inr (by unfold mo; rw [if_neg h0, if_neg h1, if_neg h2, if_neg h3]))))
theorem ne_of_le {c k j : Int} (h : c ≤ k) (hk : k < j) : ¬ c = j := fun q => absurd (q ▸ h) (Int.not_le.mpr hk)
theorem ne_of_ge {c k j : Int} (h : k ≤ c) (hk : j < k) : ¬ c = j := fun q => absurd (q ▸ h) (Int.not_le.mpr hk)
theorem ends2 {c : Int} (h1 : 224 ≤ c) (h2 : c ≤ 239) : loD c = lo3 c ∧ hiD c = hi3 c + 1 := by
  unfold loD hiD lo3 hi3
  rw [if_neg (ne_of_le (j := 240) h2 (by decide)), if_neg (ne_of_le (j := 244) h2 (by decide))]
  exact ⟨rfl, by split <;> rfl⟩
theorem ends2' {c : Int} (h1 : 240 ≤ c) (h2 : c ≤ 244) : loD c = lo4 c ∧ hiD c = hi4 c + 1 := by
  unfold loD hiD lo4 hi4
  rw [if_neg (ne_of_ge (j := 224) h1 (by decide)), if_neg (ne_of_ge (j := 237) h1 (by decide))]
  exact ⟨rfl, by split <;> rfl⟩
theorem notF_iff {a : Int} : ¬ notF a = true ↔ 128 ≤ a ∧ a ≤ 191 := by
  unfold notF
  rw [Bool.not_eq_true, Bool.not_eq_false', Bool.and_eq_true, decide_eq_true_eq, decide_eq_true_eq]
  exact ⟨fun q => ⟨q.1, Int.le_of_lt_add_one q.2⟩, fun q => ⟨q.1, Int.lt_add_one_of_le q.2⟩⟩
theorem f_cons {a : Int} {r : List Int} {P : Prop} (h : r.filter notF = [] ↔ P) : (a :: r).filter notF = [] ↔ (128 ≤ a ∧ a ≤ 191) ∧ P := by
  rw [← h, ← notF_iff, List.filter_eq_nil_iff, List.filter_eq_nil_iff, List.forall_mem_cons]
theorem f1 {a : Int} : [a].filter notF = [] ↔ 128 ≤ a ∧ a ≤ 191 := (f_cons (P := True) ⟨fun _ => trivial, fun _ => rfl⟩).trans (and_iff_left trivial)
theorem f2 {a b : Int} : [a, b].filter notF = [] ↔ (128 ≤ a ∧ a ≤ 191) ∧ 128 ≤ b ∧ b ≤ 191 := f_cons f1
theorem f3 {a b c : Int} : [a, b, c].filter notF = [] ↔ (128 ≤ a ∧ a ≤ 191) ∧ (128 ≤ b ∧ b ≤ 191) ∧ 128 ≤ c ∧ c ≤ 191 := f_cons f2
noncomputable def Bd (c : Int) (r : List Int) : Prop := mo c < 0 ∨ ((r.take (mo c).toNat).length : Int) < mo c ∨ (r.take (mo c).toNat).filter notF ≠ []
theorem L1 {c : Int} {r : List Int} (hb : Bd c r) : (dec (c :: r) 0).isSome = false := by
  cases h : dec (c :: r) 0 with
  | none => rfl
  | some cs =>
    exfalso
    unfold Bd at hb
    cases Dc.of h with
    | one h1 h2 _ =>
      rw [mo0 h2] at hb
      rcases hb with q | q | q
      · exact absurd q (by decide)
      · exact absurd q (by show ¬ ((0 : Nat) : Int) < 0; decide)
      · exact q rfl
    | two h1 h2 h3 h4 _ =>
      rw [mo1 h1 h2] at hb
      rcases hb with q | q | q
      · exact absurd q (by decide)
      · exact absurd q (by show ¬ ((1 : Nat) : Int) < 1; decide)
      · exact q (f1.mpr ⟨h3, h4⟩)
    | thr h1 h2 h3 h4 h5 h6 _ =>
      have e := ends3 c
      rw [mo2 h1 h2] at hb
      rcases hb with q | q | q
      · exact absurd q (by decide)
      · exact absurd q (by show ¬ ((2 : Nat) : Int) < 2; decide)
      · exact q (f2.mpr ⟨⟨Int.le_trans e.1 h3, Int.le_trans h4 e.2⟩, h5, h6⟩)
    | fou h1 h2 h3 h4 h5 h6 h7 h8 _ =>
      have e := ends4 c
      rw [mo3 h1 h2] at hb
      rcases hb with q | q | q
      · exact absurd q (by decide)
      · exact absurd q (by show ¬ ((3 : Nat) : Int) < 3; decide)
      · exact q (f3.mpr ⟨⟨Int.le_trans e.1 h3, Int.le_trans h4 e.2⟩, ⟨h5, h6⟩, h7, h8⟩)
theorem L3 {c : Int} {r : List Int} (h1 : 1 < mo c) (hr : ¬ (loD c ≤ (r.take (mo c).toNat).getD 0 0 ∧ (r.take (mo c).toNat).getD 0 0 < hiD c)) : (dec (c :: r) 0).isSome = false := by
  cases h : dec (c :: r) 0 with
  | none => rfl
  | some cs =>
    exfalso
    cases Dc.of h with
    | one _ h2 _ => rw [mo0 h2] at h1; exact absurd h1 (by decide)
    | two h2 h3 _ _ _ => rw [mo1 h2 h3] at h1; exact absurd h1 (by decide)
    | thr h2 h3 h4 h5 _ _ _ =>
      rw [mo2 h2 h3, (ends2 h2 h3).1, (ends2 h2 h3).2] at hr
      exact hr ⟨h4, Int.lt_add_one_of_le h5⟩
    | fou h2 h3 h4 h5 _ _ _ _ _ =>
      rw [mo3 h2 h3, (ends2' h2 h3).1, (ends2' h2 h3).2] at hr
      exact hr ⟨h4, Int.lt_add_one_of_le h5⟩
theorem dec_some {ks : List Int} {c n : Int} (h : ks ≠ []) (hu : u8sign ks 0 = (c, n)) (hc : 0 ≤ c) : (dec ks 0).isSome = (dec (ks.drop n.toNat) 0).isSome := by
  rw [dec_head h hu hc]; exact Option.isSome_map
theorem L2 {c : Int} {r : List Int} (hc : 0 ≤ c) (hb : ¬ Bd c r) (h1 : ¬ 1 < mo c) : (dec (c :: r) 0).isSome = (dec (r.drop (mo c).toNat) 0).isSome := by
  unfold Bd at hb
  rcases moK c with h | ⟨h2, h3⟩ | ⟨h2, h3⟩ | ⟨h2, h3⟩ | h
  · rw [mo0 h]; exact dec_some (List.cons_ne_nil _ _) (u8a1 h) hc
  · rw [mo1 h2 h3] at hb ⊢
    rcases r with _ | ⟨b, r⟩
    · exact (hb (.inr (.inl (show ((0 : Nat) : Int) < 1 by decide)))).elim
    · have e : 128 ≤ b ∧ b ≤ 191 := f1.mp (Classical.not_not.mp fun q => hb (.inr (.inr q)))
      exact dec_some (List.cons_ne_nil _ _) (u8a2 h2 h3 e.1 e.2) (sx0 (em0 (by decide)))
  · rw [mo2 h2 h3] at h1; exact absurd h1 (by decide)
  · rw [mo3 h2 h3] at h1; exact absurd h1 (by decide)
  · exact absurd (Or.inl (by rw [h]; decide)) hb
theorem L4 {c : Int} {r : List Int} (hb : ¬ Bd c r) (h1 : 1 < mo c) (hr : loD c ≤ (r.take (mo c).toNat).getD 0 0 ∧ (r.take (mo c).toNat).getD 0 0 < hiD c) : (dec (c :: r) 0).isSome = (dec (r.drop (mo c).toNat) 0).isSome := by
  unfold Bd at hb
  rcases moK c with h | ⟨h2, h3⟩ | ⟨h2, h3⟩ | ⟨h2, h3⟩ | h
  · rw [mo0 h] at h1; exact absurd h1 (by decide)
  · rw [mo1 h2 h3] at h1; exact absurd h1 (by decide)
  · rw [mo2 h2 h3] at hb hr ⊢
    rw [(ends2 h2 h3).1, (ends2 h2 h3).2] at hr
    rcases r with _ | ⟨b, _ | ⟨d, r⟩⟩
    · exact (hb (.inr (.inl (show ((0 : Nat) : Int) < 2 by decide)))).elim
    · exact (hb (.inr (.inl (show ((1 : Nat) : Int) < 2 by decide)))).elim
    · have e := f2.mp (Classical.not_not.mp fun q => hb (.inr (.inr q)))
      exact dec_some (List.cons_ne_nil _ _) (u8a3 h2 h3 hr.1 (Int.le_of_lt_add_one hr.2) e.2.1 e.2.2) (sx0 (sx0 (em0 (by decide))))
  · rw [mo3 h2 h3] at hb hr ⊢
    rw [(ends2' h2 h3).1, (ends2' h2 h3).2] at hr
    rcases r with _ | ⟨b, _ | ⟨d, _ | ⟨e, r⟩⟩⟩
    · exact (hb (.inr (.inl (show ((0 : Nat) : Int) < 3 by decide)))).elim
    · exact (hb (.inr (.inl (show ((1 : Nat) : Int) < 3 by decide)))).elim
    · exact (hb (.inr (.inl (show ((2 : Nat) : Int) < 3 by decide)))).elim
    · have e := f3.mp (Classical.not_not.mp fun q => hb (.inr (.inr q)))
      exact dec_some (List.cons_ne_nil _ _) (u8a4 h2 h3 hr.1 (Int.le_of_lt_add_one hr.2) e.2.1.1 e.2.1.2 e.2.2.1 e.2.2.2) (sx0 (sx0 (sx0 (em0 (by decide)))))
  · rw [h] at h1; exact absurd h1 (by decide)
/-- at a place of the row -/
noncomputable def fol (ks : List Int) (i : Int) : List Int := if 0 < mo (ks.getD i.toNat 0) then (ks.drop (clipAt ks.length (i + 1))).take (clipAt ks.length (i + 1 + mo (ks.getD i.toNat 0)) - clipAt ks.length (i + 1)) else []
noncomputable def bad (ks : List Int) (i : Int) : Bool := decide (mo (ks.getD i.toNat 0) < 0) || (decide (((fol ks i).length : Int) < mo (ks.getD i.toNat 0)) || !decide ((fol ks i).filter notF = []))
noncomputable def rng (ks : List Int) (i : Int) : Bool := decide (loD (ks.getD i.toNat 0) ≤ (fol ks i).getD (Int.toNat 0) 0) && decide ((fol ks i).getD (Int.toNat 0) 0 < hiD (ks.getD i.toNat 0))
theorem drop_cons {ks : List Int} {k : Nat} (h : k < ks.length) : ks.drop k = ks.getD k 0 :: ks.drop (k + 1) := by
  rw [List.drop_eq_getElem_cons h, List.getD_eq_getElem?_getD, List.getElem?_eq_getElem h]; rfl
theorem clip_hi {n : Nat} {j : Int} (h0 : 0 ≤ j) : clipAt n j = min j.toNat n := by
  obtain ⟨k, rfl⟩ := Int.eq_ofNat_of_zero_le h0
  unfold clipAt
  rw [if_neg (Int.not_lt.mpr h0), Int.toNat_natCast]
  by_cases h : k ≤ n
  · rw [Nat.min_eq_left h, Int.min_eq_left (Int.ofNat_le.mpr h), Int.max_eq_right h0]; rfl
  · have h' := Nat.le_of_not_le h
    rw [Nat.min_eq_right h', Int.min_eq_right (Int.ofNat_le.mpr h'), Int.max_eq_right (Int.natCast_nonneg n)]; rfl
theorem clip_lo {n : Nat} {i : Int} (h0 : 0 ≤ i) (h : i < (n : Int)) : clipAt n (i + 1) = i.toNat + 1 := by
  rw [clip_hi (Int.le_add_one h0), Int.toNat_add h0 (by decide)]
  exact Nat.min_eq_left (len_at h0 h)
theorem take_clip {l : List Int} {a k n : Nat} (h : l.length = n - a) : l.take (min (a + k) n - a) = l.take k := by
  rw [← Nat.sub_min_sub_right, Nat.add_sub_cancel_left, List.take_eq_take_iff, h]
  exact Nat.min_eq_left (Nat.min_le_right _ _)
theorem fol_eq {ks : List Int} {i : Int} (h0 : 0 ≤ i) (h : i < (ks.length : Int)) : fol ks i = (ks.drop (i.toNat + 1)).take (mo (ks.getD i.toNat 0)).toNat := by
  unfold fol
  generalize mo (ks.getD i.toNat 0) = n
  by_cases hn : 0 < n
  · have h1 := Int.le_add_one h0
    rw [if_pos hn, clip_lo h0 h, clip_hi (Int.add_nonneg h1 (Int.le_of_lt hn)), Int.toNat_add h1 (Int.le_of_lt hn), tn_succ h0]
    exact take_clip List.length_drop
  · rw [if_neg hn, Int.toNat_eq_zero.mpr (Int.not_lt.mp hn)]; rfl
theorem fol_len {ks : List Int} {i : Int} : (fol ks i).length ≤ ks.length := by
  unfold fol
  split
  · exact Nat.le_trans (List.length_take_le' _ _) (by rw [List.length_drop]; exact Nat.sub_le _ _)
  · exact Nat.zero_le _
theorem bad_iff {ks : List Int} {i : Int} (h0 : 0 ≤ i) (h : i < (ks.length : Int)) : bad ks i = true ↔ Bd (ks.getD i.toNat 0) (ks.drop (i.toNat + 1)) := by
  unfold bad Bd
  rw [fol_eq h0 h, Bool.or_eq_true, Bool.or_eq_true, decide_eq_true_eq, decide_eq_true_eq, Bool.not_eq_true', decide_eq_false_iff_not]
theorem dec_at {ks : List Int} {i : Int} (h0 : 0 ≤ i) (h : i < (ks.length : Int)) : dec ks i = dec (ks.getD i.toNat 0 :: ks.drop (i.toNat + 1)) 0 := by
  rw [dec_drop ks i h0 (Int.le_of_lt h), drop_cons (len_at h0 h)]
theorem isT1 {ks : List Int} {i : Int} (h0 : 0 ≤ i) (h : i < (ks.length : Int)) (hb : bad ks i = true) : (dec ks i).isSome = false := by
  rw [dec_at h0 h]; exact L1 ((bad_iff h0 h).mp hb)
theorem isT3 {ks : List Int} {i : Int} (h0 : 0 ≤ i) (h : i < (ks.length : Int)) (h1 : 1 < mo (ks.getD i.toNat 0)) (hr : rng ks i = false) : (dec ks i).isSome = false := by
  rw [dec_at h0 h]
  refine L3 h1 fun q => ?_
  unfold rng at hr
  rw [fol_eq h0 h] at hr
  rw [show (Int.toNat 0) = 0 from rfl, decide_eq_true q.1, decide_eq_true q.2] at hr
  cases hr
theorem good_len {ks : List Int} {i : Int} (hb : bad ks i = false) : 0 ≤ mo (ks.getD i.toNat 0) ∧ mo (ks.getD i.toNat 0) ≤ ((fol ks i).length : Int) := by
  unfold bad at hb
  rw [Bool.or_eq_false_iff, Bool.or_eq_false_iff, decide_eq_false_iff_not, decide_eq_false_iff_not] at hb
  exact ⟨Int.not_lt.mp hb.1, Int.not_lt.mp hb.2.1⟩
theorem drop1_len {n : Nat} {i : Int} (h0 : 0 ≤ i) (h : i < (n : Int)) : ((n - (i.toNat + 1) : Nat) : Int) = (n : Int) - (i + 1) := by
  rw [← tn_succ h0, Int.ofNat_sub (len_le (Int.add_one_le_of_lt h)), tn_up (Int.le_add_one h0)]
theorem isT2 {ks : List Int} {i : Int} (h0 : 0 ≤ i) (h : i < (ks.length : Int)) (hc : 0 ≤ ks.getD i.toNat 0) (hb : bad ks i = false) (hr : ¬ 1 < mo (ks.getD i.toNat 0) ∨ (1 < mo (ks.getD i.toNat 0) ∧ rng ks i = true)) :
    0 ≤ i + 1 + mo (ks.getD i.toNat 0) ∧ i + 1 + mo (ks.getD i.toNat 0) ≤ (ks.length : Int) ∧ (dec ks i).isSome = (dec ks (i + 1 + mo (ks.getD i.toNat 0))).isSome := by
  obtain ⟨g1, g2⟩ := good_len hb
  have g3 := g2
  rw [fol_eq h0 h, List.length_take, List.length_drop] at g3
  have hq : ¬ Bd (ks.getD i.toNat 0) (ks.drop (i.toNat + 1)) := fun q => by rw [(bad_iff h0 h).mpr q] at hb; cases hb
  have i1 := Int.le_add_one h0
  have hle : i + 1 + mo (ks.getD i.toNat 0) ≤ (ks.length : Int) := Int.add_le_of_le_sub_left (drop1_len h0 h ▸ Int.le_trans g3 (Int.ofNat_le.mpr (Nat.min_le_right _ _)))
  refine ⟨Int.add_nonneg i1 g1, hle, ?_⟩
  rw [dec_at h0 h, dec_drop ks (i + 1 + mo (ks.getD i.toNat 0)) (Int.add_nonneg i1 g1) hle]
  have e : ks.drop (i + 1 + mo (ks.getD i.toNat 0)).toNat = (ks.drop (i.toNat + 1)).drop (mo (ks.getD i.toNat 0)).toNat := by
    rw [List.drop_drop, Int.toNat_add i1 g1, tn_succ h0]
  rw [e]
  rcases hr with hr | ⟨hm, hr⟩
  · exact L2 hc hq hr
  · refine L4 hq hm ?_
    unfold rng at hr
    rw [fol_eq h0 h, Bool.and_eq_true, decide_eq_true_eq, decide_eq_true_eq] at hr
    exact hr
theorem b15 {b : Int} (h : 128 ≤ b) (h2 : b ≤ 143) : b % 64 ≤ 15 := by omega
theorem a3 {a : Int} (h : 240 ≤ a) (h2 : a ≤ 244) (h3 : ¬ a = 244) : a % 8 ≤ 3 := by omega
theorem sign_le0 {a : Int} {r : List Int} : (u8sign (a :: r) 0).1 ≤ 1114111 := by
  by_cases hg : (u8sign (a :: r) 0).1 < 0
  · exact Int.le_trans (Int.le_of_lt hg) (by decide)
  have h0 := Int.not_lt.mp hg
  clear hg
  by_cases h1 : a < 128
  · rw [u8a1 h1]; exact Int.le_trans (Int.le_of_lt h1) (by decide)
  by_cases h2 : 194 ≤ a ∧ a ≤ 244
  · by_cases h3 : a ≤ 223
    · obtain ⟨b, r, rfl, q1, q2⟩ := hd2 h2.1 h3 h0
      rw [u8a2 h2.1 h3 q1 q2]
      exact Int.le_trans (sxm (m := 31) (eml (by decide) rfl)) (by decide)
    by_cases h4 : a ≤ 239
    · have h5 : 224 ≤ a := Int.not_le.mp h3
      obtain ⟨b, d, r, rfl, q1, q2, q3, q4⟩ := hd3 h5 h4 h0
      rw [u8a3 h5 h4 q1 q2 q3 q4]
      exact Int.le_trans (sxm (sxm (m := 15) (eml (by decide) rfl))) (by decide)
    · have h5 : 240 ≤ a := Int.not_le.mp h4
      obtain ⟨b, d, e, r, rfl, q1, q2, q3, q4, q5, q6⟩ := hd4 h5 h2.2 h0
      rw [u8a4 h5 h2.2 q1 q2 q3 q4 q5 q6]
      have q7 := (ends4 a).1
      by_cases h6 : a = 244
      · subst h6
        have q8 : 128 ≤ b := Int.le_trans q7 q1
        exact Int.le_trans (sxm (sxm (sxl (m := 4) (k := 15) (by decide) (b15 q8 q2)))) (by decide)
      · exact Int.le_trans (sxm (sxm (sxm (m := 3) (a3 h5 h2.2 h6)))) (by decide)
  · rw [u8_none (ks := a :: r) (i := 0) h1 h2]; exact (show (-1 : Int) ≤ 1114111 by decide)
theorem sign_le (ks : List Int) (i : Int) (hi : 0 ≤ i) (hl : i ≤ (ks.length : Int)) : (u8sign ks i).1 ≤ 1114111 := by
  rw [u8_drop ks i hi hl]
  cases ks.drop i.toNat with
  | nil => decide
  | cons a r => exact sign_le0
end
section
section
variable {prog : Program} {w : World} {A : Around} {E : Value → Shared → Prop} {Q : Flow → Shared → Prop} {s : Shared} {env : Env} {h₀ : Heap} {L : Addr}
noncomputable def WEnd (h₀ : Heap) (L : Addr) (s : Shared) (a : Addr) (rest : Led) (nI : Str) (stored : List Str) (m₀ : Nm) (P : Int → List Value → Prop) (μ : Int → Nat) (i : Int) (s₂ : Shared) : Prop :=
  ∃ (i' : Int) (ti : Tok) (vs : Array Value) (k : Nat) (h' : Heap) (tk : Nat) (m' : Nm), s₂ = { s with heap := h', toks := tk } ∧ Fr h₀ L h' m' ∧ News h₀ L h' ((a, listOf vs k) :: rest) ∧ m' nI = some (.int i' ti) ∧ (∀ z, z ≠ nI → stored.contains z = false → m' z = m₀ z) ∧ P i' vs.toList ∧ μ i' < μ i
theorem WEnd.intro {s : Shared} {a : Addr} {rest : Led} {nI : Str} {stored : List Str} {m₀ : Nm} {P : Int → List Value → Prop} {μ : Int → Nat} {i i' : Int} {ti : Tok} {vs : Array Value} {k : Nat} {h' : Heap} {tk : Nat} {m' : Nm} {n2 : Led} (F : Fr h₀ L h' m') (N : News h₀ L h' n2) (S : ∀ p ∈ (a, listOf vs k) :: rest, p ∈ n2)
    (h1 : m' nI = some (.int i' ti)) (h2 : ∀ z, z ≠ nI → stored.contains z = false → m' z = m₀ z) (hp : P i' vs.toList) (hm : μ i' < μ i) :
    WEnd h₀ L s a rest nI stored m₀ P μ i { s with heap := h', toks := tk } := ⟨i', ti, vs, k, h', tk, m', rfl, F, cb_drop N S, h1, h2, hp, hm⟩
noncomputable def WPost (h₀ : Heap) (L : Addr) (s : Shared) (a : Addr) (rest : Led) (nI : Str) (stored : List Str) (m₀ : Nm) (P : Int → List Value → Prop) (μ : Int → Nat) (Q : Flow → Shared → Prop) (i : Int) (f : Flow) (s₂ : Shared) : Prop :=
  match f with
  | .ret v => Q (.ret v) s₂
  | .brk => Q .next s₂
  | _ => WEnd h₀ L s a rest nI stored m₀ P μ i s₂
theorem while_list {test : Expr} {body : List Stmt} {pos : Pos} {m₀ : Nm} {a : Addr} {vs0 : Array Value} {k0 : Nat} {rest : Led} {i0 : Int} {t0 : Tok} (nI : Str) (stored : List Str) (P : Int → List Value → Prop) (μ : Int → Nat)
    (F : Fr h₀ L s.heap m₀) (N : News h₀ L s.heap ((a, listOf vs0 k0) :: rest)) (hI : m₀ nI = some (.int i0 t0)) (hp : P i0 vs0.toList)
    (turn : ∀ (i : Int) (ti : Tok) (vs : Array Value) (k : Nat) (u : Nm) h tk, P i vs.toList → Fr h₀ L h (fun z => if z = nI then some (.int i ti) else if stored.contains z = true then u z else m₀ z) → News h₀ L h ((a, listOf vs k) :: rest) →
      wpAny (model prog w) A (isTrue test env (eval test env)) (fun b s₂ =>
        if b = true then wpAny (model prog w) A (execs body env) (WPost h₀ L s a rest nI stored m₀ P μ Q i) E s₂ else Q .next s₂) E { s with heap := h, toks := tk })
    (hE : PassesOwn (model prog w) A env E) :
    wpAny (model prog w) A (exec (.While test body [] pos) env) Q E s := by
  refine While_inv2 (fun n m nx => ∃ i ti vs k, nx = (a, listOf vs k) :: rest ∧ μ i = n ∧ m nI = some (.int i ti) ∧ (∀ z, z ≠ nI → stored.contains z = false → m z = m₀ z) ∧ P i vs.toList) F N ⟨i0, t0, vs0, k0, rfl, rfl, hI, fun _ _ _ => rfl, hp⟩ ?_ hE
  rintro n m₁ nx h tk F₁ N₁ ⟨i, ti, vs, k, hnx, hsz, h1, h2, hp'⟩
  subst hnx
  rw [← hsz]
  have em : (fun z => if z = nI then some (.int i ti) else if stored.contains z = true then m₁ z else m₀ z) = m₁ := by
    funext z
    by_cases hz : z = nI
    · rw [if_pos hz, hz, h1]
    · rw [if_neg hz]
      cases h3 : stored.contains z with
      | true => simp
      | false => simp only [Bool.false_eq_true, if_false]; exact (h2 z hz h3).symm
  refine wpAny_mono (turn i ti vs k m₁ h tk hp' (by rw [em]; exact F₁) N₁) (fun b s₂ p => ?_) fun _ _ x => x
  cases b with
  | false => simpa using p
  | true =>
    simp only [if_true] at p ⊢
    refine wpAny_mono p (fun f s₃ q => ?_) fun _ _ x => x
    cases f with
    | ret v => exact q
    | brk => exact q
    | next =>
      obtain ⟨i', ti', vs', k', h', tk', m', rfl, F', N', e1, e2, hp9, hm9⟩ := q
      exact ⟨h', tk', m', _, μ i', rfl, F', N', hm9, i', ti', vs', k', rfl, rfl, e1, e2, hp9⟩
    | cont =>
      obtain ⟨i', ti', vs', k', h', tk', m', rfl, F', N', e1, e2, hp9, hm9⟩ := q
      exact ⟨h', tk', m', _, μ i', rfl, F', N', hm9, i', ti', vs', k', rfl, rfl, e1, e2, hp9⟩
end
end
section
section
variable {prog : Program} {w : World} {A : Around} {E : Value → Shared → Prop} {s : Shared}
theorem entry_unchain : entryFor table "proto.unchain" = some Builtin.«proto.unchain» := entryFor_of_fast (by kernel_rfl)
theorem updateField_ {a : Addr} {o : Obj} {vs : Array Value} {i : Nat} {x : Value} {Q : Unit → Shared → Prop} (ho : s.heap.get? a = some o) (hd : o.data = .fields vs) (hi : i < vs.size)
    (h : Q () { s with heap := s.heap.update a (Obj.mapFields (·.setIfInBounds i x)) }) : wpAny (model prog w) A (updateField a i x) Q E s := by
  unfold updateField
  refine wpAny_bind (wpAny_load ho ?_)
  rw [hd]
  dsimp only
  rw [if_pos hi]
  exact wpAny_update ho h
theorem raiseNew_some {α : Type} {Q : α → Shared → Prop} {e hv : Addr} {oh oe : Obj} {vs ves : Array Value} (hh : A.handled = some (.ref hv)) (hne : hv ≠ e) (ho : s.heap.get? hv = some oh) (hd : oh.data = .fields vs) (hc : vs[2]? = some .none)
    (hoe : s.heap.get? e = some oe) (hde : oe.data = .fields ves) (hsz : 2 < ves.size) (h : E (.ref e) { s with heap := s.heap.update e (Obj.mapFields (·.setIfInBounds 2 (.ref hv))) }) :
    wpAny (model prog w) A (raiseNew (.ref e) : Sem α) Q E s := by
  unfold raiseNew
  refine wpAny_bind (wpAny_handled ?_)
  rw [hh]
  dsimp only
  have hc1 : (Value.ref hv != Value.ref e) = true := by simp [hne]
  rw [if_pos hc1]
  refine wpAny_bind (wpAny_holding (wpAny_runValue (codeAny_builtin entry_unchain ?_)))
  unfold Builtin.«proto.unchain»
  dsimp only
  refine wpAny_bind (wpAny_field ho hd hc ?_)
  have hc2 : (Value.none == Value.none) = true := rfl
  rw [if_pos hc2]
  refine wpAny_bind (wpAny_pure ?_)
  refine wpAny_pure ?_
  refine wpAny_bind (updateField_ hoe hde hsz ?_)
  exact wpAny_throw h

noncomputable def HeldX (h : Heap) (hv : Addr) : Prop := ∃ oh vs, h.get? hv = some oh ∧ oh.data = .fields vs ∧ vs[2]? = some .none
theorem HeldX.keeps {h h' : Heap} {hv : Addr} (x : HeldX h hv) (k : ∀ b o, h.get? b = some o → h'.get? b = some o) : HeldX h' hv := let ⟨oh, vs, a, b, c⟩ := x; ⟨oh, vs, k _ _ a, b, c⟩
theorem HeldX.lt {h : Heap} {hv : Addr} (x : HeldX h hv) : hv < h.objs.size := let ⟨_, _, a, _⟩ := x; Heap.lt_size a

theorem tuple_end_held {it t : Addr} {i : Nat} {items : Array Value} {hv : Addr} {Q : Option Value → Shared → Prop} (hh : A.handled = some (.ref hv)) (hx : HeldX s.heap hv) (hni : hv ≠ it)
    (hit : IsTupIter s.heap it t i) (ht : IsTup s.heap t items) (hend : items[i]? = none)
    (hQ : ∀ h', Heap.ExtBut it s.heap h' → Q none { s with heap := h' }) : wpAny (model prog w) A (pyNext (.ref it)) Q E s := by
  have hit' := hit
  obtain ⟨o, ho, hc, hd⟩ := hit'
  obtain ⟨ol, hol, _, nl, hdl⟩ := ht
  obtain ⟨oh, hvs, hho, hhd, hh2⟩ := hx
  unfold pyNext
  refine wpAny_bind (wpAny_attempt (wpAny_callSpecial?_slot (name := Str.ofString "__next__") hit.typeIs slot_tupleiter_next
    (wpAny_call_entry slot_tupleiter_next hit.typeIs entry_tupleiter_next ?_ (args_tupleiter_next _))))
  show wpAny _ _ (field (.ref it) 0 >>= _) _ _ s
  refine wpAny_bind (wpAny_field ho hd (x := .ref t) rfl ?_)
  have c0 : ¬ ((Value.ref t == Value.none) = true) := Bool.false_ne_true
  show wpAny _ _ (if (Value.ref t == Value.none) = true then _ else _) _ _ s
  rw [if_neg c0]
  show wpAny _ _ (field (.ref it) 1 >>= _) _ _ s
  refine wpAny_bind (wpAny_field ho hd (x := .int i 0) rfl ?_)
  show wpAny _ _ (seqItems? (.ref t) >>= _) _ _ s
  refine wpAny_bind (wpAny_seqItems hol hdl ?_)
  simp only [Int.toNat_natCast, hend]
  refine wpAny_bind (wpAny_rule (wpAny_bind (wpAny_setField ho hd (by simp) ?_)))
  show wpAny _ _ (newExc (.type "StopIteration") [] >>= _) _ _ _
  refine wpAny_bind ?_
  simp only [newExc, newTuple]
  refine wpAny_bind (wpAny_newObj_type ?_ (by size_fits))
  refine wpAny_bind (m := firstArgMember _ _) (wpAny_of_eq (a := Value.none) (by first | rfl | (simp only [firstArgMember]; rfl)) ?_)
  refine wpAny_newObj_type ?_ (by size_fits)
  have hlt : hv < s.heap.objs.size := Heap.lt_size hho
  refine raiseNew_some (hv := hv) (by first | exact hh | (rw [show A.in1.handled = _ from hh])) ?_ (Heap.get?_push_of_some _ (Heap.get?_push_of_some _ ((Heap.get?_update_other _ _ (Ne.symm hni)).trans hho))) hhd hh2 (Heap.get?_push_size _ rfl) rfl ?_ ?_
  · refine Nat.ne_of_lt ?_
    simp only [Heap.size_push, Heap.size_update]
    exact Nat.lt_succ_of_lt hlt
  · simp; omega
  refine wpAny_bind (wpAny_isInstance (T := "StopIteration") (b := true) ⟨_, Heap.get?_update_self _ (Heap.get?_push_size _ rfl) rfl, rfl⟩ isSubtype_stop ?_)
  refine wpAny_pure (hQ _ ?_)
  intro b o' hb e
  have hb1 : b < s.heap.objs.size := Heap.lt_size e
  rw [Heap.get?_update_other _ _ (by refine Nat.ne_of_gt ?_; simp only [Heap.size_push, Heap.size_update]; exact Nat.lt_succ_of_lt hb1)]
  exact Heap.get?_push_of_some _ (Heap.get?_push_of_some _ ((Heap.get?_update_other _ _ (Ne.symm hb)).trans e))

theorem unpackItems_held {t : Addr} {items : Array Value} {hv : Addr} {Q : List Value → Shared → Prop} (hh : A.handled = some (.ref hv)) (hx : HeldX s.heap hv) (ht : IsTup s.heap t items)
    (hQ : ∀ h', Heap.ExtBut s.heap.objs.size s.heap h' → Q items.toList { s with heap := h' }) : wpAny (model prog w) A (unpackItems (.ref t) items.size none) Q E s := by
  have htl : t < s.heap.objs.size := ht.lt
  have hlt : t ≠ s.heap.objs.size := Nat.ne_of_lt htl
  unfold unpackItems
  refine wpAny_bind ?_
  unfold notIterableAtAll
  refine wpAny_bind (wpAny_specialOf ht.typeIs slot_tuple_iter.lookup ?_)
  refine wpAny_pure ?_
  simp only [Bool.false_eq_true, if_false]
  refine wpAny_bind (wpAny_holding (iter_tuple ht ?_))
  refine wpAny_bind (wpAny_holding (draw_tuple hlt items.size 0 _ _ ⟨_, Heap.get?_push_size _ rfl, rfl, rfl⟩ (ht.push _) (by omega) fun h₁ hit₁ hs₁ => ?_))
  have hall : List.take items.size (List.drop 0 items.toList) = items.toList := by rw [List.drop_zero]; exact List.take_of_length_le (by simp)
  rw [hall]
  rw [if_neg (by simp)]
  have old : ∀ b o, b ≠ s.heap.objs.size → s.heap.get? b = some o → h₁.get? b = some o := fun b o hb e => hs₁.extBut b o hb (Heap.get?_push_of_some _ e)
  have ht₁ : IsTup h₁ t items := (ht.push _).extBut hs₁.extBut hlt
  have hx₁ : HeldX h₁ hv := let ⟨oh, vs, a, b, c⟩ := hx; ⟨oh, vs, old _ _ (Nat.ne_of_lt hx.lt) a, b, c⟩
  refine wpAny_bind (wpAny_holding (tuple_end_held hh hx₁ (Nat.ne_of_lt hx.lt) hit₁ ht₁ (by simp) fun h₂ he₂ => ?_))
  simp only [Option.isSome_none, Bool.false_eq_true, if_false]
  exact wpAny_pure (hQ h₂ fun b o hb e => he₂ b o hb (old b o hb e))

theorem assign_held {env : Env} {elts : List Expr} {x1 : Nat} {pos : Pos} {t : Addr} {vs : List Value} {hv : Addr} {h₀ : Heap} {L : Addr} {m : Nm} {news : Led} {Q : Unit → Shared → Prop} (hh : A.handled = some (.ref hv)) (F : Fr h₀ L s.heap m) (N : News h₀ L s.heap news) (hx : HeldX s.heap hv) (hm : (t, tupO vs) ∈ news)
    (hn : (assignEach elts env).length = vs.toArray.size) (hstar : (assignEach elts env).findIdx? (·.1) = none)
    (h : ∀ h', Fr h₀ L h' m → News h₀ L h' news → wpAny (model prog w) A (assignInOrder ((assignEach elts env).map (·.2)) vs) Q E { s with heap := h' }) :
    wpAny (model prog w) A (assign (.Tuple elts x1 pos) env (.ref t)) Q E s := by
  rw [assign_Tuple]
  refine wpAny_bind (wpAny_standAt ?_)
  unfold unpack
  rw [hn, hstar]
  exact wpAny_bind (wpAny_holding (unpackItems_held hh hx ⟨_, (N _ hm).1, rfl, _, rfl⟩ fun h' he => h h' (F.extBut he (Nat.le_refl _)) fun p hp => ⟨he _ _ (Nat.ne_of_lt (Heap.lt_size (N p hp).1)) (N p hp).1, (N p hp).2⟩))
end
end
section
noncomputable def XObj (h : Heap) (C : Addr) (bm : List Value) (newId : String) : Prop :=
  ∃ nm q N bs sn sub ab col dd k0 k1 k2 k3 k5, h.get? C = some (excClassObj nm q C N bs bm true sn sub ab col dd k0 k1 k2 k3 k5 newId)
theorem XObj.keeps {h h' : Heap} {C : Addr} {bm : List Value} {newId : String} (x : XObj h C bm newId) (k : ∀ b o, h.get? b = some o → h'.get? b = some o) : XObj h' C bm newId := by
  obtain ⟨nm, q, N, bs, sn, sub, ab, col, dd, k0, k1, k2, k3, k5, e⟩ := x
  exact ⟨nm, q, N, bs, sn, sub, ab, col, dd, k0, k1, k2, k3, k5, k _ _ e⟩

@[reducible] noncomputable def bmE : List Value := [.type "Exception", .type "BaseException", .type "object"]
@[reducible] noncomputable def bmX : List Value := .ref 46 :: bmE
@[reducible] noncomputable def excO (t : Addr) (d : Option Addr) : Obj := { cls := .ref 59, dict := d, data := .fields #[.ref t, .none, .none, .none, .bool false, .none] }
theorem hasX {X : String} {b : Bool} (h : bmE.contains (.type X) = b) : (Value.ref 59 :: bmX).contains (.type X) = b := by
  rw [List.contains_cons, List.contains_cons, h]; rfl
section
variable {prog : Program} {w : World} {A : Around} {E : Value → Shared → Prop} {h : Heap} {g : Array GenState} {d : Drawn} {t : Nat} {os : OsState}

theorem x_check_new {M : Model} {A : Around} {E : Value → Shared → Prop} {rest : List Value} {Q : Unit → Shared → Prop} (X : XObj h 59 bmX "Exception.__new__") (hq : Q () ⟨h, g, d, t, os⟩) :
    wpAny M A (checkBuiltinCall "Exception.__new__" ⟨.ref 59 :: rest, []⟩) Q E ⟨h, g, d, t, os⟩ := by
  obtain ⟨nm, q, N, bs, sn, sub, ab, col, dd, k0, k1, k2, k3, k5, hC⟩ := X
  have F := PySem.F.excBase_Exception
  have hcont := hasX F.hasB
  have hstar := F.noStar
  simp only [checkBuiltinCall, F.newKind, F.newSplit, F.newRow]
  repeat (first | refine wpAny_loadPart_at hC ?_ | (refine wpAny_isSubtype_exc hC ?_; rw [hcont]) | refine wpAny_staticBase_exc hC ?_ | refine wpAny_madeBy_exc hC ?_ | simp only [bne_self_eq_false, Bool.false_eq_true, if_false] | wp_step)
  exact hq

theorem x_new {R : Result → Shared → Prop} {rest : List Value} (X : XObj h 59 bmX "Exception.__new__")
    (hq : R (.ok (.ret (.ref (h.objs.size + 1)))) ⟨(h.push (tupO rest)).push (excO h.objs.size none), g, d, t, os⟩) (hrest : rest.length ≤ sizeLine) :
    codeAny (model prog w) A (.builtin "Exception.__new__" ⟨.ref 59 :: rest, []⟩) R ⟨h, g, d, t, os⟩ := by
  obtain ⟨nm, q, N, bs, sn, sub, ab, col, dd, k0, k1, k2, k3, k5, hC⟩ := X
  have F := PySem.F.excBase_Exception
  have hends := F.ends
  have hcB := hasX F.hasB
  have hcA := hasX F.noAttr
  have hcN := hasX F.noName
  refine codeAny_builtinAt F.entry ?_
  unfold Builtin.«BaseException.__new__»
  refine PySem.wpAt_bind ?_
  show PySem.wpAt _ _ _ (stack >>= _) _ _ _
  refine PySem.wpAt_bind (PySem.wpAt_stack fun p below => PySem.wpAt_of_wpAny ?_)
  wp_walk
  refine PySem.wpAt_of_wpAny ?_
  rw [F.owner]
  repeat (first | with_reducible refine wpAny_madeHere_exc F.canon hC ?_ | with_reducible refine wpAny_loadPart_at hC ?_ | (with_reducible refine wpAny_isSubtype_exc hC ?_; first | rw [hcB] | rw [hcA] | rw [hcN]) | wp_step)
  show R _ _
  rw [Heap.size_push]
  exact hq

theorem x_type_call {rest : List Value} {fI : Addr} {oI : Obj} {Q : Fin → Shared → Prop} (X : XObj h 59 bmX "Exception.__new__")
    (hI : Looks (model prog w) h (typeLookup (.ref 59) "__init__") (some (.ref fI))) (hfI : h.get? fI = some oI) (hfc : oI.cls = .type "function")
    (hq : wpAny (model prog w) A (call (.ref fI) (.ref (h.objs.size + 1) :: rest)) (fun r s' => r = .none ∧ Q (.done (.ret (.ref (h.objs.size + 1)))) s') E ⟨(h.push (tupO rest)).push (excO h.objs.size none), g, d, t, os⟩)
    (hrest : rest.length ≤ sizeLine) :
    wpAny (model prog w) A (Builtin.«type.__call__» ⟨.ref 59 :: rest, []⟩) Q E ⟨h, g, d, t, os⟩ := by
  have X' := X
  obtain ⟨nm, q, N, bs, sn, sub, ab, col, dd, k0, k1, k2, k3, k5, hC⟩ := X
  have F := PySem.F.excBase_Exception
  repeat (first | with_reducible refine wpAny_loadPart_at hC ?_ | with_reducible refine wpAny_madeBy_exc hC ?_ | wp_step)
  refine codeAny_call_builtin_code (Code.quiet_builtin _ F.quiet) (x_check_new X' ?_)
  refine x_new X' ?_ hrest
  show wpAny _ _ _ _ _ _
  have k : ∀ b o, h.get? b = some o → ((h.push (tupO rest)).push (excO h.objs.size none)).get? b = some o := fun b o e => Heap.get?_push_of_some _ (Heap.get?_push_of_some _ e)
  have hC₁ := k _ _ hC
  have hget : ((h.push (tupO rest)).push (excO h.objs.size none)).get? (h.objs.size + 1) = some (excO h.objs.size none) := by heap_get
  have hcC : (Value.ref 59 :: bmX).contains (.ref 59) = true := by rfl
  unfold isInstance
  repeat (first | with_reducible refine wpAny_loadPart_at hget ?_ | (with_reducible refine wpAny_isSubtype_exc hC₁ ?_; rw [hcC]) | wp_step)
  show wpAny _ _ (typeLookup (.ref 59) _) _ _ _
  refine (hI.keeps k).at ?_
  refine wpAny_holding (wpAny_bind ?_)
  unfold bindSpecial
  refine wpAny_bind (wpAny_typeOf (T := "function") ⟨_, k _ _ hfI, hfc⟩ ?_)
  rw [if_pos (by decide)]
  refine wpAny_pure (wpAny_bind (wpAny_mono hq (fun r s' hr => ?_) fun _ _ x => x))
  obtain ⟨rfl, hQ⟩ := hr
  wp_walk
  exact hQ

theorem x_call {rest : List Value} {fI : Addr} {oI : Obj} {Q : Value → Shared → Prop} {s : Shared} (X : XObj s.heap 59 bmX "Exception.__new__")
    (hI : Looks (model prog w) s.heap (typeLookup (.ref 59) "__init__") (some (.ref fI))) (hfI : s.heap.get? fI = some oI) (hfc : oI.cls = .type "function")
    (hq : wpAny (model prog w) (A.under (.builtin "type.__call__" ⟨.ref 59 :: rest, []⟩)) (call (.ref fI) (.ref (s.heap.objs.size + 1) :: rest)) (fun r s' => r = .none ∧ Q (.ref (s.heap.objs.size + 1)) s') E { s with heap := (s.heap.push (tupO rest)).push (excO s.heap.objs.size none) })
    (hrest : rest.length ≤ sizeLine) :
    wpAny (model prog w) A (call (.ref 59) rest) Q E s := by
  obtain ⟨h, g, d, t, os⟩ := s
  have X' := X
  obtain ⟨nm, q, N, bs, sn, sub, ab, col, dd, k0, k1, k2, k3, k5, hC⟩ := X
  have f1 := tc_lookup
  have f2 := tc_bind (.ref 59)
  have hT : (⟨h, g, d, t, os⟩ : Shared).TypeIs (.ref 59) "type" := ⟨_, hC, rfl⟩
  refine wpAny_call (codeAny_of_tree ?_)
  show wpAny _ _ (callAny (.ref 59) _) _ _ _
  repeat (any_goals (first | assumption | with_reducible refine wpAny_loadPart_at hC ?_ | wp_step))
  refine ⟨rfl, ?_⟩
  exact codeAny_call_builtin_at (Code.quiet_builtin _ (by decide +kernel)) entry_typeCall (wpAny_check_type_call_sub hC (x_type_call (hrest := hrest) X' hI hfI hfc hq))
end
noncomputable def XIn (K : Frag) : Prop := ∀ h, K.In h → XObj h 59 bmX "Exception.__new__"
theorem x59 (w : World) : XIn (hd.heap_39 w.params) := fun _ X => ⟨_, _, _, _, _, _, _, _, _, _, _, _, _, _, X _ _ (by exact rfl)⟩
theorem xobj_of {K : Frag} {h : Heap} (X : K.In h) (q : XIn K) : XObj h 59 bmX "Exception.__new__" := q h X
theorem init59 (w : World) : findIn (hd.heap_39 w.params) (.ref 59) "__init__" = some (some (.ref 36)) := by kernel_rfl
theorem fn36 (w : World) : typeIn (hd.heap_39 w.params) (.ref 36) = some (.type "function") := by kernel_rfl
theorem under_tc {hdl : Option Value} {dp un : Nat} {gd : Option (List Code)} {cn : Str} {cs : Scope} {L a C : Addr} {ccd : Value} {cl : List (Str × Addr)} {outer : List Env} {rest : List Value} :
    (topA hdl dp un gd cn cs L a ccd cl outer).under (.builtin "type.__call__" ⟨.ref C :: rest, []⟩) = topA hdl (dp + 1) (un + 1) gd cn cs L a ccd cl outer := by rfl

section
variable {M : Model} {A : Around} {E : Value → Shared → Prop} {s : Shared} {env : Env}
noncomputable def RaisX (E : Value → Shared → Prop) (v : Value) (s₁ : Shared) : Prop :=
  ∃ a t dd, v = .ref a ∧ XObj s₁.heap 59 bmX "Exception.__new__" ∧ s₁.heap.get? a = some (excO t dd) ∧ E (.ref a) s₁
theorem raise_x {e : Expr} {pos : Pos} {Q : Flow → Shared → Prop} (hh : A.handled = none)
    (h : wpAny M A (eval e env) (RaisX E) E s) : wpAny M A (exec (.Raise (some e) none pos) env) Q E s := by
  show wpAny M A (do standAt pos; raiseStmt env (some (do let v ← eval e env; standAt pos; pure v)) none) Q E s
  refine wpAny_bind (wpAny_standAt ?_)
  unfold raiseStmt
  refine wpAny_bind (wpAny_bind (wpAny_mono h (fun v s₁ h₁ => wpAny_bind (wpAny_standAt (wpAny_pure ?_))) fun _ _ x => x))
  obtain ⟨a, ta, dd, rfl, ⟨nm, q, N, bs, sn, sub, ab, col, dd', k0, k1, k2, k3, k5, hC⟩, he, hE⟩ := h₁
  obtain ⟨hp, g, d, tk, os⟩ := s₁
  have hcB := hasX PySem.F.excBase_Exception.hasBase
  repeat (first | with_reducible refine wpAny_loadPart_at he ?_ | with_reducible refine wpAny_loadPart_at hC ?_ | (with_reducible refine wpAny_isSubtype_exc hC ?_; rw [hcB]) | wp_step)
  exact wpAny_raiseNew_none hh hE
end
end
section
section
variable {prog : Program} {w : World} {A : Around} {K : Frag} {s : Shared} {h₀ : Heap} {L : Addr} {m : Nm} {E : Value → Shared → Prop}
theorem set_front {x : Addr} {o : Obj} {cd : ClassData} {name : Str} {v : Value} {Q : Unit → Shared → Prop} (X : K.In s.heap) (hx : s.heap.get? x = some o) (hcls : o.cls = .ref 59)
    (hs : findIn K (.ref 59) "__setattr__" = some (some (.builtin "object.__setattr__"))) (hn : findIn K (.ref 59) name = some none) (hc : clsIn K 59 = some cd) (hm : cd.mro = .ref 59 :: bmX)
    (h : ∀ A', wpAny (model prog w) A' (Builtin.ObjectAttr.storeInOwnDict (.ref x) (.ref 59) (.str name s.toks) name v false)
      (fun fin s' => match fin with | .done (.ret _) => Q () s' | _ => False) E { s with toks := s.toks + 1 }) :
    wpAny (model prog w) A (setAttr (.ref x) name v) Q E s := by
  have ht : Looks (model prog w) s.heap (typeOf (.ref x)) (.ref 59) := (Looks.ld hx).andThen (by rw [hcls]; exact .now)
  have hmro : Looks (model prog w) s.heap (mroOf (.ref 59)) (.ref 59 :: bmX) := (looks_clsIn X hc).andThen (by rw [hm]; exact .now)
  have hin : Looks (model prog w) s.heap (isInstance (.ref x) (.type "object")) true := ht.andThen (looks_mroIn X (by unfold mroIn; rw [hc, Option.bind_some, hm]; rfl))
  have SF := PySem.F.store_Exception
  refine wpAny_bind (wpAny_mkText (wpAny_bind (wpAny_bind (wpAny_bind (ht _ _ _ _ (fun _ _ e => e) (looks_findIn X hs _ _ _ _ (fun _ _ e => e) (wpAny_holding ?_)))))))
  rw [SF.slot.bind]
  refine wpAny_bind (wpAny_pure (wpAny_bind (wpAny_call ?_)))
  refine codeAny_call_builtin SF.slot.plain SF.entry (@check_slot (model prog w) _ _ _ "object.__setattr__" "object" "__setattr__" (.ref x) [.str name s.toks, v] [] _ SF.kind SF.split hin (SF.args (.ref x) (.str name s.toks) v) ?_)
  show wpAny _ _ (Builtin.«object.__setattr__» ⟨[.ref x, .str name s.toks, v], []⟩) _ _ _
  rw [osa_eq, refuse_eq]
  refine wpAny_bind (wpAny_bind (ht.at (wpAny_bind (hmro.at ?_))))
  rw [refuseLoop_ref, refuseLoop_ref, SF.passes]
  refine wpAny_pure (wpAny_bind (ht.at (wpAny_bind ((looks_findIn X hn).at (wpAny_bind (wpAny_pure ?_))))))
  refine wpAny_mono (h _) (fun fin s' z => ?_) fun _ _ z => z
  rcases fin with (_ | _ | _) | _ <;> first | exact z.elim | skip
  · exact wpAny_pure (wpAny_pure z)

theorem set1 {e t : Addr} {cd : ClassData} {name : Str} {v : Value} {Q : Unit → Shared → Prop} (F : Fr h₀ L s.heap m) (N : News h₀ L s.heap [(e, excO t none)]) (X : K.In h₀)
    (hs : findIn K (.ref 59) "__setattr__" = some (some (.builtin "object.__setattr__"))) (hn : findIn K (.ref 59) name = some none) (hc : clsIn K 59 = some cd) (hm : cd.mro = .ref 59 :: bmX) (hdi : cd.hasDict = true)
    (h : ∀ h' d tk', Fr h₀ L h' m → News h₀ L h' [(e, excO t (some d))] → h'.Ns1 d (fun y => if y = name then some v else none) → s.heap.get? d = none → h₀.get? d = none → d ≠ L → e ≠ d → (∀ b o, s.heap.get? b = some o → b ≠ e → h'.get? b = some o) → Q () { s with heap := h', toks := tk' }) :
    wpAny (model prog w) A (setAttr (.ref e) name v) Q E s := by
  have hx := (N _ (.head _)).1
  have X' := X.keeps F.keep
  refine set_front X' hx rfl hs hn hc hm fun A' => ?_
  obtain ⟨hh, g, dr, tk, os⟩ := s
  dsimp only at F N hx X' ⊢
  refine wpAny_bind (wpAny_pure (wpAny_bind (wpAny_bind (wpAny_loadPart hx (wpAny_bind ((looks_clsIn X' hc).at ?_))))))
  rw [hdi]
  have hx₁ : (hh.push { cls := .type "dict", data := .dict #[] }).get? e = some (excO t none) := Heap.get?_push_of_some _ hx
  have hxs : e ≠ hh.objs.size := Nat.ne_of_lt (Heap.lt_size hx)
  have F₁ := F.push { cls := .type "dict", data := .dict #[] }
  have N₁ : News h₀ L (hh.push { cls := .type "dict", data := .dict #[] }) ([] ++ (e, excO t none) :: []) := cb_drop (N.push F { cls := .type "dict", data := .dict #[] }) (by simp)
  have D₁ := (N.push F { cls := .type "dict", data := .dict #[] }) (hh.objs.size, { cls := .type "dict", data := .dict #[] }) (by simp)
  obtain ⟨U1, U2⟩ := news_upd (f := fun o : Obj => { o with dict := some hh.objs.size }) (o' := excO t (some hh.objs.size)) F₁ N₁ (by simp) (by simp) rfl rfl
  refine wpAny_bind (wpAny_alloc ?_)
  refine wpAny_bind (wpAny_update hx₁ ?_)
  refine wpAny_pure (a := some hh.objs.size) ?_
  have hgd := (Heap.get?_update_ne (hh.push { cls := .type "dict", data := .dict #[] }) hh.objs.size e (fun o : Obj => { o with dict := some hh.objs.size }) hxs.symm).trans (Heap.get?_push_at rfl rfl)
  have hnd : ((hh.push { cls := .type "dict", data := .dict #[] }).update e fun o : Obj => { o with dict := some hh.objs.size }).Ns hh.objs.size (fun _ => none) :=
    ⟨_, #[], _, hgd, rfl, fun e he => absurd he (by simp), fun _ => rfl⟩
  show wpAny _ _ (Builtin.ObjectAttr.storeInDict hh.objs.size (.str name _) name v) _ _ _
  unfold Builtin.ObjectAttr.storeInDict Builtin.ObjectAttr.newKeyGuard
  refine wpAny_bind (wpAny_pure (wpAny_bind (wpAny_nsSet1 (Heap.Ns1.of_empty hnd) fun h' hn' hs' => ?_)))
  obtain ⟨oD, esD, epD, hoD, hdD, hcD⟩ := hn'.count (Within.cons name v Within.nil)
  refine wpAny_bind (wpAny_lookBehind hoD (by rw [hdD]; exact pastItsLine_dict (Nat.le_trans hcD (by rw [List.length_cons, List.length_nil, sizeLine_eq]; omega))) ?_)
  refine wpAny_pure ?_
  have old : ∀ b o, b ≠ hh.objs.size → ((hh.push { cls := .type "dict", data := .dict #[] }).update e fun o : Obj => { o with dict := some hh.objs.size }).get? b = some o → h'.get? b = some o := fun b o hb q => (hs'.2 b hb).trans q
  have hL : L ≠ hh.objs.size := by
    obtain ⟨o, es, ep, q, _⟩ := F.ns
    exact Nat.ne_of_lt (Heap.lt_size q)
  have h0 : h₀.get? hh.objs.size = none := D₁.2.2
  refine h h' hh.objs.size _ ⟨?_, fun b o q => old b o (fun z => by rw [z, h0] at q; cases q) (U1.keep b o q), ?_⟩ (fun p hp => ?_) hn' (Heap.get?_none_of_le (Nat.le_refl _)) h0 (Ne.symm hL) hxs (fun b o q hb => old b o (Nat.ne_of_lt (Heap.lt_size q)) ?_)
  · obtain ⟨o, es, ep, q, r⟩ := U1.ns
    exact ⟨o, es, ep, old _ _ hL q, r⟩
  · exact F.above
  · have := U2 p hp
    refine ⟨old _ _ ?_ this.1, this.2⟩
    rcases List.mem_cons.mp hp with rfl | q
    · exact hxs
    · cases q
  · rw [Heap.get?_update_ne _ _ _ _ hb]
    exact Heap.get?_push_of_some _ q

theorem set2 {e t d : Addr} {cd : ClassData} {name : Str} {v : Value} {mA : Nm} {ns : List Str} {Q : Unit → Shared → Prop} (F : Fr h₀ L s.heap m) (N : News h₀ L s.heap [(e, excO t (some d))]) (X : K.In h₀)
    (hs : findIn K (.ref 59) "__setattr__" = some (some (.builtin "object.__setattr__"))) (hn : findIn K (.ref 59) name = some none) (hc : clsIn K 59 = some cd) (hm : cd.mro = .ref 59 :: bmX) (hdi : cd.hasDict = true)
    (hD : s.heap.Ns1 d mA) (h0 : h₀.get? d = none) (hL : d ≠ L) (hed : e ≠ d) (hw : Within mA ns) (hl : ns.length ≤ 10)
    (h : ∀ h' tk', Fr h₀ L h' m → News h₀ L h' [(e, excO t (some d))] → (∀ b o, s.heap.get? b = some o → b ≠ d → h'.get? b = some o) → Q () { s with heap := h', toks := tk' }) :
    wpAny (model prog w) A (setAttr (.ref e) name v) Q E s := by
  have hx := (N _ (.head _)).1
  have X' := X.keeps F.keep
  refine set_front X' hx rfl hs hn hc hm fun A' => ?_
  obtain ⟨hh, g, dr, tk, os⟩ := s
  dsimp only at F N hx X' hD ⊢
  refine wpAny_bind (wpAny_pure (wpAny_bind (wpAny_bind (wpAny_loadPart hx (wpAny_bind ((looks_clsIn X' hc).at ?_))))))
  rw [hdi]
  refine wpAny_pure (a := some d) ?_
  show wpAny _ _ (Builtin.ObjectAttr.storeInDict d (.str name _) name v) _ _ _
  unfold Builtin.ObjectAttr.storeInDict Builtin.ObjectAttr.newKeyGuard
  refine wpAny_bind (wpAny_pure (wpAny_bind (wpAny_nsSet1 hD fun h' hn' hs' => ?_)))
  obtain ⟨oD, esD, epD, hoD, hdD, hcD⟩ := hn'.count (Within.cons name v hw)
  refine wpAny_bind (wpAny_lookBehind hoD (by rw [hdD]; exact pastItsLine_dict (Nat.le_trans hcD (by rw [List.length_cons, sizeLine_eq]; omega))) ?_)
  refine wpAny_pure ?_
  have old : ∀ b o, hh.get? b = some o → b ≠ d → h'.get? b = some o := fun b o q hb => (hs'.2 b hb).trans q
  refine h h' _ ⟨?_, fun b o q => old b o (F.keep b o q) (fun z => by rw [z, h0] at q; cases q), F.above⟩ (fun p hp => ?_) old
  · obtain ⟨o, es, ep, q, r⟩ := F.ns
    exact ⟨o, es, ep, old _ _ q (Ne.symm hL), r⟩
  · have := N p hp
    refine ⟨old _ _ this.1 ?_, this.2⟩
    rcases List.mem_cons.mp hp with rfl | q
    · exact hed
    · cases q

theorem init_exc {e t : Addr} {v : Value} {Q : Value → Shared → Prop} (F : Fr h₀ L s.heap m) (N : News h₀ L s.heap [(e, excO t none)]) (X₀ : K.In h₀) (q₀ : XIn K)
    (h : ∀ h' t', Fr h₀ L h' m → News h₀ L h' [(e, excO t' none)] → (∀ b o, s.heap.get? b = some o → b ≠ e → h'.get? b = some o) → Q .none { s with heap := h' }) :
    wpAny (model prog w) A (call (.builtin "Exception.__init__") [.ref e, v]) Q E s := by
  have B := PySem.F.excBase_Exception
  have hx := (N _ (.head _)).1
  obtain ⟨nm, q, N', bs, sn, sub, ab, col, dd, k0, k1, k2, k3, k5, hC⟩ := (xobj_of X₀ q₀).keeps F.keep
  obtain ⟨hh, g, dr, tk, os⟩ := s
  dsimp only at F N hx hC ⊢
  have hcB := hasX B.hasB
  have hshort := B.noStar
  have F₁ := F.push (tupO [v])
  have N₁ : News h₀ L (hh.push (tupO [v])) ([] ++ (e, excO t none) :: []) := cb_drop (N.push F (tupO [v])) (by simp)
  obtain ⟨U1, U2⟩ := news_upd (f := Obj.mapFields (·.setIfInBounds 0 (.ref hh.objs.size))) (o' := excO hh.objs.size none) F₁ N₁ (by simp) (by simp) rfl rfl
  refine wpAny_call (codeAny_call_builtin B.init.plain B.initEntry ?_)
  simp only [checkBuiltinCall, B.initKind, B.initSplit, B.initRow]
  repeat (first | with_reducible refine wpAny_loadPart_at hx ?_ | with_reducible refine wpAny_loadPart_at hC ?_ | (with_reducible refine wpAny_isSubtype_exc hC ?_; rw [hcB]) | wp_step)
  exact h _ hh.objs.size U1 U2 (fun b o q hb => (Heap.get?_update_ne _ _ _ _ hb).trans (Heap.get?_push_of_some _ q))
end
end
section
theorem said_o_init_1 : True := by
  k_with_none
  trivial
theorem said_o_init_2 : True := by
  k_with "mine room" => (first | exact ro0 (by assumption) | exact ro2 (by assumption) (by rfl) | exact ro1 (by assumption) (by rfl) | exact Nat.lt_of_succ_le (Nat.le_of_ble_eq_true (by rfl)) | ktr_room)
  k_with "mine enterG" => ((refine wpAny_call ?_; refine' code_defG ?zzk1 ?zzk2 ?zzk3 ?zzk4 ?zzk5 ?zzkA ?zzkF ?zzkK ?zzk6 ?zzk7 ?zzk8 ?zzk9 ?zzkB ?_ ?zzc2 ?zzc3 ?zzc4 ?zzc5; (case zzkA => exact rfl); (case zzkF => exact rfl); (case zzkK => assumption); (case zzk1 => k_asm); (case zzk2 => k_asm); (case zzk3 => k_asm); (case zzk4 => k_asm); (case zzk5 => k_asm); (case zzk6 => k_is); (case zzk7 => k_is); (case zzk8 => walk_at "mine room"); (case zzk9 => first | exact BindsTo.of_eq rfl | exact binds_K (by k_in) rfl (by k_is) rfl rfl rfl); (case zzc5 => decide); (case zzkB => exact locs rfl); (case zzc2 => exact rfl); (case zzc3 => exact rfl); (case zzc4 => exact rfl); k_whole; intro g' L' h' FG' F' N' B' X' T' kG'; (try dsimp only); (try k_lift B'); (try k_fold)))
  k_with "mine startG" => (k_dflt (walk_at "mine enterG"))
  k_with "execs cons" => ((k_here; (with_reducible show wpAny _ _ (execs (_ :: _) _) _ _ { heap := _, gens := _, drawn := _, toks := _ + 1, os := _ }); refine tok_any ?_; intro tkA; (try dsimp only)))
  trivial
theorem cls59 (w : World) : ∃ cd, clsIn (hd.heap_39 w.params) 59 = some cd ∧ cd.mro = .ref 59 :: bmX ∧ cd.hasDict = true := by
  have h : (clsIn (hd.heap_39 w.params) 59).any (fun cd => cd.mro == .ref 59 :: bmX && cd.hasDict) = true := by kernel_rfl
  obtain ⟨cd, a, b⟩ := any_some h
  simp only [Bool.and_eq_true, beq_iff_eq] at b
  exact ⟨cd, a, b.1, b.2⟩
theorem sa59 (w : World) : findIn (hd.heap_39 w.params) (.ref 59) "__setattr__" = some (some (.builtin "object.__setattr__")) := by kernel_rfl
theorem what59 (w : World) : findIn (hd.heap_39 w.params) (.ref 59) "what" = some none := by kernel_rfl
theorem at59 (w : World) : findIn (hd.heap_39 w.params) (.ref 59) "at" = some none := by kernel_rfl
theorem exc_method {w : World} {A : Around} {K : Frag} {s : Shared} {E : Value → Shared → Prop} {pl : Sem Bool} {Q : Value × List Value → Shared → Prop} (X : K.In s.heap)
    (hga : findIn K (.type "type") "__getattribute__" = some (some (.builtin "type.__getattribute__")))
    (e : findCls K (.type "Exception") (.type "type") "__init__" = some (.val (.builtin "Exception.__init__"))) (hi : subIn K (.type "type") (.type "type") = some true)
    (hb : (if onTheHeap (.type "type") then findIn K (.type "type") "__getattr__" else some none) = some none)
    (h : Q (.builtin "Exception.__init__", []) { s with toks := s.toks + 1 }) : wpAny (model PG w) A (getMethod (.type "Exception") "__init__" pl) Q E s := by
  have ht : Looks (model PG w) s.heap (typeOf (.type "Exception")) (.type "type") := Looks.of_pure (by kernel_rfl)
  have hsp : Looks (model PG w) s.heap (specialOf (.type "Exception") "__getattribute__") (some (.builtin "type.__getattribute__")) := ht.andThen (looks_findIn X hga)
  unfold getMethod
  refine wpAny_bind (hsp.here ?_)
  dsimp only
  rw [if_pos canon_tga]
  refine wpAny_bind (cls_open X (Looks.of_pure (by rfl)) ht hga (looks_hook X hb) hi e ?_)
  exact wpAny_pure (by show wpAny _ _ (handedOut (.builtin "Exception.__init__")) _ _ _; rw [handedOut_of (by decide +kernel)]; exact wpAny_pure (wpAny_pure h))
theorem em1 (w : World) : findIn (hd.heap_39 w.params) (.type "type") "__getattribute__" = some (some (.builtin "type.__getattribute__")) := by kernel_rfl
theorem em2 (w : World) : findCls (hd.heap_39 w.params) (.type "Exception") (.type "type") "__init__" = some (.val (.builtin "Exception.__init__")) := by kernel_rfl
theorem em3 (w : World) : subIn (hd.heap_39 w.params) (.type "type") (.type "type") = some true := by kernel_rfl
theorem em4 (w : World) : (if onTheHeap (.type "type") then findIn (hd.heap_39 w.params) (.type "type") "__getattr__" else some none) = some none := by kernel_rfl
theorem said_o_init_3 : True := by
  k_with "getMethod type:Exception" => ((k_here; k_dflt (refine' exc_method ?zzkX (em1 _) (em2 _) (em3 _) (em4 _) ?_; (case zzkX => exact Frag.In.keeps (by assumption) (Fr.keep (by assumption))))))
  k_with "getMethod type" => ((k_here; k_dflt (refine' exc_method ?zzkX (em1 _) (em2 _) (em3 _) (em4 _) ?_; (case zzkX => exact Frag.In.keeps (by assumption) (Fr.keep (by assumption))))))
  k_with "call builtin:Exception.__init__" => ((k_here; k_dflt (refine' init_exc ?zzkF ?zzkN ?zzkX (x59 _) ?_; (case zzkF => k_asm); (case zzkN => k_asm); (case zzkX => k_asm); intro h9 t9 F9 N9 O9; (try dsimp only))))
  k_with "setAttr ref" => ((k_here; k_dflt (refine' set1 ?zzkF ?zzkN ?zzkX (sa59 _) (what59 _) (by assumption) (by assumption) (by assumption) ?_; (case zzkF => k_asm); (case zzkN => k_asm); (case zzkX => k_asm); intro h9 d9 tk9 F9 N9 D9 Z8 Z9 Y9 W9 O9; (try dsimp only))))
  k_with "setAttr ref" => ((k_here; k_dflt (refine' set2 ?zzkF ?zzkN ?zzkX (sa59 _) (at59 _) (by assumption) (by assumption) (by assumption) (by assumption) (by assumption) (by assumption) (by assumption) (Within.cons _ _ Within.nil) (by decide) ?_; (case zzkF => k_asm); (case zzkN => k_asm); (case zzkX => k_asm); intro h9 tk9 F9 N9 O9; (try dsimp only))))
  trivial
theorem c_init (w : World) (mean : Mn) (mg mb : Nm) (e t : Addr) (x : Str) (i : Int) (t1 t2 : Tok) :
    CtrG w mean mg mb none 36 [.ref e, .str x t1, .int i t2] 4 32 [(e, excO t none)] (fun v n => v = .none ∧ ∃ t' d, n = [(e, excO t' (some d))]) := by
  intro dp un gd cn cs a ccd cl outer A₀ base h₀ L m s Q E hB hF hK hN hT hk hdp hun hret
  obtain ⟨cd9, k1, k2, k3⟩ := cls59 w
  walk_at "mine startG"
  k_steps
  refine' ret_useG hret (by assumption) ?kP ?kF ?kN ?kF2 ?kN2 ?kS
  case kF => k_asm
  case kN => assumption
  case kS => exact fun p hp => hp
  case kF2 => assumption
  case kN2 => assumption
  case kP => exact ⟨rfl, _, _, rfl⟩
end
section
noncomputable def FlyAt (base : Heap) (e : Addr) (fl : Value) (h : Heap) : Prop :=
  ∃ oe vs T oT ts, h.get? e = some oe ∧ oe.cls = .ref 59 ∧ oe.data = .fields vs ∧ vs[1]? = some (.ref T) ∧ vs[2]? = some .none ∧ base.get? T = none ∧ T ≠ e ∧ h.get? T = some oT ∧ oT.data = .fields ts ∧ ts[3]? = some fl
noncomputable def Fly (base : Heap) (l : List Env) (e : Addr) (fl : Value) (h : Heap) : Prop := base.StaysIn h ∧ base.get? e = none ∧ h.FunFrames base l ∧ FlyAt base e fl h
theorem Fly.heldX {base : Heap} {l : List Env} {e : Addr} {fl : Value} {h : Heap} (x : Fly base l e fl h) : HeldX h e := let ⟨oe, vs, _, _, _, he, _, hd, _, h2, _⟩ := x.2.2.2; ⟨oe, vs, he, hd, h2⟩
theorem Fly.obj {base : Heap} {l : List Env} {e : Addr} {fl : Value} {h : Heap} (x : Fly base l e fl h) : ∃ oe vs, h.get? e = some oe ∧ oe.cls = .ref 59 ∧ oe.data = .fields vs := let ⟨oe, vs, _, _, _, he, hc, hd, _⟩ := x.2.2.2; ⟨oe, vs, he, hc, hd⟩
theorem Fly.tail {base : Heap} {env : Env} {l : List Env} {e : Addr} {fl : Value} {h : Heap} (x : Fly base (env :: l) e fl h) : Fly base l e fl h := ⟨x.1, x.2.1, x.2.2.1.2.2, x.2.2.2⟩
section
variable {M : Model} {A : Around} {E : Value → Shared → Prop} {s : Shared}
theorem entryY {base : Heap} {env : Env} {outer : List Env} {L e : Addr} {oe : Obj} {vs : Array Value} {head : Value} {hadNext : Bool} {Q : Unit → Shared → Prop}
    (hfr : A.frames = some (env :: outer)) (hl : s.heap.FunFrames base (env :: outer)) (hf : env.frame = some L)
    (he : s.heap.get? e = some oe) (hc : oe.cls = .ref 59) (hkb : base.StaysIn s.heap) (hen : base.get? e = none) (hd : oe.data = .fields vs) (hsz : 1 < vs.size) (h2 : vs[2]? = some .none)
    (h : ∀ h', Fly base (env :: outer) e (rawInt L) h' → s.heap.UpToSlots h' → Q () { s with heap := h' }) :
    wpAny M A (do let a ← frameOf env; let pl ← entryPlaceOf L hadNext; let b ← EntryCells.newEntry head a .none (rawInt L) .none pl; setField (.ref e) 1 b) Q E s := by
  have hene : e ∉ (env :: outer).filterMap (·.frame) := fun hm => by
    obtain ⟨_, o, ho, hnf⟩ := hl.mem hm
    rw [he] at ho
    cases ho
    exact hnf vs hd
  refine wpAny_bind (wpAny_frameOf_fun hfr hl hf fun h₁ hs₁ => wpAny_bind (wpAny_entryPlaceOf fun pl hpl => ?_))
  unfold EntryCells.newEntry newFields
  refine wpAny_bind (wpAny_newObj_type ?_ (hpl.sizeOk5 _ _ _ _ _))
  have he₁ : h₁.get? e = some oe := (hs₁.2.1 e hene).trans he
  have kb₁ : base.StaysIn h₁ := fun b o hbo => (hs₁.2.1 b fun hm => by rw [(hl.mem hm).1] at hbo; cases hbo).trans (hkb b o hbo)
  have he₂ := Heap.get?_push_of_some (h := h₁) { cls := .type "traceback", dict := none, data := .fields ([head, .ref L, .none, rawInt L, .none] ++ (if pl.isEmpty then List.replicate 6 Value.none else pl)).toArray } he₁
  refine wpAny_setField he₂ hd hsz (h _ ?_ ?_)
  all_goals
    have hTe : h₁.objs.size ≠ e := Nat.ne_of_gt (Heap.lt_size he₁)
    have hd₃ := Obj.data_mapFields hd (·.setIfInBounds 1 (Value.ref h₁.objs.size))
    have he₃ := Heap.get?_update_self (Obj.mapFields (·.setIfInBounds 1 (Value.ref h₁.objs.size))) he₂ (Obj.isFreed_of_fields hd₃)
    have hT₃ := (Heap.get?_update_other (h₁.push { cls := .type "traceback", dict := none, data := .fields ([head, .ref L, .none, rawInt L, .none] ++ (if pl.isEmpty then List.replicate 6 Value.none else pl)).toArray })
      (Obj.mapFields (·.setIfInBounds 1 (Value.ref h₁.objs.size))) (Ne.symm hTe)).trans (Heap.get?_push_size h₁ rfl)
    have keep : ∀ b o, b ≠ e → h₁.get? b = some o →
        ((h₁.push { cls := .type "traceback", dict := none, data := .fields ([head, .ref L, .none, rawInt L, .none] ++ (if pl.isEmpty then List.replicate 6 Value.none else pl)).toArray }).update e (Obj.mapFields (·.setIfInBounds 1 (Value.ref h₁.objs.size)))).get? b = some o :=
      fun b o hbe hb => by
        rw [Heap.get?_update_other _ _ (Ne.symm hbe)]
        exact Heap.get?_push_of_some _ hb
    have noRec : ∀ b o, s.heap.get? b = some o → (∀ vs, o.data ≠ .fields vs) → b ≠ e := fun b o hb hnf q => by
      rw [q, he] at hb
      cases hb
      exact hnf vs hd
  · refine ⟨fun b o hbo => keep b o (fun q => by rw [q, hen] at hbo; cases hbo) (kb₁ b o hbo), hen, hl.of_keeps fun b o hb hnf => ?_, ?_⟩
    · obtain ⟨sl, hs⟩ := hs₁.2.2 b o hb
      exact ⟨_, keep b _ (noRec b o hb hnf) hs, rfl⟩
    · exact ⟨_, _, h₁.objs.size, _, _, he₃, (Obj.cls_mapFields _ _).trans hc, hd₃, by simp [hsz], by rw [Array.getElem?_setIfInBounds_ne (by decide)]; exact h2, kb₁.fresh, hTe, hT₃, rfl, by first | (simp; done) | (rcases hpl with rfl | ⟨_, _, _, _, _, _, _, rfl⟩ <;> simp)⟩
  · intro b o hb hnf
    obtain ⟨sl, hs⟩ := hs₁.2.2 b o hb
    exact ⟨sl, keep b _ (noRec b o hb hnf) hs⟩

theorem flightY {base : Heap} {l : List Env} {e : Addr} {fl : Value} {Q : Unit → Shared → Prop} (x : Fly base l e fl s.heap)
    (h : ∀ h', Fly base l e .none h' → s.heap.UpToSlots h' → Q () { s with heap := h' }) : wpAny M A (setFlight (.ref e) none) Q E s := by
  obtain ⟨hkb, hen, hl, oe, vs, T, oT, ts, he, hc, hd, h1, h2, hnT, hTe, hT, hdT, h3⟩ := x
  have hsz3 : 3 < ts.size := (Array.getElem?_eq_some_iff.mp h3).1
  have other : ∀ b, b ≠ T → (s.heap.update T (Obj.mapFields (·.setIfInBounds 3 ((none : Option Addr).elim Value.none fun f => rawInt f)))).get? b = s.heap.get? b := fun b hb => Heap.get?_update_other _ _ (Ne.symm hb)
  have noRec : ∀ b o, s.heap.get? b = some o → (∀ vs, o.data ≠ .fields vs) → b ≠ T := fun b o hb hnf q => by
    rw [q, hT] at hb
    cases hb
    exact hnf ts hdT
  unfold setFlight
  refine wpAny_bind (wpAny_field he hd h1 ?_)
  rw [if_pos (show (Value.ref T != Value.none) = true from by simp)]
  refine wpAny_setField hT hdT hsz3 (h _ ⟨fun b o hbo => (other b fun q => by rw [q, hnT] at hbo; cases hbo).trans (hkb b o hbo), hen, hl.of_keeps fun b o hb hnf => ⟨o, (other b (noRec b o hb hnf)).trans hb, rfl⟩, ?_⟩
    fun b o hb hnf => ⟨o.slots, (other b (noRec b o hb hnf)).trans hb⟩)
  exact ⟨oe, vs, T, _, _, (other e (Ne.symm hTe)).trans he, hc, hd, h1, h2, hnT, hTe, Heap.get?_update_self _ hT (Obj.isFreed_of_fields (Obj.data_mapFields hdT _)), Obj.data_mapFields hdT _, by simp [hsz3]⟩

theorem noteY {base : Heap} {env : Env} {outer : List Env} {L e : Addr} {Q : Unit → Shared → Prop} (hfr : A.frames = some (env :: outer)) (hf : env.frame = some L) (x : Fly base (env :: outer) e .none s.heap)
    (h : ∀ h', Fly base (env :: outer) e (rawInt L) h' → s.heap.UpToSlots h' → Q () { s with heap := h' }) : wpAny M A (noteFrame (.ref e) env) Q E s := by
  obtain ⟨hkb, hen, hl, oe, vs, T, oT, ts, he, hc, hd, h1, h2, hnT, hTe, hT, hdT, h3⟩ := x
  unfold noteFrame
  simp only [hf]
  refine wpAny_bind (wpAny_field he hd h1 ?_)
  rw [if_pos (show (Value.ref T != Value.none) = true from by simp)]
  refine wpAny_bind (wpAny_field hT hdT h3 ?_)
  rw [if_neg (show ¬ ((Value.none == rawInt L) = true) from by simp [rawInt])]
  refine wpAny_bind (wpAny_setField hT hdT (Array.getElem?_eq_some_iff.mp h3).1 ?_)
  have other : ∀ b, b ≠ T → (s.heap.update T (Obj.mapFields (·.setIfInBounds 3 Value.none))).get? b = s.heap.get? b := fun b hb => Heap.get?_update_other _ _ (Ne.symm hb)
  have noRec : ∀ b o, s.heap.get? b = some o → (∀ vs, o.data ≠ .fields vs) → b ≠ T := fun b o hb hnf q => by
    rw [q, hT] at hb
    cases hb
    exact hnf ts hdT
  refine entryY hfr (hl.of_keeps fun b o hb hnf => ⟨o, (other b (noRec b o hb hnf)).trans hb, rfl⟩) hf ((other e (Ne.symm hTe)).trans he) hc
    (fun b o hbo => (other b fun q => by rw [q, hnT] at hbo; cases hbo).trans (hkb b o hbo)) hen hd (Array.getElem?_eq_some_iff.mp h1).1 h2 fun h' x u => h h' x fun b o hb hnf => u b o ((other b (noRec b o hb hnf)).trans hb) hnf

theorem leaveY {base : Heap} {env : Env} {outer : List Env} {L e t : Addr} {d : Option Addr} {Q : Unit → Shared → Prop} (hfr : A.frames = some (env :: outer)) (hf : env.frame = some L) (hkb : base.StaysIn s.heap) (hen : base.get? e = none)
    (hl : s.heap.FunFrames base (env :: outer)) (he : s.heap.get? e = some (excO t d))
    (h : ∀ h', Fly base outer e .none h' → s.heap.UpToSlots h' → Q () { s with heap := h' }) : wpAny M A (leaving env (.ref e)) Q E s := by
  unfold leaving noteFrame
  simp only [hf]
  refine wpAny_bind (wpAny_bind (wpAny_field he rfl (x := .none) rfl ?_))
  rw [if_neg (by decide)]
  refine entryY hfr hl hf he rfl hkb hen rfl (by show 1 < 6; decide) rfl fun h₁ x₁ u₁ => ?_
  exact flightY (s := { s with heap := h₁ }) x₁ fun h₂ x₂ u₂ => h h₂ x₂.tail (u₁.trans u₂)
end
end
section
theorem c_fault (w : World) (mean : Mn) (mg mb : Nm) (x : Str) (i : Int) (t1 t2 : Tok) {dp un : Nat} {gd : Option (List Code)} {cn : Str} {cs : Scope} {a : Addr} {ccd : Value} {cl : List (Str × Addr)} {outer : List Env} {A₀ : Around} {base h₀ : Heap} {L : Addr} {m : Nm} {s : Shared} {Q E : Value → Shared → Prop}
    (hB : Below A₀ base outer h₀) (hF : Fr h₀ L s.heap m) (hK : (hd.heap_39 w.params).In h₀) (hT : Top hd.view_39 LS mean mg mb h₀) (hk : cs.kind = .function) (hdp : dp + 5 < recursionLimit) (hun : un + 33 < cLine)
    (hret : ∀ (e t : Addr) (d : Option Addr) (h' : Heap) (tk' : Nat), Fr h₀ L h' m → h'.get? e = some (excO t d) → s.heap.get? e = none → h₀.get? e = none → (∀ b o, s.heap.get? b = some o → h'.get? b = some o) → Q (.ref e) { s with heap := h', toks := tk' }) :
    wpAny (model PG w) (topA none dp un gd cn cs L a ccd cl outer) (call (.ref 59) [.str x t1, .int i t2]) Q E s := by
  have X := hK.keeps hF.keep
  obtain ⟨o36, ho36, hc36⟩ := Option.map_eq_some_iff.mp (show ((hd.heap_39 w.params).lookup 36).map (·.cls) = some (Value.type "function") from fn36 w)
  have F₁ := hF.push (tupO [.str x t1, .int i t2])
  have F₂ := F₁.push (excO s.heap.objs.size none)
  have N₂ : News h₀ L ((s.heap.push (tupO [.str x t1, .int i t2])).push (excO s.heap.objs.size none)) [(s.heap.objs.size + 1, excO s.heap.objs.size none)] := by
    have := News.nil.push F₁ (excO s.heap.objs.size none)
    rwa [Heap.size_push] at this
  have old : ∀ b o, s.heap.get? b = some o → ((s.heap.push (tupO [.str x t1, .int i t2])).push (excO s.heap.objs.size none)).get? b = some o := fun b o e => Heap.get?_push_of_some _ (Heap.get?_push_of_some _ e)
  refine x_call (xobj_of X (x59 w)) (looks_findIn X (init59 w)) (X _ _ ho36) hc36 ?_ (by size_fits)
  rw [under_tc]
  refine c_init w mean mg mb _ _ x i t1 t2 (dp + 1) (un + 1) gd cn cs a ccd cl outer A₀ base h₀ L m _ _ _ hB F₂ hK N₂ hT hk (by omega) (by omega) fun v n' h' tk' hp hF' hN' hk' => ?_
  obtain ⟨rfl, t', d, rfl⟩ := hp
  refine ⟨rfl, hret _ t' (some d) h' tk' hF' (hN' _ (.head _)).1 (Heap.get?_none_of_le (Nat.le_succ _)) (N₂ _ (.head _)).2.2 fun b o e => hk'.1 b o (old b o e) ?_⟩
  intro hm
  have hb := Heap.lt_size e
  simp only [List.map_cons, List.map_nil, List.mem_singleton] at hm
  rw [hm] at hb
  exact absurd hb (Nat.not_lt.mpr (Nat.le_succ _))
end
section
theorem said_h_textin_1 : True := by
  k_with_none
  trivial
theorem said_h_textin_2 : True := by
  k_with "mine room" => (first | exact ro0 (by assumption) | exact ro2 (by assumption) (by rfl) | exact ro1 (by assumption) (by rfl) | exact Nat.lt_of_succ_le (Nat.le_of_ble_eq_true (by rfl)) | ktr_room)
  k_with "mine units" => (first | exact ro2 (by assumption) (by rfl) | exact ro1 (by assumption) (by rfl) | exact Nat.lt_of_succ_le (Nat.le_of_ble_eq_true (by rfl)) | ktr_units)
  k_with "mine enterG" => ((refine wpAny_call ?_; refine' code_defG ?zzk1 ?zzk2 ?zzk3 ?zzk4 ?zzk5 ?zzkA ?zzkF ?zzkK ?zzk6 ?zzk7 ?zzk8 ?zzk9 ?zzkB ?_ ?zzc2 ?zzc3 ?zzc4 ?zzc5; (case zzkA => exact rfl); (case zzkF => exact rfl); (case zzkK => assumption); (case zzk1 => k_asm); (case zzk2 => k_asm); (case zzk3 => k_asm); (case zzk4 => k_asm); (case zzk5 => k_asm); (case zzk6 => k_is); (case zzk7 => k_is); (case zzk8 => walk_at "mine room"); (case zzk9 => first | exact BindsTo.of_eq rfl | exact binds_K (by k_in) rfl (by k_is) rfl rfl rfl); (case zzc5 => decide); (case zzkB => exact locs rfl); (case zzc2 => exact rfl); (case zzc3 => exact rfl); (case zzc4 => exact rfl); k_whole; intro g' L' h' FG' F' N' B' X' T' kG'; (try dsimp only); (try k_lift B'); (try k_fold)))
  k_with "mine startG" => (k_dflt (walk_at "mine enterG"))
  k_with "mine to while" => (repeat' (first | (k_unfold; (try dsimp only)) | ((fail_if_success (with_reducible show wpAny _ _ (PySem.exec (Stmt.While _ _ _ _) _) _ _ _)); walk1) | ((fail_if_success (with_reducible show wpAny _ _ (PySem.exec (Stmt.While _ _ _ _) _) _ _ _)); dsimp only; walk1)))
  k_with "execs cons" => ((k_here; (with_reducible show wpAny _ _ (execs (_ :: _) _) _ _ { heap := _, gens := _, drawn := _, toks := _ + 1, os := _ }); refine tok_any ?_; intro tkA; (try dsimp only)))
  trivial
theorem b_bnd {b : Array UInt8} {ks : List Int} (hb : KBw.bInts b = ks) (j : Nat) : 0 ≤ ks.getD j 0 ∧ ks.getD j 0 < 256 := KBw.getD_in fun k hk => KBw.ints_in (hb ▸ hk)
theorem said_h_textin_3 : True := by
  k_with "call ref" => ((k_here; k_dflt (refine' ctr_use (pairN_of (c_signat_latin _ _ _ _ _ _ _ _ _ _ _ (by assumption) (by assumption) ?zzp1 ?zzp2) _) ?zzk1 ?zzk2 ?zzk3 ?zzk4 ?zzk5 ?zzkK ?zzkd ?zzku ?_; (case zzk1 => k_asm); (case zzk2 => k_asm); (case zzk3 => k_asm); (case zzk4 => k_asm); (case zzk5 => k_asm); (case zzkK => first | exact rfl | assumption); (case zzkd => walk_at "mine room"); (case zzku => walk_at "mine units"); (case zzp1 => omega); (case zzp2 => omega); intro v9 n9 h9 tk9 P9 F9 N9; obtain ⟨a9, t1, t2, e9, e9', l9⟩ := P9; subst e9; subst e9'; (try simp only [AllNe, and_true] at l9); (have hbd := b_bnd (by assumption) _); (try dsimp only); (try k_sweep); (try k_fold))))
  k_with "call ref" => ((k_here; k_dflt (refine' ctr_use (c_need_latin _ _ _ _ _ _ _) ?zzk1 ?zzk2 ?zzk3 ?zzk4 ?zzk5 ?zzkK ?zzkd ?zzku ?_; (case zzk1 => k_asm); (case zzk2 => k_asm); (case zzk3 => k_asm); (case zzk4 => k_asm); (case zzk5 => k_asm); (case zzkK => first | exact rfl | assumption); (case zzkd => walk_at "mine room"); (case zzku => walk_at "mine units"); intro v9 n9 h9 tk9 P9 F9 N9; obtain ⟨e9, e9'⟩ := P9; subst e9; subst e9'; (try dsimp only); (try k_sweep); (try k_fold))))
  trivial
noncomputable def lat (ks : List Int) : Str := ⟨(ks.map fun k => k.toNat).toArray⟩
@[reducible] noncomputable def isPair2 (news : Led) (x y : Int) : Value → Led → Prop := fun v n => ∃ a t1 t2, v = .ref a ∧ n = (a, tupO [.int x t1, .int y t2]) :: news ∧ AllNe a news
theorem pair2_of {w : World} {mean : Mn} {mg mb : Nm} {hdl : Option Value} {f : Addr} {vs : List Value} {dd uu : Nat} {x y : Int} (C : CtrG w mean mg mb hdl f vs dd uu [] (isPair (x, y))) (rest : Led) :
    Ctr w mean mg mb hdl f vs dd uu rest (isPair2 rest x y) := pairN_of C rest
theorem said_h_textin_4 : True := by
  k_with "call ref" => ((k_here; k_dflt (refine' ctr_use (pair2_of (c_signat_latin _ _ _ _ _ _ _ _ _ _ _ (by assumption) (by assumption) ?zzp1 ?zzp2) _) ?zzk1 ?zzk2 ?zzk3 ?zzk4 ?zzk5 ?zzkK ?zzkd ?zzku ?_; (case zzk1 => k_asm); (case zzk2 => k_asm); (case zzk3 => k_asm); (case zzk4 => k_asm); (case zzk5 => k_asm); (case zzkK => first | exact rfl | assumption); (case zzkd => walk_at "mine room"); (case zzku => walk_at "mine units"); (case zzp1 => omega); (case zzp2 => omega); intro v9 n9 h9 tk9 P9 F9 N9; obtain ⟨a9, t1, t2, e9, e9', l9⟩ := P9; subst e9; subst e9'; (try simp only [AllNe, and_true] at l9); (try dsimp only); (try k_sweep); (try k_fold))))
  k_with "assign Tuple" => ((k_here; k_dflt (refine' assign_held rfl ?zzF ?zzN (HeldX.keeps (by assumption) (Fr.keep (by assumption))) ?zzm ?zzn ?zzs ?_; (case zzF => k_asm); (case zzN => k_asm); (case zzm => k_mem); (case zzn => rfl); (case zzs => rfl)); intro h9 F9 N9; (try dsimp only); (try k_sweep)))
  trivial
noncomputable def sg (c : Int) : Str := ⟨#[c.toNat]⟩
theorem sum_sg (l : List Int) : ((l.map sg).map (·.length)).sum = l.length := by
  induction l with
  | nil => rfl
  | cons a r ih => simp only [List.map_cons, List.sum_cons, ih, List.length_cons]; exact Nat.add_comm 1 _
theorem join_sg {l : Addr} {vs : Array Value} {k : Nat} {cs : List Int} {h₀ : Heap} {L : Addr} {news : Led} {prog : Program} {w : World} {A : Around} {E : Value → Shared → Prop} {s : Shared} {t : Tok} {Q : Value → Shared → Prop} (N : News h₀ L s.heap news) (hm : (l, listOf vs k) ∈ news) (hi : StrsAre vs.toList (cs.map sg)) (hn : cs.length ≤ 65536)
    (h : ∀ t' k, Q (.str (Txt.join (Str.ofString "") (cs.map sg)) t') { s with toks := k }) : wpAny (model prog w) A (call (.builtin "str.join") [.str (Str.ofString "") t, .ref l]) Q E s := by
  have e0 : (Str.ofString "").length = 0 := by decide
  refine join_list ⟨_, (N _ hm).1, rfl, _, rfl⟩ hi ?_ h
  rw [sum_sg, List.length_map, e0]
  omega
theorem said_h_textin_5 : True := by
  k_with "call builtin:str.join" => ((k_here; k_dflt (refine' join_sg ?zzN ?zzm ?zzi ?zzz ?_; (case zzN => k_asm); (case zzm => k_mem); (case zzi => assumption); (case zzz => first | assumption | (simp only [List.length_take]; omega))); intro t9 k9; (try dsimp only)))
  trivial
theorem strs_snoc : ∀ {vs : List Value} {xs : List Str} {y : Str} {t : Tok}, StrsAre vs xs → StrsAre (vs ++ [.str y t]) (xs ++ [y])
  | _, _, y, t, .nil => .cons y t .nil
  | _, _, _, _, .cons z u r => .cons z u (strs_snoc r)
theorem take_snoc {ks : List Int} {i : Int} (h0 : 0 ≤ i) (h1 : i < (ks.length : Int)) : ks.take (i + 1).toNat = ks.take i.toNat ++ [ks.getD i.toNat 0] := by
  have hl := len_at h0 h1
  rw [tn_succ h0, List.take_succ, List.getD_eq_getElem?_getD, List.getElem?_eq_getElem hl]
  rfl
theorem lat_step {ks : List Int} {i : Int} {vs : Array Value} {t : Tok} (h0 : 0 ≤ i) (h1 : i < (ks.length : Int)) (h : StrsAre vs.toList ((ks.take i.toNat).map sg)) :
    0 ≤ i + 1 ∧ i + 1 ≤ (ks.length : Int) ∧ StrsAre (vs.push (.str { cps := #[(ks.getD i.toNat 0).toNat] } t)).toList ((ks.take (i + 1).toNat).map sg) := by
  refine ⟨Int.le_add_one h0, Int.add_one_le_of_lt h1, ?_⟩
  rw [take_snoc h0 h1, List.map_append, Array.toList_push]
  exact strs_snoc h
theorem join_lat (cs : List Int) : Txt.join (Str.ofString "") (cs.map sg) = lat cs := by
  have e0 : Str.ofString "" = Str.empty := by decide
  show Builtin.Str.glued _ _ = _
  rw [StrLaws.glued_eq_join, e0]
  induction cs with
  | nil => rfl
  | cons a r ih =>
    cases r with
    | nil => rfl
    | cons b r =>
      show sg a ++ Str.empty ++ Str.join Str.empty ((b :: r).map sg) = _
      rw [ih]
      refine Str.ext' ?_
      simp only [Str.cps_append, lat, sg, Str.empty]
      simp
theorem lat_all {ks : List Int} {i : Int} (h1 : i ≤ (ks.length : Int)) (h : ¬ i < (ks.length : Int)) : Txt.join (Str.ofString "") ((ks.take i.toNat).map sg) = lat ks := by
  rw [join_lat, List.take_of_length_le (le_len h)]
theorem said_h_textin_6 : True := by
  k_with "mine same" => ((intro z h2 h3; (have h4 := h3); (simp only [List.contains_cons, List.contains_nil, Bool.or_false, Bool.or_eq_false_iff, beq_eq_false_iff_ne, ne_eq] at h4); simp [h2, h4, h3]))
  k_with "mine wend" => (((dsimp only [WPost]); refine' WEnd.intro ?zzwF ?zzwN ?zzwS ?zzw1 ?zzw2 ?_ ?_; (case zzwF => k_asm); (case zzwN => assumption); (case zzwS => kcj_all); (case zzw1 => rfl); (case zzw2 => walk_at "mine same")))
  k_with "mine str endG" => ((refine' ret_useG (by assumption) (by assumption) (str_ok ?_ rfl) ?zzkF ?zzkN ?zzkF2 ?zzkN2 ?zzkS; (case zzkF => k_asm); (case zzkN => assumption); (case zzkF2 => k_asm); (case zzkN2 => k_asm); (case zzkS => kcj_all)))
  trivial
theorem c_textin_latin (w : World) (mean : Mn) (mg mb : Nm) (hv : Addr) (b : Array UInt8) (ks : List Int) (t x : Tok) (hb : KBw.bInts b = ks) (hs : ks.length ≤ 65536) :
    CtrX w mean mg mb (fun h => HeldX h hv) (some (.ref hv)) 109 [.str (Str.ofString "iso-8859-1") x, .bytes b t] 4 32 [] (isStr [] (lat ks)) := by
  intro dp un gd cn cs a ccd cl outer A₀ base h₀ L m s Q E hB hF hK hN hT hk hdp hun hX hret
  have hs' : ks.length ≤ 1099511627776 := Nat.le_trans hs (by decide)
  have hp0 : 0 ≤ (0 : Int) ∧ (0 : Int) ≤ (ks.length : Int) ∧ StrsAre [] ((ks.take (0 : Int).toNat).map sg) := ⟨Int.le_refl 0, Int.natCast_nonneg _, StrsAre.nil⟩
  walk_at "mine startG"
  rename GSub _ _ _ => kG0
  have hXg := HeldX.keeps hX fun b o e => kG0 b o e (by intro h; cases h)
  walk_at "mine to while"
  refine' while_list (Str.ofString "at") [Str.ofString "code", Str.ofString "length"] (fun i vs => 0 ≤ i ∧ i ≤ (ks.length : Int) ∧ StrsAre vs ((ks.take i.toNat).map sg)) (fun i => ks.length - i.toNat) ?kF ?kN ?kI ?kp ?kT ?hE
  case kF => k_asm
  case kN => k_asm
  case kI => rfl
  case hE => first | passes_own | with_unfolding_all passes_own
  case kp => exact hp0
  case kT =>
    intro i ti vs k u h tk hP F' N'
    obtain ⟨hi0, hi1, hi2⟩ := hP
    have hbd := b_bnd hb i.toNat
    k_sweep
    try k_fold
    k_steps
    · walk_at "mine wend"
      · exact lat_step hi0 (by assumption) hi2
      · exact mu_lt hi0 (by assumption) (Int.le_refl 1)
    · walk_at "mine str endG"
      exact lat_all hi1 (by assumption)
end
section
theorem said_l_strict_1 : True := by
  k_with_none
  trivial
theorem said_l_strict_2 : True := by
  k_with "mine room" => (first | exact ro0 (by assumption) | exact ro2 (by assumption) (by rfl) | exact ro1 (by assumption) (by rfl) | exact Nat.lt_of_succ_le (Nat.le_of_ble_eq_true (by rfl)) | ktr_room)
  k_with "mine units" => (first | exact ro2 (by assumption) (by rfl) | exact ro1 (by assumption) (by rfl) | exact Nat.lt_of_succ_le (Nat.le_of_ble_eq_true (by rfl)) | ktr_units)
  k_with "mine enterG" => ((refine wpAny_call ?_; refine' code_defG ?zzk1 ?zzk2 ?zzk3 ?zzk4 ?zzk5 ?zzkA ?zzkF ?zzkK ?zzk6 ?zzk7 ?zzk8 ?zzk9 ?zzkB ?_ ?zzc2 ?zzc3 ?zzc4 ?zzc5; (case zzkA => exact rfl); (case zzkF => exact rfl); (case zzkK => assumption); (case zzk1 => k_asm); (case zzk2 => k_asm); (case zzk3 => k_asm); (case zzk4 => k_asm); (case zzk5 => k_asm); (case zzk6 => k_is); (case zzk7 => k_is); (case zzk8 => walk_at "mine room"); (case zzk9 => first | exact BindsTo.of_eq rfl | exact binds_K (by k_in) rfl (by k_is) rfl rfl rfl); (case zzc5 => decide); (case zzkB => exact locs rfl); (case zzc2 => exact rfl); (case zzc3 => exact rfl); (case zzc4 => exact rfl); k_whole; intro g' L' h' FG' F' N' B' X' T' kG'; (try dsimp only); (try k_lift B'); (try k_fold)))
  k_with "mine startG" => (k_dflt (walk_at "mine enterG"))
  k_with "mine to while" => (repeat' (first | (k_unfold; (try dsimp only)) | ((fail_if_success (with_reducible show wpAny _ _ (PySem.exec (Stmt.While _ _ _ _) _) _ _ _)); walk1) | ((fail_if_success (with_reducible show wpAny _ _ (PySem.exec (Stmt.While _ _ _ _) _) _ _ _)); dsimp only; walk1)))
  k_with "execs cons" => ((k_here; (with_reducible show wpAny _ _ (execs (_ :: _) _) _ _ { heap := _, gens := _, drawn := _, toks := _ + 1, os := _ }); refine tok_any ?_; intro tkA; (try dsimp only)))
  trivial
theorem R_turn {R : Int → List Int → Prop} {n i l c : Int} {vs : Array Value} {t : Tok} {cs : List Int} (h0 : 0 ≤ i) (hl : 1 ≤ l) (hin : i + l ≤ n) (h2 : StrsAre vs.toList (cs.map sg)) (h3 : (cs.length : Int) ≤ i) (h4 : R (i + l) (cs ++ [c])) :
    0 ≤ i + l ∧ i + l ≤ n ∧ ∃ cs' : List Int, StrsAre (vs.push (.str { cps := #[c.toNat] } t)).toList (cs'.map sg) ∧ (cs'.length : Int) ≤ i + l ∧ R (i + l) cs' := by
  refine ⟨Int.add_nonneg h0 (Int.le_trans (by decide) hl), hin, cs ++ [c], ?_, ?_, h4⟩
  · rw [Array.toList_push, List.map_append]
    exact strs_snoc h2
  · rw [List.length_append]
    simp only [List.length_cons, List.length_nil]
    omega
theorem dec_turn {ks : List Int} {i : Int} {cs : List Int} (h : i < (ks.length : Int)) (hc : ¬ (u8sign ks i).1 < 0) (h4 : dec ks 0 = (dec ks i).map (cs ++ ·)) : dec ks 0 = (dec ks (i + (u8sign ks i).2)).map ((cs ++ [(u8sign ks i).1]) ++ ·) := by
  rw [h4, dec_step h hc]
  cases dec ks (i + (u8sign ks i).2) with
  | none => rfl
  | some l => simp
theorem dec_fin {ks : List Int} {i : Int} {cs : List Int} (h : ¬ i < (ks.length : Int)) (h4 : dec ks 0 = (dec ks i).map (cs ++ ·)) : dec ks 0 = some cs := by
  rw [h4, dec_end h]; simp
theorem dec_none {ks : List Int} {i : Int} {cs : List Int} (h : i < (ks.length : Int)) (hc : (u8sign ks i).1 < 0) (h4 : dec ks 0 = (dec ks i).map (cs ++ ·)) : dec ks 0 = none := by
  rw [h4, dec_bad h hc]; rfl
theorem framesX {baseX S g h' : Heap} {L' f : Addr} {m' : Nm} {l : List Env} {name : Str} {scope : Scope} {cd : Value} (h1 : baseX.StaysIn S) (h2 : S.FunFrames baseX l) (kG : GSub S g []) (F : Fr g L' h' m') (hk : scope.kind = .function) :
    h'.FunFrames baseX (envOf name scope L' f cd :: l) := by
  have k : ∀ b o, S.get? b = some o → h'.get? b = some o := fun b o e => F.keep b o (kG b o e (by simp))
  refine ⟨?_, ?_, h2.of_keeps fun b o e _ => ⟨o, k b o e, rfl⟩⟩
  · show scope.kind ≠ .module
    rw [hk]; decide
  · obtain ⟨o, es, ep, ho, hd, _⟩ := F.ns
    refine ⟨L', o, rfl, ?_, ho, fun vs q => by rw [hd] at q; cases q⟩
    cases q : baseX.get? L' with
    | none => rfl
    | some o' =>
      have := kG _ _ (h1 _ _ q) (by simp)
      rw [kts_self F] at this; cases this
theorem stays_none {baseX h : Heap} {e : Addr} (h1 : baseX.StaysIn h) (h2 : h.get? e = none) : baseX.get? e = none := by
  cases q : baseX.get? e with
  | none => rfl
  | some o => have := h1 _ _ q; rw [h2] at this; cases this
theorem said_l_strict_3 : True := by
  k_with "exec Raise some none" => ((k_here; k_dflt (refine' raise_x ?zzkh ?_; (case zzkh => rfl))))
  trivial
theorem add_msg {prog : Program} {w : World} {A : Around} {E : Value → Shared → Prop} {s : Shared} {x y : Str} {t u : Tok} {Q : Value → Shared → Prop} (h1 : x.length ≤ 1000) (h2 : y.length ≤ 1000) (h : ∀ t' tk, Q (.str (x ++ y) t') { s with toks := tk }) :
    wpAny (model prog w) A (binaryOp .Add (.str x t) (.str y u)) Q E s := PyProof.Rows.add_str h (by rw [sizeLine_eq]; omega)
theorem said_l_strict_4 : True := by
  k_with "call builtin:str.join" => ((k_here; k_dflt (refine' join_sg ?zzN ?zzm ?zzi ?zzz ?_; (case zzN => k_asm); (case zzm => k_mem); (case zzi => assumption); (case zzz => first | assumption | omega | (simp only [List.length_take]; omega))); intro t9 k9; (try dsimp only)))
  k_with "mine same" => ((intro z h2 h3; (have h4 := h3); (simp only [List.contains_cons, List.contains_nil, Bool.or_false, Bool.or_eq_false_iff, beq_eq_false_iff_ne, ne_eq] at h4); simp [h2, h4, h3]))
  k_with "mine wend" => (((dsimp only [WPost]); refine' WEnd.intro ?zzwF ?zzwN ?zzwS ?zzw1 ?zzw2 ?_ ?_; (case zzwF => k_asm); (case zzwN => assumption); (case zzwS => kcj_all); (case zzw1 => rfl); (case zzw2 => walk_at "mine same")))
  k_with "mine str endG" => ((refine' ret_useG (by assumption) (by assumption) (str_ok ?_ rfl) ?zzkF ?zzkN ?zzkF2 ?zzkN2 ?zzkS; (case zzkF => k_asm); (case zzkN => assumption); (case zzkF2 => k_asm); (case zzkN2 => k_asm); (case zzkS => kcj_all)))
  k_with "call ref" => ((k_here; (with_reducible show wpAny _ _ (call (Value.ref 102) _) _ _ _); k_dflt (refine' ctr_use (pairN_of (csign _ _ _ _ ?zzp1 ?zzp2) _) ?zzk1 ?zzk2 ?zzk3 ?zzk4 ?zzk5 ?zzkK ?zzkd ?zzku ?_; (case zzk1 => k_asm); (case zzk2 => k_asm); (case zzk3 => k_asm); (case zzk4 => k_asm); (case zzk5 => k_asm); (case zzkK => first | exact rfl | assumption); (case zzkd => walk_at "mine room"); (case zzku => walk_at "mine units"); (case zzp1 => assumption); (case zzp2 => assumption); intro v9 n9 h9 tk9 P9 F9 N9; obtain ⟨a9, t1, t2, e9, e9', l9⟩ := P9; subst e9; subst e9'; (try simp only [AllNe, and_true] at l9); (try dsimp only); (try k_sweep); (try k_fold))))
  k_with "call ref" => ((k_here; (with_reducible show wpAny _ _ (call (Value.ref 69) _) _ _ _); k_dflt (refine' ctr_use (cneed _ _) ?zzk1 ?zzk2 ?zzk3 ?zzk4 ?zzk5 ?zzkK ?zzkd ?zzku ?_; (case zzk1 => k_asm); (case zzk2 => k_asm); (case zzk3 => k_asm); (case zzk4 => k_asm); (case zzk5 => k_asm); (case zzkK => first | exact rfl | assumption); (case zzkd => walk_at "mine room"); (case zzku => walk_at "mine units"); intro v9 n9 h9 tk9 P9 F9 N9; obtain ⟨e9, e9'⟩ := P9; subst e9; subst e9'; (try dsimp only); (try k_sweep); (try k_fold))))
  k_with "binaryOp Add str str" => ((k_here; k_dflt (refine' add_msg (by decide) hx1 ?_); intro t9 tk9; (try dsimp only)))
  trivial
theorem c_strict (w : World) (mean : Mn) (mg mb : Nm) (b : Array UInt8) (ks : List Int) (t x : Tok) (hb : KBw.bInts b = ks) (hs : ks.length ≤ 65536) (xs : Str) (sgn : Int → Int × Int) (R : Int → List Int → Prop) (hx1 : xs.length ≤ 1000)
    (cneed : ∀ (news : Led) (u : Tok), Ctr w mean mg mb none 69 [.str xs u] 1 8 news (fun v n => v = .none ∧ n = news)) (csign : ∀ (i : Int) (t u x : Tok), 0 ≤ i → i < (ks.length : Int) → CtrG w mean mg mb none 102 [.str xs x, .bytes b t, .int i u] 3 24 [] (isPair (sgn i)))
    (hs1 : ∀ i, 0 ≤ i → i < (ks.length : Int) → 1 ≤ (sgn i).2 ∧ (sgn i).1 ≤ 1114111 ∧ (0 ≤ (sgn i).1 → i + (sgn i).2 ≤ (ks.length : Int))) (hR0 : R 0 []) (hRs : ∀ i cs, 0 ≤ i → i < (ks.length : Int) → R i cs → ¬ (sgn i).1 < 0 → R (i + (sgn i).2) (cs ++ [(sgn i).1]))
    (dp un : Nat) (gd : Option (List Code)) (cn : Str) (cs : Scope) (a : Addr) (ccd : Value) (cl : List (Str × Addr)) (outer : List Env) (A₀ : Around) (base h₀ : Heap) (L : Addr) (m : Nm) (s : Shared) (Q E : Value → Shared → Prop) (baseX : Heap)
    (hB : Below A₀ base outer h₀) (hF : Fr h₀ L s.heap m) (hK : (hd.heap_39 w.params).In h₀) (hN : News h₀ L s.heap []) (hT : Top hd.view_39 LS mean mg mb h₀) (hk : cs.kind = .function) (hdp : dp + 10 < recursionLimit) (hun : un + 60 < cLine)
    (hX1 : baseX.StaysIn s.heap) (hX2 : s.heap.FunFrames baseX (envX cn cs L a ccd cl :: outer))
    (hret : ∀ (v : Value) (n' : Led) (h' : Heap) (tk' : Nat), (∃ i cs, ¬ i < (ks.length : Int) ∧ R i cs ∧ isStr [] (lat cs) v n') → Fr h₀ L h' m → News h₀ L h' n' → Kept s.heap h' [] n' → Q v { s with heap := h', toks := tk' })
    (hexc : (∃ i cs, 0 ≤ i ∧ i < (ks.length : Int) ∧ R i cs ∧ (sgn i).1 < 0) → ∀ (e : Addr) (h' : Heap) (tk' : Nat), Fly baseX (envX cn cs L a ccd cl :: outer) e .none h' → s.heap.UpToSlots h' → E (.ref e) { s with heap := h', toks := tk' }) :
    wpAny (model PG w) (topA none dp un gd cn cs L a ccd cl outer) (call (.ref 116) [.str xs x, .bytes b t]) Q E s := by
  have hs' : ks.length ≤ 1099511627776 := Nat.le_trans hs (by decide)
  have hp0 : 0 ≤ (0 : Int) ∧ (0 : Int) ≤ (ks.length : Int) ∧ ∃ cs : List Int, StrsAre [] (cs.map sg) ∧ (cs.length : Int) ≤ 0 ∧ R 0 cs := ⟨Int.le_refl 0, Int.natCast_nonneg _, [], StrsAre.nil, Int.le_refl _, hR0⟩
  walk_at "mine startG"
  rename GSub _ _ _ => kG0
  rename Fr h₀ L _ m => FG0
  walk_at "mine to while"
  refine' while_list (Str.ofString "at") [Str.ofString "code", Str.ofString "length"] (fun i vs => 0 ≤ i ∧ i ≤ (ks.length : Int) ∧ ∃ cs : List Int, StrsAre vs (cs.map sg) ∧ (cs.length : Int) ≤ i ∧ R i cs) (fun i => ks.length - i.toNat) ?kF ?kN ?kI ?kp ?kT ?hE
  case kF => k_asm
  case kN => k_asm
  case kI => rfl
  case hE => first | passes_own | with_unfolding_all passes_own
  case kp => exact hp0
  case kT =>
    intro i ti vs k u h tk hP F' N'
    obtain ⟨hi0, hi1, cs9, hi2, hi3, hi4⟩ := hP
    have hsl := hs1 i hi0
    k_sweep
    try k_fold
    k_steps
    · have hd0 : ∃ i cs, 0 ≤ i ∧ i < (ks.length : Int) ∧ R i cs ∧ (sgn i).1 < 0 := ⟨i, cs9, hi0, by assumption, hi4, by assumption⟩
      refine' c_fault w mean mg mb _ i _ _ ?b1 ?b2 ?b3 ?b4 ?b5 ?b6 ?b7 ?b8
      case b1 => k_asm
      case b2 => k_asm
      case b3 => k_asm
      case b4 => k_asm
      case b5 => first | exact rfl | assumption
      case b6 => walk_at "mine room"
      case b7 => walk_at "mine units"
      case b8 =>
        intro e9 t9 d9 h9 tk9 F9 g9 z9 z0 old9
        have kG9 : GSub s.heap _ [] := kG0
        have fx1 : baseX.StaysIn h9 := fun b o e => F9.keep b o (kG9 b o (hX1 b o e) (by simp))
        refine ⟨e9, t9, d9, rfl, (xobj_of hK (x59 w)).keeps fun b o e => F9.keep b o (FG0.keep b o e), g9, ?_⟩
        k_unfold
        (try dsimp only)
        refine leaveY rfl rfl fx1 (stays_none hX1 ?hz) (framesX hX1 hX2 kG9 F9 rfl) g9 fun h' x9 u9 => ?hq
        case hz =>
          cases q : s.heap.get? e9 with
          | none => rfl
          | some o =>
            have := kG9 _ _ q (by simp)
            rw [z0] at this; cases this
        case hq => exact hexc hd0 e9 h' _ x9 ((Heap.UpToSlots.of_keeps fun b o q => F9.keep b o (kG9 b o q (by simp))).trans u9)
    · walk_at "mine wend"
      · exact R_turn hi0 (hsl (by assumption)).1 ((hsl (by assumption)).2.2 (Int.not_lt.mp (by assumption))) hi2 hi3 (hRs i cs9 hi0 (by assumption) hi4 (by assumption))
      · exact mu_lt hi0 (by assumption) (hsl (by assumption)).1
    · refine' ret_useG hret (by assumption) ?kP ?kF ?kN ?kF2 ?kN2 ?kS
      case kF => k_asm
      case kN => assumption
      case kF2 => k_asm
      case kN2 => k_asm
      case kS => kcj_all
      case kP => exact ⟨i, cs9, by assumption, hi4, str_ok (join_lat cs9) rfl⟩
theorem c_strict_utf8 (w : World) (mean : Mn) (mg mb : Nm) (b : Array UInt8) (ks : List Int) (t x : Tok) (hb : KBw.bInts b = ks) (hs : ks.length ≤ 65536)
    (dp un : Nat) (gd : Option (List Code)) (cn : Str) (cs : Scope) (a : Addr) (ccd : Value) (cl : List (Str × Addr)) (outer : List Env) (A₀ : Around) (base h₀ : Heap) (L : Addr) (m : Nm) (s : Shared) (Q E : Value → Shared → Prop) (baseX : Heap)
    (hB : Below A₀ base outer h₀) (hF : Fr h₀ L s.heap m) (hK : (hd.heap_39 w.params).In h₀) (hN : News h₀ L s.heap []) (hT : Top hd.view_39 LS mean mg mb h₀) (hk : cs.kind = .function) (hdp : dp + 10 < recursionLimit) (hun : un + 60 < cLine)
    (hX1 : baseX.StaysIn s.heap) (hX2 : s.heap.FunFrames baseX (envX cn cs L a ccd cl :: outer))
    (hret : ∀ (v : Value) (n' : Led) (h' : Heap) (tk' : Nat), (∃ cs, dec ks 0 = some cs ∧ isStr [] (lat cs) v n') → Fr h₀ L h' m → News h₀ L h' n' → Kept s.heap h' [] n' → Q v { s with heap := h', toks := tk' })
    (hexc : dec ks 0 = none → ∀ (e : Addr) (h' : Heap) (tk' : Nat), Fly baseX (envX cn cs L a ccd cl :: outer) e .none h' → s.heap.UpToSlots h' → E (.ref e) { s with heap := h', toks := tk' }) :
    wpAny (model PG w) (topA none dp un gd cn cs L a ccd cl outer) (call (.ref 116) [.str (Str.ofString "utf-8") x, .bytes b t]) Q E s := by
  refine c_strict w mean mg mb b ks t x hb hs _ (u8sign ks) (fun i cs => dec ks 0 = (dec ks i).map (cs ++ ·)) (by decide) (fun n u => c_need_utf8 w mean mg mb none n u) (fun i t u x h0 h1 => c_signat_utf8 w mean mg mb b ks i t u x hb (by omega) h0 h1)
    (fun i h0 h1 => ⟨(sign_len ks i).1, sign_le ks i h0 (Int.le_of_lt h1), sign_in ks i h1⟩) (by cases dec ks 0 <;> rfl) (fun i cs _ h1 h4 hc => dec_turn h1 hc h4) dp un gd cn cs a ccd cl outer A₀ base h₀ L m s Q E baseX hB hF hK hN hT hk hdp hun hX1 hX2 ?_ ?_
  · rintro v n' h' tk' ⟨i, cs, q1, q2, hv⟩ F' N' K'
    exact hret v n' h' tk' ⟨cs, dec_fin q1 q2, hv⟩ F' N' K'
  · rintro ⟨i, cs, _, q1, q2, q3⟩
    exact hexc (dec_none q1 q3 q2)
theorem c_strict_latin (w : World) (mean : Mn) (mg mb : Nm) (b : Array UInt8) (ks : List Int) (t x : Tok) (hb : KBw.bInts b = ks) (hs : ks.length ≤ 65536) :
    CtrG w mean mg mb none 116 [.str (Str.ofString "iso-8859-1") x, .bytes b t] 10 60 [] (isStr [] (lat ks)) := by
  intro dp un gd cn cs a ccd cl outer A₀ base h₀ L m s Q E hB hF hK hN hT hk hdp hun hret
  have B₁ := pushX hB hF (env := envX cn cs L a ccd cl) rfl hk
  refine c_strict w mean mg mb b ks t x hb hs _ (fun i => (ks.getD i.toNat 0, 1)) (fun i cs => cs = ks.take i.toNat) (by decide) (fun n u => c_need_latin w mean mg mb none n u) (fun i t u x h0 h1 => c_signat_latin w mean mg mb none b ks i t u x hb (by omega) h0 h1)
    (fun i h0 h1 => ⟨Int.le_refl 1, Int.le_trans (Int.le_of_lt (b_bnd hb i.toNat).2) (by decide), fun _ => Int.add_one_le_of_lt h1⟩) rfl (fun i cs h0 h1 h4 _ => by rw [h4]; exact (take_snoc h0 h1).symm) dp un gd cn cs a ccd cl outer A₀ base h₀ L m s Q E base hB hF hK hN hT hk hdp hun B₁.stays B₁.frames ?_ ?_
  · rintro v n' h' tk' ⟨i, cs, q1, q2, hv⟩ F' N' K'
    rw [q2, List.take_of_length_le (le_len q1)] at hv
    exact hret v n' h' tk' hv F' N' K'
  · rintro ⟨i, cs, _, q1, q2, q3⟩
    exact absurd q3 (Int.not_lt.mpr (b_bnd hb i.toNat).1)
end
section
theorem said_r_guess_1 : True := by
  k_with_none
  trivial
theorem said_r_guess_2 : True := by
  k_with "mine room" => (first | exact ro0 (by assumption) | exact ro2 (by assumption) (by rfl) | exact ro1 (by assumption) (by rfl) | exact Nat.lt_of_succ_le (Nat.le_of_ble_eq_true (by rfl)) | ktr_room)
  k_with "mine units" => (first | exact ro2 (by assumption) (by rfl) | exact ro1 (by assumption) (by rfl) | exact Nat.lt_of_succ_le (Nat.le_of_ble_eq_true (by rfl)) | ktr_units)
  k_with "execs cons" => ((k_here; (with_reducible show wpAny _ _ (execs (_ :: _) _) _ _ { heap := _, gens := _, drawn := _, toks := _ + 1, os := _ }); refine tok_any ?_; intro tkA; (try dsimp only)))
  trivial
theorem code_open {A A₀ : Around} {base h₀ : Heap} {L : Addr} {m : Nm} {w : World} {s : Shared} {mean : Mn} {mg mb : Nm} {env : Env} {outer : List Env} {R : Result → Shared → Prop} {name qual : Str} {params : Arguments} {body : List Stmt} {scope : Scope} {dV kV doc pm cdv ct oc : Value} {an od : Option Addr} {osl : Array (Option Value)} {f : Addr} {args : Args} {binds : List (Str × Value)} {K : Frag}
    (B : Below A₀ base outer h₀) (F : Fr h₀ L s.heap m) (X₀ : K.In h₀) (T : Top hd.view_39 LS mean mg mb h₀) (hA : A.frames = some (env :: outer)) (hf : env.frame = some L) (hke : env.scope.kind = .function)
    (ho : K.lookup f = some ⟨oc, od, .func (fnOf name qual params body scope dV kV doc pm an cdv ct), osl⟩) (hcd : codeIn K cdv qual = true) (hroom : A.depth < recursionLimit)
    (hbind : BindsTo s (fnOf name qual params body scope dV kV doc pm an cdv ct) args binds) (hloc : ∀ y ∈ binds, scope.names.lookup y.1 = some .local)
    (h : ∀ L' h₁, Fr s.heap L' h₁ (fun y => binds.reverse.lookup y) → Below A base (env :: outer) s.heap → K.In s.heap → Top hd.view_39 LS mean mg mb s.heap →
      wpAny (model PG w) (A.deeper (envOf qual scope L' f cdv)) (execs body (envOf qual scope L' f cdv))
        (fun fl s' => R (.ok (.ret (match fl with | .ret v => v | _ => .none))) s')
        (fun e s' => wpAny (model PG w) (A.deeper (envOf qual scope L' f cdv)) (leaving (envOf qual scope L' f cdv) e) (fun _ s'' => R (.error e) s'') (fun e' s'' => R (.error e') s'') s')
        { s with heap := h₁, toks := s.toks + binds.length })
    (hco : scope.isCoroutine = false) (hgen : scope.isGenerator = false) (hk : scope.kind = .function)
    (hcell : ∀ x ∈ scope.names, x.2 ≠ .cell) : codeAny (model PG w) A (.call (.ref f) args) R s := by
  refine codeAny_call_def (fd := fnX name qual params body scope [] dV kV doc pm an cdv ct) (body := body) (binds := binds) hroom ((X₀.keeps F.keep) _ _ ho) rfl (T.nolimit.keeps F.keep) (codeRec_of (X₀.keeps F.keep) hcd) rfl hbind hcell hloc (fun h₁ hns hk₁ => ?_) hco hgen hk
  have B₁ := pushX B F hf hke
  exact h s.heap.objs.size h₁ ⟨hns, hk₁, Nat.le_refl _⟩ ⟨hA, B₁.stays, B₁.frames⟩ (X₀.keeps F.keep) (T.keeps F.keep)
theorem fr_up {h₀ H h' : Heap} {L : Addr} {m : Nm} (F : Fr h₀ L H m) (k : ∀ b o, H.get? b = some o → h'.get? b = some o) : Fr h₀ L h' m := ⟨F.ns.keeps k, fun b o e => k _ _ (F.keep b o e), F.above⟩
theorem news_up {h₀ H h' : Heap} {L : Addr} {news : Led} (N : News h₀ L H news) (k : ∀ b o, H.get? b = some o → h'.get? b = some o) : News h₀ L h' news := fun p hp => ⟨k _ _ (N p hp).1, (N p hp).2⟩
theorem mf59 (w : World) : nsIn (hd.heap_39 w.params) mainGlobals "MimeFault" = some (some (.ref 59)) := by kernel_rfl
theorem c_guess (w : World) (mean : Mn) (mg mb : Nm) (b : Array UInt8) (ks : List Int) (t : Tok) (hb : KBw.bInts b = ks) (hs : ks.length ≤ 65536)
    (dp un : Nat) (gd : Option (List Code)) (cn : Str) (cs : Scope) (a : Addr) (ccd : Value) (cl : List (Str × Addr)) (A₀ : Around) (base h₀ : Heap) (L : Addr) (m : Nm) (s : Shared) (Q E : Value → Shared → Prop) (news : Led)
    (hB : Below A₀ base [] h₀) (hF : Fr h₀ L s.heap m) (hK : (hd.heap_39 w.params).In h₀) (hN : News h₀ L s.heap news) (hT : Top hd.view_39 LS mean mg mb h₀) (hk : cs.kind = .function) (hdp : dp + 20 < recursionLimit) (hun : un + 120 < cLine)
    (hret : ∀ (v : Value) (h' : Heap) (tk' : Nat), (∃ t', v = .str (match dec ks 0 with | some c => lat c | none => lat ks) t') → Fr h₀ L h' m → News h₀ L h' news → Q v { s with heap := h', toks := tk' }) :
    wpAny (model PG w) (topA none dp un gd cn cs L a ccd cl []) (call (.ref 123) [.bytes b t]) Q E s := by
  refine wpAny_call ?_
  refine' code_open hB hF ?kX ?kT ?kA ?kf ?kk ?k6 ?k7 ?k8 ?k9 ?kB ?_ ?c2 ?c3 ?c4 ?c5
  case kX => k_asm
  case kT => k_asm
  case kA => exact rfl
  case kf => exact rfl
  case kk => assumption
  case k6 => k_is
  case k7 => k_is
  case k8 => walk_at "mine room"
  case k9 => exact BindsTo.of_eq rfl
  case kB => exact locs rfl
  case c2 => exact rfl
  case c3 => exact rfl
  case c4 => exact rfl
  case c5 => decide
  intro L' h1 F1 B1 X1 T1
  (try dsimp only)
  (try k_lift B1)
  (try k_fold)
  k_steps
  have st : ∀ b o, h₀.get? b = some o → b ≠ L := fun b o q z => by rw [z, kts_self hF] at q; cases q
  refine' c_strict_utf8 w mean mg mb b ks t _ hb hs _ _ _ _ _ _ _ _ _ _ _ _ _ _ _ _ _ (hideAll h1 [L', L]) ?b1 ?b2 ?b3 ?b4 ?b5 ?b6 ?b7 ?b8 ?b9 ?b10 ?b11 ?b12
  case b1 => assumption
  case b2 => assumption
  case b3 => assumption
  case b4 => exact News.nil
  case b5 => assumption
  case b6 => exact rfl
  case b7 => walk_at "mine room"
  case b8 => walk_at "mine units"
  case b9 => exact fun b o q => of_hideAll _ q
  case b10 =>
    refine funFrames_hide (B1.push F1 rfl).frames fun env he a' hf => ?_
    rcases List.mem_cons.mp he with rfl | he
    · exact List.mem_cons.mpr (.inl (Option.some.inj hf).symm)
    · rcases List.mem_cons.mp he with rfl | he
      · exact List.mem_cons.mpr (.inr (List.mem_cons.mpr (.inl (Option.some.inj hf).symm)))
      · cases he
  case b11 =>
    intro v n' h' tk' P9 F9 N9 K9
    obtain ⟨cs9, hd9, ⟨t9, rfl⟩, rfl⟩ := P9
    k_unfold
    (try dsimp only)
    exact hret _ _ _ ⟨t9, by rw [hd9]⟩ (fr_up hF F9.keep) (news_up hN F9.keep)
  case b12 =>
    intro hd9 e h' tk' x u
    dsimp only
    refine noteY rfl rfl x fun h₄ x₄ u₄ => ?_
    refine flightY x₄ fun h₅ x₅ u₅ => ?_
    have sm₅ : h1.UpToSlots h₅ := (u.trans u₄).trans u₅
    have hBG : ∀ b o, h1.get? b = some o → b ∉ [L', L] → (hideAll h1 [L', L]).get? b = some o := fun b o q nm => hideAll_get _ q nm
    obtain ⟨g₅, T₅, F₅, K₅⟩ := kts_ground (name := Str.ofString "") (scope := cs) (a := 0) (cd := .none) B1 F1 hBG x₅.1 sm₅
    have up₅ : ∀ b o, h₀.get? b = some o → g₅.get? b = some o := fun b o q => T₅.other b o (hF.keep b o q) (fun hm => by
      rcases List.mem_cons.mp hm with z | z
      · exact st b o q z
      · cases z)
    have X₅ := hK.keeps up₅
    have P₅ := topRead_of (hT.keeps up₅)
    obtain ⟨oe, ves, hoe, hoec, hoed⟩ := x₅.obj
    obtain ⟨nm, q', Ns', bs, sn, sub, ab, col, dd, k0, k1, k2, k3, k5, hC⟩ := xobj_of X₅ (x59 w)
    refine wpAny_handleBy_cons (codeAny_handlers_test (name_K F₅ X₅ P₅ (mf59 w) ?_ rfl rfl (by decide))) (by intro q; cases q)
    refine wpAny_excMatches_sub_self (F₅.keep _ _ hC) hoe hoec (by decide) (codeAny_handlers_suite ?_)
    refine flightY x₅ fun h₆ x₆ u₆ => ?_
    have sm₆ : h1.UpToSlots h₆ := sm₅.trans u₆
    obtain ⟨g₆, T₆, F₆, K₆⟩ := kts_ground (name := Str.ofString "") (scope := cs) (a := 0) (cd := .none) B1 F1 hBG x₆.1 sm₆
    have up₆ : ∀ b o, h₀.get? b = some o → g₆.get? b = some o := fun b o q => T₆.other b o (hF.keep b o q) (fun hm => by
      rcases List.mem_cons.mp hm with z | z
      · exact st b o q z
      · cases z)
    have X₆ := hK.keeps up₆
    have P₆ := hT.keeps up₆
    have N₆ : News g₆ L' h₆ [] := News.nil
    have kG₆ : GSub g₆ g₆ [] := fun b o q _ => q
    refine wpAny_passesOwnAt ?hE ?_
    case hE => first | passes_own | with_unfolding_all passes_own
    clear T₅ F₅ K₅ x₅ x₄ x u₅ u₄ u B1 X1 T1 hC X₅ P₅
    k_steps
    refine' c_textin_latin w mean mg mb e b ks t _ hb hs _ _ _ _ _ _ _ _ _ _ _ _ _ _ _ _ _ ?d1 ?d2 ?d3 ?d4 ?d5 ?d6 ?d7 ?d8 ?d9 ?d10
    case d1 => assumption
    case d2 => exact F₆
    case d3 => exact X₆
    case d4 => exact N₆
    case d5 => exact P₆
    case d6 => exact rfl
    case d7 => walk_at "mine room"
    case d8 => walk_at "mine units"
    case d9 => exact x₆.heldX
    case d10 =>
      intro v n' h' tk' P9 F9 N9 K9
      obtain ⟨⟨t9, rfl⟩, rfl⟩ := P9
      k_unfold
      (try dsimp only)
      have up : ∀ b o, h₆.get? b = some o → h'.get? b = some o := fun b o q => K9.1 b o q (by simp)
      refine hret _ _ _ ⟨t9, by rw [hd9]⟩ ⟨?_, fun b o q => F9.keep b o (up₆ b o q), hF.above⟩ fun p hp => ⟨up _ _ (x₆.1 _ _ (hideAll_get _ (F1.keep _ _ (hN p hp).1) ?_)), (hN p hp).2⟩
      · exact (((Heap.UpToSlots.of_keeps F1.keep).trans sm₆).ns hF.ns).keeps up
      · intro hm
        rcases List.mem_cons.mp hm with z | hm
        · have := (hN p hp).1
          rw [z, kts_self F1] at this; cases this
        · rcases List.mem_cons.mp hm with z | hm
          · exact (hN p hp).2.1 z
          · cases hm
end
section
theorem said_t_isu_1 : True := by
  k_with_none
  trivial
theorem said_t_isu_2 : True := by
  k_with "mine room" => (first | exact ro0 (by assumption) | exact ro2 (by assumption) (by rfl) | exact ro1 (by assumption) (by rfl) | exact Nat.lt_of_succ_le (Nat.le_of_ble_eq_true (by rfl)) | ktr_room)
  k_with "mine units" => (first | exact ro2 (by assumption) (by rfl) | exact ro1 (by assumption) (by rfl) | exact Nat.lt_of_succ_le (Nat.le_of_ble_eq_true (by rfl)) | ktr_units)
  k_with "mine enterG" => ((refine wpAny_call ?_; refine' code_defG ?zzk1 ?zzk2 ?zzk3 ?zzk4 ?zzk5 ?zzkA ?zzkF ?zzkK ?zzk6 ?zzk7 ?zzk8 ?zzk9 ?zzkB ?_ ?zzc2 ?zzc3 ?zzc4 ?zzc5; (case zzkA => exact rfl); (case zzkF => exact rfl); (case zzkK => assumption); (case zzk1 => k_asm); (case zzk2 => k_asm); (case zzk3 => k_asm); (case zzk4 => k_asm); (case zzk5 => k_asm); (case zzk6 => k_is); (case zzk7 => k_is); (case zzk8 => walk_at "mine room"); (case zzk9 => first | exact BindsTo.of_eq rfl | exact binds_K (by k_in) rfl (by k_is) rfl rfl rfl); (case zzc5 => decide); (case zzkB => exact locs rfl); (case zzc2 => exact rfl); (case zzc3 => exact rfl); (case zzc4 => exact rfl); k_whole; intro g' L' h' FG' F' N' B' X' T' kG'; (try dsimp only); (try k_lift B'); (try k_fold)))
  k_with "mine startG" => (k_dflt (walk_at "mine enterG"))
  k_with "mine to while" => (repeat' (first | (k_unfold; (try dsimp only)) | ((fail_if_success (with_reducible show wpAny _ _ (PySem.exec (Stmt.While _ _ _ _) _) _ _ _)); walk1) | ((fail_if_success (with_reducible show wpAny _ _ (PySem.exec (Stmt.While _ _ _ _) _) _ _ _)); dsimp only; walk1)))
  k_with "execs cons" => ((k_here; (with_reducible show wpAny _ _ (execs (_ :: _) _) _ _ { heap := _, gens := _, drawn := _, toks := _ + 1, os := _ }); refine tok_any ?_; intro tkA; (try dsimp only)))
  trivial
section
variable {prog : Program} {w : World} {A : Around} {E : Value → Shared → Prop} {Q : Flow → Shared → Prop} {s : Shared} {env : Env} {h₀ : Heap} {L : Addr}
noncomputable def VEnd (h₀ : Heap) (L : Addr) (s : Shared) (nI : Str) (stored : List Str) (m₀ : Nm) (P : Int → Prop) (μ : Int → Nat) (i : Int) (s₂ : Shared) : Prop :=
  ∃ (i' : Int) (ti : Tok) (h' : Heap) (tk : Nat) (m' : Nm), s₂ = { s with heap := h', toks := tk } ∧ Fr h₀ L h' m' ∧ m' nI = some (.int i' ti) ∧ (∀ z, z ≠ nI → stored.contains z = false → m' z = m₀ z) ∧ P i' ∧ μ i' < μ i
theorem VEnd.intro {s : Shared} {nI : Str} {stored : List Str} {m₀ : Nm} {P : Int → Prop} {μ : Int → Nat} {i i' : Int} {ti : Tok} {h' : Heap} {tk : Nat} {m' : Nm} (F : Fr h₀ L h' m')
    (h1 : m' nI = some (.int i' ti)) (h2 : ∀ z, z ≠ nI → stored.contains z = false → m' z = m₀ z) (hp : P i') (hm : μ i' < μ i) :
    VEnd h₀ L s nI stored m₀ P μ i { s with heap := h', toks := tk } := ⟨i', ti, h', tk, m', rfl, F, h1, h2, hp, hm⟩
noncomputable def VPost (h₀ : Heap) (L : Addr) (s : Shared) (nI : Str) (stored : List Str) (m₀ : Nm) (P : Int → Prop) (μ : Int → Nat) (Q : Flow → Shared → Prop) (i : Int) (f : Flow) (s₂ : Shared) : Prop :=
  match f with
  | .ret v => Q (.ret v) s₂
  | .brk => Q .next s₂
  | _ => VEnd h₀ L s nI stored m₀ P μ i s₂
theorem while_int {test : Expr} {body : List Stmt} {pos : Pos} {m₀ : Nm} {i0 : Int} {t0 : Tok} (nI : Str) (stored : List Str) (P : Int → Prop) (μ : Int → Nat)
    (F : Fr h₀ L s.heap m₀) (hI : m₀ nI = some (.int i0 t0)) (hp : P i0)
    (turn : ∀ (i : Int) (ti : Tok) (u : Nm) h tk, P i → Fr h₀ L h (fun z => if z = nI then some (.int i ti) else if stored.contains z = true then u z else m₀ z) → News h₀ L h [] →
      wpAny (model prog w) A (isTrue test env (eval test env)) (fun b s₂ =>
        if b = true then wpAny (model prog w) A (execs body env) (VPost h₀ L s nI stored m₀ P μ Q i) E s₂ else Q .next s₂) E { s with heap := h, toks := tk })
    (hE : PassesOwn (model prog w) A env E) :
    wpAny (model prog w) A (exec (.While test body [] pos) env) Q E s := by
  refine While_inv2 (fun n m nx => ∃ i ti, nx = [] ∧ μ i = n ∧ m nI = some (.int i ti) ∧ (∀ z, z ≠ nI → stored.contains z = false → m z = m₀ z) ∧ P i) F News.nil ⟨i0, t0, rfl, rfl, hI, fun _ _ _ => rfl, hp⟩ ?_ hE
  rintro n m₁ nx h tk F₁ N₁ ⟨i, ti, hnx, hsz, h1, h2, hp'⟩
  subst hnx
  rw [← hsz]
  have em : (fun z => if z = nI then some (.int i ti) else if stored.contains z = true then m₁ z else m₀ z) = m₁ := by
    funext z
    by_cases hz : z = nI
    · rw [if_pos hz, hz, h1]
    · rw [if_neg hz]
      cases h3 : stored.contains z with
      | true => simp
      | false => simp only [Bool.false_eq_true, if_false]; exact (h2 z hz h3).symm
  refine wpAny_mono (turn i ti m₁ h tk hp' (by rw [em]; exact F₁) N₁) (fun b s₂ p => ?_) fun _ _ x => x
  cases b with
  | false => simpa using p
  | true =>
    simp only [if_true] at p ⊢
    refine wpAny_mono p (fun f s₃ q => ?_) fun _ _ x => x
    cases f with
    | ret v => exact q
    | brk => exact q
    | next =>
      obtain ⟨i', ti', h', tk', m', rfl, F', e1, e2, hp9, hm9⟩ := q
      exact ⟨h', tk', m', _, μ i', rfl, F', News.nil, hm9, i', ti', rfl, rfl, e1, e2, hp9⟩
    | cont =>
      obtain ⟨i', ti', h', tk', m', rfl, F', e1, e2, hp9, hm9⟩ := q
      exact ⟨h', tk', m', _, μ i', rfl, F', News.nil, hm9, i', ti', rfl, rfl, e1, e2, hp9⟩
end
theorem ne_nil {prog : Program} {w : World} {A : Around} {E : Value → Shared → Prop} {s : Shared} {h₀ : Heap} {L D l : Addr} {news : Led} {ys : List Value} {ns : List Int} {Q : Value → Shared → Prop} (N : News h₀ L s.heap news) (hD : (D, LCg.lst ys) ∈ news) (hl : (l, listOf #[] 0) ∈ news) (hi : IntsAre ys ns) (hu : A.units + 64 < cLine)
    (h : Q (.bool (!decide (ns = []))) s) : wpAny (model prog w) A (compareOp .NotEq (.ref D) (.ref l)) Q E s :=
  ke_ne_ints (xs := ys) (ys := []) ⟨_, (N _ hD).1, rfl, _, rfl⟩ ⟨_, (N _ hl).1, rfl, _, rfl⟩ hi IntsAre.nil hu h
theorem mo_1 {c : Int} (h : c < 128) : (0 : Int) = mo c := (mo0 h).symm
theorem mo_2 {c : Int} (h1 : 194 ≤ c) (h2 : c < 224) : (1 : Int) = mo c := (mo1 h1 (Int.le_of_lt_add_one h2)).symm
theorem mo_3 {c : Int} (h1 : 224 ≤ c) (h2 : c < 240) : (2 : Int) = mo c := (mo2 h1 (Int.le_of_lt_add_one h2)).symm
theorem mo_4 {c : Int} (h1 : 240 ≤ c) (h2 : c < 245) : (3 : Int) = mo c := (mo3 h1 (Int.le_of_lt_add_one h2)).symm
theorem mo_5 {c : Int} (h0 : ¬ c < 128) (h1 : ¬ (194 ≤ c ∧ c < 224)) (h2 : ¬ (224 ≤ c ∧ c < 240)) (h3 : ¬ (240 ≤ c ∧ c < 245)) : (-1 : Int) = mo c := by unfold mo; rw [if_neg h0, if_neg h1, if_neg h2, if_neg h3]
theorem mo_6 {c : Int} (h0 : ¬ c < 128) (h1 : ¬ 194 ≤ c) : (-1 : Int) = mo c := mo_5 h0 (fun q => h1 q.1) (fun q => h1 (Int.le_trans (by decide) q.1)) fun q => h1 (Int.le_trans (by decide) q.1)
theorem mo_7 {c : Int} (h : ¬ c < 245) : (-1 : Int) = mo c := mo_5 (off128 (Int.not_lt.mp h) (by decide)) (offr (Int.not_lt.mp h) (by decide)) (offr (Int.not_lt.mp h) (by decide)) (offr (Int.not_lt.mp h) (by decide))
theorem val4 (a b c d : Value) (k : Int) : valueAt [(224, a), (237, b), (240, c), (244, d)] k = if k = 224 then some a else if k = 237 then some b else if k = 240 then some c else if k = 244 then some d else none := by
  unfold valueAt
  by_cases h1 : k = 224
  · subst h1; rfl
  by_cases h2 : k = 237
  · subst h2; rfl
  by_cases h3 : k = 240
  · subst h3; rfl
  by_cases h4 : k = 244
  · subst h4; rfl
  rw [if_neg h1, if_neg h2, if_neg h3, if_neg h4]
  have e1 : (decide ((224 : Int) = k)) = false := decide_eq_false fun q => h1 q.symm
  have e2 : (decide ((237 : Int) = k)) = false := decide_eq_false fun q => h2 q.symm
  have e3 : (decide ((240 : Int) = k)) = false := decide_eq_false fun q => h3 q.symm
  have e4 : (decide ((244 : Int) = k)) = false := decide_eq_false fun q => h4 q.symm
  simp [List.find?, e1, e2, e3, e4]
theorem get4 {prog : Program} {w : World} {A : Around} {E : Value → Shared → Prop} {s : Shared} {h₀ : Heap} {L d a1 a2 a3 a4 a5 : Addr} {news : Led} {o : Obj} {t1 t2 t3 t4 t5 u1 u2 u3 u4 u5 : Tok} {k : Int} {t : Tok} {Q : Value → Shared → Prop} (N : News h₀ L s.heap news) (hp : (d, o) ∈ news)
    (hd : o.IsDictOf (PySem.intKind prog w) [(224, .ref a1), (237, .ref a2), (240, .ref a3), (244, .ref a4)]) (lo : (d == sysModules) = false)
    (m1 : (a1, tupO [.int 160 t1, .int 192 u1]) ∈ news) (m2 : (a2, tupO [.int 128 t2, .int 160 u2]) ∈ news) (m3 : (a3, tupO [.int 144 t3, .int 192 u3]) ∈ news) (m4 : (a4, tupO [.int 128 t4, .int 144 u4]) ∈ news) (m5 : (a5, tupO [.int 128 t5, .int 192 u5]) ∈ news)
    (h : ∀ e t u, News h₀ L s.heap [(e, tupO [.int (loD k) t, .int (hiD k) u])] → Q (.ref e) { s with toks := s.toks + 1 }) :
    wpAny (model prog w) A (call (.builtin "dict.get") [.ref d, .int k t, .ref a5]) Q E s := by
  have one : ∀ {p : Addr × Obj}, p ∈ news → News h₀ L s.heap [p] := fun hp => cb_drop N fun q hq => by rcases List.mem_singleton.mp hq with rfl; exact hp
  by_cases h1 : k = 224
  · subst h1; exact kdg_get2 N hp hd lo (intKind_is _ _ _ _) (some _) (by rw [val4, if_pos rfl]) (h _ _ _ (one m1))
  by_cases h2 : k = 237
  · subst h2; exact kdg_get2 N hp hd lo (intKind_is _ _ _ _) (some _) (by rw [val4]; rfl) (h _ _ _ (one m2))
  by_cases h3 : k = 240
  · subst h3; exact kdg_get2 N hp hd lo (intKind_is _ _ _ _) (some _) (by rw [val4]; rfl) (h _ _ _ (one m3))
  by_cases h4 : k = 244
  · subst h4; exact kdg_get2 N hp hd lo (intKind_is _ _ _ _) (some _) (by rw [val4]; rfl) (h _ _ _ (one m4))
  refine kdg_get2 N hp hd lo (intKind_is _ _ _ _) none (by rw [val4, if_neg h1, if_neg h2, if_neg h3, if_neg h4]) (h _ t5 u5 (one ?_))
  rw [show loD k = 128 by unfold loD; rw [if_neg h1, if_neg h3], show hiD k = 192 by unfold hiD; rw [if_neg h2, if_neg h4]]
  exact m5
theorem fol_yes {ks : List Int} {i : Int} {b : Array UInt8} (h : 0 < mo (ks.getD i.toNat 0)) (e : KBw.bInts b = (ks.drop (clipAt ks.length (i + 1))).take (clipAt ks.length (i + 1 + mo (ks.getD i.toNat 0)) - clipAt ks.length (i + 1))) : KBw.bInts b = fol ks i := by
  unfold fol; rw [if_pos h, e]
theorem fol_no {ks : List Int} {i : Int} (h : ¬ 0 < mo (ks.getD i.toNat 0)) : KBw.bInts #[] = fol ks i := by
  unfold fol; rw [if_neg h]; rfl
theorem bd_1 {p : Prop} [Decidable p] {r : Bool} (h : p) : true = (decide p || r) := by rw [decide_eq_true h]; rfl
theorem bd_2 {p q : Prop} [Decidable p] [Decidable q] {r : Bool} (h : q) : true = (decide p || (decide q || r)) := by rw [decide_eq_true h, Bool.true_or, Bool.or_true]
theorem bd_4 {p q r : Prop} [Decidable p] [Decidable q] [Decidable r] (h : ¬ p) (h2 : ¬ q) (h3 : r) : false = (decide p || (decide q || !decide r)) := by rw [decide_eq_false h, decide_eq_false h2, decide_eq_true h3]; rfl
theorem bd_5 {p q r : Prop} [Decidable p] [Decidable q] [Decidable r] (h : ¬ p) (h2 : ¬ q) (h3 : ¬ r) : true = (decide p || (decide q || !decide r)) := by rw [decide_eq_false h, decide_eq_false h2, decide_eq_false h3]; rfl
theorem rg_1 {p : Prop} [Decidable p] {r : Bool} (h : ¬ p) : false = (decide p && r) := by rw [decide_eq_false h]; rfl
theorem rg_2 {p : Prop} [Decidable p] {r : Bool} (h : p) : r = (decide p && r) := by rw [decide_eq_true h]; rfl
theorem said_t_isu_3 : True := by
  k_with "mine mo" => (first | exact mo_1 (by assumption) | exact mo_2 (by assumption) (by assumption) | exact mo_3 (by first | assumption | exact Int.not_lt.mp (by assumption) | omega) (by assumption) | exact mo_4 (by first | assumption | exact Int.not_lt.mp (by assumption) | omega) (by assumption) | exact mo_6 (by assumption) (by assumption) | exact mo_7 (by assumption) | exact mo_5 (by assumption) (by omega) (by omega) (by omega))
  k_with "JoinE" => ((k_here; (with_reducible show JoinE _ _ _ _ _ (fun v => ∃ t, v = Value.int _ t) _ _); (refine' JoinE.intro ?zzF ?zzN ?zzS ?zzp; (case zzF => k_asm); (case zzN => assumption); (case zzS => first | with_reducible exact fun p h => h | kcj_all); (case zzp => (refine int_is ?_; walk_at "mine mo")))))
  k_with "JoinE" => ((k_here; (with_reducible show JoinE _ _ _ _ _ (fun v => ∃ b t, v = Value.bytes b t ∧ _ = fol ks i) _ _); (refine' JoinE.intro ?zzF ?zzN ?zzS ?zzp; (case zzF => k_asm); (case zzN => assumption); (case zzS => first | with_reducible exact fun p h => h | kcj_all); (case zzp => (first | exact ⟨_, _, rfl, fol_yes (by assumption) (by assumption)⟩ | exact ⟨_, _, rfl, fol_no (by assumption)⟩)))))
  k_with "JoinE" => ((k_here; (with_reducible show JoinE _ _ _ _ _ (fun v => v = bad ks i) _ _); (refine' JoinE.intro ?zzF ?zzN ?zzS ?zzp; (case zzF => k_asm); (case zzN => assumption); (case zzS => first | with_reducible exact fun p h => h | kcj_all); (case zzp => ((with_reducible show _ = bad ks i); unfold bad; with_reducible first | exact bd_1 (by assumption) | exact bd_2 (by assumption) | exact bd_4 (by assumption) (by assumption) (by assumption) | exact bd_5 (by assumption) (by assumption) (by assumption))))))
  k_with "JoinE" => ((k_here; (with_reducible show JoinE _ _ _ _ _ (fun v => v = rng ks i) _ _); (refine' JoinE.intro ?zzF ?zzN ?zzS ?zzp; (case zzF => k_asm); (case zzN => assumption); (case zzS => first | with_reducible exact fun p h => h | kcj_all); (case zzp => ((with_reducible show _ = rng ks i); unfold rng; with_reducible first | exact rg_1 (by assumption) | exact rg_2 (by assumption))))))
  k_with "eval IfExp" => ((k_here; (fail_if_success (with_reducible show wpAny _ _ _ (JoinE _ _ _ _ _ _) _ _)); (with_reducible show wpAny _ _ (eval (PySem.Expr.IfExp (PySem.Expr.Compare _ [CmpOp.Lt] _ _) _ _ _) _) _ _ _); (refine' join_int (mo (ks.getD i.toNat 0)) ?zzF ?zzN ?_ ?_; (case zzF => k_asm); (case zzN => k_asm)); rotate_left; intro t9 h9 tk9 F9 N9; (try dsimp only)))
  k_with "eval IfExp" => ((k_here; (fail_if_success (with_reducible show wpAny _ _ _ (JoinE _ _ _ _ _ _) _ _)); (with_reducible show wpAny _ _ (eval (PySem.Expr.IfExp (PySem.Expr.Compare _ [CmpOp.Gt] _ _) _ _ _) _) _ _ _); (refine' join_v ?zzF ?zzN (fun v => ∃ b' t', v = Value.bytes b' t' ∧ KBw.bInts b' = fol ks i) ?_ ?_; (case zzF => k_asm); (case zzN => k_asm)); rotate_left; intro v9 h9 tk9 P9 F9 N9; obtain ⟨b9, t9, e9, hb9⟩ := P9; subst e9; (try dsimp only)))
  k_with "isTrue BoolOp" => ((k_here; (fail_if_success (with_reducible show wpAny _ _ _ (JoinE _ _ _ _ _ _) _ _)); (refine' join_is (bad ks i) ?zzF ?zzN ?_ ?_; (case zzF => k_asm); (case zzN => k_asm)); rotate_left; intro h9 tk9 F9 N9; cases hbad : bad ks i; (have hgl := good_len hbad); (try dsimp only)))
  k_with "isTrue Compare" => ((k_here; (fail_if_success (with_reducible show wpAny _ _ _ (JoinE _ _ _ _ _ _) _ _)); (with_reducible show wpAny _ _ (isTrue (PySem.Expr.Compare (PySem.Expr.Name _ _) [CmpOp.LtE, CmpOp.Lt] _ _) _ _) _ _ _); (refine' join_is (rng ks i) ?zzF ?zzN ?_ ?_; (case zzF => k_asm); (case zzN => k_asm)); rotate_left; intro h9 tk9 F9 N9; cases hrng : rng ks i; (try dsimp only)))
  k_with "compareOp NotEq ref ref" => ((k_here; k_dflt (refine' ne_nil ?zzN ?zzd ?zzl ?zzi ?zzu ?_; (case zzN => k_asm); (case zzd => k_mem); (case zzl => k_mem); (case zzi => assumption); (case zzu => walk_at "mine units"))))
  k_with "eval ListComp" => ((k_here; k_dflt (refine comp_T (by k_asm) (by with_unfolding_all rfl) (by decide) (by rfl) (by decide) (by rfl) ?_ (fun _ => by rfl))))
  k_with "CSrc" => ((k_here; k_dflt (refine' CSrc.filt notF hb9 rfl ?zzF ?zzN ?zzz ?_ ?_; (case zzF => k_asm); (case zzN => k_asm); (case zzz => exact Nat.le_trans fol_len hs)); intro g9 c9 u9 ys9 I9 oI9 C9 oC9 D9 m9 h9 tk9 E9 hc9 hO9 hx9 F9 N9 off9 ne9; (try simp only [LCg.Off3, and_true] at off9); (try dsimp only)))
  k_with "CompEnd" => ((k_here; (refine' LCg.CompEnd.intro ?zzkF ?zzkN _ (fun _ h => h) ?zzkO ?zzkS ?zzkR; (case zzkF => k_asm); (case zzkN => assumption); (case zzkO => with_unfolding_all assumption); (case zzkS => exact True.intro); (case zzkR => first | exact ⟨by simp [notF]; omega, ⟨_, rfl⟩, rfl⟩ | exact ⟨by simp [notF]; omega, rfl⟩))))
  k_with "ite" => (with_reducible first | refine ite_ff ?_ | refine ite_tt ?_)
  k_with "eval Dict" => ((k_here; k_dflt (refine' kdn_int ?zzq ?zzF ?zzN ?zzb ?zza ?zzl ?zze ?zzn ?_; (case zzq => rfl); (case zzF => k_asm); (case zzN => first | k_asm | exact News.nil); (case zzb => exact Top.nolimit (by k_asm)); (case zza => rfl); (case zzl => rfl); (case zze => exact List.cons_ne_nil _ _); (case zzn => exact Nat.le_of_ble_eq_true rfl)); intro d' h' o' F' N' l1 lo' hd'; (try k_lt l1)))
  k_with "call builtin:dict.get" => ((k_here; k_dflt (refine' get4 ?zzN ?zzp ?zzd ?zzl ?zza ?zzb ?zzc ?zze ?zzf ?_; (case zzN => k_asm); (case zzp => k_mem); (case zzd => k_asm); (case zzl => k_asm); (case zza => k_mem); (case zzb => k_mem); (case zzc => k_mem); (case zze => k_mem); (case zzf => k_mem)); (rename News _ _ _ _ => nX); clear nX; intro e9 t9 u9 m9; (try dsimp only)))
  k_with "assign Tuple" => ((k_here; k_dflt (refine' unpackN_ ?zzF ?zzN (News.isTup (by k_asm) (.head _)) ?zzk1 ?zzk2 ?zzk3 ?_; (case zzF => k_asm); (case zzN => k_asm); (case zzk1 => exact rfl); (case zzk2 => exact rfl); (case zzk3 => exact rfl)); intro h' F' N'; (try dsimp only); (try k_sweep)))
  k_with "call builtin:len" => ((k_here; refine KBw.len_K hb9 (Nat.le_trans fol_len hs') ?_))
  k_with "subscriptTail" => ((k_here; (with_reducible show wpAny _ _ (subscriptTail (PySem.Expr.Name _ _) _ (Value.bytes b9 _) (Value.int 0 _)) _ _ _); refine KBw.item_K hb9 (Nat.le_trans fol_len hs') (Int.le_refl 0) (by omega) ?_; intro _ _ kbaLo kbaHi; (try dsimp only)))
  k_with "mine same" => ((intro z h2 h3; (have h4 := h3); (simp only [List.contains_cons, List.contains_nil, Bool.or_false, Bool.or_eq_false_iff, beq_eq_false_iff_ne, ne_eq] at h4); simp [h2, h4, h3]))
  k_with "mine vend" => (((dsimp only [VPost]); refine' VEnd.intro ?zzwF ?zzw1 ?zzw2 ?zzwp ?zzwm; (case zzwF => k_asm); (case zzw1 => rfl); (case zzw2 => walk_at "mine same"); (case zzwp => (rw [hi2]; exact isT2 hi0 (by assumption) hbd.1 hbad (by first | exact .inl (by assumption) | exact .inr ⟨by assumption, by assumption⟩))); (case zzwm => first | exact mu_lt1 hi0 (by assumption) hgl.1 | omega)))
  k_with "mine bool endG" => ((refine' ret_useG hret (by assumption) (bool_ok ?zzkv rfl) ?zzkF ?zzkN ?zzkF2 ?zzkN2 ?zzkS; (case zzkF => k_asm); (case zzkN => assumption); (case zzkF2 => k_asm); (case zzkN2 => k_asm); (case zzkS => kcj_all); (case zzkv => (rw [hi2]; first | exact (isT1 hi0 (by assumption) hbad).symm | exact (isT3 hi0 (by assumption) (by assumption) hrng).symm | (rw [dec_end (by assumption)]; rfl)))))
  trivial
theorem c_isutf8 (w : World) (mean : Mn) (mg mb : Nm) (b : Array UInt8) (ks : List Int) (t : Tok) (hb : KBw.bInts b = ks) (hs : ks.length ≤ 65536) :
    CtrG w mean mg mb none 161 [.bytes b t] 4 200 [] (isBool [] (dec ks 0).isSome) := by
  intro dp un gd cn cs a ccd cl outer A₀ base h₀ L m s Q E hB hF hK hN hT hk hdp hun hret
  have hs' : ks.length ≤ 1099511627776 := Nat.le_trans hs (by decide)
  have hp0 : 0 ≤ (0 : Int) ∧ (0 : Int) ≤ (ks.length : Int) ∧ (dec ks 0).isSome = (dec ks 0).isSome := ⟨Int.le_refl 0, Int.natCast_nonneg _, rfl⟩
  walk_at "mine startG"
  walk_at "mine to while"
  refine' while_int (Str.ofString "at") [Str.ofString "lead", Str.ofString "more", Str.ofString "behind", Str.ofString "low", Str.ofString "high"] (fun i => 0 ≤ i ∧ i ≤ (ks.length : Int) ∧ (dec ks 0).isSome = (dec ks i).isSome) (fun i => ks.length - i.toNat) ?kF ?kI ?kp ?kT ?hE
  case kF => k_asm
  case kI => rfl
  case hE => first | passes_own | with_unfolding_all passes_own
  case kp => exact hp0
  case kT =>
    intro i ti u h tk hP F' N'
    obtain ⟨hi0, hi1, hi2⟩ := hP
    have hbd := b_bnd hb i.toNat
    k_sweep
    try k_fold
    k_steps
    all_goals (try dsimp only)
    all_goals k_steps
    all_goals (first | walk_at "mine vend" | walk_at "mine bool endG" | (dsimp only [VPost]; k_steps; walk_at "mine bool endG"))
end
section
theorem said_w_draw_1 : True := by
  k_with_none
  trivial
theorem said_w_draw_2 : True := by
  k_with "mine room" => (first | exact ro0 (by assumption) | exact ro2 (by assumption) (by rfl) | exact ro1 (by assumption) (by rfl) | exact Nat.lt_of_succ_le (Nat.le_of_ble_eq_true (by rfl)) | ktr_room)
  k_with "mine units" => (first | exact ro2 (by assumption) (by rfl) | exact ro1 (by assumption) (by rfl) | exact Nat.lt_of_succ_le (Nat.le_of_ble_eq_true (by rfl)) | ktr_units)
  k_with "mine enterG" => ((refine wpAny_call ?_; refine' code_defG ?zzk1 ?zzk2 ?zzk3 ?zzk4 ?zzk5 ?zzkA ?zzkF ?zzkK ?zzk6 ?zzk7 ?zzk8 ?zzk9 ?zzkB ?_ ?zzc2 ?zzc3 ?zzc4 ?zzc5; (case zzkA => exact rfl); (case zzkF => exact rfl); (case zzkK => assumption); (case zzk1 => k_asm); (case zzk2 => k_asm); (case zzk3 => k_asm); (case zzk4 => k_asm); (case zzk5 => k_asm); (case zzk6 => k_is); (case zzk7 => k_is); (case zzk8 => walk_at "mine room"); (case zzk9 => first | exact BindsTo.of_eq rfl | exact binds_K (by k_in) rfl (by k_is) rfl rfl rfl); (case zzc5 => decide); (case zzkB => exact locs rfl); (case zzc2 => exact rfl); (case zzc3 => exact rfl); (case zzc4 => exact rfl); k_whole; intro g' L' h' FG' F' N' B' X' T' kG'; (try dsimp only); (try k_lift B'); (try k_fold)))
  k_with "mine startG" => (k_dflt (walk_at "mine enterG"))
  k_with "execs cons" => ((k_here; (with_reducible show wpAny _ _ (execs (_ :: _) _) _ _ { heap := _, gens := _, drawn := _, toks := _ + 1, os := _ }); refine tok_any ?_; intro tkA; (try dsimp only)))
  trivial
theorem pow_gen {prog : Program} {w : World} {A : Around} {E : Value → Shared → Prop} {s : Shared} {a n : Int} {t u : Tok} {Q : Value → Shared → Prop} (hn : 0 ≤ n) (hn2 : n ≤ 1000000) (ha0 : 0 ≤ a) (ha : a < 9000000000000000000) (h : ∀ x, Q (.int x s.toks) { s with toks := s.toks + 1 }) :
    wpAny (model prog w) A (binaryOp .Pow (.int a t) (.int n u)) Q E s := pow_int_small hn hn2 (by omega) (h _)
theorem mod_gen {prog : Program} {w : World} {A : Around} {E : Value → Shared → Prop} {s : Shared} {a n : Int} {t u : Tok} {Q : Value → Shared → Prop} (hn : 0 < n) (h : ∀ x, 0 ≤ x → x < n → Q (.int x s.toks) { s with toks := s.toks + 1 }) :
    wpAny (model prog w) A (binaryOp .Mod (.int a t) (.int n u)) Q E s := mod_int' (by omega) (h _ (Int.fmod_nonneg_of_pos _ hn) (Int.fmod_lt_of_pos _ hn))
theorem mul_gen {prog : Program} {w : World} {A : Around} {E : Value → Shared → Prop} {s : Shared} {a b : Int} {t u : Tok} {Q : Value → Shared → Prop} (ha0 : 0 ≤ a) (ha : a ≤ 9000000000) (hb0 : 0 ≤ b) (hb : b ≤ 20000) (h : ∀ y, 0 ≤ y → y ≤ 180000000000000 → Q (.int y s.toks) { s with toks := s.toks + 1 }) :
    wpAny (model prog w) A (binaryOp .Mult (.int a t) (.int b u)) Q E s :=
  PyProof.Rows.mul_int (h _ (Int.mul_nonneg ha0 hb0) (Int.le_trans (Int.mul_le_mul ha hb hb0 (by decide)) (by decide))) (PySem.IntMulOk.of_right (PySem.intBits_le_64 (by omega) (by omega)))
theorem set_arr {prog : Program} {w : World} {A : Around} {E : Value → Shared → Prop} {s : Shared} {h₀ : Heap} {L D : Addr} {m : Nm} {news news' : Led} {its its' : Array Value} {n : Nat} {k : Int} {t : Tok} {v : Value} {Q : Unit → Shared → Prop} (F : Fr h₀ L s.heap m) (N : News h₀ L s.heap news) (U : Upd D (listOf its n) (listOf its' n) news news')
    (he : its.setIfInBounds k.toNat v = its') (h0 : 0 ≤ k) (h1 : k < its.size) (hfit : k < 2 ^ 63) (h : ∀ h', Fr h₀ L h' m → News h₀ L h' news' → Q () { s with heap := h' }) : wpAny (model prog w) A (setItem (.ref D) (.int k t) v) Q E s := by
  obtain ⟨pre, post, rfl, rfl, a, b⟩ := U.split
  have z := N (D, listOf its n) (List.mem_append.mpr (.inr (.head _)))
  refine ki_setAt z.1 h0 hfit h1 (h _ (F.change (Heap.SameBut.update ..) z.2.1 z.2.2) (ki_turn _ N a b he ?_))
  rw [← he, Array.size_setIfInBounds]; simp
theorem upd_PC {P C : Addr} {a a' b : Obj} (h : P ≠ C) : Upd P a a' [(P, a), (C, b)] [(P, a'), (C, b)] :=
  Upd.head (by intro p hp; rcases List.mem_cons.mp hp with rfl | q; exact Ne.symm h; cases q)
section
variable {prog : Program} {w : World} {A : Around} {E : Value → Shared → Prop} {s : Shared} {h₀ : Heap} {L D : Addr} {m : Nm} {news news' : Led} {a b c : Value} {n : Nat} {t : Tok} {v : Value} {Q : Unit → Shared → Prop}
theorem set3_1 (F : Fr h₀ L s.heap m) (N : News h₀ L s.heap news) (U : Upd D (listOf #[a, b, c] n) (listOf #[a, v, c] n) news news') (h : ∀ h', Fr h₀ L h' m → News h₀ L h' news' → Q () { s with heap := h' }) :
    wpAny (model prog w) A (setItem (.ref D) (.int 1 t) v) Q E s := set_arr F N U rfl (by decide) (by simp) (by decide) h
theorem set3_2 (F : Fr h₀ L s.heap m) (N : News h₀ L s.heap news) (U : Upd D (listOf #[a, b, c] n) (listOf #[a, b, v] n) news news') (h : ∀ h', Fr h₀ L h' m → News h₀ L h' news' → Q () { s with heap := h' }) :
    wpAny (model prog w) A (setItem (.ref D) (.int 2 t) v) Q E s := set_arr F N U rfl (by decide) (by simp) (by decide) h
end
theorem said_w_draw_3 : True := by
  k_with "setItem ref int" => ((k_here; k_dflt (first | ((with_reducible show wpAny _ _ (setItem (Value.ref _) (Value.int 1 _) _) _ _ _); refine' set3_1 ?zzk1 ?zzk2 ?zzk3 ?_) | ((with_reducible show wpAny _ _ (setItem (Value.ref _) (Value.int 2 _) _) _ _ _); refine' set3_2 ?zzk1 ?zzk2 ?zzk3 ?_)); (case zzk1 => k_asm); (case zzk2 => k_asm); (case zzk3 => first | exact upd_PC (by assumption) | (refine' Upd.tail ?zza (upd_PC (by assumption)); (case zza => k_ne)) | (refine' Upd.tail ?zza (Upd.tail ?zzb (upd_PC (by assumption))); (case zza => k_ne); (case zzb => k_ne))); intro h' F' N'))
  k_with "binaryOp Pow int int" => ((k_here; (with_reducible refine pow_gen ?zzkb1 ?zzkb2 ?zzkb3 ?zzkb4 ?_); (case zzkb1 => omega); (case zzkb2 => omega); (case zzkb3 => omega); (case zzkb4 => omega); intro x8))
  k_with "binaryOp Mult int int" => ((k_here; (fail_if_success (with_reducible show wpAny _ _ (binaryOp _ (Value.int 20947 _) _) _ _ _)); (fail_if_success (with_reducible show wpAny _ _ (binaryOp _ (Value.int 2 _) _) _ _ _)); (with_reducible refine mul_gen ?zzkb1 ?zzkb2 ?zzkb3 ?zzkb4 ?_); (case zzkb1 => omega); (case zzkb2 => omega); (case zzkb3 => omega); (case zzkb4 => omega); intro x8 x8a x8b))
  k_with "binaryOp Mod int int" => ((k_here; (with_reducible refine mod_gen ?zzkb1 ?_); (case zzkb1 => omega); intro x8 x8a x8b))
  k_with "mine to pow" => (repeat' (first | (k_unfold; (try dsimp only)) | ((fail_if_success (with_reducible show wpAny _ _ (setItem _ _ _) _ _ _)); walk1) | ((fail_if_success (with_reducible show wpAny _ _ (setItem _ _ _) _ _ _)); dsimp only; walk1)))
  trivial
theorem slc_K {prog : Program} {w : World} {A : Around} {E : Value → Shared → Prop} {s : Shared} {h₀ : Heap} {L l : Addr} {m : Nm} {news : Led} {value slice : PySem.Expr} {vs : List Value} {ns : List Int} {n : Nat} {vl vu : Value} {y : Int} {Q : Value → Shared → Prop} (F : Fr h₀ L s.heap m) (N : News h₀ L s.heap news) (hm : (l, listOf vs.toArray n) ∈ news) (hi : IntsAre vs ns) (hl : ns.length ≤ 1000) (pl : IsPart vl none) (pu : IsPart vu (some y)) (hy : 0 ≤ y)
    (h : ∀ D ws h', Fr h₀ L h' m → News h₀ L h' ((D, listOf (List.toArray ws) 0) :: news) → (∀ p ∈ news, p.1 < D) → IntsAre ws (ns.take y.toNat) → Q (.ref D) { s with heap := h' })
    (hs : subscripted slice false (.ref l) (.ref s.heap.objs.size) = operate [.ref s.heap.objs.size, .ref l] (getItem (.ref l) (.ref s.heap.objs.size))) (ht : ∀ r, letTemporaryGo value (.ref l) r = pure ()) :
    wpAny (model prog w) A (subscriptTail value slice (.ref l) (.ref s.heap.objs.size)) Q E { s with heap := s.heap.push { cls := .type "slice", data := .fields #[vl, vu, .none] } } := by
  have := hi.length
  refine kmk_slice_ints F N (PySem.IsL.isList (n := n) (N _ hm).1) pl pu hi (kmk_upto hi hy) rfl (fun D ws h' F' N' l1 i1 _ _ => h D ws h' F' N' l1 i1) hs ht ?_
  rw [sizeLine_eq]; simp; omega
theorem sum_K {prog : Program} {w : World} {A : Around} {E : Value → Shared → Prop} {s : Shared} {h₀ : Heap} {L l : Addr} {m : Nm} {news : Led} {vs : List Value} {ns : List Int} {n : Nat} {Q : Value → Shared → Prop} (hh : A.handled = none) (F : Fr h₀ L s.heap m) (N : News h₀ L s.heap news) (hm : (l, listOf vs.toArray n) ∈ news) (hi : IntsAre vs ns)
    (h : ∀ x h' tk t', Fr h₀ L h' m → News h₀ L h' news → Q (.int x t') { s with heap := h', toks := tk }) :
    wpAny (model prog w) A (call (.builtin "sum") [.ref l]) Q E s := sumK hh F N (PySem.IsL.isList (n := n) (N _ hm).1) hi (h _)
theorem nenil_K {prog : Program} {w : World} {A : Around} {E : Value → Shared → Prop} {s : Shared} {h₀ : Heap} {L D l : Addr} {news : Led} {vs : List Value} {ns : List Int} {n : Nat} {Q : Value → Shared → Prop} (N : News h₀ L s.heap news) (hD : (D, listOf vs.toArray n) ∈ news) (hl : (l, listOf #[] 0) ∈ news) (hi : IntsAre vs ns) (hu : A.units + 64 < cLine)
    (h : Q (.bool (!decide (ns = []))) s) : wpAny (model prog w) A (compareOp .NotEq (.ref D) (.ref l)) Q E s :=
  ke_ne_ints (xs := vs) (ys := []) ⟨_, (N _ hD).1, rfl, _, rfl⟩ ⟨_, (N _ hl).1, rfl, _, rfl⟩ hi IntsAre.nil hu h
theorem item_K {prog : Program} {w : World} {A : Around} {E : Value → Shared → Prop} {s : Shared} {h₀ : Heap} {L l : Addr} {m : Nm} {news : Led} {value slice : PySem.Expr} {vs : List Value} {ns : List Int} {n : Nat} {k : Int} {u : Tok} {Q : Value → Shared → Prop} (N : News h₀ L s.heap news) (hm : (l, listOf vs.toArray n) ∈ news) (hi : IntsAre vs ns) (h0 : 0 ≤ k) (h1 : k < ns.length) (hl : ns.length ≤ 1000) (h : ∀ x t, Q (.int x t) s)
    (hs : subscripted slice false (.ref l) (.int k u) = operate [.ref l, .int k u] (getItem (.ref l) (.int k u))) :
    wpAny (model prog w) A (subscriptTail value slice (.ref l) (.int k u)) Q E s :=
  item_anyK (PySem.IsL.isList (n := n) (N _ hm).1) hi h0 h1 (by omega) (h _) hs
theorem len_K {prog : Program} {w : World} {A : Around} {E : Value → Shared → Prop} {s : Shared} {h₀ : Heap} {L l : Addr} {news : Led} {vs : List Value} {ns : List Int} {n : Nat} {Q : Value → Shared → Prop} (N : News h₀ L s.heap news) (hm : (l, listOf vs.toArray n) ∈ news) (hi : IntsAre vs ns) (hl : ns.length ≤ 1000)
    (h : Q (.int (ns.length : Int) (s.toks + 1)) { s with toks := s.toks + 1 + 1 }) : wpAny (model prog w) A (call (.builtin "len") [.ref l]) Q E s := by
  have e : vs.toArray.size = ns.length := by rw [← hi.length]; simp
  refine PyProof.Rows.len_list (PySem.IsL.isList (n := n) (N _ hm).1) (by rw [e]; omega) ?_
  rw [e]; exact h
theorem said_w_draw_4 : True := by
  k_with "call builtin:len" => ((k_here; k_dflt (refine' len_K ?zzk1 ?zzk2 ?zzk3 ?zzk4 ?_; (case zzk1 => k_asm); (case zzk2 => k_mem); (case zzk3 => assumption); (case zzk4 => omega))))
  k_with "subscriptTail" => ((k_here; (with_reducible show wpAny _ _ (subscriptTail _ (PySem.Expr.BinOp _ _ _ _) (Value.ref _) (Value.int _ _)) _ _ _); k_dflt (refine' item_K ?zzk1 ?zzk2 ?zzk3 ?zzk4 ?zzk5 ?zzk6 ?_ ?zzk7; (case zzk1 => k_asm); (case zzk2 => k_mem); (case zzk3 => assumption); (case zzk4 => omega); (case zzk5 => omega); (case zzk6 => omega); (case zzk7 => with_unfolding_all rfl)); intro x9 t9))
  k_with "subscriptTail" => ((k_here; (with_reducible show wpAny _ _ (subscriptTail _ (PySem.Expr.Slice _ _ none _) (Value.ref _) (Value.ref _)) _ _ _); k_dflt (refine' slc_K ?zzF ?zzN ?zzm ?zzi ?zzl ?zzp ?zzq ?zzy ?_ ?zzs ?zzt; (case zzF => k_asm); (case zzN => k_asm); (case zzm => k_mem); (case zzi => assumption); (case zzl => omega); (case zzp => kmk_part); (case zzq => kmk_part); (case zzy => decide); (case zzs => with_unfolding_all rfl); (case zzt => kmk_pure)); intro D' ws' h' F' N' l1 hI'; (try k_lt l1)))
  k_with "call builtin:sum" => ((k_here; k_dflt (refine' sum_K ?zzk0 ?zzk1 ?zzk2 ?zzk3 ?zzk4 ?_; (case zzk0 => with_unfolding_all rfl); (case zzk1 => k_asm); (case zzk2 => k_asm); (case zzk3 => k_mem); (case zzk4 => assumption)); intro x9 h' tk' t' F' N'))
  k_with "compareOp NotEq ref ref" => ((k_here; k_dflt (refine' nenil_K ?zzN ?zzd ?zzl ?zzi ?zzu ?_; (case zzN => k_asm); (case zzd => k_mem); (case zzl => k_mem); (case zzi => assumption); (case zzu => walk_at "mine units"))))
  k_with "exec If" => ((k_here; (fail_if_success (with_reducible show wpAny _ _ _ (JoinS _ _ _ _ _ _) _ _)); (with_reducible show wpAny _ _ (exec (Stmt.If (PySem.Expr.Compare _ [CmpOp.NotEq] _ _) _ _ _) _) _ _ _); (refine' join_s (Str.ofString "cell") ?zzF ?zzN ?_ ?_; (case zzF => k_asm); (case zzN => k_asm)); rotate_left; intro c9 t9 h9 tk9 F9 N9; (try dsimp only); (try k_sweep)))
  k_with "JoinS" => ((k_here; k_dflt (first | (refine' JoinS.stored ?zzF ?zzN ?zzS; (case zzF => k_asm); (case zzN => assumption); (case zzS => kcj_all)) | (refine' JoinS.kept ?zzF ?zzy ?zzN ?zzS; (case zzF => k_asm); (case zzy => exact rfl); (case zzN => assumption); (case zzS => kcj_all)))))
  k_with "isTrue BoolOp" => ((k_here; (fail_if_success (with_reducible show wpAny _ _ _ (JoinE _ _ _ _ _ _) _ _)); (refine' join_v ?zzF ?zzN (fun _ => True) ?_ ?_; (case zzF => k_asm); (case zzN => k_asm)); rotate_left; intro v9 h9 tk9 T9 F9 N9; (try dsimp only)))
  k_with "JoinE" => ((k_here; (refine' JoinE.intro ?zzF ?zzN ?zzS ?zzp; (case zzF => k_asm); (case zzN => assumption); (case zzS => first | with_reducible exact fun p h => h | kcj_all); (case zzp => exact True.intro))))
  trivial
theorem c_draw (w : World) (mean : Mn) (mg mb : Nm) (P C : Addr) (spot p2 many : Int) (t1 t2 t3 : Tok) (kP kC : Nat) (vs : List Value) (ns : List Int) (hne : P ≠ C) (hi : IntsAre vs ns) (hl : ns.length ≤ 40) (h0 : 0 ≤ spot) (h1 : spot ≤ 1000) (hm : 0 < many) (hm1 : many ≤ 1000000) :
    CtrG w mean mg mb none 149 [.ref P, .int many t3] 4 200 [(P, listOf #[.ref C, .int spot t1, .int p2 t2] kP), (C, listOf vs.toArray kC)]
      (fun v n => ∃ r t spot' p2' t1' t2' kP', v = .int r t ∧ 0 ≤ r ∧ r < many ∧ 0 ≤ spot' ∧ spot' ≤ spot + 1 ∧ n = [(P, listOf #[.ref C, .int spot' t1', .int p2' t2'] kP'), (C, listOf vs.toArray kC)]) := by
  intro dp un gd cn cs a ccd cl outer A₀ base h₀ L m s Q E hB hF hK hN hT hk hdp hun hret
  walk_at "mine startG"
  k_steps
  all_goals try (exfalso; have z9 : ns = [] := List.length_eq_zero_iff.mp (by omega); contradiction)
  all_goals (refine' ret_useG (by assumption) (by assumption) ?kP ?kF ?kN ?kF2 ?kN2 ?kS; (case kF => k_asm); (case kN => assumption); (case kF2 => k_asm); (case kN2 => assumption); first | ((case kS => exact fun p h => h); (case kP => (refine ⟨_, _, _, _, _, _, _, rfl, ?_, ?_, ?_, ?_, rfl⟩ <;> omega))) | ((case kS => exact fun p h => List.Mem.tail _ h); (case kP => (refine ⟨_, _, _, _, _, _, _, rfl, ?_, ?_, ?_, ?_, rfl⟩ <;> omega))))
end
section
theorem said_x_pick_1 : True := by
  k_with_none
  trivial
theorem said_x_pick_2 : True := by
  k_with "mine room" => (first | exact ro0 (by assumption) | exact ro2 (by assumption) (by rfl) | exact ro1 (by assumption) (by rfl) | exact Nat.lt_of_succ_le (Nat.le_of_ble_eq_true (by rfl)) | ktr_room)
  k_with "mine units" => (first | exact ro2 (by assumption) (by rfl) | exact ro1 (by assumption) (by rfl) | exact Nat.lt_of_succ_le (Nat.le_of_ble_eq_true (by rfl)) | ktr_units)
  k_with "mine enterG" => ((refine wpAny_call ?_; refine' code_defG ?zzk1 ?zzk2 ?zzk3 ?zzk4 ?zzk5 ?zzkA ?zzkF ?zzkK ?zzk6 ?zzk7 ?zzk8 ?zzk9 ?zzkB ?_ ?zzc2 ?zzc3 ?zzc4 ?zzc5; (case zzkA => exact rfl); (case zzkF => exact rfl); (case zzkK => assumption); (case zzk1 => k_asm); (case zzk2 => k_asm); (case zzk3 => k_asm); (case zzk4 => k_asm); (case zzk5 => k_asm); (case zzk6 => k_is); (case zzk7 => k_is); (case zzk8 => walk_at "mine room"); (case zzk9 => first | exact BindsTo.of_eq rfl | exact binds_K (by k_in) rfl (by k_is) rfl rfl rfl); (case zzc5 => decide); (case zzkB => exact locs rfl); (case zzc2 => exact rfl); (case zzc3 => exact rfl); (case zzc4 => exact rfl); k_whole; intro g' L' h' FG' F' N' B' X' T' kG'; (try dsimp only); (try k_lift B'); (try k_fold)))
  k_with "mine startG" => (k_dflt (walk_at "mine enterG"))
  k_with "execs cons" => ((k_here; (with_reducible show wpAny _ _ (execs (_ :: _) _) _ _ { heap := _, gens := _, drawn := _, toks := _ + 1, os := _ }); refine tok_any ?_; intro tkA; (try dsimp only)))
  trivial
theorem len_any {prog : Program} {w : World} {A : Around} {E : Value → Shared → Prop} {s : Shared} {h₀ : Heap} {L l : Addr} {news : Led} {vs : List Value} {n : Nat} {Q : Value → Shared → Prop} (N : News h₀ L s.heap news) (hm : (l, listOf vs.toArray n) ∈ news) (hl : vs.length ≤ 1000)
    (h : Q (.int (vs.length : Int) (s.toks + 1)) { s with toks := s.toks + 1 + 1 }) : wpAny (model prog w) A (call (.builtin "len") [.ref l]) Q E s := by
  have e : vs.toArray.size = vs.length := by simp
  refine PyProof.Rows.len_list (PySem.IsL.isList (n := n) (N _ hm).1) (by rw [e]; omega) ?_
  rw [e]; exact h
theorem item_any {prog : Program} {w : World} {A : Around} {E : Value → Shared → Prop} {s : Shared} {h₀ : Heap} {L l : Addr} {news : Led} {value slice : PySem.Expr} {vs : List Value} {n : Nat} {k : Int} {u : Tok} {Q : Value → Shared → Prop} (N : News h₀ L s.heap news) (hm : (l, listOf vs.toArray n) ∈ news) (h0 : 0 ≤ k) (h1 : k < vs.length) (hl : vs.length ≤ 1000) (h : ∀ x, vs[k.toNat]? = some x → Q x s)
    (hs : subscripted slice false (.ref l) (.int k u) = operate [.ref l, .int k u] (getItem (.ref l) (.int k u))) (hg : ∀ r, letTemporaryGo value (.ref l) r = pure ()) :
    wpAny (model prog w) A (subscriptTail value slice (.ref l) (.int k u)) Q E s := by
  have hx : vs[k.toNat]? = some (vs[k.toNat]'(by omega)) := List.getElem?_eq_getElem _
  exact item_listL (PySem.IsL.isList (n := n) (N _ hm).1) h0 (by omega) hx (h _ hx) hs hg
noncomputable def penO (C : Addr) (spot : Int) (t1 : Tok) (p2 : Int) (t2 : Tok) (kP : Nat) : Obj := listOf #[.ref C, .int spot t1, .int p2 t2] kP
theorem c_draw2 (w : World) (mean : Mn) (mg mb : Nm) (P C S : Addr) (spot p2 many : Int) (t1 t2 t3 : Tok) (kP kC : Nat) (vs : List Value) (ns : List Int) (oS : Obj) (hne : P ≠ C) (hPS : P ≠ S) (hCS : C ≠ S) (hi : IntsAre vs ns) (hl : ns.length ≤ 40) (h0 : 0 ≤ spot) (h1 : spot ≤ 1000) (hm : 0 < many) (hm1 : many ≤ 1000000) :
    Ctr w mean mg mb none 149 [.ref P, .int many t3] 4 200 [(P, listOf #[.ref C, .int spot t1, .int p2 t2] kP), (C, listOf vs.toArray kC), (S, oS)]
      (fun v n => ∃ r t spot' p2' t1' t2' kP', v = .int r t ∧ 0 ≤ r ∧ r < many ∧ 0 ≤ spot' ∧ spot' ≤ spot + 1 ∧ n = [(P, listOf #[.ref C, .int spot' t1', .int p2' t2'] kP'), (C, listOf vs.toArray kC), (S, oS)]) := by
  have z := ctr_of_G (rest := [(S, oS)]) (c_draw w mean mg mb P C spot p2 many t1 t2 t3 kP kC vs ns hne hi hl h0 h1 hm hm1) (by
    intro p hp q hq
    rcases List.mem_singleton.mp hq with rfl
    rcases List.mem_cons.mp hp with rfl | hp
    · exact hPS
    · rcases List.mem_singleton.mp hp with rfl; exact hCS)
  intro dp un gd cn cs a ccd cl outer A₀ base h₀ L m s Q E hB hF hK hN hT hk hdp hun hret
  refine z dp un gd cn cs a ccd cl outer A₀ base h₀ L m s Q E hB hF hK hN hT hk hdp hun ?_
  rintro v n h' tk' ⟨n', rfl, ⟨r, t, spot', p2', t1', t2', kP', e1, e2, e3, e4, e5, rfl⟩, _⟩ hF' hN'
  exact hret v _ h' tk' ⟨r, t, spot', p2', t1', t2', kP', e1, e2, e3, e4, e5, rfl⟩ hF' hN'
theorem said_x_pick_3 : True := by
  k_with "call ref" => ((k_here; (with_reducible show wpAny _ _ (call (Value.ref 149) _) _ _ _); k_dflt (refine' ctr_use (c_draw2 _ _ _ _ _ _ _ _ _ _ _ _ _ _ _ _ _ _ ?zzz1 ?zzz2 ?zzz3 ?zzz4 ?zzz5 ?zzz6 ?zzz7 ?zzz8 ?zzz9) ?zzk1 ?zzk2 ?zzk3 ?zzk4 ?zzk5 ?zzkK ?zzkd ?zzku ?_; (case zzk1 => k_asm); (case zzk2 => k_asm); (case zzk3 => k_asm); (case zzk4 => k_asm); (case zzz1 => assumption); (case zzz2 => assumption); (case zzz3 => assumption); (case zzz4 => assumption); (case zzz5 => omega); (case zzz6 => omega); (case zzz7 => omega); (case zzz8 => omega); (case zzz9 => omega); (case zzk5 => k_asm); (case zzkK => first | exact rfl | assumption); (case zzkd => walk_at "mine room"); (case zzku => walk_at "mine units"); intro v9 n9 h9 tk9 P9 F9 N9; obtain ⟨r9, t9, spot9, p29, t19, t29, kP9, e9, e1, e2, e3, e4, e9'⟩ := P9; subst e9; subst e9'; (try dsimp only); (try k_fold))))
  k_with "call builtin:len" => ((k_here; k_dflt (refine' len_any ?zzk1 ?zzk2 ?zzk4 ?_; (case zzk1 => k_asm); (case zzk2 => k_mem); (case zzk4 => omega))))
  k_with "subscriptTail" => ((k_here; (with_reducible show wpAny _ _ (subscriptTail _ _ (Value.ref _) (Value.int _ _)) _ _ _); k_dflt (refine' item_any ?zzk1 ?zzk2 ?zzk4 ?zzk5 ?zzk6 ?_ ?zzk7 ?zzk8; (case zzk1 => k_asm); (case zzk2 => k_mem); (case zzk4 => omega); (case zzk5 => omega); (case zzk6 => omega); (case zzk7 => with_unfolding_all rfl); (case zzk8 => kmk_pure)); intro x9 hx9))
  trivial
theorem c_pick (w : World) (mean : Mn) (mg mb : Nm) (P C S : Addr) (spot p2 : Int) (t1 t2 : Tok) (kP kC kS : Nat) (vs its : List Value) (ns : List Int) (hne : P ≠ C) (hPS : P ≠ S) (hCS : C ≠ S) (hi : IntsAre vs ns) (hl : ns.length ≤ 40) (h0 : 0 ≤ spot) (h1 : spot ≤ 1000) (hz0 : 0 < its.length) (hz : its.length ≤ 1000) :
    CtrG w mean mg mb none 156 [.ref P, .ref S] 6 220 [(P, listOf #[.ref C, .int spot t1, .int p2 t2] kP), (C, listOf vs.toArray kC), (S, listOf its.toArray kS)]
      (fun v n => ∃ spot' p2' t1' t2' kP', v ∈ its ∧ 0 ≤ spot' ∧ spot' ≤ spot + 1 ∧ n = [(P, listOf #[.ref C, .int spot' t1', .int p2' t2'] kP'), (C, listOf vs.toArray kC), (S, listOf its.toArray kS)]) := by
  intro dp un gd cn cs a ccd cl outer A₀ base h₀ L m s Q E hB hF hK hN hT hk hdp hun hret
  walk_at "mine startG"
  k_steps
  refine' ret_useG (by assumption) (by assumption) ?kP ?kF ?kN ?kF2 ?kN2 ?kS
  case kF => k_asm
  case kN => assumption
  case kF2 => k_asm
  case kN2 => assumption
  case kS => exact fun p h => h
  case kP => exact ⟨_, _, _, _, _, List.mem_of_getElem? (by assumption), by assumption, by assumption, rfl⟩
end
section
theorem said_x_pen_1 : True := by
  k_with_none
  trivial
theorem said_x_pen_2 : True := by
  k_with "mine room" => (first | exact ro0 (by assumption) | exact ro2 (by assumption) (by rfl) | exact ro1 (by assumption) (by rfl) | exact Nat.lt_of_succ_le (Nat.le_of_ble_eq_true (by rfl)) | ktr_room)
  k_with "mine enterG" => ((refine wpAny_call ?_; refine' code_defG ?zzk1 ?zzk2 ?zzk3 ?zzk4 ?zzk5 ?zzkA ?zzkF ?zzkK ?zzk6 ?zzk7 ?zzk8 ?zzk9 ?zzkB ?_ ?zzc2 ?zzc3 ?zzc4 ?zzc5; (case zzkA => exact rfl); (case zzkF => exact rfl); (case zzkK => assumption); (case zzk1 => k_asm); (case zzk2 => k_asm); (case zzk3 => k_asm); (case zzk4 => k_asm); (case zzk5 => k_asm); (case zzk6 => k_is); (case zzk7 => k_is); (case zzk8 => walk_at "mine room"); (case zzk9 => first | exact BindsTo.of_eq rfl | exact binds_K (by k_in) rfl (by k_is) rfl rfl rfl); (case zzc5 => decide); (case zzkB => exact locs rfl); (case zzc2 => exact rfl); (case zzc3 => exact rfl); (case zzc4 => exact rfl); k_whole; intro g' L' h' FG' F' N' B' X' T' kG'; (try dsimp only); (try k_lift B'); (try k_fold)))
  k_with "mine startG" => (k_dflt (walk_at "mine enterG"))
  k_with "execs cons" => ((k_here; (with_reducible show wpAny _ _ (execs (_ :: _) _) _ _ { heap := _, gens := _, drawn := _, toks := _ + 1, os := _ }); refine tok_any ?_; intro tkA; (try dsimp only)))
  trivial
section
open PyProof.Rows.LCg
variable {prog : Program} {w : World} {A : Around} {E : Value → Shared → Prop} {s : Shared} {h₀ : Heap} {L : Addr} {m : Nm} {env : Env}
theorem restU_ind {elt : PySem.Expr} {x : Str} {scope : Scope} {cl : List (Str × Addr)} {S : Led → Prop} {P : Nat → Value → Prop} {Fin : List Value → Led → Prop} (n : Nat) (J : Nat → List Value → Led → Prop)
    (hstep : ∀ i ys news, i < n → J i ys news → ∀ v I oI C oC D m₂ h tk (E' : Value → Shared → Prop), P i v → NsObj oC m₂ → m₂ x = some v → Fr h₀ L h m → News h₀ L h ((I, oI) :: (C, oC) :: (D, lst ys) :: news) → Off3 I C D news → ((@Ne Nat I C) ∧ (@Ne Nat I D) ∧ (@Ne Nat C D)) →
      wpAny (model prog w) A (eval elt (compEnvC scope cl C env)) (CompEnd h₀ L m { s with heap := h, toks := tk } I oI C oC D (lst ys) S (fun y news' => J (i + 1) (ys ++ [y]) news')) E' { s with heap := h, toks := tk })
    (hfin : ∀ ys news, J n ys news → Fin ys news) : ∀ k i ys news, i + k = n → J i ys news → CompRest prog w A h₀ L m env elt x scope cl s S P Fin k i ys news := by
  intro k
  induction k with
  | zero => intro i ys news e j; exact CompRest.zero (hfin _ _ (by obtain rfl : i = n := e; exact j))
  | succ k ih =>
    intro i ys news e j
    refine CompRest.succ fun v I oI C oC D m₂ h tk E' p1 p2 p3 p4 p5 p6 p7 => ?_
    refine wpAny_mono (hstep i ys news (by omega) j v I oI C oC D m₂ h tk E' p1 p2 p3 p4 p5 p6 p7) (fun y s₂ hy => ?_) fun _ _ e => e
    obtain ⟨h', tk', news', e1, e2, e3, e4, e5, e6⟩ := hy
    exact ⟨h', tk', news', e1, e2, e3, e4, e5, ih _ _ _ (by omega) e6⟩
theorem srcU_ints {elt : PySem.Expr} {x : Str} {scope : Scope} {cl : List (Str × Addr)} {Q : Value → Shared → Prop} {ax : Addr} {vs : List Value} {ns : List Int} {k : Nat} {news : Led} {s₁ : Shared}
    (hh : A.handled = none) (F : Fr h₀ L s₁.heap m) (N : News h₀ L s₁.heap news) (hm : (ax, listOf vs.toArray k) ∈ news) (hi : IntsAre vs ns) (hsz : ns.length ≤ 1000)
    (hstep : ∀ (g : Heap) (c : Int) (u : Tok) ys I oI C oC D m₂ h tk (E' : Value → Shared → Prop), NsObj oC m₂ → m₂ x = some (.int c u) → Fr h₀ L h m → News h₀ L h ((I, oI) :: (C, oC) :: (D, lst ys) :: news) → Off3 I C D news → ((@Ne Nat I C) ∧ (@Ne Nat I D) ∧ (@Ne Nat C D)) →
      wpAny (model prog w) A (eval elt (compEnvC scope cl C env)) (CompEnd h₀ L m { s₁ with heap := h, toks := tk } I oI C oC D (lst ys) (SrcAt h₀ ax vs.toArray) (fun y nw => (∃ u', y = .int c u') ∧ nw = news)) E' { s₁ with heap := h, toks := tk })
    (hfin : ∀ g ys, IntsAre ys ns → FinE h₀ L m { s₁ with heap := g } Q ys news) :
    CompSrc prog w A h₀ L m env elt x scope cl (fun s₂ => FinE h₀ L m s₂ Q) (.ref ax) s₁ := by
  have hlen : vs.toArray.size = ns.length := by rw [← hi.length]; simp
  refine CompSrc.ledger (k := k) hh F N hm (by rw [hlen, sizeLine_eq]; omega) fun g => ?_
  refine restU_ind vs.toArray.size (fun j ys nw => IntsAre ys (ns.take j) ∧ nw = news) ?_ ?_ vs.toArray.size 0 [] news (Nat.zero_add _) ⟨IntsAre.nil, rfl⟩
  · rintro i ys nw hi' ⟨hy, rfl⟩ v I oI C oC D m₂ h tk E' p1 p2 p3 p4 p5 p6 p7
    obtain ⟨c, u, rfl, hc⟩ := ints_at hi (show vs[i]? = some v by simpa using p1)
    refine wpAny_mono (hstep g c u ys I oI C oC D m₂ h tk E' p2 p3 p4 p5 p6 p7) (fun y s₂ hq => ?_) fun _ _ e => e
    obtain ⟨h', tk', nw', e1, e2, e3, e4, e5, ⟨u', e6⟩, e7⟩ := hq
    refine ⟨h', tk', nw', e1, e2, e3, e4, e5, ?_, e7⟩
    rw [e6, List.take_add_one, hc]
    exact IntsAre.append hy (.cons _ _ .nil)
  · rintro ys nw ⟨hy, rfl⟩
    rw [hlen, List.take_length] at hy
    exact hfin g ys hy
end
theorem slc_base {prog : Program} {w : World} {A : Around} {E : Value → Shared → Prop} {s : Shared} {h₀ : Heap} {L l : Addr} {m : Nm} {news : Led} {value slice : PySem.Expr} {vs : List Value} {ns : List Int} {vl vu : Value} {y : Int} {Q : Value → Shared → Prop} (hl₀ : h₀.IsList l vs.toArray) (F : Fr h₀ L s.heap m) (N : News h₀ L s.heap news) (hi : IntsAre vs ns) (hl : ns.length ≤ 1000) (pl : IsPart vl none) (pu : IsPart vu (some y)) (hy : 0 ≤ y)
    (h : ∀ D ws h', Fr h₀ L h' m → News h₀ L h' ((D, listOf (List.toArray ws) 0) :: news) → (∀ p ∈ news, p.1 < D) → IntsAre ws (ns.take y.toNat) → Q (.ref D) { s with heap := h' })
    (hs : subscripted slice false (.ref l) (.ref s.heap.objs.size) = operate [.ref s.heap.objs.size, .ref l] (getItem (.ref l) (.ref s.heap.objs.size))) (ht : ∀ r, letTemporaryGo value (.ref l) r = pure ()) :
    wpAny (model prog w) A (subscriptTail value slice (.ref l) (.ref s.heap.objs.size)) Q E { s with heap := s.heap.push { cls := .type "slice", data := .fields #[vl, vu, .none] } } := by
  have := hi.length
  refine kmk_slice_ints F N (F.lst hl₀) pl pu hi (kmk_upto hi hy) rfl (fun D ws h' F' N' l1 i1 _ _ => h D ws h' F' N' l1 i1) hs ht ?_
  rw [sizeLine_eq]; simp; omega
theorem said_x_pen_3 : True := by
  k_with "subscriptTail" => ((k_here; (with_reducible show wpAny _ _ (subscriptTail _ (PySem.Expr.Slice _ _ none _) (Value.ref _) (Value.ref _)) _ _ _); k_dflt (refine' slc_base ?zzB ?zzF ?zzN ?zzi ?zzl ?zzp ?zzq ?zzy ?_ ?zzs ?zzt; (case zzB => assumption); (case zzF => k_asm); (case zzN => k_asm); (case zzi => assumption); (case zzl => omega); (case zzp => kmk_part); (case zzq => kmk_part); (case zzy => decide); (case zzs => with_unfolding_all rfl); (case zzt => kmk_pure)); intro D' ws' h' F' N' l1 hI'; (try k_lt l1)))
  k_with "eval ListComp" => ((k_here; k_dflt (refine LCg.ListComp_U (F₀ := by k_asm) (by with_unfolding_all rfl) (by decide) (by rfl) (by decide) (by rfl) ?_)))
  trivial
theorem two_of {α : Type} {x y z : α} : ∀ p ∈ [x, y], p ∈ [x, y, z] := by
  intro p h
  rcases List.mem_cons.mp h with rfl | h
  · exact .head _
  · rcases List.mem_singleton.mp h with rfl; exact .tail _ (.head _)
theorem gsub_list {H g : Heap} {a : Addr} {its : Array Value} (G : GSub H g (List.map (fun x => x.fst) ([] : Led))) (h : H.IsList a its) : g.IsList a its := by
  obtain ⟨o, e, r⟩ := h
  exact ⟨o, G _ o e (by intro h; cases h), r⟩
theorem said_x_pen_4 : True := by
  k_with "CompSrc" => ((k_here; k_dflt (refine' srcU_ints ?zza ?zzb ?zzc ?zzd ?zze ?zzf ?_ ?_; (case zza => rfl); (case zzb => k_asm); (case zzc => k_asm); (case zzd => k_mem); (case zze => assumption); (case zzf => (try simp only [List.length_take]); omega)); (try (intro g' c' u' ys' I' oI' C' oC' D' m' h' tk' E' hC' hx' F' N' off' ne'; (try simp only [LCg.Off3, and_true] at off'))); (try (intro g' ys' hy'))))
  trivial
theorem c_pen (w : World) (mean : Mn) (mg mb : Nm) (a₀ : Addr) (vs : List Value) (ns : List Int) (hi : IntsAre vs ns) (hl : ns.length ≤ 1000) :
    CtrX w mean mg mb (fun h => h.IsList a₀ vs.toArray) none 142 [.ref a₀] 4 200 []
      (fun v n => ∃ P C ws ks t1 t2 kP kC, v = .ref P ∧ P ≠ C ∧ IntsAre ws ks ∧ ks.length ≤ 40 ∧ n = [(P, listOf #[.ref C, .int 0 t1, .int 0 t2] kP), (C, listOf ws.toArray kC)]) := by
  intro dp un gd cn cs a ccd cl outer A₀ base h₀ L m s Q E hB hF hK hN hT hk hdp hun hX hret
  walk_at "mine startG"
  rename GSub _ _ _ => kG0
  have hXg := gsub_list kG0 hX
  k_steps
  refine' ret_useG (by assumption) (by assumption) ?kP ?kF ?kN ?kF2 ?kN2 ?kS
  case kF => k_asm
  case kN => assumption
  case kF2 => k_asm
  case kN2 => assumption
  case kS => exact two_of
  case kP => k_dflt exact ⟨_, _, _, _, _, _, _, _, rfl, neN (by omega), by assumption, by rw [List.length_take]; exact Nat.min_le_left _ _, rfl⟩
end
section
theorem pen_use {w : World} {mean : Mn} {mg mb : Nm} {a₀ : Addr} {vs : List Value} {ns : List Int} {rest : Led} {dp un : Nat} {gd : Option (List Code)} {cn : Str} {cs : Scope} {a : Addr} {ccd : Value} {cl : List (Str × Addr)} {outer : List Env} {A₀ : Around} {base h₀ : Heap} {L : Addr} {m : Nm} {s : Shared} {Q E : Value → Shared → Prop}
    (hi : IntsAre vs ns) (hl : ns.length ≤ 1000) (hB : Below A₀ base outer h₀) (hF : Fr h₀ L s.heap m) (hK : (hd.heap_39 w.params).In h₀) (hN : News h₀ L s.heap rest) (hT : Top hd.view_39 LS mean mg mb h₀) (hk : cs.kind = .function) (hdp : dp + 4 < recursionLimit) (hun : un + 200 < cLine) (hX : h₀.IsList a₀ vs.toArray)
    (hret : ∀ (P C : Addr) ws ks t1 t2 kP kC (h' : Heap) (tk' : Nat), @Ne Nat P C → IntsAre ws ks → ks.length ≤ 40 → Fr h₀ L h' m → News h₀ L h' ((P, listOf #[.ref C, .int 0 t1, .int 0 t2] kP) :: (C, listOf ws.toArray kC) :: rest) → AllNe P rest → AllNe C rest → Q (.ref P) { s with heap := h', toks := tk' }) :
    wpAny (model PG w) (topA none dp un gd cn cs L a ccd cl outer) (call (.ref 142) [.ref a₀]) Q E s := by
  refine c_pen w mean mg mb a₀ vs ns hi hl dp un gd cn cs a ccd cl outer A₀ base h₀ L m s Q E hB hF hK (fun _ h => nomatch h) hT hk hdp hun (hF.lst hX) ?_
  rintro v n' h' tk' ⟨P, C, ws, ks, t1, t2, kP, kC, rfl, hPC, hks, hkl, rfl⟩ hF' hN' K
  have new : ∀ p ∈ [(P, listOf #[.ref C, .int 0 t1, .int 0 t2] kP), (C, listOf ws.toArray kC)], ∀ q ∈ rest, p.1 ≠ q.1 := by
    intro p hp q hq e
    rcases K.2 p hp with z | z
    · cases z
    · have := (hN q hq).1; rw [e, this] at z; cases z
  refine hret P C ws ks t1 t2 kP kC h' tk' hPC hks hkl hF' (fun p hp => ?_) (allNe_of fun q hq => new _ (.head _) q hq) (allNe_of fun q hq => new _ (.tail _ (.head _)) q hq)
  rcases List.mem_cons.mp hp with rfl | hp
  · exact hN' _ (.head _)
  rcases List.mem_cons.mp hp with rfl | hp
  · exact hN' _ (.tail _ (.head _))
  · have z := hN p hp
    exact ⟨K.1 _ _ z.1 (by intro h; cases h), z.2⟩
theorem upd_news {h₀ H h' : Heap} {L P : Addr} {o o' : Obj} {rest news n' : Led} {F : Obj → Led} (U : UpdF P o news F) (hN : News h₀ L H news) (hs : ∀ p ∈ rest, p ∈ news) (hN' : News h₀ L h' ((P, o') :: rest)) (K : Kept H h' ((P, o) :: rest) n') : News h₀ L h' (F o') := by
  obtain ⟨pre, post, rfl, hg, ha, hb⟩ := U.split
  rw [hg]
  have go : ∀ q ∈ pre ++ (P, o) :: post, q.1 ≠ P → h'.get? q.1 = some q.2 ∧ q.1 ≠ L ∧ h₀.get? q.1 = none := by
    intro q hq hne
    have z := hN q hq
    by_cases hm : q.1 ∈ rest.map (·.1)
    · obtain ⟨q', hq', e⟩ := List.mem_map.mp hm
      have z' := (hN q' (hs q' hq')).1
      rw [e, z.1] at z'
      have e2 : q' = q := Prod.ext e (Option.some.inj z').symm
      rw [← e2]; exact hN' q' (.tail _ hq')
    · refine ⟨K.1 _ _ z.1 ?_, z.2⟩
      intro h
      rcases List.mem_cons.mp h with h | h
      · exact hne h
      · exact hm h
  intro q hq
  rcases List.mem_append.mp hq with hq | hq
  · exact go q (List.mem_append_left _ hq) (ha q hq)
  · rcases List.mem_cons.mp hq with rfl | hq
    · exact hN' _ (.head _)
    · exact go q (List.mem_append_right _ (.tail _ hq)) (hb q hq)
section
variable {w : World} {mean : Mn} {mg mb : Nm} {dp un : Nat} {gd : Option (List Code)} {cn : Str} {cs : Scope} {a : Addr} {ccd : Value} {cl : List (Str × Addr)} {outer : List Env} {A₀ : Around} {base h₀ : Heap} {L : Addr} {m : Nm} {s : Shared} {Q E : Value → Shared → Prop} {P C S : Addr} {spot p2 many : Int} {t1 t2 t3 : Tok} {kP kC kS : Nat} {vs its : List Value} {ns : List Int} {news : Led} {F : Obj → Led}
theorem draw_use (U : UpdF P (listOf #[.ref C, .int spot t1, .int p2 t2] kP) news F) (hC : (C, listOf vs.toArray kC) ∈ news) (hne : P ≠ C) (hi : IntsAre vs ns) (hl : ns.length ≤ 40) (h0 : 0 ≤ spot) (h1 : spot ≤ 1000) (hm : 0 < many) (hm1 : many ≤ 1000000)
    (hB : Below A₀ base outer h₀) (hF : Fr h₀ L s.heap m) (hK : (hd.heap_39 w.params).In h₀) (hN : News h₀ L s.heap news) (hT : Top hd.view_39 LS mean mg mb h₀) (hk : cs.kind = .function) (hdp : dp + 4 < recursionLimit) (hun : un + 200 < cLine)
    (hret : ∀ r t spot' p2' t1' t2' kP' (h' : Heap) (tk' : Nat), 0 ≤ r → r < many → 0 ≤ spot' → spot' ≤ spot + 1 → Fr h₀ L h' m → News h₀ L h' (F (listOf #[.ref C, .int spot' t1', .int p2' t2'] kP')) → Q (.int r t) { s with heap := h', toks := tk' }) :
    wpAny (model PG w) (topA none dp un gd cn cs L a ccd cl outer) (call (.ref 149) [.ref P, .int many t3]) Q E s := by
  refine c_draw w mean mg mb P C spot p2 many t1 t2 t3 kP kC vs ns hne hi hl h0 h1 hm hm1 dp un gd cn cs a ccd cl outer A₀ base h₀ L m s Q E hB hF hK (fun p hp => ?_) hT hk hdp hun ?_
  · rcases List.mem_cons.mp hp with rfl | hp
    · obtain ⟨pre, post, e, hg, ha, hb⟩ := U.split
      exact hN _ (by rw [e]; exact List.mem_append_right _ (.head _))
    · rcases List.mem_singleton.mp hp with rfl; exact hN _ hC
  · rintro v n' h' tk' ⟨r, t, spot', p2', t1', t2', kP', rfl, e1, e2, e3, e4, rfl⟩ hF' hN' K
    exact hret r t spot' p2' t1' t2' kP' h' tk' e1 e2 e3 e4 hF' (upd_news U hN (fun p hp => by rcases List.mem_singleton.mp hp with rfl; exact hC) hN' K)
theorem pick_use (U : UpdF P (listOf #[.ref C, .int spot t1, .int p2 t2] kP) news F) (hC : (C, listOf vs.toArray kC) ∈ news) (hS : (S, listOf its.toArray kS) ∈ news) (hne : P ≠ C) (hPS : P ≠ S) (hCS : C ≠ S) (hi : IntsAre vs ns) (hl : ns.length ≤ 40) (h0 : 0 ≤ spot) (h1 : spot ≤ 1000) (hz0 : 0 < its.length) (hz : its.length ≤ 1000)
    (hB : Below A₀ base outer h₀) (hF : Fr h₀ L s.heap m) (hK : (hd.heap_39 w.params).In h₀) (hN : News h₀ L s.heap news) (hT : Top hd.view_39 LS mean mg mb h₀) (hk : cs.kind = .function) (hdp : dp + 6 < recursionLimit) (hun : un + 220 < cLine)
    (hret : ∀ v spot' p2' t1' t2' kP' (h' : Heap) (tk' : Nat), v ∈ its → 0 ≤ spot' → spot' ≤ spot + 1 → Fr h₀ L h' m → News h₀ L h' (F (listOf #[.ref C, .int spot' t1', .int p2' t2'] kP')) → Q v { s with heap := h', toks := tk' }) :
    wpAny (model PG w) (topA none dp un gd cn cs L a ccd cl outer) (call (.ref 156) [.ref P, .ref S]) Q E s := by
  refine c_pick w mean mg mb P C S spot p2 t1 t2 kP kC kS vs its ns hne hPS hCS hi hl h0 h1 hz0 hz dp un gd cn cs a ccd cl outer A₀ base h₀ L m s Q E hB hF hK (fun p hp => ?_) hT hk hdp hun ?_
  · rcases List.mem_cons.mp hp with rfl | hp
    · obtain ⟨pre, post, e, hg, ha, hb⟩ := U.split
      exact hN _ (by rw [e]; exact List.mem_append_right _ (.head _))
    · rcases List.mem_cons.mp hp with rfl | hp
      · exact hN _ hC
      · rcases List.mem_singleton.mp hp with rfl; exact hN _ hS
  · rintro v n' h' tk' ⟨spot', p2', t1', t2', kP', e1, e3, e4, rfl⟩ hF' hN' K
    exact hret v spot' p2' t1' t2' kP' h' tk' e1 e3 e4 hF' (upd_news U hN (fun p hp => by
      rcases List.mem_cons.mp hp with rfl | hp
      · exact hC
      · rcases List.mem_singleton.mp hp with rfl; exact hS) hN' K)
end
section
open PyProof.Rows.LCg
variable {prog : Program} {w : World} {A : Around} {E : Value → Shared → Prop} {s : Shared} {h₀ : Heap} {L : Addr} {m : Nm} {env : Env}
theorem srcU_picks {elt : PySem.Expr} {x : Str} {scope : Scope} {cl : List (Str × Addr)} {Q : Value → Shared → Prop} {R P C : Addr} {spot p2 b r : Int} {t1 t2 tr ta tu : Tok} {kP : Nat} {its : List Value} {news : Led} {F : Obj → Led} {s₁ : Shared}
    (hh : A.handled = none) (hF : Fr h₀ L s₁.heap m) (N : News h₀ L s₁.heap news) (U : UpdF P (listOf #[.ref C, .int spot t1, .int p2 t2] kP) news F) (hr : IsRange s₁.heap R 0 r 1 ta tr tu) (h0 : 0 ≤ spot) (hb : spot ≤ b) (r0 : 0 ≤ r) (r1 : r ≤ 10)
    (hstep : ∀ (g : Heap) spot' p2' t1' t2' kP' v ys I oI Cc oC D m₂ h tk (E' : Value → Shared → Prop), 0 ≤ spot' → spot' ≤ b + 10 → NsObj oC m₂ → m₂ x = some v → Fr h₀ L h m → News h₀ L h ((I, oI) :: (Cc, oC) :: (D, lst ys) :: F (listOf #[.ref C, .int spot' t1', .int p2' t2'] kP')) → Off3 I Cc D (F (listOf #[.ref C, .int spot' t1', .int p2' t2'] kP')) → ((@Ne Nat I Cc) ∧ (@Ne Nat I D) ∧ (@Ne Nat Cc D)) →
      wpAny (model prog w) A (eval elt (compEnvC scope cl Cc env)) (CompEnd h₀ L m { s₁ with heap := h, toks := tk } I oI Cc oC D (lst ys) (fun _ => True) (fun y nw => y ∈ its ∧ ∃ spot'' p2'' t1'' t2'' kP'', 0 ≤ spot'' ∧ spot'' ≤ spot' + 1 ∧ nw = F (listOf #[.ref C, .int spot'' t1'', .int p2'' t2''] kP''))) E' { s₁ with heap := h, toks := tk })
    (hfin : ∀ g ys spot' p2' t1' t2' kP', 0 ≤ spot' → spot' ≤ b + 10 → (∀ y ∈ ys, y ∈ its) → (ys.length : Int) ≤ 10 → FinE h₀ L m { s₁ with heap := g } Q ys (F (listOf #[.ref C, .int spot' t1', .int p2' t2'] kP'))) :
    CompSrc prog w A h₀ L m env elt x scope cl (fun s₂ => FinE h₀ L m s₂ Q) (.ref R) s₁ := by
  have hsz : Builtin.Range.rangeSize 0 r 1 = ((r.toNat : Nat) : Int) := by rw [rangeSize_nat, Int.sub_zero]
  have e0 : news = F (listOf #[.ref C, .int spot t1, .int p2 t2] kP) := by
    obtain ⟨pre, post, e, hg, _⟩ := U.split
    rw [hg, e]
  refine CompSrc.range (n := r.toNat) hh hF N hr (small_one (by decide) (by decide) (by omega) (by omega)) hsz (by rw [sizeLine_eq]; omega) fun g => ?_
  refine restU_ind r.toNat (fun j ys nw => (∀ y ∈ ys, y ∈ its) ∧ ys.length = j ∧ ∃ spot' p2' t1' t2' kP', 0 ≤ spot' ∧ spot' ≤ b + j ∧ nw = F (listOf #[.ref C, .int spot' t1', .int p2' t2'] kP')) ?_ ?_ r.toNat 0 [] news (Nat.zero_add _) ⟨(fun _ h => nomatch h), rfl, _, _, _, _, _, h0, by omega, e0⟩
  · rintro i ys nw hi' ⟨hy, hl, spot', p2', t1', t2', kP', q1, q2, rfl⟩ v I oI Cc oC D m₂ h tk E' p1 p2 p3 p4 p5 p6 p7
    refine wpAny_mono (hstep g spot' p2' t1' t2' kP' v ys I oI Cc oC D m₂ h tk E' q1 (by omega) p2 p3 p4 p5 p6 p7) (fun y s₂ hq => ?_) fun _ _ e => e
    obtain ⟨h', tk', nw', e1, e2, e3, e4, e5, e6, spot'', p2'', t1'', t2'', kP'', e7, e8, e9⟩ := hq
    refine ⟨h', tk', nw', e1, e2, e3, e4, e5, ?_, ?_, spot'', p2'', t1'', t2'', kP'', e7, by omega, e9⟩
    · intro z hz
      rcases List.mem_append.mp hz with hz | hz
      · exact hy z hz
      · rcases List.mem_singleton.mp hz with rfl; exact e6
    · rw [List.length_append, hl]; rfl
  · rintro ys nw ⟨hy, hl, spot', p2', t1', t2', kP', q1, q2, rfl⟩
    exact hfin g ys spot' p2' t1' t2' kP' q1 (by omega) hy (by omega)
end
end
section
namespace BC
open PySem.Builtin
theorem slot_count : Slot "bytes" "count" "bytes.count" :=
  .of (owner := "bytes") (n := "count") (by rw [typeLookup_type, builtinLookup_eq_fast]; kernel_rfl) (by decide +kernel) (by decide +kernel) (by decide +kernel)
    (by first | exact .inl (by decide +kernel) | exact .inr (by decide +kernel)) (by rw [isSubtype_type]; kernel_rfl)
theorem type_count : typeOf (.builtin "bytes.count") = pure (.type "method_descriptor") := by show builtinType _ = _; rw [builtinType_eq_fast]; kernel_rfl
theorem entry_count : entryFor table "bytes.count" = some Builtin.«bytes.count» := entryFor_of_tree (by kernel_rfl)
theorem args_count_2 (a b : Value) : argsOk "bytes.count" ⟨[a, b], []⟩ := by
  unfold argsOk; rw [signature?_of (id := "bytes.count") (n := ['t', 'n', 'u', 'o', 'c']) (o := ['s', 'e', 't', 'y', 'b']) (by kernel_rfl) FB.owner_bytes]; kernel_rfl
theorem slot_join : Slot "bytes" "join" "bytes.join" :=
  .of (owner := "bytes") (n := "join") (by rw [typeLookup_type, builtinLookup_eq_fast]; kernel_rfl) (by decide +kernel) (by decide +kernel) (by decide +kernel)
    (by first | exact .inl (by decide +kernel) | exact .inr (by decide +kernel)) (by rw [isSubtype_type]; kernel_rfl)
theorem type_join : typeOf (.builtin "bytes.join") = pure (.type "method_descriptor") := by show builtinType _ = _; rw [builtinType_eq_fast]; kernel_rfl
theorem entry_join : entryFor table "bytes.join" = some Builtin.«bytes.join» := entryFor_of_tree (by kernel_rfl)
theorem args_join_2 (a b : Value) : argsOk "bytes.join" ⟨[a, b], []⟩ := by
  unfold argsOk; rw [signature?_of (id := "bytes.join") (n := ['n', 'i', 'o', 'j']) (o := ['s', 'e', 't', 'y', 'b']) (by kernel_rfl) FB.owner_bytes]; kernel_rfl
section
variable {b c : Array UInt8} {t u : Tok}
theorem meets_count (hc : c.isEmpty = false) :
    Meets («bytes.count» ⟨[.bytes b t, .bytes c u], []⟩) (fun _ R s => ∀ n : Nat, n = (if b.size < c.size then 0 else (Bytes.occurrences b c 0 b.size).length) → R (.ok (.ret (.int n s.toks))) { s with toks := s.toks + 1 }) := by
  refine .of_wp fun prog w A R s hS => ?_
  show wpAny _ _ (Bytes.searchArgs .bytes "count" ⟨[.bytes b t, .bytes c u], []⟩ >>= fun r => _) _ _ s
  refine wpAny_bind ?_
  unfold Bytes.searchArgs
  show wpAny _ _ (Bytes.buffer? _ (.bytes c u) >>= fun r => _) _ _ s
  refine wpAny_bind (wpAny_of_eq KBy.buffer_eq ?_)
  refine wpAny_bind (wpAny_pure ?_)
  refine wpAny_bind (wpAny_of_eq (a := b) rfl ?_)
  refine wpAny_pure ?_
  simp only [Option.getD_none]
  rw [if_neg (Int.not_lt.mpr (Int.natCast_nonneg _) : ¬ ((b.size : Int) < 0)), if_neg (by decide : ¬ ((0 : Int) < 0))]
  rw [Int.min_self]
  by_cases h : b.size < c.size
  · rw [if_pos (by rw [Int.sub_zero]; exact Int.ofNat_lt.mpr h)]
    have z := hS 0 (by rw [if_pos h])
    exact wpAny_bind (wpAny_mkInt (wpAny_pure ⟨_, rfl, z⟩))
  · rw [if_neg (by rw [Int.sub_zero]; exact fun q => h (Int.ofNat_lt.mp q))]
    have z := hS _ (by rw [if_neg h])
    show wpAny _ _ (if c.isEmpty = true then _ else _) _ _ _
    rw [if_neg (by rw [hc]; decide)]
    exact wpAny_bind (wpAny_mkInt (wpAny_pure ⟨_, rfl, z⟩))
theorem special_buffer : specialOf (.bytes b t) "__buffer__" = pure (some (.builtin "bytes.__buffer__")) := KBy.special_eq KBy.look_buffer
theorem take_eq {id : String} : Bytes.takeBuffer? id (.bytes b t) 0 = pure (some (b, none)) := by
  unfold Bytes.takeBuffer?
  rw [special_buffer, KBy.own_buffer]
  have e : ((0 : Int) == Bytes.fullReadOnly) = false := by decide
  show (Bytes.buffer? id (.bytes b t) (full := (0 : Int) == Bytes.fullReadOnly) >>= fun r => _) = _
  rw [e, KBy.buffer_eq]
  rfl
theorem takeq_eq {id : String} : Bytes.takeBufferQuiet? id (.bytes b t) 0 = pure (some (b, none)) := by
  unfold Bytes.takeBufferQuiet?
  rw [take_eq]
  rfl
end
inductive BytesAre : List Value → List (Array UInt8) → Prop
  | nil : BytesAre [] []
  | cons (b : Array UInt8) (t : Tok) {vs bs} : BytesAre vs bs → BytesAre (.bytes b t :: vs) (b :: bs)
noncomputable def Tk (l : List (Value × Option Value)) : Prop := ∀ p ∈ l, ∃ c u, p = (.bytes c u, none)
theorem Tk.noHeap : ∀ {l : List (Value × Option Value)}, Tk l → (l.any fun x => x.1.onHeap) = false
  | [], _ => rfl
  | p :: r, h => by
    obtain ⟨c, u, rfl⟩ := h p (.head _)
    rw [List.any_cons, Tk.noHeap fun q hq => h q (.tail _ hq)]
    rfl
theorem wp_letGo {M : Model} {A : Around} {E : Value → Shared → Prop} {s : Shared} {Q : Unit → Shared → Prop} {x : Value} {keep : List Value} (h : Q () s) : wpAny M A (letGo [x] keep) Q E s := by
  show wpAny M A (holding ([] ++ keep) point >>= fun _ => letGo [] keep) Q E s
  exact wpAny_bind (wpAny_holding (wpAny_point (wpAny_pure h)))
theorem wp_joinLetGo {M : Model} {A : Around} {E : Value → Shared → Prop} {s : Shared} {Q : Unit → Shared → Prop} {keep : List Value} (h : Q () s) : ∀ {l : List (Value × Option Value)}, Tk l → wpAny M A (Bytes.joinLetGo l keep) Q E s
  | [], _ => wpAny_pure h
  | p :: r, hl => by
    obtain ⟨c, u, rfl⟩ := hl p (.head _)
    unfold Bytes.joinLetGo
    exact wpAny_bind (wp_letGo (wp_joinLetGo h fun q hq => hl q (.tail _ hq)))
theorem BytesAre.length : ∀ {vs : List Value} {bs : List (Array UInt8)}, BytesAre vs bs → vs.length = bs.length
  | _, _, .nil => rfl
  | _, _, .cons _ _ r => congrArg Nat.succ r.length
theorem BytesAre.at : ∀ {vs : List Value} {bs : List (Array UInt8)} {i : Nat} {b : Array UInt8}, BytesAre vs bs → bs[i]? = some b → ∃ t, vs[i]? = some (.bytes b t)
  | _, _, i, b, .nil, h => by simp at h
  | _, _, 0, b, .cons c t _, h => by
    have e : c = b := by simpa using h
    subst e
    exact ⟨t, rfl⟩
  | _, _, i + 1, b, .cons c t r, h => by
    simp only [List.getElem?_cons_succ] at h ⊢
    exact r.at h
theorem sum_size : ∀ (l : List (Array UInt8)) (k : Nat), l.foldl (fun a b => a + b.size) k = k + (l.map Array.size).sum
  | [], k => rfl
  | b :: r, k => by rw [List.foldl_cons, sum_size r, List.map_cons, List.sum_cons, Nat.add_assoc]
theorem joined_go : ∀ (l : List (Array UInt8)) (k : Nat) (out : Array UInt8), ((l.zipIdx k).foldl (fun out (p, i) => (if i > 0 then out ++ (#[] : Array UInt8) else out) ++ p) out).toList = out.toList ++ (l.map Array.toList).flatten
  | [], k, out => by simp
  | b :: r, k, out => by
    rw [List.zipIdx_cons, List.foldl_cons, joined_go r]
    by_cases h : k > 0
    · simp [h]
    · simp [h]
theorem joined_toList (l : List (Array UInt8)) : (Bytes.joined #[] l).toList = (l.map Array.toList).flatten := by
  unfold Bytes.joined
  rw [joined_go]; rfl
theorem joined_size (l : List (Array UInt8)) : (Bytes.joined #[] l).size = (l.map Array.size).sum := by
  have e := congrArg List.length (joined_toList l)
  rw [Array.length_toList, List.length_flatten, List.map_map] at e
  rw [e]; rfl
theorem getD_at {vs : List Value} {i : Nat} {v : Value} (h : vs[i]? = some v) : vs.toArray.getD i Value.none = v := by
  have e : vs.toArray[i]? = some v := by simpa using h
  rw [Array.getD_eq_getD_getElem?, e]; rfl
theorem meets_join {a : Addr} {vs : List Value} {bs : List (Array UInt8)} {t : Tok} :
    Meets («bytes.join» ⟨[.bytes #[] t, .ref a], []⟩) (fun _ R s => s.heap.IsList a vs.toArray ∧ BytesAre vs bs ∧ (bs.map Array.size).sum ≤ 16777216 ∧ ∀ t' k, R (.ok (.ret (.bytes (Bytes.joined #[] bs) t'))) { s with toks := k }) := by
  refine .of_wp fun prog w A R s hS => ?_
  obtain ⟨⟨o, ho, hc, n, hd⟩, hb, hz, h⟩ := hS
  show wpAny _ _ (Bytes.joinItems (.ref a) >>= fun seq => _) _ _ s
  refine wpAny_bind ?_
  unfold Bytes.joinItems
  refine wpAny_bind (wpAny_typeOf (T := "list") ⟨o, ho, hc⟩ ?_)
  refine wpAny_ite ?_
  rw [if_pos (by rfl)]
  refine wpAny_pure ?_
  refine wpAny_bind (wpAny_seqItems ho hd ?_)
  have hlen : vs.toArray.size = bs.length := by rw [← hb.length]; simp
  dsimp only
  refine wpAny_ite ?_
  rw [if_pos (by rfl)]
  by_cases h1 : ∃ x, vs = [x]
  · obtain ⟨x, rfl⟩ := h1
    cases hb with
    | cons b u r =>
      cases r
      refine wpAny_bind (wpAny_typeOf (typeIs_bytes s b u) ?_)
      refine wpAny_ite ?_
      rw [if_pos (by rfl)]
      refine wpAny_bind (wpAny_rule ?_)
      have e : Bytes.joined #[] [b] = b := by
        refine Array.ext' ?_
        rw [joined_toList]; simp
      have z := h u s.toks
      rw [e] at z
      exact wpAny_pure ⟨_, rfl, z⟩
  · rcases vs with _ | ⟨x, _ | ⟨y, r⟩⟩
    case cons.nil => exact absurd ⟨x, rfl⟩ h1
    case nil =>
      cases hb
      refine wpAny_bind ?_
      rw [KPc.range_list]
      refine wpAny_pure ?_
      refine wpAny_bind (wpAny_of_eq (a := (#[] : Array UInt8)) rfl ?_)
      refine wpAny_ite ?_
      rw [if_neg (by decide)]
      refine wpAny_bind (wpAny_mkBytes ?_ (by rw [sizeLine_eq]; decide))
      refine wpAny_bind (wpAny_holding (wpAny_point ?_))
      exact wpAny_bind (wpAny_pure (wpAny_pure ⟨_, rfl, h _ _⟩))
    · refine wpAny_bind ?_
      rw [KPc.range_list]
      refine wpAny_forIn_list _ (fun l p s' => s' = s ∧ ∃ j, j ≤ bs.length ∧ l = List.range' j (bs.length - j) 1 ∧ p.1.toList = bs.take j ∧ Tk p.2) _ ?_ ?_ _ _ ⟨rfl, 0, Nat.zero_le _, by rw [hlen, Nat.sub_zero], rfl, fun _ hp => nomatch hp⟩
      · rintro i rest p s' ⟨rfl, j, hj, hl, hp, ht⟩
        have hlt : j < bs.length := by
          rcases Nat.lt_or_ge j bs.length with h | h
          · exact h
          · rw [Nat.sub_eq_zero_of_le h] at hl; cases hl
        obtain ⟨k, hk⟩ : ∃ k, bs.length - j = k + 1 := ⟨bs.length - j - 1, su1 hlt⟩
        rw [hk, List.range'_succ] at hl
        obtain ⟨rfl, rfl⟩ := List.cons.inj hl
        obtain ⟨u, hu⟩ := hb.at (List.getElem?_eq_getElem hlt)
        have hx := getD_at hu
        refine wpAny_bind (wpAny_seqItems ho hd ?_)
        dsimp only
        refine wpAny_ite ?_
        rw [if_neg (by rw [ht.noHeap]; decide), hx]
        refine wpAny_bind (wpAny_holding (wpAny_of_eq takeq_eq ?_))
        dsimp only
        refine wpAny_bind (wpAny_seqItems ho hd ?_)
        dsimp only
        refine wpAny_ite ?_
        rw [if_neg (by simp)]
        refine wpAny_pure ⟨rfl, i + 1, hlt, by rw [su2 hk], ?_, ?_⟩
        · rw [Array.toList_push, hp, List.take_add_one, List.getElem?_eq_getElem hlt]; rfl
        · intro q hq
          rcases List.mem_append.mp hq with hq | hq
          · exact ht q hq
          · rcases List.mem_singleton.mp hq with rfl; exact ⟨_, _, rfl⟩
      · rintro p s' ⟨rfl, j, hj, hl, hp, ht⟩
        have hj' : j = bs.length := by
          rcases Nat.lt_or_ge j bs.length with h | h
          · obtain ⟨k, hk⟩ : ∃ k, bs.length - j = k + 1 := ⟨bs.length - j - 1, su1 h⟩
            rw [hk, List.range'_succ] at hl; cases hl
          · exact Nat.le_antisymm hj h
        subst hj'
        rw [List.take_length] at hp
        refine wpAny_bind (wpAny_of_eq (a := (#[] : Array UInt8)) rfl ?_)
        have hf : Array.foldl (fun x1 x2 => x1 + x2.size) ((#[] : Array UInt8).size * (p.fst.size - 1)) p.fst = (bs.map Array.size).sum := by
          rw [← Array.foldl_toList, hp, sum_size]; simp
        refine wpAny_ite ?_
        rw [if_neg (by rw [hf, KBy.tooLong_not hz]; decide), hp]
        show wpAny _ _ (mkBytes (Bytes.joined #[] bs) >>= fun _ => _) _ _ _
        refine wpAny_bind (wpAny_mkBytes ?_ (by rw [joined_size, sizeLine_eq]; exact hz))
        refine wpAny_bind (wpAny_holding (wpAny_point ?_))
        exact wpAny_bind (wp_joinLetGo (wpAny_pure ⟨_, rfl, h _ _⟩) ht)
section
variable {prog : Program} {w : World} {A : Around} {E : Value → Shared → Prop} {s : Shared}
theorem noRef {b : Array UInt8} {t : Tok} : ∀ a, Value.bytes b t = .ref a → ∃ o, s.heap.get? a = some o ∧ o.dict = none := fun _ e => nomatch e
theorem method_count {M : Model} {b : Array UInt8} {t : Tok} {pl : Sem Bool} {Q : Value × List Value → Shared → Prop} (h : Q (.builtin "bytes.count", [.bytes b t]) s) : wpAny M A (getMethod (.bytes b t) "count" pl) Q E s := by
  with_reducible exact KBd.method_of (.bytes b t) (typeIs_bytes _ _ _) slot_count type_count noRef h
theorem method_join {M : Model} {b : Array UInt8} {t : Tok} {pl : Sem Bool} {Q : Value × List Value → Shared → Prop} (h : Q (.builtin "bytes.join", [.bytes b t]) s) : wpAny M A (getMethod (.bytes b t) "join" pl) Q E s := by
  with_reducible exact KBd.method_of (.bytes b t) (typeIs_bytes _ _ _) slot_join type_join noRef h
theorem count_b {b c : Array UInt8} {t u : Tok} {Q : Value → Shared → Prop} (hc : c.isEmpty = false) (h : ∀ (n : Nat), n = (if b.size < c.size then 0 else (Bytes.occurrences b c 0 b.size).length) → Q (.int n s.toks) { s with toks := s.toks + 1 }) :
    wpAny (model prog w) A (call (.builtin "bytes.count") [.bytes b t, .bytes c u]) Q E s :=
  call_meets slot_count (typeIs_bytes _ _ _) entry_count (args_count_2 _ _) (meets_count hc) h
theorem join_b {a : Addr} {vs : List Value} {bs : List (Array UInt8)} {t : Tok} {Q : Value → Shared → Prop} (hl : s.heap.IsList a vs.toArray) (hb : BytesAre vs bs) (hz : (bs.map Array.size).sum ≤ 16777216) (h : ∀ t' k, Q (.bytes (Bytes.joined #[] bs) t') { s with toks := k }) :
    wpAny (model prog w) A (call (.builtin "bytes.join") [.bytes #[] t, .ref a]) Q E s :=
  call_meets slot_join (typeIs_bytes _ _ _) entry_join (args_join_2 _ _) meets_join ⟨hl, hb, hz, h⟩
end
end BC
end
section
section
open PyProof.Rows.LCg
variable {prog : Program} {w : World} {A : Around} {E : Value → Shared → Prop} {s : Shared} {h₀ : Heap} {L : Addr} {m : Nm} {env : Env}
noncomputable def sigI : List Int := [97, 32, 195, 169, 233, 255, 226, 130, 172, 8364, 128512, 65533]
theorem strs_of {its : List Value} (hit : ∀ y ∈ its, ∃ x t, y = .str x t ∧ ∃ c ∈ sigI, x = sg c) : ∀ {ys : List Value}, (∀ y ∈ ys, y ∈ its) → ∃ cs : List Int, StrsAre ys (cs.map sg) ∧ (∀ c ∈ cs, c ∈ sigI) ∧ cs.length = ys.length
  | [], _ => ⟨[], .nil, (fun _ h => nomatch h), rfl⟩
  | y :: ys, h => by
    obtain ⟨cs, e1, e2, e3⟩ := strs_of hit fun z hz => h z (.tail _ hz)
    obtain ⟨x, t, rfl, c, hc, rfl⟩ := hit y (h y (.head _))
    refine ⟨c :: cs, .cons _ _ e1, fun z hz => ?_, congrArg Nat.succ e3⟩
    rcases List.mem_cons.mp hz with rfl | hz
    · exact hc
    · exact e2 z hz
theorem bytes_of {its : List Value} (hit : ∀ y ∈ its, ∃ b t, y = .bytes b t ∧ b.size ≤ 4) : ∀ {ys : List Value}, (∀ y ∈ ys, y ∈ its) → ∃ bs : List (Array UInt8), BC.BytesAre ys bs ∧ (bs.map Array.size).sum ≤ 4 * ys.length
  | [], _ => ⟨[], .nil, Nat.le_refl _⟩
  | y :: ys, h => by
    obtain ⟨bs, e1, e2⟩ := bytes_of hit fun z hz => h z (.tail _ hz)
    obtain ⟨b, t, rfl, hc⟩ := hit y (h y (.head _))
    refine ⟨b :: bs, .cons _ _ e1, ?_⟩
    rw [List.map_cons, List.sum_cons, List.length_cons]; omega
variable {elt : PySem.Expr} {x : Str} {scope : Scope} {cl : List (Str × Addr)} {Q : Value → Shared → Prop} {R P C S : Addr} {spot p2 b r : Int} {t1 t2 tr ta tu : Tok} {kP kS : Nat} {its : List Value} {news : Led} {F : Obj → Led} {s₁ : Shared}
noncomputable def PickStep (prog : Program) (w : World) (A : Around) (h₀ : Heap) (L : Addr) (m : Nm) (env : Env) (elt : PySem.Expr) (x : Str) (scope : Scope) (cl : List (Str × Addr)) (C : Addr) (b : Int) (its : List Value) (F : Obj → Led) (s₁ : Shared) : Prop :=
  ∀ (g : Heap) spot' p2' t1' t2' kP' v ys I oI Cc oC D m₂ h tk (E' : Value → Shared → Prop), 0 ≤ spot' → spot' ≤ b + 10 → NsObj oC m₂ → m₂ x = some v → Fr h₀ L h m → News h₀ L h ((I, oI) :: (Cc, oC) :: (D, lst ys) :: F (listOf #[.ref C, .int spot' t1', .int p2' t2'] kP')) → Off3 I Cc D (F (listOf #[.ref C, .int spot' t1', .int p2' t2'] kP')) → ((@Ne Nat I Cc) ∧ (@Ne Nat I D) ∧ (@Ne Nat Cc D)) →
      wpAny (model prog w) A (eval elt (compEnvC scope cl Cc env)) (CompEnd h₀ L m { s₁ with heap := h, toks := tk } I oI Cc oC D (lst ys) (fun _ => True) (fun y nw => y ∈ its ∧ ∃ spot'' p2'' t1'' t2'' kP'', 0 ≤ spot'' ∧ spot'' ≤ spot' + 1 ∧ nw = F (listOf #[.ref C, .int spot'' t1'', .int p2'' t2''] kP''))) E' { s₁ with heap := h, toks := tk }
theorem srcU_strs (hS : (S, listOf its.toArray kS) ∈ news) (hP : (P, listOf #[.ref C, .int spot t1, .int p2 t2] kP) ∈ news) (hh : A.handled = none) (hF : Fr h₀ L s₁.heap m) (N : News h₀ L s₁.heap news) (U : UpdF P (listOf #[.ref C, .int spot t1, .int p2 t2] kP) news F) (hr : IsRange s₁.heap R 0 r 1 ta tr tu) (h0 : 0 ≤ spot) (hb : spot ≤ b) (r0 : 0 ≤ r) (r1 : r ≤ 10)
    (hit : ∀ y ∈ its, ∃ x t, y = .str x t ∧ ∃ c ∈ sigI, x = sg c) (hstep : PickStep prog w A h₀ L m env elt x scope cl C b its F s₁)
    (hfin : ∀ g ys (cs : List Int) spot' p2' t1' t2' kP', 0 ≤ spot' → spot' ≤ b + 10 → StrsAre ys (cs.map sg) → (∀ c ∈ cs, c ∈ sigI) → cs.length ≤ 10 → FinE h₀ L m { s₁ with heap := g } Q ys (F (listOf #[.ref C, .int spot' t1', .int p2' t2'] kP'))) :
    CompSrc prog w A h₀ L m env elt x scope cl (fun s₂ => FinE h₀ L m s₂ Q) (.ref R) s₁ :=
  srcU_picks hh hF N U hr h0 hb r0 r1 hstep fun g ys spot' p2' t1' t2' kP' q1 q2 hy hl => by
    obtain ⟨cs, e1, e2, e3⟩ := strs_of hit hy
    exact hfin g ys cs spot' p2' t1' t2' kP' q1 q2 e1 e2 (by omega)
theorem srcU_bytes (hS : (S, listOf its.toArray kS) ∈ news) (hP : (P, listOf #[.ref C, .int spot t1, .int p2 t2] kP) ∈ news) (hh : A.handled = none) (hF : Fr h₀ L s₁.heap m) (N : News h₀ L s₁.heap news) (U : UpdF P (listOf #[.ref C, .int spot t1, .int p2 t2] kP) news F) (hr : IsRange s₁.heap R 0 r 1 ta tr tu) (h0 : 0 ≤ spot) (hb : spot ≤ b) (r0 : 0 ≤ r) (r1 : r ≤ 10)
    (hit : ∀ y ∈ its, ∃ b t, y = .bytes b t ∧ b.size ≤ 4) (hstep : PickStep prog w A h₀ L m env elt x scope cl C b its F s₁)
    (hfin : ∀ g ys (bs : List (Array UInt8)) spot' p2' t1' t2' kP', 0 ≤ spot' → spot' ≤ b + 10 → BC.BytesAre ys bs → (bs.map Array.size).sum ≤ 40 → FinE h₀ L m { s₁ with heap := g } Q ys (F (listOf #[.ref C, .int spot' t1', .int p2' t2'] kP'))) :
    CompSrc prog w A h₀ L m env elt x scope cl (fun s₂ => FinE h₀ L m s₂ Q) (.ref R) s₁ :=
  srcU_picks hh hF N U hr h0 hb r0 r1 hstep fun g ys spot' p2' t1' t2' kP' q1 q2 hy hl => by
    obtain ⟨bs, e1, e2⟩ := bytes_of hit hy
    exact hfin g ys bs spot' p2' t1' t2' kP' q1 q2 e1 (by omega)
end
end
section
noncomputable def gsd (ks : List Int) : List Int := match dec ks 0 with | some c => c | none => ks
theorem gsd_some {ks c : List Int} (h : dec ks 0 = some c) : gsd ks = c := by unfold gsd; rw [h]
theorem gsd_none {ks : List Int} (h : (dec ks 0).isSome = false) : gsd ks = ks := by
  unfold gsd
  cases e : dec ks 0 with
  | none => rfl
  | some c => rw [e] at h; cases h
theorem lat_cps {cs : List Int} (h : ∀ c ∈ cs, 0 ≤ c) : (lat cs).cps.toList.map (fun n : Nat => (n : Int)) = cs := by
  show ((cs.map fun k => k.toNat).toArray.toList).map _ = cs
  rw [List.toList_toArray, List.map_map]
  refine (List.map_congr_left (g := id) fun c hc => ?_).trans (List.map_id _)
  have := h c hc
  show ((c.toNat : Nat) : Int) = c
  omega
theorem lat_length (cs : List Int) : (lat cs).length = cs.length := by
  show (List.toArray _).size = _
  simp
theorem sig_oct : ∀ c ∈ sigI, ∀ n ∈ oct c, 0 ≤ n ∧ n < 256 := by decide +kernel
theorem sigI_len : ∀ c ∈ sigI, 0 ≤ c ∧ 0 < u8len c := by decide +kernel
section
variable {w : World} {mean : Mn} {mg mb : Nm} {dp un : Nat} {gd : Option (List Code)} {cn : Str} {cs : Scope} {a : Addr} {ccd : Value} {cl : List (Str × Addr)} {outer : List Env} {A₀ : Around} {base h₀ : Heap} {L : Addr} {m : Nm} {s : Shared} {Q E : Value → Shared → Prop} {rest : Led} {t tt : Tok} {ls ks : List Int} {b : Array UInt8}
theorem oct8_use (hcs : ∀ c ∈ ls, c ∈ sigI) (hl : ls.length ≤ 10)
    (hB : Below A₀ base outer h₀) (hF : Fr h₀ L s.heap m) (hK : (hd.heap_39 w.params).In h₀) (hN : News h₀ L s.heap rest) (hT : Top hd.view_39 LS mean mg mb h₀) (hk : cs.kind = .function) (hdp : dp + 6 < recursionLimit) (hun : un + 60 < cLine)
    (hret : ∀ (b : Array UInt8) u (h' : Heap) (tk' : Nat), KBw.bInts b = (ls.map oct).flatten → ((ls.map oct).flatten).length ≤ 40 → Fr h₀ L h' m → News h₀ L h' rest → Q (.bytes b u) { s with heap := h', toks := tk' }) :
    wpAny (model PG w) (topA none dp un gd cn cs L a ccd cl outer) (call (.ref 137) [.str (Str.ofString "utf-8") t, .str (lat ls) tt]) Q E s := by
  have hv := fun c hc => sigI_len c (hcs c hc)
  have hin : KBa.In ((ls.map oct).flatten) := fun n hn => by
    obtain ⟨l, hl, hn⟩ := List.mem_flatten.mp hn
    obtain ⟨c, hc, rfl⟩ := List.mem_map.mp hl
    exact sig_oct c (hcs c hc) n hn
  refine ctr_of_G (rest := rest) (c_octets_utf8 w mean mg mb (lat ls) ls t tt (lat_cps fun c hc => (hv c hc).1) hin (fun c hc => (hv c hc).2) (by omega) (lat_length ls)) (fun _ h => nomatch h) dp un gd cn cs a ccd cl outer A₀ base h₀ L m s Q E hB hF hK hN hT hk hdp hun ?_
  rintro v n' h' tk' ⟨n, rfl, ⟨b, u, rfl, rfl, hb⟩, -⟩ hF' hN'
  exact hret b u h' tk' hb (Nat.le_trans (octs_len ls) (by omega)) hF' hN'
theorem octL_use (hcs : ∀ c ∈ ls, 0 ≤ c ∧ c < 256) (hl : ls.length ≤ 10)
    (hB : Below A₀ base outer h₀) (hF : Fr h₀ L s.heap m) (hK : (hd.heap_39 w.params).In h₀) (hN : News h₀ L s.heap rest) (hT : Top hd.view_39 LS mean mg mb h₀) (hk : cs.kind = .function) (hdp : dp + 6 < recursionLimit) (hun : un + 60 < cLine)
    (hret : ∀ (b : Array UInt8) u (h' : Heap) (tk' : Nat), KBw.bInts b = ls → Fr h₀ L h' m → News h₀ L h' rest → Q (.bytes b u) { s with heap := h', toks := tk' }) :
    wpAny (model PG w) (topA none dp un gd cn cs L a ccd cl outer) (call (.ref 137) [.str (Str.ofString "iso-8859-1") t, .str (lat ls) tt]) Q E s := by
  refine ctr_of_G (rest := rest) (c_octets_latin w mean mg mb (lat ls) ls t tt (lat_cps fun c hc => (hcs c hc).1) (fun c hc => (hcs c hc).2) (by omega) (lat_length ls)) (fun _ h => nomatch h) dp un gd cn cs a ccd cl outer A₀ base h₀ L m s Q E hB hF hK hN hT hk hdp hun ?_
  rintro v n' h' tk' ⟨n, rfl, ⟨b, u, rfl, rfl, hb⟩, -⟩ hF' hN'
  exact hret b u h' tk' hb hF' hN'
theorem guess_use (hb : KBw.bInts b = ks) (he : gsd ks = ls) (hs : ks.length ≤ 65536)
    (hB : Below A₀ base [] h₀) (hF : Fr h₀ L s.heap m) (hK : (hd.heap_39 w.params).In h₀) (hN : News h₀ L s.heap rest) (hT : Top hd.view_39 LS mean mg mb h₀) (hk : cs.kind = .function) (hdp : dp + 20 < recursionLimit) (hun : un + 120 < cLine)
    (hret : ∀ u (h' : Heap) (tk' : Nat), Fr h₀ L h' m → News h₀ L h' rest → Q (.str (lat ls) u) { s with heap := h', toks := tk' }) :
    wpAny (model PG w) (topA none dp un gd cn cs L a ccd cl []) (call (.ref 123) [.bytes b t]) Q E s := by
  refine c_guess w mean mg mb b ks t hb hs dp un gd cn cs a ccd cl A₀ base h₀ L m s Q E rest hB hF hK hN hT hk hdp hun ?_
  rintro v h' tk' ⟨t', rfl⟩ hF' hN'
  unfold gsd at he
  cases hd : dec ks 0 with
  | some c => rw [hd] at he; cases he; exact hret t' h' tk' hF' hN'
  | none => rw [hd] at he; cases he; exact hret t' h' tk' hF' hN'
theorem isu_use (hb : KBw.bInts b = ks) (hs : ks.length ≤ 65536)
    (hB : Below A₀ base outer h₀) (hF : Fr h₀ L s.heap m) (hK : (hd.heap_39 w.params).In h₀) (hN : News h₀ L s.heap rest) (hT : Top hd.view_39 LS mean mg mb h₀) (hk : cs.kind = .function) (hdp : dp + 4 < recursionLimit) (hun : un + 200 < cLine)
    (hret : ∀ (h' : Heap) (tk' : Nat), Fr h₀ L h' m → News h₀ L h' rest → Q (.bool (dec ks 0).isSome) { s with heap := h', toks := tk' }) :
    wpAny (model PG w) (topA none dp un gd cn cs L a ccd cl outer) (call (.ref 161) [.bytes b t]) Q E s := by
  refine ctr_of_G (rest := rest) (c_isutf8 w mean mg mb b ks t hb hs) (fun _ h => nomatch h) dp un gd cn cs a ccd cl outer A₀ base h₀ L m s Q E hB hF hK hN hT hk hdp hun ?_
  rintro v n' h' tk' ⟨n, rfl, ⟨rfl, rfl⟩, -⟩ hF' hN'
  exact hret h' tk' hF' hN'
theorem strictL_use (hb : KBw.bInts b = ks) (hs : ks.length ≤ 65536) (hz : (dec ks 0).isSome = false)
    (hB : Below A₀ base outer h₀) (hF : Fr h₀ L s.heap m) (hK : (hd.heap_39 w.params).In h₀) (hN : News h₀ L s.heap rest) (hT : Top hd.view_39 LS mean mg mb h₀) (hk : cs.kind = .function) (hdp : dp + 10 < recursionLimit) (hun : un + 60 < cLine)
    (hret : ∀ u (h' : Heap) (tk' : Nat), Fr h₀ L h' m → News h₀ L h' rest → Q (.str (lat (gsd ks)) u) { s with heap := h', toks := tk' }) :
    wpAny (model PG w) (topA none dp un gd cn cs L a ccd cl outer) (call (.ref 116) [.str (Str.ofString "iso-8859-1") tt, .bytes b t]) Q E s := by
  refine ctr_of_G (rest := rest) (c_strict_latin w mean mg mb b ks t tt hb hs) (fun _ h => nomatch h) dp un gd cn cs a ccd cl outer A₀ base h₀ L m s Q E hB hF hK hN hT hk hdp hun ?_
  rintro v n' h' tk' ⟨n, rfl, ⟨⟨u, rfl⟩, rfl⟩, -⟩ hF' hN'
  rw [gsd_none hz] at hret
  exact hret u h' tk' hF' hN'
theorem strict8_G (hb : KBw.bInts b = ks) (hs : ks.length ≤ 65536) {c : List Int} (hz : dec ks 0 = some c) : CtrG w mean mg mb none 116 [.str (Str.ofString "utf-8") tt, .bytes b t] 10 60 [] (isStr [] (lat c)) := by
  intro dp un gd cn cs a ccd cl outer A₀ base h₀ L m s Q E hB hF hK hN hT hk hdp hun hret
  have B₁ := pushX hB hF (env := envX cn cs L a ccd cl) rfl hk
  refine c_strict_utf8 w mean mg mb b ks t tt hb hs dp un gd cn cs a ccd cl outer A₀ base h₀ L m s Q E base hB hF hK hN hT hk hdp hun B₁.stays B₁.frames ?_ ?_
  · rintro v n' h' tk' ⟨cs, e, hv⟩ hF' hN' K
    rw [hz] at e
    cases e
    exact hret v n' h' tk' hv hF' hN' K
  · intro e
    rw [hz] at e; cases e
theorem strict8_use (hb : KBw.bInts b = ks) (hs : ks.length ≤ 65536) (hz : (dec ks 0).isSome = true)
    (hB : Below A₀ base outer h₀) (hF : Fr h₀ L s.heap m) (hK : (hd.heap_39 w.params).In h₀) (hN : News h₀ L s.heap rest) (hT : Top hd.view_39 LS mean mg mb h₀) (hk : cs.kind = .function) (hdp : dp + 10 < recursionLimit) (hun : un + 60 < cLine)
    (hret : ∀ u (h' : Heap) (tk' : Nat), Fr h₀ L h' m → News h₀ L h' rest → Q (.str (lat (gsd ks)) u) { s with heap := h', toks := tk' }) :
    wpAny (model PG w) (topA none dp un gd cn cs L a ccd cl outer) (call (.ref 116) [.str (Str.ofString "utf-8") tt, .bytes b t]) Q E s := by
  obtain ⟨c, hc⟩ := Option.isSome_iff_exists.mp hz
  refine ctr_of_G (rest := rest) (strict8_G (t := t) (tt := tt) hb hs hc) (fun _ h => nomatch h) dp un gd cn cs a ccd cl outer A₀ base h₀ L m s Q E hB hF hK hN hT hk hdp hun ?_
  rintro v n' h' tk' ⟨n, rfl, ⟨⟨u, rfl⟩, rfl⟩, -⟩ hF' hN'
  rw [gsd_some hc] at hret
  exact hret u h' tk' hF' hN'
end
end
section
theorem dec_sig {c : Int} (hc : c ∈ sigI) (r : List Int) : dec (oct c ++ r) 0 = (dec r 0).map (c :: ·) := by
  simp only [sigI, List.mem_cons, List.not_mem_nil, or_false] at hc
  rcases hc with rfl | rfl | rfl | rfl | rfl | rfl | rfl | rfl | rfl | rfl | rfl | rfl
  · rw [show oct 97 = [97] by decide +kernel]; exact dec_head (n := 1) (List.cons_ne_nil _ _) (u8a1 (by decide)) (by decide)
  · rw [show oct 32 = [32] by decide +kernel]; exact dec_head (n := 1) (List.cons_ne_nil _ _) (u8a1 (by decide)) (by decide)
  · rw [show oct 195 = [195, 131] by decide +kernel]; exact dec_head (n := 2) (List.cons_ne_nil _ _) (u8a2 (by decide) (by decide) (by decide) (by decide)) (by decide)
  · rw [show oct 169 = [194, 169] by decide +kernel]; exact dec_head (n := 2) (List.cons_ne_nil _ _) (u8a2 (by decide) (by decide) (by decide) (by decide)) (by decide)
  · rw [show oct 233 = [195, 169] by decide +kernel]; exact dec_head (n := 2) (List.cons_ne_nil _ _) (u8a2 (by decide) (by decide) (by decide) (by decide)) (by decide)
  · rw [show oct 255 = [195, 191] by decide +kernel]; exact dec_head (n := 2) (List.cons_ne_nil _ _) (u8a2 (by decide) (by decide) (by decide) (by decide)) (by decide)
  · rw [show oct 226 = [195, 162] by decide +kernel]; exact dec_head (n := 2) (List.cons_ne_nil _ _) (u8a2 (by decide) (by decide) (by decide) (by decide)) (by decide)
  · rw [show oct 130 = [194, 130] by decide +kernel]; exact dec_head (n := 2) (List.cons_ne_nil _ _) (u8a2 (by decide) (by decide) (by decide) (by decide)) (by decide)
  · rw [show oct 172 = [194, 172] by decide +kernel]; exact dec_head (n := 2) (List.cons_ne_nil _ _) (u8a2 (by decide) (by decide) (by decide) (by decide)) (by decide)
  · rw [show oct 8364 = [226, 130, 172] by decide +kernel]; exact dec_head (n := 3) (List.cons_ne_nil _ _) (u8a3 (by decide) (by decide) (by decide) (by decide) (by decide) (by decide)) (by decide)
  · rw [show oct 128512 = [240, 159, 152, 128] by decide +kernel]; exact dec_head (n := 4) (List.cons_ne_nil _ _) (u8a4 (by decide) (by decide) (by decide) (by decide) (by decide) (by decide) (by decide) (by decide)) (by decide)
  · rw [show oct 65533 = [239, 191, 189] by decide +kernel]; exact dec_head (n := 3) (List.cons_ne_nil _ _) (u8a3 (by decide) (by decide) (by decide) (by decide) (by decide) (by decide)) (by decide)
theorem dec_octs : ∀ {ls : List Int}, (∀ c ∈ ls, c ∈ sigI) → dec ((ls.map oct).flatten) 0 = some ls
  | [], _ => dec_nil
  | c :: r, h => by
    rw [List.map_cons, List.flatten_cons, dec_sig (h c (.head _)), dec_octs fun x hx => h x (.tail _ hx)]
    rfl
theorem gsd_octs {ls : List Int} (h : ∀ c ∈ ls, c ∈ sigI) : gsd ((ls.map oct).flatten) = ls := gsd_some (dec_octs h)
theorem Dc.short {ks cs : List Int} (h : Dc ks cs) : cs.length ≤ ks.length := by
  induction h with
  | nil => exact Nat.le_refl _
  | one _ _ _ ih => exact Nat.succ_le_succ ih
  | two _ _ _ _ _ ih => exact Nat.le_succ_of_le (Nat.succ_le_succ ih)
  | thr _ _ _ _ _ _ _ ih => exact Nat.le_succ_of_le (Nat.le_succ_of_le (Nat.succ_le_succ ih))
  | fou _ _ _ _ _ _ _ _ _ ih => exact Nat.le_succ_of_le (Nat.le_succ_of_le (Nat.le_succ_of_le (Nat.succ_le_succ ih)))
theorem ge_not {a k : Int} (h : k ≤ a) (h2 : a ≤ 127) (hk : 127 < k) : False := absurd (Int.lt_of_lt_of_le hk (Int.le_trans h h2)) (Int.lt_irrefl _)
theorem Dc.plain {ks cs : List Int} (h : Dc ks cs) : (∀ k ∈ ks, k ≤ 127) → cs = ks := by
  induction h with
  | nil => exact fun _ => rfl
  | one _ _ _ ih => exact fun q => by rw [ih fun k hk => q k (.tail _ hk)]
  | two h1 _ _ _ _ _ => exact fun q => (ge_not h1 (q _ (.head _)) (by decide)).elim
  | thr h1 _ _ _ _ _ _ _ => exact fun q => (ge_not h1 (q _ (.head _)) (by decide)).elim
  | fou h1 _ _ _ _ _ _ _ _ _ => exact fun q => (ge_not h1 (q _ (.head _)) (by decide)).elim
theorem Dc.wide {ks cs : List Int} (h : Dc ks cs) : (∃ k ∈ ks, 127 < k) → cs.length < ks.length := by
  induction h with
  | nil => exact fun ⟨k, hk, _⟩ => nomatch hk
  | one _ h2 _ ih =>
    intro ⟨k, q1, q2⟩
    rcases List.mem_cons.mp q1 with rfl | q1
    · exact (Int.lt_irrefl _ (Int.lt_of_lt_of_le h2 q2)).elim
    · exact Nat.succ_lt_succ (ih ⟨k, q1, q2⟩)
  | two _ _ _ _ d _ => exact fun _ => Nat.succ_lt_succ (Nat.lt_succ_of_le d.short)
  | thr _ _ _ _ _ _ d _ => exact fun _ => Nat.succ_lt_succ (Nat.lt_succ_of_le (Nat.le_succ_of_le d.short))
  | fou _ _ _ _ _ _ _ _ d _ => exact fun _ => Nat.succ_lt_succ (Nat.lt_succ_of_le (Nat.le_succ_of_le (Nat.le_succ_of_le d.short)))
theorem Dc.pos {ks cs : List Int} (h : Dc ks cs) : ∀ c ∈ cs, 0 ≤ c := by
  induction h with
  | nil => exact fun _ q => nomatch q
  | one h1 _ _ ih => exact List.forall_mem_cons.mpr ⟨h1, ih⟩
  | two _ _ _ _ _ ih => exact List.forall_mem_cons.mpr ⟨sx0 (em0 (by decide)), ih⟩
  | thr _ _ _ _ _ _ _ ih => exact List.forall_mem_cons.mpr ⟨sx0 (sx0 (em0 (by decide))), ih⟩
  | fou _ _ _ _ _ _ _ _ _ ih => exact List.forall_mem_cons.mpr ⟨sx0 (sx0 (sx0 (em0 (by decide)))), ih⟩
/-- octets of a text in iso-8859-1 come back just if plain or no utf-8 -/
theorem gsd_plain {ks : List Int} (h : ∀ k ∈ ks, k ≤ 127) : gsd ks = ks := by
  unfold gsd
  cases e : dec ks 0 with
  | none => rfl
  | some c => exact (Dc.of e).plain h
theorem gsd_wide {ks : List Int} (h : ∃ k ∈ ks, 127 < k) (hz : (dec ks 0).isSome = true) : lat (gsd ks) ≠ lat ks := by
  obtain ⟨c, hc⟩ := Option.isSome_iff_exists.mp hz
  rw [gsd_some hc]
  intro e
  have e1 := congrArg Str.length e
  rw [lat_length, lat_length] at e1
  exact Nat.lt_irrefl _ (e1 ▸ (Dc.of hc).wide h)
/-- U+FFFD comes up just as its three octets do -/
noncomputable def cnt3 : List Int → Nat
  | [] => 0
  | a :: r => (if a = 239 ∧ r.getD 0 0 = 191 ∧ r.getD 1 0 = 189 then 1 else 0) + cnt3 r
noncomputable def cntU : List Int → Nat
  | [] => 0
  | c :: r => (if c = 65533 then 1 else 0) + cntU r
theorem cnt3_off {a : Int} {r : List Int} (h : a ≠ 239) : cnt3 (a :: r) = cnt3 r := by
  show (if a = 239 ∧ _ ∧ _ then 1 else 0) + cnt3 r = _
  rw [if_neg (fun q => h q.1), Nat.zero_add]
theorem cnt3_on {a b d : Int} {r : List Int} : cnt3 (a :: b :: d :: r) = (if a = 239 ∧ b = 191 ∧ d = 189 then 1 else 0) + cnt3 (b :: d :: r) := rfl
theorem cntU_off {c : Int} {r : List Int} (h : c ≠ 65533) : cntU (c :: r) = cntU r := by
  show (if c = 65533 then 1 else 0) + cntU r = _
  rw [if_neg h, Nat.zero_add]
theorem off_f {b : Int} (h : b ≤ 191) : b ≠ 239 := fun q => absurd (q ▸ h) (by decide)
theorem no_le {c k m : Int} (h : c ≤ k) (q : k < m) : c ≠ m := fun e => absurd (e ▸ h) (Int.not_le.mpr q)
theorem no_ge {c k m : Int} (h : k ≤ c) (q : m < k) : c ≠ m := fun e => absurd (e ▸ h) (Int.not_le.mpr q)
theorem b_at {b k j : Int} (h1 : 128 ≤ b) (h2 : b ≤ 191) (h : b % 64 = k) (q : k + 128 = j) : b = j := by omega
theorem a_at {a : Int} (h1 : 224 ≤ a) (h2 : a ≤ 239) (h : a % 16 = 15) : a = 239 := by omega
theorem b16 {b : Int} (h1 : 144 ≤ b) (h2 : b ≤ 191) : 16 ≤ b % 64 := by omega
theorem a_1 {a : Int} (h1 : 240 ≤ a) (h2 : a ≤ 244) (h : ¬ a = 240) : 1 ≤ a % 8 := by omega
theorem x16 {a b : Int} (h1 : 240 ≤ a) (h2 : a ≤ 244) (h3 : lo4 a ≤ b) (h4 : b ≤ 191) : 16 ≤ a % 8 * 64 + b % 64 := by
  unfold lo4 at h3
  by_cases h : a = 240
  · rw [if_pos h] at h3
    exact Int.le_trans (b16 h3 h4) (Int.le_add_of_nonneg_left (Int.mul_nonneg (em0 (by decide)) (by decide)))
  · exact Int.le_trans (by decide : (16 : Int) ≤ 1 * 64) (Int.le_trans (Int.mul_le_mul_of_nonneg_right (a_1 h1 h2 h) (by decide)) (Int.le_add_of_nonneg_right (em0 (by decide))))
theorem Dc.count {ks cs : List Int} (h : Dc ks cs) : cntU cs = cnt3 ks := by
  induction h with
  | nil => rfl
  | one _ h2 _ ih => rw [cnt3_off (no_le (Int.le_of_lt h2) (by decide)), cntU_off (no_le (Int.le_of_lt h2) (by decide)), ih]
  | two _ h2 _ h4 _ ih => rw [cnt3_off (no_le h2 (by decide)), cnt3_off (off_f h4), cntU_off (no_le (sxm (m := 31) (show _ % 32 ≤ 31 from eml (by decide) rfl)) (by decide)), ih]
  | @thr a b d r cr h1 h2 h3 h4 h5 h6 _ ih =>
    have e := ends3 a
    have h4' : b ≤ 191 := Int.le_trans h4 e.2
    have h3' : 128 ≤ b := Int.le_trans e.1 h3
    clear e h3 h4
    rw [cnt3_on, cnt3_off (off_f h4'), cnt3_off (off_f h6)]
    show (if (a % 16 * 64 + b % 64) * 64 + d % 64 = 65533 then 1 else 0) + cntU cr = _
    rw [ih]
    congr 1
    by_cases q : a = 239 ∧ b = 191 ∧ d = 189
    · rw [if_pos q, if_pos (by rw [q.1, q.2.1, q.2.2]; rfl)]
    · rw [if_neg q, if_neg fun x => ?_]
      have y := sxj (m := 1023) (k := 61) (by decide) (by decide) x
      have z := sxj (m := 15) (k := 63) (by decide) (by decide) y.1
      exact q ⟨a_at h1 h2 z.1, b_at h3' h4' z.2 rfl, b_at h5 h6 y.2 rfl⟩
  | @fou a b d e r cr h1 h2 h3 h4 h5 h6 h7 h8 _ ih =>
    have e := ends4 a
    have h4' : b ≤ 191 := Int.le_trans h4 e.2
    rw [cnt3_off (no_ge h1 (by decide)), cnt3_off (off_f h4'), cnt3_off (off_f h6), cnt3_off (off_f h8), cntU_off fun x => ?_, ih]
    have y := sxj (m := 1023) (k := 61) (by decide) (by decide) x
    have z := sxj (m := 15) (k := 63) (by decide) (by decide) y.1
    exact absurd (z.1 ▸ x16 h1 h2 h3 h4') (by decide)
theorem cntU_small : ∀ {ks : List Int}, (∀ k ∈ ks, k < 256) → cntU ks = 0
  | [], _ => rfl
  | k :: r, h => by
    have := h k (.head _)
    rw [cntU_off (no_le (Int.le_of_lt this) (by decide)), cntU_small fun x hx => h x (.tail _ hx)]
end
section
section
open PyProof.Rows.LCg PyProof.Rows.LCt
variable {prog : Program} {w : World} {A : Around} {E : Value → Shared → Prop} {s : Shared} {h₀ : Heap} {L : Addr} {m : Nm} {env : Env}
theorem lat_at {ls : List Int} {i c : Nat} (hp : ∀ c ∈ ls, 0 ≤ c) (h : (lat ls).cps[i]? = some c) : ls[i]? = some ((c : Nat) : Int) := by
  have h1 : ((ls.map fun k => k.toNat).toArray)[i]? = some c := h
  rw [List.getElem?_toArray, List.getElem?_map] at h1
  cases e : ls[i]? with
  | none => rw [e] at h1; cases h1
  | some k =>
    rw [e] at h1
    have e1 : k.toNat = c := Option.some.inj h1
    have e2 := hp k (List.mem_of_getElem? e)
    rw [← e1]; congr 1; omega
theorem sg_nat (c : Nat) : sg ((c : Nat) : Int) = ⟨#[c]⟩ := rfl
/-- [sign for sign in words if ord(sign) < 256] -/
theorem CSrc.low {ct elt : Expr} {x : Str} {scope : Scope} {cl : List (Str × Addr)} {Q : Value → Shared → Prop} {t : Tok} {news : Led} {s₁ : Shared} {ls : List Int} (hcs : ∀ c ∈ ls, c ∈ sigI) (hl : ls.length ≤ 10)
    (hh : A.handled = none) (F : Fr h₀ L s₁.heap m) (N : News h₀ L s₁.heap news)
    (hstep : ∀ (g : Heap) (c : Nat) (u : Tok) ys I oI C oC D m₂ h tk (E' : Value → Shared → Prop), NsObj oC m₂ → m₂ x = some (.str ⟨#[c]⟩ u) → Fr h₀ L h m → News h₀ L h ((I, oI) :: (C, oC) :: (D, lst ys) :: news) → Off3 I C D news → ((@Ne Nat I C) ∧ (@Ne Nat I D) ∧ (@Ne Nat C D)) →
      wpAny (model prog w) A (isTrue ct (compEnvC scope cl C env) (eval ct (compEnvC scope cl C env))) (fun ok s' => if ok = true then
        wpAny (model prog w) A (eval elt (compEnvC scope cl C env)) (CompEnd h₀ L m { s₁ with heap := h, toks := tk } I oI C oC D (lst ys) (fun _ => True) (fun y nw => (c : Int) < 256 ∧ (∃ u', y = .str ⟨#[c]⟩ u') ∧ nw = news)) E' s'
        else CompEnd h₀ L m { s₁ with heap := h, toks := tk } I oI C oC D (lst ys) (fun _ => True) (fun _ nw => ¬ (c : Int) < 256 ∧ nw = news) Value.none s') E' { s₁ with heap := h, toks := tk })
    (hfin : ∀ g ys (ws : List Int), StrsAre ys (ws.map sg) → (∀ c ∈ ws, 0 ≤ c ∧ c < 256) → ws.length ≤ 10 → FinE h₀ L m { s₁ with heap := g } Q ys news) :
    CSrc prog w A h₀ L m env ct elt x scope cl Q (.str (lat ls) t) s₁ := by
  have hp : ∀ c ∈ ls, 0 ≤ c := fun c hc => (sigI_len c (hcs c hc)).1
  have hlen : (lat ls).cps.size = ls.length := by show (List.toArray _).size = _; simp
  refine CSrc.str hh F N (by rw [hlen, sizeLine_eq]; omega) fun g => ?_
  refine restT_ind (lat ls).cps.size (fun j ys nw => (∃ ws : List Int, StrsAre ys (ws.map sg) ∧ (∀ c ∈ ws, 0 ≤ c ∧ c < 256) ∧ ws.length ≤ j) ∧ nw = news) ?_ ?_ (lat ls).cps.size 0 [] news (Nat.zero_add _) ⟨⟨[], .nil, (fun _ h => nomatch h), Nat.le_refl _⟩, rfl⟩
  · rintro i ys nw hi ⟨⟨ws, hy, h1, h2⟩, rfl⟩ v I oI C oC D m₂ h tk E' ⟨c, u, hc, rfl⟩ p2 p3 p4 p5 p6 p7
    refine wpAny_mono (hstep g c u ys I oI C oC D m₂ h tk E' p2 p3 p4 p5 p6 p7) (fun ok s' q => ?_) fun _ _ e => e
    cases ok with
    | true =>
      simp only [if_true] at q ⊢
      refine wpAny_mono q (fun y s₂ hq => ?_) fun _ _ e => e
      obtain ⟨h', tk', nw', e1, e2, e3, e4, e5, e6, ⟨u', e7⟩, e8⟩ := hq
      refine ⟨h', tk', nw', e1, e2, e3, e4, e5, ⟨ws ++ [(c : Int)], ?_, ?_, ?_⟩, e8⟩
      · rw [List.map_append, e7]
        exact strs_snoc hy
      · intro z hz
        rcases List.mem_append.mp hz with hz | hz
        · exact h1 z hz
        · rcases List.mem_singleton.mp hz with rfl; exact ⟨Int.natCast_nonneg c, e6⟩
      · rw [List.length_append]; exact Nat.succ_le_succ h2
    | false =>
      simp only [Bool.false_eq_true, if_false] at q ⊢
      obtain ⟨h', tk', nw', e1, e2, e3, e4, e5, e6, e8⟩ := q
      exact ⟨h', tk', nw', e1, e2, e3, e4, e5, ⟨ws, hy, h1, Nat.le_succ_of_le h2⟩, e8⟩
  · rintro ys nw ⟨⟨ws, hy, h1, h2⟩, rfl⟩
    exact hfin g ys ws hy h1 (by rw [hlen] at h2; omega)
end
section
variable {prog : Program} {w : World} {A : Around} {E : Value → Shared → Prop} {s : Shared} {Q : Value → Shared → Prop} {t u : Tok} {ks : List Int}
theorem ne_same {x : Str} (h : Q (.bool false) s) : wpAny (model prog w) A (compareOp .NotEq (.str x t) (.str x u)) Q E s := ne_str (by simpa using h)
theorem lat_inj {a b : List Int} (ha : ∀ c ∈ a, 0 ≤ c) (hb : ∀ c ∈ b, 0 ≤ c) (h : lat a = lat b) : a = b := by
  rw [← lat_cps ha, ← lat_cps hb, h]
theorem eq_low (hk : ∀ c ∈ ks, 0 ≤ c ∧ c < 256) (h : Q (.bool (decide (ks.filter (fun c => decide (127 < c)) = []) || !(dec ks 0).isSome)) s) : wpAny (model prog w) A (compareOp .Eq (.str (lat (gsd ks)) t) (.str (lat ks) u)) Q E s := by
  refine eq_str ?_
  have hp : ∀ c ∈ ks, 0 ≤ c := fun c hc => (hk c hc).1
  have e : (lat (gsd ks) == lat ks) = (decide (ks.filter (fun c => decide (127 < c)) = []) || !(dec ks 0).isSome) := by
    by_cases h1 : ks.filter (fun c => decide (127 < c)) = []
    · rw [decide_eq_true h1, Bool.true_or]
      rw [gsd_plain fun k hk' => ?_]
      · exact beq_self_eq_true _
      · have := List.filter_eq_nil_iff.mp h1 k hk'
        simp only [decide_eq_true_eq] at this
        omega
    · rw [decide_eq_false h1, Bool.false_or]
      cases h2 : (dec ks 0).isSome with
      | false => rw [gsd_none h2]; exact beq_self_eq_true _
      | true =>
        have h3 : ∃ k ∈ ks, 127 < k := by
          refine Classical.byContradiction fun q => h1 (List.filter_eq_nil_iff.mpr fun k hk' hd => q ⟨k, hk', of_decide_eq_true hd⟩)
        have h4 := gsd_wide h3 h2
        exact beq_eq_false_iff_ne.mpr h4
  rw [e]; exact h
theorem eq_nil {h₀ : Heap} {L D l : Addr} {news : Led} {ys : List Value} {ns : List Int} (N : News h₀ L s.heap ((l, listOf #[] 0) :: (D, LCg.lst ys) :: news)) (hi : IntsAre ys ns) (hu : A.units + 64 < cLine)
    (h : News h₀ L s.heap news → Q (.bool (decide (ns = []))) s) : wpAny (model prog w) A (compareOp .Eq (.ref D) (.ref l)) Q E s :=
  ke_eq_ints (xs := ys) (ys := []) ⟨_, (N _ (.tail _ (.head _))).1, rfl, _, rfl⟩ ⟨_, (N _ (.head _)).1, rfl, _, rfl⟩ hi IntsAre.nil hu (h (cb_drop N fun p hp => .tail _ (.tail _ hp)))
theorem or_l {F : Prop} [Decidable F] {b : Bool} (h : F) : (decide F || b) = decide F := by rw [decide_eq_true h]; rfl
theorem or_r {F : Prop} [Decidable F] {b : Bool} (h : ¬ F) : (decide F || b) = b := by rw [decide_eq_false h]; rfl
theorem ne_bools {x y : Bool} (e : x = y) (h : Q (.bool false) s) : wpAny (model prog w) A (compareOp .NotEq (.bool x) (.bool y)) Q E s := by
  subst e
  exact ne_bool (by simpa using h)
theorem cut_use {value slice : PySem.Expr} {b : Array UInt8} {h₀ : Heap} {L : Addr} {m : Nm} {news : Led} {l v : Value} {lo hi : Option Int} (hF : Fr h₀ L s.heap m) (hN : News h₀ L s.heap news) (hk : KBw.bInts b = ks) (hl : IsPart l lo) (hu : IsPart v hi) (hz : ks.length ≤ 40)
    (h : ∀ b' ks' h' t' k, KBw.bInts b' = ks' → ks'.length ≤ 40 → Fr h₀ L h' m → News h₀ L h' news → Q (.bytes b' t') { s with heap := h', toks := k })
    (hs : subscripted slice false (.bytes b t) (.ref s.heap.objs.size) = operate [.ref s.heap.objs.size, .bytes b t] (getItem (.bytes b t) (.ref s.heap.objs.size)))
    (ht : ∀ r, letTemporaryGo value (.bytes b t) r = pure ()) :
    wpAny (model prog w) A (subscriptTail value slice (.bytes b t) (.ref s.heap.objs.size)) Q E { s with heap := s.heap.push { cls := .type "slice", data := .fields #[l, v, .none] } } := by
  refine KBc.slice_K hF hN hk hl hu (by omega) (fun h' t' k F' N' e => h _ _ h' t' k e ?_ F' N') hs ht
  rw [List.length_take, List.length_drop]; omega
end
end
section
@[reducible] noncomputable def mt (ks : List Int) (i : Nat) : Prop := ks.getD i 0 = 239 ∧ ks.getD (i + 1) 0 = 191 ∧ ks.getD (i + 2) 0 = 189
noncomputable def cM (ks : List Int) : Nat → Nat
  | 0 => 0
  | m + 1 => cM ks m + (if mt ks m then 1 else 0)
theorem mt_cons {a : Int} {r : List Int} {m : Nat} : mt (a :: r) (m + 1) ↔ mt r m := Iff.rfl
theorem cM_cons (a : Int) (r : List Int) : ∀ m, cM (a :: r) (m + 1) = (if mt (a :: r) 0 then 1 else 0) + cM r m
  | 0 => Nat.zero_add _
  | m + 1 => by
    show cM (a :: r) (m + 1) + (if mt (a :: r) (m + 1) then 1 else 0) = _ + (cM r m + (if mt r m then 1 else 0))
    rw [cM_cons a r m, Nat.add_assoc]
    rfl
theorem cnt3_cM : ∀ ks : List Int, cnt3 ks = cM ks ks.length
  | [] => rfl
  | a :: r => by
    rw [List.length_cons, cM_cons, ← cnt3_cM r]
    rfl
theorem mt_end {ks : List Int} {i : Nat} (h : ks.length ≤ i + 2) : ¬ mt ks i := by
  intro ⟨_, _, h3⟩
  rw [List.getD_eq_getElem?_getD, List.getElem?_eq_none h] at h3
  exact absurd h3 (by decide)
theorem cM_end (ks : List Int) : cM ks ks.length = cM ks (ks.length - 2) := by
  have go : ∀ m, ks.length ≤ m + 2 → cM ks (m + 1) = cM ks m := fun m h => by
    show cM ks m + _ = _
    rw [if_neg (mt_end h)]; rfl
  rcases h : ks.length with _ | _ | n
  · rfl
  · exact go 0 (by omega)
  · show cM ks (n + 1 + 1) = cM ks n
    rw [go (n + 1) (by omega), go n (by omega)]
theorem mt_off {ks : List Int} {i : Nat} (h : mt ks i) : ¬ mt ks (i + 1) ∧ ¬ mt ks (i + 2) := by
  obtain ⟨_, h2, h3⟩ := h
  refine ⟨fun ⟨q, _⟩ => ?_, fun ⟨q, _⟩ => ?_⟩
  · rw [h2] at q; exact absurd q (by decide)
  · rw [h3] at q; exact absurd q (by decide)
theorem byteInt {b : Array UInt8} {i : Nat} (h : i < b.size) : (KBw.bInts b).getD i 0 = ((b[i].toNat : Nat) : Int) := by
  rw [List.getD_eq_getElem?_getD, bInts_at (Array.getElem?_eq_getElem h)]; rfl
theorem byte_eq {x y : UInt8} : ((x.toNat : Nat) : Int) = ((y.toNat : Nat) : Int) ↔ x = y :=
  ⟨fun h => UInt8.toNat_inj.mp (by omega), fun h => by rw [h]⟩
theorem mt_bytes {b : Array UInt8} {i : Nat} (h : i + 3 ≤ b.size) : (b.extract i (i + 3) == #[239, 191, 189]) = decide (mt (KBw.bInts b) i) := by
  have e : b.extract i (i + 3) = #[b[i], b[i + 1], b[i + 2]] := by
    refine Array.ext (by simp; omega) fun j h1 h2 => ?_
    have hj : j = 0 ∨ j = 1 ∨ j = 2 := by simp at h2; omega
    rcases hj with rfl | rfl | rfl <;> simp
  rw [e, Bool.eq_iff_iff, beq_iff_eq, decide_eq_true_eq]
  unfold mt
  rw [byteInt (i := i) (by omega), byteInt (i := i + 1) (by omega), byteInt (i := i + 2) (by omega)]
  rw [show (239 : Int) = (((239 : UInt8).toNat : Nat) : Int) from rfl, show (191 : Int) = (((191 : UInt8).toNat : Nat) : Int) from rfl, show (189 : Int) = (((189 : UInt8).toNat : Nat) : Int) from rfl, byte_eq, byte_eq, byte_eq]
  simp
theorem occ_go {b : Array UInt8} : ∀ m : Nat, m + 2 ≤ b.size →
    ((((List.range m).map (· + 0)).foldl (fun (acc : List Nat × Nat) (i : Nat) => if i ≥ acc.2 && b.extract i (i + 3) == #[239, 191, 189] then (i :: acc.1, i + 3) else acc) ([], 0)).1.length = cM (KBw.bInts b) m) ∧
    (((List.range m).map (· + 0)).foldl (fun (acc : List Nat × Nat) (i : Nat) => if i ≥ acc.2 && b.extract i (i + 3) == #[239, 191, 189] then (i :: acc.1, i + 3) else acc) ([], 0)).2 ≤ m + 2 ∧
    ∀ i, m ≤ i → i < (((List.range m).map (· + 0)).foldl (fun (acc : List Nat × Nat) (i : Nat) => if i ≥ acc.2 && b.extract i (i + 3) == #[239, 191, 189] then (i :: acc.1, i + 3) else acc) ([], 0)).2 → ¬ mt (KBw.bInts b) i := by
  intro m
  induction m with
  | zero => intro _; exact ⟨rfl, Nat.zero_le _, fun i _ h => absurd h (Nat.not_lt_zero _)⟩
  | succ m ih =>
    intro hm
    obtain ⟨h1, h2, h3⟩ := ih (by omega)
    rw [List.range_succ, List.map_append, List.foldl_append]
    simp only [List.map_cons, List.map_nil, List.foldl_cons, List.foldl_nil, Nat.add_zero] at h1 h2 h3 ⊢
    generalize ((List.range m).map fun x => x).foldl (fun (acc : List Nat × Nat) (i : Nat) => if i ≥ acc.2 && b.extract i (i + 3) == #[239, 191, 189] then (i :: acc.1, i + 3) else acc) ([], 0) = st at *
    rw [mt_bytes (i := m) (by omega)]
    show (_ = cM (KBw.bInts b) m + (if mt (KBw.bInts b) m then 1 else 0)) ∧ _
    by_cases hq : mt (KBw.bInts b) m
    · have hge : m ≥ st.2 := by
        rcases Nat.lt_or_ge m st.2 with z | z
        · exact absurd hq (h3 m (Nat.le_refl _) z)
        · exact z
      rw [decide_eq_true hq, decide_eq_true hge, Bool.true_and, if_pos rfl, if_pos hq]
      refine ⟨by rw [List.length_cons, h1], by show m + 3 ≤ _; omega, fun i q1 q2 => ?_⟩
      have q3 : i < m + 3 := q2
      have hi : i = m + 1 ∨ i = m + 2 := by omega
      rcases hi with rfl | rfl
      · exact (mt_off hq).1
      · exact (mt_off hq).2
    · rw [decide_eq_false hq, Bool.and_false, if_neg Bool.false_ne_true, if_neg hq]
      exact ⟨h1, by omega, fun i q1 q2 => h3 i (by omega) q2⟩
theorem occ_cnt {b : Array UInt8} {ks : List Int} (hb : KBw.bInts b = ks) : (if b.size < (#[239, 191, 189] : Array UInt8).size then 0 else (PySem.Builtin.Bytes.occurrences b #[239, 191, 189] 0 b.size).length) = cnt3 ks := by
  subst hb
  rw [cnt3_cM, cM_end, KBw.ints_length]
  show (if b.size < 3 then 0 else _) = _
  by_cases h : b.size < 3
  · rw [if_pos h]
    rcases hs : b.size with _ | _ | _ | n
    · rfl
    · rfl
    · rfl
    · omega
  · rw [if_neg h]
    obtain ⟨h1, _, _⟩ := occ_go (b := b) (b.size - 2) (by omega)
    rw [← h1]
    unfold PySem.Builtin.Bytes.occurrences
    rw [List.length_reverse]
    rw [show b.size + 1 - (0 + (#[239, 191, 189] : Array UInt8).size) = b.size - 2 by show b.size + 1 - (0 + 3) = _; omega]
    rfl
theorem cnt_lat : ∀ (cs : List Int), (∀ c ∈ cs, 0 ≤ c) → cnt 65533 (cs.map fun k => k.toNat) = (cntU cs : Int)
  | [], _ => rfl
  | c :: r, h => by
    have h0 := h c (.head _)
    rw [List.map_cons, cnt_cons, cnt_lat r fun x hx => h x (.tail _ hx)]
    show _ = (((if c = 65533 then 1 else 0) + cntU r : Nat) : Int)
    by_cases q : c = 65533
    · rw [if_pos q, if_pos (by omega)]; omega
    · rw [if_neg q, if_neg (by omega)]; omega
theorem count_lat {cs : List Int} (h : ∀ c ∈ cs, 0 ≤ c) : (Txt.count (lat cs) (Str.ofString "�") : Int) = (cntU cs : Int) := by
  have e : Str.ofString "�" = ⟨#[65533]⟩ := by decide +kernel
  rw [e, count_cnt]
  exact cnt_lat cs h
theorem bInts_in {b : Array UInt8} {ks : List Int} (hb : KBw.bInts b = ks) : ∀ k ∈ ks, 0 ≤ k ∧ k < 256 := fun k hk => KBw.ints_in (hb ▸ hk)
theorem end_8 {b : Array UInt8} {ks : List Int} {n : Nat} (hb : KBw.bInts b = ks) (hz : (dec ks 0).isSome = true) (hn : n = if b.size < (#[239, 191, 189] : Array UInt8).size then 0 else (PySem.Builtin.Bytes.occurrences b #[239, 191, 189] 0 b.size).length) : (Txt.count (lat (gsd ks)) (Str.ofString "�") : Int) = (n : Int) := by
  obtain ⟨c, hc⟩ := Option.isSome_iff_exists.mp hz
  rw [hn, occ_cnt hb, gsd_some hc, count_lat (Dc.of hc).pos, (Dc.of hc).count]
theorem end_L {b : Array UInt8} {ks : List Int} (hb : KBw.bInts b = ks) (hz : (dec ks 0).isSome = false) : (Txt.count (lat (gsd ks)) (Str.ofString "�") : Int) = 0 := by
  have hk := bInts_in hb
  rw [gsd_none hz, count_lat fun k q => (hk k q).1, cntU_small fun k q => (hk k q).2]
  rfl
theorem eq_ints {prog : Program} {w : World} {A : Around} {E : Value → Shared → Prop} {s : Shared} {Q : Value → Shared → Prop} {t u : Tok} {x y : Int} (e : x = y) (h : Q (.bool true) s) : wpAny (model prog w) A (compareOp .Eq (.int x t) (.int y u)) Q E s := by
  subst e
  exact eq_int (by simpa using h)
end
section
theorem said_y_law_1 : True := by
  k_with_none
  trivial
theorem said_y_law_2 : True := by
  k_with "mine room" => (first | exact ro0 (by assumption) | exact ro2 (by assumption) (by rfl) | exact ro1 (by assumption) (by rfl) | exact Nat.lt_of_succ_le (Nat.le_of_ble_eq_true (by rfl)) | ktr_room)
  k_with "mine units" => (first | exact ro2 (by assumption) (by rfl) | exact ro1 (by assumption) (by rfl) | exact Nat.lt_of_succ_le (Nat.le_of_ble_eq_true (by rfl)) | ktr_units)
  k_with "execs cons" => ((k_here; (with_reducible show wpAny _ _ (execs (_ :: _) _) _ _ { heap := _, gens := _, drawn := _, toks := _ + 1, os := _ }); refine tok_any ?_; intro tkA; (try dsimp only)))
  k_with "call ref" => ((k_here; (with_reducible show wpAny _ _ (call (Value.ref 142) _) _ _ _); k_dflt (refine' pen_use ?zzz1 ?zzz2 ?zzk1 ?zzk2 ?zzk3 ?zzk4 ?zzk5 ?zzkK ?zzkd ?zzku ?zzkX ?_; (case zzk1 => k_asm); (case zzk2 => k_asm); (case zzk3 => k_asm); (case zzk4 => k_asm); (case zzkX => assumption); (case zzz1 => assumption); (case zzz2 => omega); (case zzk5 => k_asm); (case zzkK => first | exact rfl | assumption); (case zzkd => walk_at "mine room"); (case zzku => walk_at "mine units"); intro P_ C_ ws_ ks_ t19 t29 kP9 kC9 h9 tk9 hPC hks hkl F9 N9 q1 q2; (try simp only [AllNe, and_true] at q1); (try simp only [AllNe, and_true] at q2); obtain ⟨q11, q12, q13⟩ := q1; obtain ⟨q21, q22, q23⟩ := q2; (try dsimp only); (try k_sweep); (try k_fold))))
  k_with "mine ne" => ((refine neN ?_; (try dsimp only); first | with_reducible assumption | (refine Ne.symm ?_; with_reducible assumption) | omega))
  k_with "mine all" => (first | exact List.forall_mem_nil _ | (refine' List.forall_mem_cons.mpr ⟨?zza, ?zzb⟩; (case zza => walk_at "mine ne"); (case zzb => walk_at "mine all")))
  k_with "mine updF" => (first | (refine' UpdF.head ?zza; (case zza => walk_at "mine all")) | (refine' UpdF.tail ?zza ?zzb; (case zza => walk_at "mine ne"); (case zzb => walk_at "mine updF")))
  k_with "mine split" => (repeat (first | ((rename (@Ne Nat _ _) ∧ _ => zz); obtain ⟨_, _⟩ := zz) | ((rename ((@Ne Nat _ _) ∧ _) ∧ _ => zz); obtain ⟨_, _⟩ := zz)))
  k_with "call ref" => ((k_here; (with_reducible show wpAny _ _ (call (Value.ref 149) _) _ _ _); k_dflt (refine' draw_use ?zzzU ?zzzC ?zzz1 ?zzz2 ?zzz3 ?zzz4 ?zzz5 ?zzz6 ?zzz7 ?zzk1 ?zzk2 ?zzk3 ?zzk4 ?zzk5 ?zzkK ?zzkd ?zzku ?_; (case zzk1 => k_asm); (case zzk2 => k_asm); (case zzk4 => k_asm); (case zzzU => walk_at "mine updF"); (case zzzC => k_mem); (case zzz1 => walk_at "mine ne"); (case zzz2 => assumption); (case zzz3 => assumption); (case zzz4 => omega); (case zzz5 => omega); (case zzz6 => omega); (case zzz7 => omega); (case zzk3 => k_asm); (case zzk5 => k_asm); (case zzkK => first | exact rfl | assumption); (case zzkd => walk_at "mine room"); (case zzku => walk_at "mine units"); intro r9 t9 spot9 p29 t19 t29 kP9 h9 tk9 e1 e2 e3 e4 F9 N9; (try dsimp only at N9); (try dsimp only); (try k_sweep); (try k_fold))))
  k_with "call ref" => ((k_here; (with_reducible show wpAny _ _ (call (Value.ref 156) _) _ _ _); k_dflt (refine' pick_use ?zzzU ?zzzC ?zzzS ?zzz1 ?zzy1 ?zzy2 ?zzz2 ?zzz3 ?zzz4 ?zzz5 ?zzz6 ?zzz7 ?zzk1 ?zzk2 ?zzk3 ?zzk4 ?zzk5 ?zzkK ?zzkd ?zzku ?_; (case zzk1 => k_asm); (case zzk2 => k_asm); (case zzk4 => k_asm); (case zzzU => walk_at "mine updF"); (case zzzC => k_mem); (case zzzS => k_mem); (case zzz1 => walk_at "mine ne"); (case zzy1 => walk_at "mine ne"); (case zzy2 => walk_at "mine ne"); (case zzz2 => assumption); (case zzz3 => assumption); (case zzz4 => omega); (case zzz5 => omega); (case zzz6 => assumption); (case zzz7 => assumption); (case zzk3 => k_asm); (case zzk5 => k_asm); (case zzkK => first | exact rfl | assumption); (case zzkd => walk_at "mine room"); (case zzku => walk_at "mine units"); intro v9 spot9 p29 t19 t29 kP9 h9 tk9 e1 e3 e4 F9 N9; (try dsimp only at N9); (try dsimp only); (try k_sweep); (try k_fold))))
  k_with "eval ListComp" => ((k_here; k_dflt (refine LCg.ListComp_U (F₀ := by k_asm) (by with_unfolding_all rfl) (by decide) (by rfl) (by decide) (by rfl) ?_)))
  k_with "mine sigs" => ((repeat' (first | exact List.forall_mem_nil _ | refine List.forall_mem_cons.mpr ⟨⟨_, _, rfl, by decide +kernel⟩, ?_⟩)))
  k_with "CompSrc" => ((k_here; k_dflt (first
      | (refine' srcU_strs (b := 10) ?zzq_hS ?zzq_hP ?zzq_a ?zzq_F ?zzq_N ?zzq_U ?zzq_r ?zzq_z1 ?zzq_z2 ?zzq_z3 ?zzq_z4 ?zzq_hit ?_ ?_; (case zzq_a => rfl); (case zzq_N => k_asm); (case zzq_hS => k_mem); (case zzq_hP => k_mem); (case zzq_hit => assumption); (case zzq_F => k_asm); (case zzq_U => walk_at "mine updF"); (case zzq_r => assumption); (case zzq_z1 => omega); (case zzq_z2 => omega); (case zzq_z3 => omega); (case zzq_z4 => omega))
      | (refine' srcU_bytes (b := 100) ?zzq_hS ?zzq_hP ?zzq_a ?zzq_F ?zzq_N ?zzq_U ?zzq_r ?zzq_z1 ?zzq_z2 ?zzq_z3 ?zzq_z4 ?zzq_hit ?_ ?_; (case zzq_a => rfl); (case zzq_N => k_asm); (case zzq_hS => k_mem); (case zzq_hP => k_mem); (case zzq_hit => assumption); (case zzq_F => k_asm); (case zzq_U => walk_at "mine updF"); (case zzq_r => assumption); (case zzq_z1 => omega); (case zzq_z2 => omega); (case zzq_z3 => omega); (case zzq_z4 => omega)))))
  k_with "PickStep" => (((unfold PickStep); intro g' spot8 p28 t18 t28 kP8 v8 ys' I' oI' C' oC' D' m' h' tk' E' z1 z2 hC' hx' F' N' off' ne'; (have off2 := off'); (try simp only [LCg.Off3, and_true] at off2); (try dsimp only at N'); walk_at "mine split"))
  k_with "CompEnd" => ((k_here; (refine' LCg.CompEnd.intro ?zzkF ?zzkN _ (fun _ h => h) ?zzkO ?zzkS ?zzkR; (case zzkF => k_asm); (case zzkN => assumption); (case zzkO => with_unfolding_all assumption); (case zzkS => exact True.intro); (case zzkR => exact ⟨by assumption, _, _, _, _, _, by assumption, by assumption, rfl⟩))))
  k_with "FinE" => (((unfold LCg.FinE); intro D' h' tk' F' N' o1'; (try simp only [List.nil_append, List.cons_append] at N'); (try dsimp only at N'); (try dsimp only)))
  trivial
theorem join_drop {D : Addr} {ys : List Value} {cs : List Int} {h₀ : Heap} {L : Addr} {news : Led} {prog : Program} {w : World} {A : Around} {E : Value → Shared → Prop} {s : Shared} {t : Tok} {Q : Value → Shared → Prop} (N : News h₀ L s.heap ((D, LCg.lst ys) :: news)) (hi : StrsAre ys (cs.map sg)) (hn : cs.length ≤ 65536)
    (h : ∀ t' k, News h₀ L s.heap news → Q (.str (lat cs) t') { s with toks := k }) : wpAny (model prog w) A (call (.builtin "str.join") [.str (Str.ofString "") t, .ref D]) Q E s :=
  join_sg (vs := ys.toArray) (k := ys.length) N (.head _) hi hn fun t' k => by rw [join_lat]; exact h t' k (cb_drop N fun p hp => .tail _ hp)
theorem joinb_drop {D : Addr} {ys : List Value} {bs : List (Array UInt8)} {h₀ : Heap} {L : Addr} {news : Led} {prog : Program} {w : World} {A : Around} {E : Value → Shared → Prop} {s : Shared} {t : Tok} {Q : Value → Shared → Prop} (N : News h₀ L s.heap ((D, LCg.lst ys) :: news)) (hi : BC.BytesAre ys bs) (hn : (bs.map Array.size).sum ≤ 40)
    (h : ∀ (b : Array UInt8) ks t' k, KBw.bInts b = ks → ks.length ≤ 40 → News h₀ L s.heap news → Q (.bytes b t') { s with toks := k }) : wpAny (model prog w) A (call (.builtin "bytes.join") [.bytes #[] t, .ref D]) Q E s :=
  BC.join_b ⟨_, (N _ (.head _)).1, rfl, _, rfl⟩ hi (by omega) fun t' k => h _ _ t' k rfl (by rw [KBw.ints_length, BC.joined_size]; exact hn) (cb_drop N fun p hp => .tail _ hp)
theorem said_y_law_3 : True := by
  k_with "call builtin:str.join" => ((k_here; k_dflt (refine' join_drop ?zzq_N ?zzq_i ?zzq_z ?_; (case zzq_N => k_asm); (case zzq_i => assumption); (case zzq_z => omega)); (rename News _ _ _ _ => nX); clear nX; (rename LCg.Off1 _ _ => oX); clear oX; intro t9 k9 N9; (try dsimp only)))
  k_with "call builtin:bytes.join" => ((k_here; k_dflt (refine' joinb_drop ?zzq_N ?zzq_i ?zzq_z ?_; (case zzq_N => k_asm); (case zzq_i => assumption); (case zzq_z => assumption)); (rename News _ _ _ _ => nX); clear nX; (rename LCg.Off1 _ _ => oX); clear oX; intro b9 ks9 t9 k9 hb9 hl9 N9; (try dsimp only)))
  k_with "call ref" => ((k_here; (with_reducible show wpAny _ _ (call (Value.ref 137) _) _ _ _); k_dflt (refine' octL_use ?zzz1 ?zzz2 ?zzk1 ?zzk2 ?zzk3 ?zzk4 ?zzk5 ?zzkK ?zzkd ?zzku ?_; (case zzk1 => k_asm); (case zzk2 => k_asm); (case zzk4 => k_asm); (case zzz1 => assumption); (case zzz2 => omega); (case zzk3 => k_asm); (case zzk5 => k_asm); (case zzkK => first | exact rfl | assumption); (case zzkd => walk_at "mine room"); (case zzku => walk_at "mine units"); intro b9 u9 h9 tk9 hb9 F9 N9; (try dsimp only); (try k_sweep); (try k_fold))))
  k_with "call ref" => ((k_here; (with_reducible show wpAny _ _ (call (Value.ref 137) _) _ _ _); k_dflt (refine' oct8_use ?zzz1 ?zzz2 ?zzk1 ?zzk2 ?zzk3 ?zzk4 ?zzk5 ?zzkK ?zzkd ?zzku ?_; (case zzk1 => k_asm); (case zzk2 => k_asm); (case zzk4 => k_asm); (case zzz1 => assumption); (case zzz2 => omega); (case zzk3 => k_asm); (case zzk5 => k_asm); (case zzkK => first | exact rfl | assumption); (case zzkd => walk_at "mine room"); (case zzku => walk_at "mine units"); intro b9 u9 h9 tk9 hb9 hl9 F9 N9; (try dsimp only); (try k_sweep); (try k_fold))))
  k_with "call ref" => ((k_here; (with_reducible show wpAny _ _ (call (Value.ref 123) _) _ _ _); k_dflt (refine' guess_use ?zzz1 ?zzz2 ?zzz3 ?zzk1 ?zzk2 ?zzk3 ?zzk4 ?zzk5 ?zzkK ?zzkd ?zzku ?_; (case zzk1 => k_asm); (case zzk2 => k_asm); (case zzk4 => k_asm); (case zzz1 => assumption); (case zzz2 => first | exact gsd_octs (by assumption) | exact rfl); (case zzz3 => omega); (case zzk3 => k_asm); (case zzk5 => k_asm); (case zzkK => first | exact rfl | assumption); (case zzkd => walk_at "mine room"); (case zzku => walk_at "mine units"); intro u9 h9 tk9 F9 N9; (try dsimp only); (try k_sweep); (try k_fold))))
  k_with "call ref" => ((k_here; (with_reducible show wpAny _ _ (call (Value.ref 161) _) _ _ _); k_dflt (refine' isu_use ?zzz1 ?zzz2 ?zzk1 ?zzk2 ?zzk3 ?zzk4 ?zzk5 ?zzkK ?zzkd ?zzku ?_; (case zzk1 => k_asm); (case zzk2 => k_asm); (case zzk4 => k_asm); (case zzz1 => assumption); (case zzz2 => omega); (case zzk3 => k_asm); (case zzk5 => k_asm); (case zzkK => first | exact rfl | assumption); (case zzkd => walk_at "mine room"); (case zzku => walk_at "mine units"); intro h9 tk9 F9 N9; (try dsimp only); (try k_sweep); (try k_fold))))
  k_with "call ref" => ((k_here; (with_reducible show wpAny _ _ (call (Value.ref 116) _) _ _ _); k_dflt (refine' strict8_use ?zzz1 ?zzz2 ?zzz3 ?zzk1 ?zzk2 ?zzk3 ?zzk4 ?zzk5 ?zzkK ?zzkd ?zzku ?_; (case zzk1 => k_asm); (case zzk2 => k_asm); (case zzk4 => k_asm); (case zzz1 => assumption); (case zzz2 => omega); (case zzz3 => assumption); (case zzk3 => k_asm); (case zzk5 => k_asm); (case zzkK => first | exact rfl | assumption); (case zzkd => walk_at "mine room"); (case zzku => walk_at "mine units"); intro u9 h9 tk9 F9 N9; (try dsimp only); (try k_sweep); (try k_fold))))
  k_with "call ref" => ((k_here; (with_reducible show wpAny _ _ (call (Value.ref 116) _) _ _ _); k_dflt (refine' strictL_use ?zzz1 ?zzz2 ?zzz3 ?zzk1 ?zzk2 ?zzk3 ?zzk4 ?zzk5 ?zzkK ?zzkd ?zzku ?_; (case zzk1 => k_asm); (case zzk2 => k_asm); (case zzk4 => k_asm); (case zzz1 => assumption); (case zzz2 => omega); (case zzz3 => assumption); (case zzk3 => k_asm); (case zzk5 => k_asm); (case zzkK => first | exact rfl | assumption); (case zzkd => walk_at "mine room"); (case zzku => walk_at "mine units"); intro u9 h9 tk9 F9 N9; (try dsimp only); (try k_sweep); (try k_fold))))
  k_with "eval ListComp" => ((k_here; (with_reducible show wpAny _ _ (eval (PySem.Expr.ListComp _ [⟨_, _, [_], 0⟩] _ _) _) _ _ _); k_dflt (refine comp_T (by k_asm) (by with_unfolding_all rfl) (by decide) (by rfl) (by decide) (by rfl) ?_ (fun _ => by rfl))))
  k_with "CSrc" => ((k_here; (with_reducible show CSrc _ _ _ _ _ _ _ _ _ _ _ _ _ (Value.bytes _ _) _); k_dflt (refine' CSrc.filt (fun c => decide (127 < c)) ?zzhbb ?zzq_h ?zzF ?zzN ?zzhsz ?_ ?_; (case zzhbb => assumption); (case zzq_h => rfl); (case zzF => k_asm); (case zzN => k_asm); (case zzhsz => omega)); intro g9 c9 u9 ys9 I9 oI9 C9 oC9 D9 m9 h9 tk9 E9 hc9 hO9 hx9 F9 N9 off9 ne9; (have off2 := off9); (try simp only [LCg.Off3, and_true] at off2); (try dsimp only); walk_at "mine split"))
  k_with "CSrc" => ((k_here; (with_reducible show CSrc _ _ _ _ _ _ _ _ _ _ _ _ _ (Value.str _ _) _); k_dflt (refine' CSrc.low ?zzhcs ?zzhl ?zzq_h ?zzF ?zzN ?_ ?_; (case zzhcs => assumption); (case zzhl => assumption); (case zzq_h => rfl); (case zzF => k_asm); (case zzN => k_asm)); intro g9 c9 u9 ys9 I9 oI9 C9 oC9 D9 m9 h9 tk9 E9 hO9 hx9 F9 N9 off9 ne9; (have off2 := off9); (try simp only [LCg.Off3, and_true] at off2); (try dsimp only); walk_at "mine split"))
  k_with "CompEnd" => ((k_here; (refine' LCg.CompEnd.intro ?zzkF ?zzkN _ (fun _ h => h) ?zzkO ?zzkS ?zzkR; (case zzkF => k_asm); (case zzkN => assumption); (case zzkO => with_unfolding_all assumption); (case zzkS => exact True.intro); (case zzkR => first | exact ⟨by assumption, _, _, _, _, _, by assumption, by assumption, rfl⟩ | exact ⟨by omega, ⟨_, rfl⟩, rfl⟩ | exact ⟨by omega, rfl⟩ | exact ⟨decide_eq_true (by omega), ⟨_, rfl⟩, rfl⟩ | exact ⟨decide_eq_false (by omega), rfl⟩))))
  k_with "compareOp NotEq str str" => ((k_here; (with_reducible refine ne_same ?_)))
  k_with "compareOp Eq str str" => ((k_here; (with_reducible refine eq_low (by assumption) ?_)))
  k_with "compareOp Eq ref ref" => ((k_here; k_dflt (refine' eq_nil ?zzN ?zzi ?zzu ?_; (case zzN => k_asm); (case zzi => assumption); (case zzu => walk_at "mine units")); (rename News _ _ _ _ => nX); clear nX; (rename LCg.Off1 _ _ => oX); clear oX; intro N9; (try dsimp only)))
  k_with "compareOp NotEq bool bool" => ((k_here; k_dflt (refine' ne_bools ?zzq_e ?_; (case zzq_e => exact rfl))))
  k_with "ite" => (with_reducible first | refine ite_ff ?_ | refine ite_tt ?_)
  k_with "getMethod bytes" => ((k_here; (with_reducible first | refine BC.method_join ?_ | refine BC.method_count ?_)))
  k_with "subscriptTail" => ((k_here; (with_reducible show wpAny _ _ (subscriptTail _ (PySem.Expr.Slice _ _ none _) (Value.bytes _ _) (Value.ref _)) _ _ _); k_dflt (refine' cut_use (s := ⟨_, _, _, _, _⟩) ?zzq_F ?zzq_N ?zzq_k ?zzq_l ?zzq_u ?zzq_z ?_ (by with_unfolding_all rfl) (fun _ => by with_unfolding_all rfl); (case zzq_F => k_asm); (case zzq_N => k_asm); (case zzq_k => assumption); (case zzq_l => constructor); (case zzq_u => constructor); (case zzq_z => assumption)); intro b9 ks9 h9 t9 k9 hb9 hl9 F9 N9; (try dsimp only)))
  k_with "call builtin:bytes.count" => ((k_here; k_dflt (refine' BC.count_b ?zzq_c ?_; (case zzq_c => rfl)); intro n9 hn9; (try dsimp only)))
  k_with "compareOp Eq int int" => ((k_here; k_dflt (refine' eq_ints ?zzq_e ?_; (case zzq_e => first | exact end_8 (by assumption) (by assumption) (by assumption) | exact end_L (by assumption) (by assumption)))))
  trivial
theorem join_or {M : Model} {A : Around} {E : Value → Shared → Prop} {s : Shared} {h₀ : Heap} {L : Addr} {m : Nm} {news : Led} {Q : Value → Shared → Prop} {x : Sem Value} {ks : List Int} (_hk : ∀ c ∈ ks, 0 ≤ c ∧ c < 256) (F : Fr h₀ L s.heap m) (N : News h₀ L s.heap news)
    (h : wpAny M A x (JoinE h₀ L m news s fun v => v = .bool (decide (ks.filter (fun c => decide (127 < c)) = []) || !(dec ks 0).isSome)) E s) (k : ∀ h' tk', Fr h₀ L h' m → News h₀ L h' news → Q (.bool (decide (ks.filter (fun c => decide (127 < c)) = []) || !(dec ks 0).isSome)) { s with heap := h', toks := tk' }) : wpAny M A x Q E s :=
  join_bool _ F N h k
theorem join_heard {M : Model} {A : Around} {E : Value → Shared → Prop} {s : Shared} {h₀ : Heap} {L : Addr} {m : Nm} {news : Led} {Q : Value → Shared → Prop} {x : Sem Value} {b : Array UInt8} {ks : List Int} (_hb : KBw.bInts b = ks) (F : Fr h₀ L s.heap m) (N : News h₀ L s.heap news)
    (h : wpAny M A x (JoinE h₀ L m news s fun v => ∃ u, v = .str (lat (gsd ks)) u) E s) (k : ∀ u h' tk', Fr h₀ L h' m → News h₀ L h' news → Q (.str (lat (gsd ks)) u) { s with heap := h', toks := tk' }) : wpAny M A x Q E s :=
  join_v F N _ h fun v h' tk' ⟨u, e⟩ F' N' => e ▸ k u h' tk' F' N'
theorem said_y_law_4 : True := by
  k_with "eval BoolOp" => ((k_here; (fail_if_success (with_reducible show wpAny _ _ _ (JoinE _ _ _ _ _ _) _ _)); (refine' join_or ?zzh ?zzF ?zzN ?_ ?_; (case zzh => assumption); (case zzF => k_asm); (case zzN => k_asm)); rotate_left; intro h9 tk9 F9 N9; (try dsimp only)))
  k_with "eval Call" => ((k_here; (fail_if_success (with_reducible show wpAny _ _ _ (JoinE _ _ _ _ _ _) _ _)); (with_reducible show wpAny _ _ (eval (PySem.Expr.Call (PySem.Expr.Name (Str.ofString "strict_text") _) _ _ _) _) _ _ _); (refine' join_heard ?zzh ?zzF ?zzN ?_ ?_; (case zzh => assumption); (case zzF => k_asm); (case zzN => k_asm)); rotate_left; intro u9 h9 tk9 F9 N9; (try dsimp only)))
  k_with "JoinE" => ((k_here; (with_reducible show JoinE _ _ _ _ _ (fun v => v = Value.bool _) _ _); (refine' JoinE.intro ?zzF ?zzN ?zzS ?zzp; (case zzF => k_asm); (case zzN => assumption); (case zzS => first | with_reducible exact fun p h => h | kcj_all); (case zzp => (first | exact congrArg Value.bool (or_l (by assumption)).symm | exact congrArg Value.bool (or_r (by assumption)).symm)))))
  k_with "JoinE" => ((k_here; (with_reducible show JoinE _ _ _ _ _ (fun v => ∃ u, v = Value.str _ u) _ _); (refine' JoinE.intro ?zzF ?zzN ?zzS ?zzp; (case zzF => k_asm); (case zzN => assumption); (case zzS => first | with_reducible exact fun p h => h | kcj_all); (case zzp => exact ⟨_, rfl⟩))))
  trivial
theorem newList_hide {prog : Program} {w : World} {A : Around} {E : Value → Shared → Prop} {s : Shared} {h₀ : Heap} {L : Addr} {m : Nm} {news : Led} {Q : Value → Shared → Prop} {vs : List Value} (P : Value → Prop) (hP : ∀ y ∈ vs, P y) (h0 : 0 < vs.length) (h1 : vs.length ≤ 1000) (F : Fr h₀ L s.heap m) (N : News h₀ L s.heap news)
    (h : ∀ l h' its, Fr h₀ L h' m → News h₀ L h' ((l, listOf (List.toArray its) 0) :: news) → (∀ p ∈ news, p.1 < l) → (∀ y ∈ its, P y) → 0 < its.length → its.length ≤ 1000 → Q (.ref l) { s with heap := h' }) : wpAny (model prog w) A (newList vs) Q E s :=
  newList_K F N (fun l h' F' N' l1 => h l h' vs F' N' l1 hP h0 h1) (by rw [sizeLine_eq]; omega)
theorem said_y_law_5 : True := by
  k_with "newList" => ((k_here; (with_reducible show wpAny _ _ (newList (_ :: _ :: _ :: _ :: _ :: _)) _ _ _); k_dflt (first
      | (refine' newList_hide (fun y => ∃ x t, y = Value.str x t ∧ ∃ c ∈ sigI, x = sg c) ?zzP ?zza ?zzb ?zzF ?zzN ?_; (case zzF => k_asm); (case zzN => k_asm); (case zzP => walk_at "mine sigs"); (case zza => exact Nat.le_of_ble_eq_true rfl); (case zzb => exact Nat.le_of_ble_eq_true rfl))
      | (refine' newList_hide (fun y => ∃ b t, y = Value.bytes b t ∧ b.size ≤ 4) ?zzP ?zza ?zzb ?zzF ?zzN ?_; (case zzF => k_asm); (case zzN => k_asm); (case zzP => walk_at "mine sigs"); (case zza => exact Nat.le_of_ble_eq_true rfl); (case zzb => exact Nat.le_of_ble_eq_true rfl))); intro l' h' its' F' N' l1 hI' hz' hy'; (try k_lt l1); (try k_sweep)))
  trivial
theorem law_whole : PySem.Challenge.rw_or0036_01.Holds := by
  refine hd ?_
  w_strict (k_go0; (all_goals try k_fold); k_steps; (all_goals (try k_data)); all_goals w_report)
end
end Mine
theorem PySem.Challenge.cw_or0036_01_holds : PySem.Challenge.rw_or0036_01.Holds := by
  exact Mine.law_whole
