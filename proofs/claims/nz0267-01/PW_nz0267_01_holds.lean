import PyProof.Rows.All
import Wide.All
import OpenK.AllK
import Wide.FinOn
import PySem.Challenge.RW_nz0267_01
set_option Elab.async false

section
open PySem PySem.W PyProof.Rows
namespace Mine
set_option maxRecDepth 100000 in
set_option maxHeartbeats 8000000 in
open_top hd for PySem.Challenge.rw_nz0267_01
end Mine
end

section
open PySem PySem.W PyProof.Rows
namespace Mine
set_option maxRecDepth 100000

/-- what a call of the def at f with the values vs answers, from wherever in the law it is called -/
def Con (prog : Program) (K : Params → Frag) (p : Program) (d : Nat) (f : Addr) (vs : List Value) (Post : Value → List (Addr × Obj) → Prop) : Prop :=
  ∀ (w : World) (loose : List Str) (mean : ExcName → Option Value) (mg mb : Str → Option Value) (dp un : Nat) (gd : Option (List Code)) (cn : Str) (cs : Scope) (a : Addr) (ccd : Value) (cl : List (Str × Addr)) (outer : List Env) (A₀ : Around) (base h₀ : Heap) (L : Addr) (m : Str → Option Value) (news : List (Addr × Obj)) (s : Shared) (Q E : Value → Shared → Prop),
    Below A₀ base outer h₀ → Fr h₀ L s.heap m → (K w.params).In h₀ → News h₀ L s.heap news → Top p loose mean mg mb h₀ → cs.kind = .function → dp + d < recursionLimit → un + 8 * d < cLine →
    (∀ v nn h' tk', Fr h₀ L h' m → News h₀ L h' (nn ++ news) → (∀ p ∈ nn, ∀ q ∈ news, q.1 < p.1) → Post v nn → Q v { s with heap := h', toks := tk' }) →
    wpAny (model prog w) (ktrTop dp un gd cn cs L a ccd cl outer) (call (.ref f) vs) Q E s

def horner (ks : List Int) : Int := ks.foldl (fun a c => a * 10 + c - 48) 0

local macro_rules | `(tactic| walk_at "pyIter bytes") => `(tactic| k_dflt (k_extra "my pyIter bytes"))
local macro_rules | `(tactic| walk_at "InvEndN") => `(tactic| k_dflt (k_extra "my InvEndN"))

set_option maxHeartbeats 4000000 in
theorem nof_con (b : Array UInt8) (t : Tok) (ks : List Int) (hb : KBw.bInts b = ks) :
    Con PySem.Challenge.rw_nz0267_01.row.prog hd.heap_39 hd.view_39 2 28 [.bytes b t] (fun v nn => nn = [] ∧ ∃ t', v = .int (horner ks) t') := by
  k_fill
  unfold Con
  intro w loose mean mg mb dp un gd cn cs a ccd cl outer A₀ base h₀ L m news s Q E B F X N T hk hdp hun hret
  k_with_none
  k_with "my pyIter bytes" => ((rename Fr _ _ _ _ => lF'); (rename News _ _ _ _ => lN'); refine' KBw.iterBytes_acc1 (y := Str.ofString "number") (fun a c => a * 10 + c - 48) hb rfl lF' lN' (by rfl) ?_ ?_; (all_goals (clear lF' lN')))
  k_with "my InvEndN" => (refine InvEndN.intro (by assumption) (by assumption) ⟨rfl, ⟨_, rfl⟩, by kba_same⟩ rfl (fun p hp => ?_) (fun p hp => ?_); all_goals (simp only [List.mem_append]; simp [hp]; done))
  refine wpAny_call ?_
  k_dflt cell_enter
  k_steps
  exact hret _ [] _ _ (by assumption) (by assumption) (fun _ h => nomatch h) ⟨rfl, _, rfl⟩
theorem con_use {prog : Program} {K : Params → Frag} {p : Program} {d : Nat} {f : Addr} {vs : List Value} {Post : Value → List (Addr × Obj) → Prop} (C : Con prog K p d f vs Post)
  {w : World} {loose : List Str} {mean : ExcName → Option Value} {mg mb : Str → Option Value} {dp un : Nat} {gd : Option (List Code)} {cn : Str} {cs : Scope} {a : Addr} {ccd : Value} {cl : List (Str × Addr)} {outer : List Env} {A₀ : Around} {base h₀ : Heap} {L : Addr} {m : Str → Option Value} {news : List (Addr × Obj)} {s : Shared} {Q E : Value → Shared → Prop}
    (B : Below A₀ base outer h₀) (F : Fr h₀ L s.heap m) (X : (K w.params).In h₀) (N : News h₀ L s.heap news) (T : Top p loose mean mg mb h₀) (hk : cs.kind = .function) (hd : dp + d < recursionLimit) (hu : un + 8 * d < cLine)
    (ret : ∀ v nn h' tk', Fr h₀ L h' m → News h₀ L h' (nn ++ news) → (∀ p ∈ nn, ∀ q ∈ news, q.1 < p.1) → Post v nn → Q v { s with heap := h', toks := tk' }) :
    wpAny (model prog w) (ktrTop dp un gd cn cs L a ccd cl outer) (call (.ref f) vs) Q E s := C _ _ _ _ _ _ _ _ _ _ _ _ _ _ _ _ _ _ _ _ _ _ _ B F X N T hk hd hu ret

def isFig (k : Int) : Bool := decide (48 ≤ k ∧ k ≤ 57)

set_option maxHeartbeats 4000000 in
theorem isf_con (k : Int) (t : Tok) :
    Con PySem.Challenge.rw_nz0267_01.row.prog hd.heap_39 hd.view_39 2 21 [.int k t] (fun v nn => nn = [] ∧ v = .bool (isFig k)) := by
  k_fill
  unfold Con
  intro w loose mean mg mb dp un gd cn cs a ccd cl outer A₀ base h₀ L m news s Q E B F X N T hk hdp hun hret
  k_with_none
  refine wpAny_call ?_
  k_dflt cell_enter
  k_steps
  all_goals (refine hret _ [] _ _ (by assumption) (by assumption) (fun _ h => nomatch h) ⟨rfl, ?_⟩; simp [isFig, *])
end Mine
end

section
open PySem PySem.W PyProof.Rows
namespace Mine

/-- the octets from bg to in front of e, read from behind -/
def backOf (ks : List Int) (bg e : Int) : List Int := ((ks.take e.toNat).drop bg.toNat).reverse
theorem back_nil {ks : List Int} {bg e : Int} (h : e ≤ bg) : backOf ks bg e = [] := by
  unfold backOf
  rw [List.drop_eq_nil_of_le (by rw [List.length_take]; omega)]
  rfl
theorem back_cons {ks : List Int} {bg e : Int} (h0 : 0 ≤ bg) (h : bg ≤ e) (he : e < ks.length) : backOf ks bg (e + 1) = ks.getD e.toNat 0 :: backOf ks bg e := by
  unfold backOf
  have e1 : (e + 1).toNat = e.toNat + 1 := by omega
  have hl : e.toNat < ks.length := by omega
  have e2 : ks.take (e.toNat + 1) = ks.take e.toNat ++ [ks.getD e.toNat 0] := by
    rw [List.take_add_one, List.getElem?_eq_getElem hl, List.getD_eq_getElem?_getD, List.getElem?_eq_getElem hl]
    rfl
  rw [e1, e2, List.drop_append_of_le_length (by rw [List.length_take]; omega), List.reverse_append]
  rfl

/-- behind the brace and the plus sign: figures, and an opening brace ahead of them -/
def tailOf (w : Bool) (r : List Int) : Option (Int × Bool) :=
  if (r.dropWhile isFig).head? = some 123 ∧ 0 < (r.takeWhile isFig).length ∧ (r.takeWhile isFig).length ≤ 10 then some (horner (r.takeWhile isFig).reverse, w) else none

/-- the head as it is read from behind -/
def headOf : List Int → Option (Int × Bool)
  | [] => none
  | k :: r => if k = 125 then (if r.head? = some 43 then tailOf false r.tail else tailOf true r) else none

/-- from e down to behind h there are figures alone -/
def FigsTo (ks : List Int) (e h : Int) : Prop := ∀ i : Int, h < i → i ≤ e → isFig (ks.getD i.toNat 0) = true
theorem figs_start (ks : List Int) (e : Int) : FigsTo ks e e := fun i h1 h2 => absurd h1 (by omega)
theorem figs_step {ks : List Int} {e h : Int} (f : FigsTo ks e h) (c : isFig (ks.getD h.toNat 0) = true) : FigsTo ks e (h - 1) := fun i h1 h2 => by
  by_cases q : i = h
  · rw [q]; exact c
  · exact f i (by omega) h2

def figsOf (ks : List Int) (e h : Int) : List Int := (ks.drop (h + 1).toNat).take (e - h).toNat
theorem figs_snoc {ks : List Int} {e h : Int} (h0 : -1 ≤ h) (h1 : h < e) (he : e < ks.length) : figsOf ks e h = figsOf ks (e - 1) h ++ [ks.getD e.toNat 0] := by
  unfold figsOf
  have e1 : (e - h).toNat = (e - 1 - h).toNat + 1 := by omega
  have hl : (e - 1 - h).toNat < (ks.drop (h + 1).toNat).length := by rw [List.length_drop]; omega
  rw [e1, List.take_add_one, List.getElem?_eq_getElem hl, List.getElem_drop, List.getD_eq_getElem?_getD, List.getElem?_eq_getElem (by omega : e.toNat < ks.length)]
  congr 1
  simp only [Option.toList_some, Option.getD_some]
  congr 2
  omega
theorem back_scan {ks : List Int} {bg h : Int} (h0 : 0 ≤ bg) (hb : bg - 1 ≤ h) (hs : h < bg ∨ isFig (ks.getD h.toNat 0) = false) (hl : h < ks.length) :
    ∀ (n : Nat) (e : Int), (e - h).toNat = n → h ≤ e → e < ks.length → FigsTo ks e h →
      (backOf ks bg (e + 1)).takeWhile isFig = (figsOf ks e h).reverse ∧ (backOf ks bg (e + 1)).dropWhile isFig = backOf ks bg (h + 1) := by
  intro n
  induction n with
  | zero =>
    intro e hn hle he hf
    have : e = h := by omega
    subst this
    have e0 : figsOf ks e e = [] := by unfold figsOf; simp
    rw [e0]
    rcases hs with hs | hs
    · rw [back_nil (by omega)]; exact ⟨rfl, rfl⟩
    · by_cases q : bg ≤ e
      · rw [back_cons h0 q he, List.takeWhile_cons, List.dropWhile_cons, hs]; exact ⟨rfl, rfl⟩
      · rw [back_nil (by omega)]; exact ⟨rfl, rfl⟩
  | succ n ih =>
    intro e hn hle he hf
    have hlt : h < e := by omega
    obtain ⟨i1, i2⟩ := ih (e - 1) (by omega) (by omega) (by omega) fun i a b => hf i a (by omega)
    have ee : e - 1 + 1 = e := by omega
    rw [ee] at i1 i2
    rw [back_cons h0 (by omega) he, List.takeWhile_cons, List.dropWhile_cons, hf e hlt (Int.le_refl _), figs_snoc (by omega) hlt he, List.reverse_append]
    exact ⟨by rw [if_pos rfl, i1]; rfl, by rw [if_pos rfl, i2]⟩
theorem tail_scan {ks : List Int} {bg e h : Int} {w : Bool} (h0 : 0 ≤ bg) (hb : bg - 1 ≤ h) (hs : h < bg ∨ isFig (ks.getD h.toNat 0) = false) (hle : h ≤ e) (he : e < ks.length) (hf : FigsTo ks e h) :
    tailOf w (backOf ks bg (e + 1)) = if (bg ≤ h ∧ ks.getD h.toNat 0 = 123) ∧ 0 < e - h ∧ e - h ≤ 10 then some (horner (figsOf ks e h), w) else none := by
  obtain ⟨i1, i2⟩ := back_scan h0 hb hs (by omega) _ e rfl hle he hf
  have hlen : ((figsOf ks e h).reverse.length : Int) = e - h := by
    unfold figsOf
    rw [List.length_reverse, List.length_take, List.length_drop]
    omega
  have hhead : (backOf ks bg (h + 1)).head? = some 123 ↔ (bg ≤ h ∧ ks.getD h.toNat 0 = 123) := by
    by_cases q : bg ≤ h
    · rw [back_cons h0 q (by omega)]; simp [q]
    · rw [back_nil (by omega)]; simp [q]
  unfold tailOf
  rw [i1, i2, List.reverse_reverse]
  have hc : ((backOf ks bg (h + 1)).head? = some 123 ∧ 0 < (figsOf ks e h).reverse.length ∧ (figsOf ks e h).reverse.length ≤ 10) ↔ ((bg ≤ h ∧ ks.getD h.toNat 0 = 123) ∧ 0 < e - h ∧ e - h ≤ 10) := by
    rw [hhead]
    constructor
    · rintro ⟨a, b, c⟩; exact ⟨a, by omega, by omega⟩
    · rintro ⟨a, b, c⟩; exact ⟨a, by omega, by omega⟩
  by_cases q : ((bg ≤ h ∧ ks.getD h.toNat 0 = 123) ∧ 0 < e - h ∧ e - h ≤ 10)
  · rw [if_pos q, if_pos (hc.mpr q)]
  · rw [if_neg q, if_neg fun c => q (hc.mp c)]

section
variable {ks : List Int} {bg en : Int}
theorem lh_none1 (h : en - 1 < bg) : headOf (backOf ks bg en) = none := by rw [back_nil (by omega)]; rfl
theorem head_at (h0 : 0 ≤ bg) (h2 : en ≤ ks.length) (h : ¬ en - 1 < bg) : headOf (backOf ks bg en) = if ks.getD (en - 1).toNat 0 = 125 then (if (backOf ks bg (en - 1)).head? = some 43 then tailOf false (backOf ks bg (en - 1)).tail else tailOf true (backOf ks bg (en - 1))) else none := by
  have e : en = en - 1 + 1 := by omega
  rw [e, back_cons h0 (by omega) (by omega)]
  have e' : en - 1 + 1 - 1 = en - 1 := by omega
  rw [e']
  rfl
theorem lh_none2 (h0 : 0 ≤ bg) (h2 : en ≤ ks.length) (h : ¬ en - 1 < bg) (hk : ks.getD (en - 1).toNat 0 ≠ 125) : headOf (backOf ks bg en) = none := by
  rw [head_at h0 h2 h, if_neg hk]
/-- the walk has come to e with the answer's bool w -/
def Start (ks : List Int) (bg en : Int) (w : Bool) (e : Int) : Prop := headOf (backOf ks bg en) = tailOf w (backOf ks bg (e + 1)) ∧ e < ks.length
theorem start1 (h0 : 0 ≤ bg) (h2 : en ≤ ks.length) (h : ¬ en - 1 < bg) (hk : ks.getD (en - 1).toNat 0 = 125) (hn : en - 1 - 1 < bg) : Start ks bg en true (en - 1 - 1) := by
  refine ⟨?_, by omega⟩
  have e : en - 1 - 1 + 1 = en - 1 := by omega
  rw [head_at h0 h2 h, if_pos hk, e, back_nil (by omega), if_neg (by simp)]
theorem start2 (h0 : 0 ≤ bg) (h2 : en ≤ ks.length) (h : ¬ en - 1 < bg) (hk : ks.getD (en - 1).toNat 0 = 125) (hn : ¬ en - 1 - 1 < bg) (hp : ks.getD (en - 1 - 1).toNat 0 ≠ 43) : Start ks bg en (ks.getD (en - 1 - 1).toNat 0 != 43) (en - 1 - 1) := by
  refine ⟨?_, by omega⟩
  have e : en - 1 - 1 + 1 = en - 1 := by omega
  have hw : (ks.getD (en - 1 - 1).toNat 0 != 43) = true := by simpa using hp
  have e2 := back_cons (ks := ks) (e := en - 1 - 1) h0 (by omega) (by omega)
  rw [e] at e2
  rw [head_at h0 h2 h, if_pos hk, e, hw, e2, if_neg (by simpa using hp)]
theorem start3 (h0 : 0 ≤ bg) (h2 : en ≤ ks.length) (h : ¬ en - 1 < bg) (hk : ks.getD (en - 1).toNat 0 = 125) (hn : ¬ en - 1 - 1 < bg) (hp : ks.getD (en - 1 - 1).toNat 0 = 43) : Start ks bg en (ks.getD (en - 1 - 1).toNat 0 != 43) (en - 1 - 1 - 1) := by
  refine ⟨?_, by omega⟩
  have e : en - 1 - 1 + 1 = en - 1 := by omega
  have e' : en - 1 - 1 - 1 + 1 = en - 1 - 1 := by omega
  have hw : (ks.getD (en - 1 - 1).toNat 0 != 43) = false := by rw [hp]; rfl
  have e2 := back_cons (ks := ks) (e := en - 1 - 1) h0 (by omega) (by omega)
  rw [e] at e2
  rw [head_at h0 h2 h, if_pos hk, hw, e2, e', if_pos (by rw [hp]; rfl)]
  rfl
theorem clip_pos {n : Nat} {k : Int} (h : 0 ≤ k) : clipAt n k = min k.toNat n := by
  obtain ⟨j, rfl⟩ := Int.eq_ofNat_of_zero_le h
  exact clipAt_nat n j
variable {w : Bool} {e h : Int}
theorem figs_len (h0 : -1 ≤ h) (hle : h ≤ e) (he : e < ks.length) : (min (clipAt ks.length (e + 1) - clipAt ks.length (h + 1)) (ks.length - clipAt ks.length (h + 1)) : Nat) = (e - h).toNat := by
  rw [clip_pos (by omega), clip_pos (by omega)]
  omega
theorem figs_is (h0 : -1 ≤ h) (hle : h ≤ e) (he : e < ks.length) : List.take (clipAt ks.length (e + 1) - clipAt ks.length (h + 1)) (List.drop (clipAt ks.length (h + 1)) ks) = figsOf ks e h := by
  unfold figsOf
  rw [clip_pos (by omega), clip_pos (by omega)]
  have e1 : min (h + 1).toNat ks.length = (h + 1).toNat := by omega
  have e2 : min (e + 1).toNat ks.length - (h + 1).toNat = (e - h).toNat := by omega
  rw [e1, e2]
theorem end_low (S : Start ks bg en w e) (h0 : 0 ≤ bg) (hb : bg - 1 ≤ h) (hle : h ≤ e) (hf : FigsTo ks e h) (hn : ¬ bg ≤ h) : headOf (backOf ks bg en) = none := by
  rw [S.1, tail_scan h0 hb (.inl (by omega)) hle S.2 hf, if_neg fun c => hn c.1.1]
theorem end_brace (S : Start ks bg en w e) (h0 : 0 ≤ bg) (hb : bg - 1 ≤ h) (hle : h ≤ e) (hf : FigsTo ks e h) (hs : isFig (ks.getD h.toNat 0) = false) (hn : ks.getD h.toNat 0 ≠ 123) : headOf (backOf ks bg en) = none := by
  rw [S.1, tail_scan h0 hb (.inr hs) hle S.2 hf, if_neg fun c => hn c.1.2]
theorem end_few (S : Start ks bg en w e) (h0 : 0 ≤ bg) (hb : bg - 1 ≤ h) (hle : h ≤ e) (hf : FigsTo ks e h) (hs : isFig (ks.getD h.toNat 0) = false)
    (hn : ¬ 0 < ((min (clipAt ks.length (e + 1) - clipAt ks.length (h + 1)) (ks.length - clipAt ks.length (h + 1)) : Nat) : Int)) : headOf (backOf ks bg en) = none := by
  have := S.2
  rw [figs_len (by omega) hle S.2] at hn
  rw [S.1, tail_scan h0 hb (.inr hs) hle S.2 hf, if_neg fun c => hn (by omega)]
theorem end_many (S : Start ks bg en w e) (h0 : 0 ≤ bg) (hb : bg - 1 ≤ h) (hle : h ≤ e) (hf : FigsTo ks e h) (hs : isFig (ks.getD h.toNat 0) = false)
    (hn : ¬ ((min (clipAt ks.length (e + 1) - clipAt ks.length (h + 1)) (ks.length - clipAt ks.length (h + 1)) : Nat) : Int) ≤ 10) : headOf (backOf ks bg en) = none := by
  have := S.2
  rw [figs_len (by omega) hle S.2] at hn
  rw [S.1, tail_scan h0 hb (.inr hs) hle S.2 hf, if_neg fun c => hn (by omega)]
theorem end_some (S : Start ks bg en w e) (h0 : 0 ≤ bg) (hb : bg - 1 ≤ h) (hle : h ≤ e) (hf : FigsTo ks e h) (hbh : bg ≤ h) (hs : isFig (ks.getD h.toNat 0) = false) (hk : ks.getD h.toNat 0 = 123)
    (h1 : 0 < ((min (clipAt ks.length (e + 1) - clipAt ks.length (h + 1)) (ks.length - clipAt ks.length (h + 1)) : Nat) : Int))
    (h2 : ((min (clipAt ks.length (e + 1) - clipAt ks.length (h + 1)) (ks.length - clipAt ks.length (h + 1)) : Nat) : Int) ≤ 10) :
    headOf (backOf ks bg en) = some (horner (List.take (clipAt ks.length (e + 1) - clipAt ks.length (h + 1)) (List.drop (clipAt ks.length (h + 1)) ks)), w) := by
  have := S.2
  rw [figs_len (by omega) hle S.2] at h1 h2
  rw [S.1, tail_scan h0 hb (.inr hs) hle S.2 hf, if_pos ⟨⟨hbh, hk⟩, by omega, by omega⟩, figs_is (by omega) hle S.2]
end
end Mine
end

section
open PySem PySem.W PyProof.Rows
namespace Mine
set_option maxRecDepth 100000

/-- the answer: nothing, or a pair of an int and a bool -/
def HeadOut (r : Option (Int × Bool)) (v : Value) (nn : List (Addr × Obj)) : Prop := match r with
  | none => v = .none ∧ nn = []
  | some (n, w) => ∃ D t c, v = .ref D ∧ nn = [(D, ({ cls := .type "tuple", data := .seq #[.int n t, .bool w] c } : Obj))]
theorem out_none {r : Option (Int × Bool)} (h : r = none) : HeadOut r .none [] := by rw [h]; exact ⟨rfl, rfl⟩
theorem out_some {r : Option (Int × Bool)} {n : Int} {w : Bool} {D : Addr} {t : Tok} {c : Nat} (h : r = some (n, w)) : HeadOut r (.ref D) [(D, ({ cls := .type "tuple", data := .seq #[.int n t, .bool w] c } : Obj))] := by
  rw [h]; exact ⟨D, t, c, rfl, rfl⟩
theorem one_over {D : Addr} {o : Obj} {news : List (Addr × Obj)} (h : ∀ p ∈ news, p.1 < D) : ∀ p ∈ [(D, o)], ∀ q ∈ news, q.1 < p.1 := fun p hp q hq => by
  rw [List.mem_singleton.mp hp]; exact h q hq
theorem none_over {news : List (Addr × Obj)} : ∀ p ∈ ([] : List (Addr × Obj)), ∀ q ∈ news, q.1 < p.1 := fun _ h => nomatch h

section
local macro_rules | `(tactic| walk_at "exec While") => `(tactic| k_dflt (k_extra "my exec While"))
local macro_rules | `(tactic| walk_at "exec While BoolOp cons nil") => `(tactic| k_dflt (k_extra "my exec While"))
local macro_rules | `(tactic| walk_at "KswEnd") => `(tactic| k_dflt (k_extra "my KswEnd"))
local macro_rules | `(tactic| walk_at "call ref") => `(tactic| k_dflt (k_extra "my call ref"))

set_option maxHeartbeats 4000000 in
theorem lh_con (b : Array UInt8) (t : Tok) (ks : List Int) (hb : KBw.bInts b = ks) (bg en : Int) (tb te : Tok) (h0 : 0 ≤ bg) (h1 : bg ≤ en) (h2 : en ≤ ks.length) (h3 : ks.length ≤ 1000) :
    Con PySem.Challenge.rw_nz0267_01.row.prog hd.heap_39 hd.view_39 4 35 [.bytes b t, .int bg tb, .int en te] (HeadOut (headOf (backOf ks bg en))) := by
  k_fill
  unfold Con
  intro w loose mean mg mb dp un gd cn cs a ccd cl outer A₀ base h₀ L m news s Q E B F X N T hk hdp hun hret
  k_with_none
  k_with "my call ref" => (
    (refine' con_use (isf_con _ _) ?k1 ?k2 ?k3 ?k4 ?k5 ?kK ?kd ?ku ?_; (case k1 => k_asm); (case k2 => k_asm); (case k3 => k_asm); (case k4 => k_asm); (case k5 => k_asm); (case kK => exact rfl); (case kd => ktr_room); (case ku => ktr_units); intro v9 nn9 h9 tk9 F9 N9 l9 P9; obtain ⟨e9, P9⟩ := P9; subst e9; subst P9; clear l9; simp only [List.nil_append] at N9; (try dsimp only)))
  k_with "my call ref" => (
    (refine' con_use (nof_con _ _ _ (by assumption)) ?k1 ?k2 ?k3 ?k4 ?k5 ?kK ?kd ?ku ?_; (case k1 => k_asm); (case k2 => k_asm); (case k3 => k_asm); (case k4 => k_asm); (case k5 => k_asm); (case kK => exact rfl); (case kd => ktr_room); (case ku => ktr_units); intro v9 nn9 h9 tk9 F9 N9 l9 P9; obtain ⟨e9, t9, P9⟩ := P9; subst e9; subst P9; clear l9; simp only [List.nil_append] at N9; (try dsimp only)))
  k_with "my exec While" => (
    (rename Fr _ _ _ _ => lF'); (rename News _ _ _ _ => lN');
    first
    | (refine' ksw_while (σ := Int × Nat) (fun _ => news) (fun c => [(Str.ofString "here", .int c.1 c.2)]) (fun _ => True) [] (fun c => bg - 1 ≤ c.1 ∧ c.1 ≤ en - 1 - 1 ∧ FigsTo ks (en - 1 - 1) c.1) (fun c => (c.1 - bg + 1).toNat) (en - 1 - 1, _) lF' lN' trivial ?kk ⟨by omega, by omega, figs_start _ _⟩ ?_; (case kk => kst_all))
    | (refine' ksw_while (σ := Int × Nat) (fun _ => news) (fun c => [(Str.ofString "here", .int c.1 c.2)]) (fun _ => True) [] (fun c => bg - 1 ≤ c.1 ∧ c.1 ≤ en - 1 - 1 - 1 ∧ FigsTo ks (en - 1 - 1 - 1) c.1) (fun c => (c.1 - bg + 1).toNat) (en - 1 - 1 - 1, _) lF' lN' trivial ?kk ⟨by omega, by omega, figs_start _ _⟩ ?_; (case kk => kst_all));
    (clear lF' lN'); (rintro ⟨hr9, tok9⟩ u9 h9 tk9 _ ⟨p91, p92, p93⟩ F9 N9); (try dsimp only at *); (try k_fold))
  k_with "my KswEnd" => (refine' ksw_end (_, _) ?F ?N ?hn ?hf ?hk ?hr ?hp ?hm; (case F => assumption); (case N => assumption); (case hn => exact fun p hp => hp); (case hf => exact trivial); (case hk => kst_all); (case hr => (intro z h2 h3; have h4 : z ≠ Str.ofString "here" := h2 _ (List.Mem.head _); first | (show (if z = Str.ofString "here" then _ else kstB _ _ z) = _; rw [if_neg h4]; show (if z = Str.ofString "here" then _ else _) = _; rw [if_neg h4]; rfl) | (fail "hr falls"))); (case hp => exact ⟨by dsimp only; omega, by dsimp only; omega, figs_step (by assumption) (by assumption)⟩); (case hm => dsimp only; omega))
  refine wpAny_call ?_
  k_dflt cell_enter
  k_steps
  all_goals first
    | exact hret _ [] _ _ (by k_asm) (by k_asm) none_over (out_none (lh_none1 (by assumption)))
    | exact hret _ [] _ _ (by k_asm) (by k_asm) none_over (out_none (lh_none2 h0 h2 (by assumption) (by assumption)))
    | exact hret _ [] _ _ (by k_asm) (by k_asm) none_over (out_none (end_low (start1 h0 h2 (by assumption) (by assumption) (by assumption)) h0 p91 p92 p93 (by omega)))
    | exact hret _ [] _ _ (by k_asm) (by k_asm) none_over (out_none (end_low (start2 h0 h2 (by assumption) (by assumption) (by assumption) (by assumption)) h0 p91 p92 p93 (by assumption)))
    | exact hret _ [] _ _ (by k_asm) (by k_asm) none_over (out_none (end_low (start3 h0 h2 (by assumption) (by assumption) (by assumption) (by assumption)) h0 p91 p92 p93 (by assumption)))
    | exact hret _ [] _ _ (by k_asm) (by k_asm) none_over (out_none (end_brace (start2 h0 h2 (by assumption) (by assumption) (by assumption) (by assumption)) h0 p91 p92 p93 (by assumption) (by assumption)))
    | exact hret _ [] _ _ (by k_asm) (by k_asm) none_over (out_none (end_brace (start3 h0 h2 (by assumption) (by assumption) (by assumption) (by assumption)) h0 p91 p92 p93 (by assumption) (by assumption)))
    | exact hret _ [] _ _ (by k_asm) (by k_asm) none_over (out_none (end_few (start2 h0 h2 (by assumption) (by assumption) (by assumption) (by assumption)) h0 p91 p92 p93 (by assumption) (by assumption)))
    | exact hret _ [] _ _ (by k_asm) (by k_asm) none_over (out_none (end_few (start3 h0 h2 (by assumption) (by assumption) (by assumption) (by assumption)) h0 p91 p92 p93 (by assumption) (by assumption)))
    | exact hret _ [] _ _ (by k_asm) (by k_asm) none_over (out_none (end_many (start2 h0 h2 (by assumption) (by assumption) (by assumption) (by assumption)) h0 p91 p92 p93 (by assumption) (by assumption)))
    | exact hret _ [] _ _ (by k_asm) (by k_asm) none_over (out_none (end_many (start3 h0 h2 (by assumption) (by assumption) (by assumption) (by assumption)) h0 p91 p92 p93 (by assumption) (by assumption)))
    | exact hret _ [_] _ _ (by k_asm) (by k_asm) (one_over (by assumption)) (out_some (end_some (start2 h0 h2 (by assumption) (by assumption) (by assumption) (by assumption)) h0 p91 p92 p93 (by assumption) (by assumption) (by assumption) (by assumption) (by assumption)))
    | exact hret _ [_] _ _ (by k_asm) (by k_asm) (one_over (by assumption)) (out_some (end_some (start3 h0 h2 (by assumption) (by assumption) (by assumption) (by assumption)) h0 p91 p92 p93 (by assumption) (by assumption) (by assumption) (by assumption) (by assumption)))
    | (fail "an end is left")
end
end Mine
end

section
open PySem PySem.W PyProof.Rows PySem.Calls PyProof.V
namespace Mine
set_option maxRecDepth 100000

/-- the octets b are r, read from behind -/
def Back (b : Array UInt8) (r : List Int) : Prop := KBw.bInts b = r.reverse
/-- b is r's first, or nothing -/
def LastIs (b : Array UInt8) (o : Option Int) : Prop := KBw.bInts b = o.toList
theorem neg_clip (n : Nat) : clipAt n (-1) = n - 1 := by
  unfold clipAt
  rw [if_pos (by decide)]
  omega
theorem back_last (r : List Int) : (r.reverse.drop (r.reverse.length - 1)).take (r.reverse.length - (r.reverse.length - 1)) = r.head?.toList := by
  cases r with
  | nil => rfl
  | cons k r => simp
theorem back_init (r : List Int) : (r.reverse.drop 0).take (r.reverse.length - 1 - 0) = r.tail.reverse := by
  cases r with
  | nil => rfl
  | cons k r => simp
theorem map_inj {α β : Type} {f : α → β} (hf : ∀ x y, f x = f y → x = y) : ∀ {l l' : List α}, l.map f = l'.map f → l = l'
  | [], [], _ => rfl
  | [], _ :: _, e => by simp at e
  | _ :: _, [], e => by simp at e
  | x :: r, y :: r', e => by
    rw [List.map_cons, List.map_cons, List.cons.injEq] at e
    rw [hf x y e.1, map_inj hf e.2]
theorem bne_dec {α : Type} [DecidableEq α] [BEq α] [LawfulBEq α] (x y : α) : (x != y) = !decide (x = y) := by
  by_cases q : x = y
  · have : (x == y) = true := by rw [q]; exact beq_self_eq_true y
    rw [decide_eq_true q, bne, this]
  · have : (x == y) = false := beq_eq_false_iff_ne.mpr q
    rw [decide_eq_false q, bne, this]
theorem ints_inj {b c : Array UInt8} (h : KBw.bInts b = KBw.bInts c) : b = c := by
  have h' : b.toList.map (fun c => (c.toNat : Int)) = c.toList.map (fun c => (c.toNat : Int)) := h
  apply Array.toList_inj.mp
  refine map_inj ?_ h'
  intro x y e
  have e' : (x.toNat : Int) = (y.toNat : Int) := e
  have : x.toNat = y.toNat := by omega
  exact UInt8.toNat_inj.mp this
theorem ints_bne {b c : Array UInt8} : (b.toList != c.toList) = (KBw.bInts b != KBw.bInts c) := by
  by_cases q : b = c
  · subst q; rw [bne_dec, bne_dec, decide_eq_true rfl, decide_eq_true rfl]
  · have h1 : b.toList ≠ c.toList := fun e => q (Array.toList_inj.mp e)
    have h2 : KBw.bInts b ≠ KBw.bInts c := fun e => q (ints_inj e)
    rw [bne_dec, bne_dec, decide_eq_false h1, decide_eq_false h2]

section
variable {prog : Program} {w : World} {A : Around} {E : Value → Shared → Prop} {s : Shared} {value slice : PySem.Expr} {b c : Array UInt8} {t u : Tok} {h₀ : Heap} {L : Addr} {m : PySem.Str → Option Value} {news : List (Addr × Obj)} {Q : Value → Shared → Prop} {r : List Int}
theorem cut_last (hF : Fr h₀ L s.heap m) (hN : News h₀ L s.heap news) (hk : Back b r) (hz : r.length ≤ 1000)
    (h : ∀ c h' t' k, Fr h₀ L h' m → News h₀ L h' news → LastIs c r.head? → Q (.bytes c t') { s with heap := h', toks := k })
    (hs : subscripted slice false (.bytes b t) (.ref s.heap.objs.size) = operate [.ref s.heap.objs.size, .bytes b t] (getItem (.bytes b t) (.ref s.heap.objs.size)) := by with_unfolding_all rfl)
    (ht : ∀ r, letTemporaryGo value (.bytes b t) r = pure () := by intro _; with_unfolding_all rfl) :
    wpAny (model prog w) A (subscriptTail value slice (.bytes b t) (.ref s.heap.objs.size)) Q E { s with heap := s.heap.push { cls := .type "slice", data := .fields #[.int (-1) u, .none, .none] } } :=
  KBc.slice_K hF hN hk (lo := some (-1)) (hi := none) (by constructor) (by constructor) (by rw [List.length_reverse]; omega) (fun h' t' k F N e => h _ h' t' k F N (by
    simp only [Option.elim, neg_clip] at e
    exact e.trans (back_last r))) hs ht
theorem cut_init (hF : Fr h₀ L s.heap m) (hN : News h₀ L s.heap news) (hk : Back b r) (hz : r.length ≤ 1000)
    (h : ∀ c h' t' k, Fr h₀ L h' m → News h₀ L h' news → Back c r.tail → Q (.bytes c t') { s with heap := h', toks := k })
    (hs : subscripted slice false (.bytes b t) (.ref s.heap.objs.size) = operate [.ref s.heap.objs.size, .bytes b t] (getItem (.bytes b t) (.ref s.heap.objs.size)) := by with_unfolding_all rfl)
    (ht : ∀ r, letTemporaryGo value (.bytes b t) r = pure () := by intro _; with_unfolding_all rfl) :
    wpAny (model prog w) A (subscriptTail value slice (.bytes b t) (.ref s.heap.objs.size)) Q E { s with heap := s.heap.push { cls := .type "slice", data := .fields #[.none, .int (-1) u, .none] } } :=
  KBc.slice_K hF hN hk (lo := none) (hi := some (-1)) (by constructor) (by constructor) (by rw [List.length_reverse]; omega) (fun h' t' k F N e => h _ h' t' k F N (by
    simp only [Option.elim, neg_clip] at e
    exact e.trans (back_init r))) hs ht
theorem item_last {ui : Tok} (hk : Back b r) (hz : r.length ≤ 1000) (hr : r ≠ [])
    (h : ∀ t' k, 0 ≤ r.headD 0 → r.headD 0 < 256 → Q (.int (r.headD 0) t') { s with toks := k })
    (hs : subscripted slice false (.bytes b t) (.int (-1) ui) = operate [.bytes b t, .int (-1) ui] (getItem (.bytes b t) (.int (-1) ui)) := by with_unfolding_all rfl)
    (ht : ∀ r, letTemporaryGo value (.bytes b t) r = pure () := by intro _; with_unfolding_all rfl) : wpAny (model prog w) A (subscriptTail value slice (.bytes b t) (.int (-1) ui)) Q E s := by
  have hl : 0 < r.length := List.length_pos_iff.mpr hr
  have e : r.reverse.getD (-1 + (r.reverse.length : Int)).toNat 0 = r.headD 0 := by
    cases r with
    | nil => exact absurd rfl hr
    | cons k r =>
      have : (-1 + ((k :: r).reverse.length : Int)).toNat = r.length := by simp; omega
      rw [this]
      simp [List.getD_eq_getElem?_getD]
  refine KBc.itemR_K hk (by rw [List.length_reverse]; omega) (by rw [List.length_reverse]; omega) (by decide) (fun t' k h1 h2 => ?_) hs ht
  rw [e] at h1 h2 ⊢
  exact h t' k h1 h2
theorem ne_last {o : Option Int} {k : Int} (hb : LastIs b o) (hc : KBw.bInts c = [k]) (h : Q (.bool (o != some k)) s) : wpAny (model prog w) A (compareOp .NotEq (.bytes b t) (.bytes c u)) Q E s := by
  refine ne_bytes ?_
  have hb' : KBw.bInts b = o.toList := hb
  have e : (b.toList != c.toList) = (o != some k) := by
    rw [ints_bne, hb', hc]
    cases o with
    | none => rfl
    | some j =>
      show ([j] != [k]) = (some j != some k)
      rw [bne_dec, bne_dec]
      congr 2
      simp
  rw [e]; exact h
theorem ne_nil (hb : Back b r) (hc : KBw.bInts c = []) (h : Q (.bool (!r.isEmpty)) s) : wpAny (model prog w) A (compareOp .NotEq (.bytes b t) (.bytes c u)) Q E s := by
  refine ne_bytes ?_
  have hb' : KBw.bInts b = r.reverse := hb
  have e : (b.toList != c.toList) = (!r.isEmpty) := by
    rw [ints_bne, hb', hc]
    cases r with
    | nil => rfl
    | cons j r => rw [bne_dec, decide_eq_false (by simp)]; rfl
  rw [e]; exact h
/-- a text of the figures fs -/
def textOf (fs : List Int) : Str := ⟨(fs.map Int.toNat).toArray⟩
theorem text_length (fs : List Int) : (textOf fs).length = fs.length := by simp [textOf, Str.length]
theorem add_text {k : Int} {fs : List Int} (hz : fs.length ≤ 1000) (h : ∀ t' tk, Q (.str (textOf (k :: fs)) t') { s with toks := tk }) : wpAny (model prog w) A (binaryOp .Add (.str ⟨#[k.toNat]⟩ t) (.str (textOf fs) u)) Q E s := by
  refine PyProof.Rows.add_str (fun t' tk => ?_) ?_
  · have e : (⟨#[k.toNat]⟩ : Str) ++ textOf fs = textOf (k :: fs) := by
      apply Str.ext'
      show #[k.toNat] ++ (fs.map Int.toNat).toArray = ((k :: fs).map Int.toNat).toArray
      simp
    rw [e]; exact h t' tk
  · rw [text_length, sizeLine_eq]
    show 1 + _ ≤ _
    omega
end
end Mine
end

section
open PySem PySem.W PyProof.Rows PySem.Calls PyProof.V PySem.Spec
namespace Mine
set_option maxRecDepth 100000
open LCg LCp

section
variable {prog : Program} {w : World} {A : Around} {E : Value → Shared → Prop} {s : Shared} {h₀ : Heap} {L : Addr} {m : Str → Option Value} {env : Env} {news : List (Addr × Obj)}

/-- xv is a fresh enumerate over the signs cs, at s₁; all else stands as it stood at s -/
def EnumOf (prog : Program) (w : World) (A : Around) (h₀ : Heap) (L : Addr) (m : Str → Option Value) (news : List (Addr × Obj)) (cs : List Nat) (s : Shared) (xv : Value) (s₁ : Shared) : Prop :=
  ∃ (e it : Addr) (h : Heap) (tk : Nat) (St : Nat → Heap → Prop) (Mid : Nat → Addr → Heap → Prop), xv = .ref e ∧ s₁ = { s with heap := h, toks := tk } ∧
    WalksT prog w A e [e, it] [e, it] cs.length (fun i vals => ∃ t x, (∃ c u, cs[i]? = some c ∧ x = Value.str ⟨#[c]⟩ u) ∧ vals = #[.int i t, x]) St Mid ∧ St 0 h ∧ (∀ i g, St i g → (∃ o, g.get? e = some o) ∧ ∃ o, g.get? it = some o) ∧
    e < h.objs.size ∧ it < h.objs.size ∧ h₀.get? e = none ∧ h₀.get? it = none ∧ L ≠ e ∧ L ≠ it ∧ (∀ p ∈ news, p.1 ≠ e ∧ p.1 ≠ it) ∧ Fr h₀ L h m ∧ News h₀ L h news

theorem enum_of {x : Str} {t : Tok} {cs : List Nat} {h : Heap} {tk : Nat} (hx : x.cps.toList = cs) (hh : A.handled = none) (F : Fr h₀ L h m) (N : News h₀ L h news) :
    wpAny (model prog w) A (call (.type "enumerate") [.str x t]) (EnumOf prog w A h₀ L m news cs s) E { s with heap := h, toks := tk } := by
  have hLs : L < h.objs.size := F.ns.lt
  have hab : h₀.objs.size ≤ L := F.above
  refine call_enumerate_str fun h' he hit hsz hk => ?_
  have hn : cs.length = x.cps.size := by rw [← hx, Array.length_toList]
  have hget : ∀ i : Nat, cs[i]? = x.cps[i]? := fun i => by rw [← hx, Array.getElem?_toList]
  have F' : Fr h₀ L h' m := ⟨F.ns.keeps hk, fun b o e => hk b o (F.keep b o e), F.above⟩
  have N' : News h₀ L h' news := fun p hp => ⟨hk _ _ (N p hp).1, (N p hp).2⟩
  have low : ∀ a, h.objs.size ≤ a → h₀.get? a = none := fun a ha => Heap.get?_none_of_le (Nat.le_trans hab (Nat.le_trans (Nat.le_of_lt hLs) ha))
  have side : (h.objs.size + 1 : Addr) ∉ [(h.objs.size : Addr)] := fun hm => Nat.succ_ne_self _ (List.mem_singleton.mp hm)
  have off : ∀ p ∈ news, p.1 ≠ h.objs.size + 1 ∧ p.1 ≠ h.objs.size := fun p hp => by
    have hq : p.1 < h.objs.size := Heap.lt_size (N p hp).1
    exact ⟨Nat.ne_of_lt (Nat.lt_succ_of_lt hq), Nat.ne_of_lt hq⟩
  have rest : ∀ (St : Nat → Heap → Prop) (D : Draws prog w A.in1 h.objs.size [h.objs.size] x.cps.size (fun i v => ∃ c u, x.cps[i]? = some c ∧ v = .str ⟨#[c]⟩ u) St), St 0 h' →
      EnumOf prog w A h₀ L m news cs s (.ref (h.objs.size + 1)) { s with heap := h', toks := tk } := fun St D hst => by
    have W := WalksT.enumerateD (A := A) D (h.objs.size + 1) (Nat.succ_ne_self _) side (by simp)
    rw [← hn] at W
    simp only [← hget] at W
    refine ⟨h.objs.size + 1, h.objs.size, h', tk, (fun i g => (∃ old, IsEnum g (h.objs.size + 1) h.objs.size (↑i) old) ∧ St i g), _, rfl, rfl, W, ⟨⟨_, he⟩, hst⟩, fun i g st => ⟨st.1.elim fun _ q => ⟨_, q⟩, D.live _ _ st.2⟩, by rw [hsz]; exact Nat.lt_succ_self _, by rw [hsz]; exact Nat.lt_succ_of_lt (Nat.lt_succ_self _), low _ (Nat.le_succ _), low _ (Nat.le_refl _), Nat.ne_of_lt (Nat.lt_succ_of_lt hLs), Nat.ne_of_lt hLs, off, F', N'⟩
  cases ha : x.cps.all (· < 128)
  · exact rest _ (Draws.strWide (A := A.in1) hh h.objs.size x t) (by simpa [strIterType, ha] using hit)
  · exact rest _ (Draws.strAscii (A := A.in1) hh h.objs.size x t) (by simpa [strIterType, ha] using hit)

/-- an element's end: an int, and the ledger as it was -/
def EltEnd (h₀ : Heap) (L : Addr) (m : Str → Option Value) (led : List (Addr × Obj)) (r : Int) (s : Shared) (y : Value) (s' : Shared) : Prop :=
  ∃ h tk t, y = .int r t ∧ s' = { s with heap := h, toks := tk } ∧ Fr h₀ L h m ∧ News h₀ L h led

theorem ListComp_E {elt iter : Expr} {x x₂ : Str} {px px₂ tp : Pos} {tk} {scope : Scope} {cl : List (Str × Addr)} {pos : Pos} {Q : Value → Shared → Prop} {cs : List Nat} (g : Nat → Nat → Int) (hF₉ : Fr h₀ L s.heap m) (hN₉ : News h₀ L s.heap news)
    (hclos : closureFor scope env = pure cl) (hcell : ∀ y ∈ scope.names, y.2 ≠ .cell) (hkind : scope.kind = .function)
    (hnames : ∀ y ∈ scope.names, y.2 = .local → scope.names.lookup y.1 = some .local) (hx : scope.names.lookup x = some .local) (hx₂ : scope.names.lookup x₂ = some .local) (hxx : x ≠ x₂) (hh : A.handled = none) (hcs : cs.length ≤ 1000)
    (h : wpAny (model prog w) A (eval iter env) (EnumOf prog w A h₀ L m news cs s) E s)
    (turn : ∀ (i c : Nat) (e it C D : Addr) (oe oi oC : Obj) (m₂ : Str → Option Value) (t u : Tok) (ys : List Value) (h : Heap) (tk : Nat) (E' : Value → Shared → Prop), cs[i]? = some c → i < cs.length → NsObj oC m₂ → m₂ x = some (.int i t) → m₂ x₂ = some (.str ⟨#[c]⟩ u) →
      Fr h₀ L h m → News h₀ L h ((e, oe) :: (it, oi) :: (C, oC) :: (D, lst ys) :: news) →
      wpAny (model prog w) A (eval elt (compEnvC scope cl C env)) (EltEnd h₀ L m ((e, oe) :: (it, oi) :: (C, oC) :: (D, lst ys) :: news) (g i c) s) E' { s with heap := h, toks := tk })
    (done : ∀ (D : Addr) (ys : List Value) (h : Heap) (tk : Nat), IntsAre ys ((List.range cs.length).map fun i => g i (cs.getD i 0)) → Fr h₀ L h m → News h₀ L h ((D, lst ys) :: news) → (∀ p ∈ news, p.1 < D) → Q (.ref D) { s with heap := h, toks := tk })
    (hs : ∀ x, foldedSetIterable iter env x = pure x := by intro _; rfl) :
    wpAny (model prog w) A (eval (.ListComp elt [⟨.Tuple [.Name x px, .Name x₂ px₂] tk tp, iter, [], 0⟩] scope pos) env) Q E s := by
  rw [eval_ListComp]
  refine wpAny_comprehension_free (use := none) rfl hs hclos hkind hnames (wpAny_mono h (fun xv s₁ h₁ => ?_) fun _ _ e => e)
  obtain ⟨e, it, g₁, tk₁, St, Mid, rfl, rfl, W, hst, live, hel, hil, he₀, hi₀, hLe, hLi, off, F, N⟩ := h₁
  refine W.self 0 _ _ _ hst ?_
  refine wpAny_newObj_type (wpAny_newFunctionEnv hcell (by intro y hy; simp at hy) (fun h₁ hns₁ hsb₁ => ?_) hkind)
  dsimp only at hns₁ hsb₁ ⊢
  -- the list D, the block's names C
  generalize hH2 : g₁.push { cls := .type "list", dict := none, data := .seq ([] : List Value).toArray } = H2 at hns₁ hsb₁ ⊢
  have hC : H2.objs.size = g₁.objs.size + 1 := by rw [← hH2, Heap.size_push]
  have below : ∀ b, b < g₁.objs.size → b ≠ H2.objs.size ∧ b ≠ g₁.objs.size := fun b hb => ⟨by rw [hC]; exact Nat.ne_of_lt (Nat.lt_succ_of_lt hb), Nat.ne_of_lt hb⟩
  have hDC : g₁.objs.size ≠ H2.objs.size := by rw [hC]; exact Nat.ne_of_lt (Nat.lt_succ_self _)
  have old : ∀ b o, g₁.get? b = some o → h₁.get? b = some o := fun b o q => hsb₁.extBut b o (below b (Heap.lt_size q)).1 (Heap.get?_push_of_some _ (hH2 ▸ Heap.get?_push_of_some _ q))
  have hacc : h₁.get? g₁.objs.size = some (lst []) := hsb₁.extBut _ _ hDC (Heap.get?_push_of_some _ (hH2 ▸ Heap.get?_push_size _ rfl))
  have fresh₀ : ∀ a, g₁.objs.size ≤ a → h₀.get? a = none := fun a ha => Heap.get?_none_of_le (Nat.le_trans F.above (Nat.le_trans (Nat.le_of_lt F.ns.lt) ha))
  have hD₀ : h₀.get? g₁.objs.size = none := fresh₀ _ (Nat.le_refl _)
  have hC₀ : h₀.get? H2.objs.size = none := fresh₀ _ (by rw [hC]; exact Nat.le_succ _)
  have hDL : g₁.objs.size ≠ L := Ne.symm (below L F.ns.lt).2
  have hCL : H2.objs.size ≠ L := Ne.symm (below L F.ns.lt).1
  have hCe := (below e hel).1
  have hDe := (below e hel).2
  have hCi := (below it hil).1
  have hDi := (below it hil).2
  have offC : ∀ p ∈ news, p.1 ≠ H2.objs.size ∧ p.1 ≠ g₁.objs.size := fun p hp => below _ (Heap.lt_size (N p hp).1)
  have hlt : ∀ p ∈ news, p.1 < g₁.objs.size := fun p hp => Heap.lt_size (N p hp).1
  -- one block of facts at a heap
  have frW : ∀ {h h' : Heap}, Fr h₀ L h m → (∀ b o, b ∉ [e, it] → h.get? b = some o → h'.get? b = some o) → Fr h₀ L h' m := fun F k =>
    ⟨F.ns.at' fun o q => k L o (by simp [hLe, hLi]) q, fun b o q => k b o (fun hm => by
      rcases List.mem_cons.mp hm with z | hm
      · rw [z, he₀] at q; cases q
      · rw [List.mem_singleton.mp hm, hi₀] at q; cases q) (F.keep b o q), F.above⟩
  have nwW : ∀ {h h' : Heap} {l : List (Addr × Obj)}, News h₀ L h l → (∀ b o, b ∉ [e, it] → h.get? b = some o → h'.get? b = some o) → (∀ p ∈ l, p.1 ≠ e ∧ p.1 ≠ it) → News h₀ L h' l := fun N k o p hp =>
    ⟨k _ _ (by simp [(o p hp).1, (o p hp).2]) (N p hp).1, (N p hp).2⟩
  have offL : ∀ {ys : List Value}, ∀ p ∈ (g₁.objs.size, lst ys) :: news, p.1 ≠ e ∧ p.1 ≠ it := fun {ys} p hp => by
    rcases List.mem_cons.mp hp with rfl | hp
    · exact ⟨Ne.symm hDe, Ne.symm hDi⟩
    · exact off p hp
  have loop : ∀ s₃ : Shared, s₃ = { s with heap := h₁, toks := tk₁ + ([] : List (Str × Value)).length } →
      codeAny (model prog w) A (.compLoop (.ListComp elt [⟨.Tuple [.Name x px, .Name x₂ px₂] tk tp, iter, [], 0⟩] scope pos) 0 (.ref e) (.ref g₁.objs.size) (compEnvC scope cl H2.objs.size env))
        (compPost (model prog w) A E none Q (.ref g₁.objs.size) H2.objs.size) s₃ := by
    rintro s₃ rfl
    refine codeAny_compLoop_pair
      (fun k s' => ∃ h' tk i ys m', s' = { s with heap := h', toks := tk } ∧ i ≤ cs.length ∧ k = cs.length + 1 - i ∧ ys.length = i ∧ St i h' ∧ Fr h₀ L h' m ∧ h'.Ns H2.objs.size m' ∧ News h₀ L h' ((g₁.objs.size, lst ys) :: news) ∧
        IntsAre ys ((List.range i).map fun j => g j (cs.getD j 0))) ?_ (cs.length + 1)
      ⟨h₁, _, 0, [], _, rfl, Nat.zero_le _, rfl, rfl, W.frame _ _ _ hst fun b _ o q => old b o q, F.keeps old, hns₁, fun p hp => ?_, .nil⟩
    · rintro k s' ⟨h', tk', i, ys, m', rfl, hi, rfl, hyl, hst', F', hn', N', hI⟩
      by_cases hlt' : i < cs.length
      · refine W.item i _ _ _ hlt' hst' fun T vals h₂ tk₂ hPv hTs hT hMid hk₂ => ?_
        obtain ⟨t, xv, ⟨c, u, hc, rfl⟩, rfl⟩ := hPv
        refine W.go _ _ _ i T _ _ _ hMid fun h₃ hst₃ hk₃ => ?_
        have hTw := W.apart i T h₂ hMid
        obtain ⟨oT, hgT, hcT, hdT⟩ := hT
        have ht : IsTup h₃ T #[.int i t, .str ⟨#[c]⟩ u] := ⟨oT, hk₃ _ _ hTw hgT, hcT, hdT⟩
        have F₃ := frW (frW F' hk₂) hk₃
        have N₃ := nwW (nwW N' hk₂ offL) hk₃ offL
        have hn₃ : h₃.Ns H2.objs.size m' := (hn'.at' fun o q => hk₂ _ o (by simp [Ne.symm hCe, Ne.symm hCi]) q).at' fun o q => hk₃ _ o (by simp [Ne.symm hCe, Ne.symm hCi]) q
        refine assign_Tuple_tuple hh ht rfl rfl fun h₅ hx₅ => ?_
        have k₅ : ∀ b o, h₃.get? b = some o → h₅.get? b = some o := fun b o q => hx₅ b o (Nat.ne_of_lt (Heap.lt_size q)) q
        refine assignInOrder_cons (wpAny_assign_Name (wpAny_storeName_local (lookup_relabel_local hx) (hn₃.at' fun o q => k₅ _ o q) (fun h₆ hn₆ hs₆ => ?_) (by simp [compEnvC, relabel, hkind])))
        refine assignInOrder_cons (wpAny_assign_Name (wpAny_storeName_local (lookup_relabel_local hx₂) hn₆ (fun h₇ hn₇ hs₇ => ?_) (by simp [compEnvC, relabel, hkind])))
        refine assignInOrder_nil ?_
        have k₇ : ∀ b o, b ≠ H2.objs.size → h₃.get? b = some o → h₇.get? b = some o := fun b o hb q => hs₇.extBut b o hb (hs₆.extBut b o hb (k₅ b o q))
        have hst₇ : St (i + 1) h₇ := W.frame _ _ _ hst₃ fun b hb o q => k₇ b o (fun z => by
          rcases List.mem_cons.mp hb with y | hb
          · exact hCe (y.symm.trans z)
          · exact hCi ((List.mem_singleton.mp hb).symm.trans z)) q
        obtain ⟨⟨oe, hoe⟩, oi, hoi⟩ := live _ _ hst₇
        obtain ⟨oC, hoC, hNC⟩ := ns_obj hn₇
        have F₇ : Fr h₀ L h₇ m := ((F₃.keeps k₅).change hs₆ hCL hC₀).change hs₇ hCL hC₀
        have N₇ : News h₀ L h₇ ((e, oe) :: (it, oi) :: (H2.objs.size, oC) :: (g₁.objs.size, lst ys) :: news) := fun p hp => by
          rcases List.mem_cons.mp hp with rfl | hp
          · exact ⟨hoe, Ne.symm hLe, he₀⟩
          · rcases List.mem_cons.mp hp with rfl | hp
            · exact ⟨hoi, Ne.symm hLi, hi₀⟩
            · rcases List.mem_cons.mp hp with rfl | hp
              · exact ⟨hoC, hCL, hC₀⟩
              · refine ⟨k₇ _ _ ?_ (N₃ p hp).1, (N₃ p hp).2⟩
                rcases List.mem_cons.mp hp with rfl | hp
                · exact hDC
                · exact (offC p hp).1
        refine wpAny_mono (turn i c e it H2.objs.size g₁.objs.size oe oi oC _ t u ys h₇ _ _ hc hlt' hNC (by simp [hxx]) (by simp) F₇ N₇) (fun y s₄ h₄ => ?_) fun _ _ q => q
        obtain ⟨h₈, tk₈, t₈, rfl, rfl, F₈, N₈⟩ := h₄
        have ze := (N₈ (e, oe) (.head _)).1
        have zi := (N₈ (it, oi) (.tail _ (.head _))).1
        have zC := (N₈ (H2.objs.size, oC) (.tail _ (.tail _ (.head _)))).1
        have zD := (N₈ (g₁.objs.size, lst ys) (.tail _ (.tail _ (.tail _ (.head _))))).1
        have hst₈ : St (i + 1) h₈ := W.frame _ _ _ hst₇ fun b hb o q => by
          rcases List.mem_cons.mp hb with rfl | hb
          · rw [ze, ← hoe]; exact q
          · have := List.mem_singleton.mp hb
            subst this
            rw [zi, ← hoi]; exact q
        refine append_at (hsz := by show ys.toArray.size ≤ sizeLine; rw [List.size_toArray, hyl, sizeLine_eq]; omega) zD fun h₉ hs₉ hD₉ => ?_
        refine ⟨cs.length + 1 - (i + 1), by omega, h₉, tk₈, i + 1, ys ++ [.int (g i c) t₈], _, rfl, hlt', rfl, by rw [List.length_append, List.length_singleton, hyl], W.frame _ _ _ hst₈ fun b hb o q => hs₉.extBut b o (fun z => by
          rcases List.mem_cons.mp hb with y | hb
          · exact hDe (y.symm.trans z)
          · exact hDi ((List.mem_singleton.mp hb).symm.trans z)) q, F₈.change hs₉ hDL hD₀, (hNC.ns zC).sameBut hs₉ (Ne.symm hDC), fun p hp => ?_, ?_⟩
        · rcases List.mem_cons.mp hp with rfl | hp
          · exact ⟨hD₉.trans (congrArg some (lst_snoc ys _)), hDL, hD₀⟩
          · have z := N₈ p (.tail _ (.tail _ (.tail _ (.tail _ hp))))
            exact ⟨hs₉.extBut _ _ (offC p hp).2 z.1, z.2⟩
        · rw [List.range_succ, List.map_append]
          have ec : cs.getD i 0 = c := by rw [List.getD_eq_getElem?_getD, hc]; rfl
          have z := IntsAre.append hI (.cons (g i c) t₈ .nil)
          show IntsAre _ (_ ++ [g i (cs.getD i 0)])
          rw [ec]
          exact z
      · obtain rfl : i = cs.length := Nat.le_antisymm hi (Nat.not_lt.mp hlt')
        refine W.done _ _ _ hst' fun h₂ tk₂ hk₂ => ?_
        have F₂ := frW F' hk₂
        have N₂ := nwW N' hk₂ offL
        have hn₂ : h₂.Ns H2.objs.size m' := hn'.at' fun o q => hk₂ _ o (by simp [Ne.symm hCe, Ne.symm hCi]) q
        refine ⟨_, hn₂, fun h'' hs'' => done _ ys h'' tk₂ hI (F₂.change hs'' hCL hC₀) (fun p hp => ?_) hlt⟩
        refine ⟨hs''.extBut _ _ ?_ (N₂ p hp).1, (N₂ p hp).2⟩
        rcases List.mem_cons.mp hp with rfl | hp
        · exact hDC
        · exact (offC p hp).1
    · rcases List.mem_cons.mp hp with rfl | hp
      · exact ⟨hacc, hDL, hD₀⟩
      · exact ⟨old _ _ (N p hp).1, (N p hp).2⟩
  exact codeAny_compStart_list (loop _ rfl) (W.self 0 _ _ _ (W.frame _ _ _ hst fun b _ o q => old b o q) (loop _ rfl))
end
end Mine
end

section
open PySem PySem.W PyProof.Rows PySem.Calls PyProof.V PySem.Spec
namespace Mine
set_option maxRecDepth 100000
section
variable {prog : Program} {w : World} {A : Around} {E : Value → Shared → Prop} {Q : Flow → Shared → Prop} {s : Shared} {env : Env} {h₀ : Heap} {L : Addr}
/-- the while's test has failed at the state c -/
def WhOut {σ : Type} (h₀ : Heap) (L : Addr) (s : Shared) (news : List (Addr × Obj)) (ps : σ → List (Str × Value)) (m₀ : Str → Option Value) (X : σ → Prop) (c : σ) (s₂ : Shared) : Prop :=
  ∃ (u : Str → Option Value) (h : Heap) (tk : Nat), s₂ = { s with heap := h, toks := tk } ∧ X c ∧ Fr h₀ L h (kstB (fun z => if ([] : List Str).contains z then u z else m₀ z) (ps c)) ∧ News h₀ L h news
/-- a while by its invariant; the end is walked once -/
theorem while_out {σ : Type} {test : Expr} {body : List Stmt} {pos : Pos} {m₀ : Str → Option Value} (news : List (Addr × Obj)) (ps : σ → List (Str × Value)) (P : σ → Prop) (X : σ → Prop) (μ : σ → Nat) (c₀ : σ)
    (F : Fr h₀ L s.heap m₀) (N : News h₀ L s.heap news) (hk : ∀ p ∈ ps c₀, m₀ p.1 = some p.2) (hp : P c₀)
    (turn : ∀ (c : σ) (u : Str → Option Value) h tk, P c → Fr h₀ L h (kstB (fun z => if ([] : List Str).contains z then u z else m₀ z) (ps c)) → News h₀ L h news →
      wpAny (model prog w) A (isTrue test env (eval test env)) (fun b s₂ =>
        if b = true then wpAny (model prog w) A (execs body env) (KswPost h₀ L s (fun _ => news) ps (fun _ => True) [] m₀ P μ Q c) E s₂ else WhOut h₀ L s news ps m₀ X c s₂) E { s with heap := h, toks := tk })
    (done : ∀ (c : σ) (u : Str → Option Value) h tk, P c → X c → Fr h₀ L h (kstB (fun z => if ([] : List Str).contains z then u z else m₀ z) (ps c)) → News h₀ L h news → Q .next { s with heap := h, toks := tk })
    (hE : PassesOwn (model prog w) A env E := by passes_own) :
    wpAny (model prog w) A (exec (.While test body [] pos) env) Q E s := by
  refine ksw_while (fun _ => news) ps (fun _ => True) [] P μ c₀ F N trivial hk hp (fun c u h tk _ hc F' N' => ?_) hE
  refine wpAny_mono (turn c u h tk hc F' N') (fun b s₂ q => ?_) fun _ _ x => x
  cases b with
  | true => simpa using q
  | false =>
    simp only [Bool.false_eq_true, if_false] at q ⊢
    obtain ⟨u', h', tk', rfl, hx, F₂, N₂⟩ := q
    exact done c u' h' tk' hc hx F₂ N₂
end
def Stop (p : Prop) : Prop := p
theorem stop_here {p : Prop} (h : Stop p) : p := h
end Mine
end

section
open PySem PySem.W PyProof.Rows PySem.Calls PyProof.V PySem.Spec
namespace Mine
set_option maxRecDepth 100000
theorem due_none0 {r : List Int} (h : (r.head? != some 125) = true) : headOf r = none := by
  cases r with
  | nil => rfl
  | cons k r =>
    have : k ≠ 125 := fun e => by rw [e] at h; simp at h
    show (if k = 125 then _ else none) = none
    rw [if_neg this]
theorem due_head {r : List Int} (h : (r.head? != some 125) = false) : headOf r = if r.tail.head? = some 43 then tailOf false r.tail.tail else tailOf true r.tail := by
  cases r with
  | nil => simp at h
  | cons k r =>
    have : k = 125 := by simpa using h
    show (if k = 125 then (if r.head? = some 43 then tailOf false r.tail else tailOf true r) else none) = _
    rw [if_pos this]
    rfl
theorem dstart1 {r : List Int} (h : (r.head? != some 125) = false) (h2 : (r.tail.head? != some 43) = true) : headOf r = tailOf (r.tail.head? != some 43) r.tail := by
  rw [due_head h, h2, if_neg (by simpa using h2)]
theorem dstart2 {r : List Int} (h : (r.head? != some 125) = false) (h2 : (r.tail.head? != some 43) = false) : headOf r = tailOf (r.tail.head? != some 43) r.tail.tail := by
  rw [due_head h, h2, if_pos (by simpa using h2)]
theorem scan_split {f r9 : List Int} (hf : ∀ k ∈ f, isFig k = true) (hx : r9 = [] ∨ isFig (r9.headD 0) = false) : (f.reverse ++ r9).takeWhile isFig = f.reverse ∧ (f.reverse ++ r9).dropWhile isFig = r9 := by
  have h9 : r9.takeWhile isFig = [] ∧ r9.dropWhile isFig = r9 := by
    cases r9 with
    | nil => exact ⟨rfl, rfl⟩
    | cons k r =>
      rcases hx with hx | hx
      · cases hx
      · have hx' : isFig k = false := hx
        rw [List.takeWhile_cons, List.dropWhile_cons, hx']
        exact ⟨rfl, rfl⟩
  have hr : ∀ k ∈ f.reverse, isFig k = true := fun k hk => hf k (List.mem_reverse.mp hk)
  generalize f.reverse = l at hr
  induction l with
  | nil => exact h9
  | cons k l ih =>
    obtain ⟨i1, i2⟩ := ih fun j hj => hr j (.tail _ hj)
    rw [List.cons_append, List.takeWhile_cons, List.dropWhile_cons, hr k (.head _), if_pos rfl, if_pos rfl, i1, i2]
    exact ⟨rfl, rfl⟩
theorem dtail {w : Bool} {e f r9 : List Int} (h : e = f.reverse ++ r9) (hf : ∀ k ∈ f, isFig k = true) (hx : r9 = [] ∨ isFig (r9.headD 0) = false) :
    tailOf w e = if r9.head? = some 123 ∧ 0 < f.length ∧ f.length ≤ 10 then some (horner f, w) else none := by
  obtain ⟨i1, i2⟩ := scan_split hf hx
  unfold tailOf
  rw [h, i1, i2, List.reverse_reverse, List.length_reverse]
theorem due_none {r e f r9 : List Int} {w : Bool} (s : headOf r = tailOf w e) (h : e = f.reverse ++ r9) (hf : ∀ k ∈ f, isFig k = true) (hx : r9 = [] ∨ isFig (r9.headD 0) = false)
    (hn : (r9.head? != some 123) = true ∨ ¬ 1 ≤ (f.length : Int) ∨ ¬ (f.length : Int) ≤ 10) : headOf r = none := by
  rw [s, dtail h hf hx, if_neg]
  rintro ⟨a, b, c⟩
  rcases hn with hn | hn | hn
  · rw [a] at hn; simp at hn
  · omega
  · omega
theorem due_some {r e f r9 : List Int} {w : Bool} (s : headOf r = tailOf w e) (h : e = f.reverse ++ r9) (hf : ∀ k ∈ f, isFig k = true) (hx : r9 = [] ∨ isFig (r9.headD 0) = false)
    (h1 : (r9.head? != some 123) = false) (h2 : 1 ≤ (f.length : Int)) (h3 : (f.length : Int) ≤ 10) : headOf r = some (horner f, w) := by
  rw [s, dtail h hf hx, if_pos ⟨by simpa using h1, by omega, h3 |> fun q => by omega⟩]
theorem horner_snoc (l : List Int) (k : Int) : horner (l ++ [k]) = horner l * 10 + k - 48 := by
  unfold horner; rw [List.foldl_append]; rfl
/-- the figures' worth, from behind: figure by figure, or each by its own power of ten -/
theorem horner_sum : ∀ (l : List Int), horner l.reverse = ((List.range l.length).map fun i => (l.getD i 0 - 48) * 10 ^ i).sum
  | [] => rfl
  | k :: l => by
    have step : ((List.range l.length).map fun i => ((k :: l).getD (i + 1) 0 - 48) * 10 ^ (i + 1)).sum = ((List.range l.length).map fun i => (l.getD i 0 - 48) * 10 ^ i).sum * 10 := by
      generalize List.range l.length = R
      induction R with
      | nil => rfl
      | cons i R ih =>
        rw [List.map_cons, List.sum_cons, ih, List.map_cons, List.sum_cons, Int.add_mul]
        have : (k :: l).getD (i + 1) 0 = l.getD i 0 := by simp [List.getD_eq_getElem?_getD]
        rw [this, Int.pow_succ, Int.mul_assoc]
    rw [List.reverse_cons, horner_snoc, horner_sum l, List.length_cons, List.range_succ_eq_map, List.map_cons, List.sum_cons, List.map_map]
    have e0 : ((k :: l).getD 0 0 - 48) * 10 ^ 0 = k - 48 := by simp
    have e1 : ((fun i => ((k :: l).getD i 0 - 48) * 10 ^ i) ∘ Nat.succ) = fun i => ((k :: l).getD (i + 1) 0 - 48) * 10 ^ (i + 1) := rfl
    rw [e0, e1, step]
    omega
theorem fig_sign {f : List Int} {i c : Nat} (hf : ∀ k ∈ f, isFig k = true) (h : (f.map Int.toNat).reverse[i]? = some c) : 48 ≤ c ∧ c ≤ 57 := by
  have hm := List.mem_of_getElem? h
  obtain ⟨k, hk, rfl⟩ := List.mem_map.mp (List.mem_reverse.mp hm)
  have := of_decide_eq_true (hf k hk)
  omega
theorem due_sum {f : List Int} (hf : ∀ k ∈ f, isFig k = true) : ((List.range (f.map Int.toNat).reverse.length).map fun i => (((#[(f.map Int.toNat).reverse.getD i 0].getD 0 0 : Nat) : Int) - 48) * 10 ^ ((i : Int)).toNat).sum = horner f := by
  have h := horner_sum f.reverse
  rw [List.reverse_reverse] at h
  rw [h]
  congr 1
  rw [List.length_reverse, List.length_reverse, List.length_map]
  apply List.map_congr_left
  intro i hi
  have hi' : i < f.length := List.mem_range.mp hi
  have e : (((f.map Int.toNat).reverse.getD i 0 : Nat) : Int) = f.reverse.getD i 0 := by
    rw [← List.map_reverse, List.getD_eq_getElem?_getD, List.getD_eq_getElem?_getD, List.getElem?_map]
    have hl : i < f.reverse.length := by rw [List.length_reverse]; exact hi'
    rw [List.getElem?_eq_getElem hl]
    have := of_decide_eq_true (hf _ (List.mem_reverse.mp (List.getElem_mem hl)))
    show ((Int.toNat (f.reverse[i]) : Nat) : Int) = f.reverse[i]
    omega
  show ((((f.map Int.toNat).reverse.getD i 0 : Nat) : Int) - 48) * 10 ^ ((i : Int)).toNat = _
  rw [e, Int.toNat_natCast]
theorem due_some2 {r e f r9 : List Int} {w : Bool} (s : headOf r = tailOf w e) (h : e = f.reverse ++ r9) (hf : ∀ k ∈ f, isFig k = true) (hx : r9 = [] ∨ isFig (r9.headD 0) = false)
    (h1 : (r9.head? != some 123) = false) (h2 : 1 ≤ (f.length : Int)) (h3 : (f.length : Int) ≤ 10) :
    headOf r = some (((List.range (f.map Int.toNat).reverse.length).map fun i => (((#[(f.map Int.toNat).reverse.getD i 0].getD 0 0 : Nat) : Int) - 48) * 10 ^ ((i : Int)).toNat).sum, w) := by
  rw [due_sum hf]; exact due_some s h hf hx h1 h2 h3
theorem two_over {D₁ D : Addr} {news : List (Addr × Obj)} (h : D₁ < D ∧ AllLt D news) : ∀ p ∈ news, p.1 < D := ktn_ltOf h.2
theorem drop2 {h₀ h : Heap} {L : Addr} {a b : Addr × Obj} {l : List (Addr × Obj)} (N : News h₀ L h (a :: b :: l)) : News h₀ L h ([a] ++ l) := fun p hp => N p (by
  rcases List.mem_append.mp hp with hp | hp
  · rw [List.mem_singleton.mp hp]; exact .head _
  · exact .tail _ (.tail _ hp))
end Mine
end

section
open PySem PySem.W PyProof.Rows
namespace Mine
set_option maxRecDepth 100000

theorem due_step {c : Array UInt8} {r r9 f9 : List Int} (p92 : r9.length + f9.length ≤ 1000) (p93 : r = f9.reverse ++ r9) (p94 : ∀ k ∈ f9, isFig k = true) (hb : Back c r9.tail) (he : r9.isEmpty = false) (h1 : 48 ≤ r9.headD 0) (h2 : r9.headD 0 ≤ 57) :
    Back c r9.tail ∧ r9.tail.length + (r9.headD 0 :: f9).length ≤ 1000 ∧ r = (r9.headD 0 :: f9).reverse ++ r9.tail ∧ ∀ k ∈ r9.headD 0 :: f9, isFig k = true := by
  cases r9 with
  | nil => cases he
  | cons k r9 =>
    refine ⟨hb, by simp only [List.length_cons, List.tail_cons] at p92 ⊢; omega, by rw [p93]; simp, fun j hj => ?_⟩
    rcases List.mem_cons.mp hj with rfl | hj
    · exact decide_eq_true ⟨h1, h2⟩
    · exact p94 j hj
theorem due_less {r9 : List Int} (he : r9.isEmpty = false) : r9.tail.length < r9.length := by
  cases r9 with
  | nil => cases he
  | cons k r9 => exact Nat.lt_succ_self _
theorem due_out {r9 : List Int} (h : r9.isEmpty = true ∨ ¬ 48 ≤ r9.headD 0 ∨ ¬ r9.headD 0 ≤ 57) : r9 = [] ∨ isFig (r9.headD 0) = false := by
  rcases h with h | h | h
  · exact .inl (List.isEmpty_iff.mp h)
  · exact .inr (decide_eq_false fun c => h c.1)
  · exact .inr (decide_eq_false fun c => h c.2)
theorem rev_text (f : List Int) (u : Tok) : (Txt.sliceBy (textOf f) none none (-1, u)).cps.toList = (f.map Int.toNat).reverse := by
  rw [step_rev_list]
  apply List.ext_getElem?
  intro i
  rw [text_length, List.getElem?_map]
  by_cases h : i < f.length
  · rw [List.getElem?_range h, List.getElem?_reverse (by rw [List.length_map]; exact h)]
    have h2 : f.length - 1 - i < f.length := by omega
    simp [textOf, h2]
  · rw [List.getElem?_eq_none (by simpa using h), List.getElem?_eq_none (by simpa using h)]
    rfl
section
variable {prog : Program} {w : World} {A : Around} {E : Value → Shared → Prop} {s : Shared} {t : Tok} {Q : Value → Shared → Prop} {fs : List Int}
theorem len_text (hz : fs.length ≤ 1000) (h : Q (.int fs.length (s.toks + 1)) { s with toks := s.toks + 1 + 1 }) : wpAny (model prog w) A (call (.builtin "len") [.str (textOf fs) t]) Q E s := by
  refine PySem.P.len_str ?_ ?_
  · rw [text_length]; omega
  · rw [text_length]; exact h
end

section
local macro_rules | `(tactic| walk_at "exec While") => `(tactic| k_dflt (k_extra "my exec While"))
local macro_rules | `(tactic| walk_at "exec While BoolOp cons nil") => `(tactic| k_dflt (k_extra "my exec While"))
local macro_rules | `(tactic| walk_at "KswEnd") => `(tactic| k_dflt (k_extra "my KswEnd"))
local macro_rules | `(tactic| walk_at "eval ListComp") => `(tactic| k_dflt (k_extra "my ListComp"))
local macro_rules | `(tactic| walk_at "call type:enumerate") => `(tactic| k_dflt (k_extra "my enumerate"))
local macro_rules | `(tactic| walk_at "EltEnd") => `(tactic| k_dflt (exact ⟨_, _, _, rfl, rfl, by assumption, by assumption⟩))
local macro_rules | `(tactic| walk_at "subscriptTail") => `(tactic| ((with_reducible show wpAny _ _ (subscriptTail _ (Expr.Slice none none (some _) _) _ _) _ _ _); (with_reducible rename Fr _ _ _ _ => F'); (with_reducible rename News _ _ _ _ => N'); k_dflt (refine slice_strK_nn (x := textOf _) (hsz := by rw [text_length, sizeLine_eq]; omega) (s := ⟨_, _, _, _, _⟩) F' N' (by decide) ?_); intro _ _ _ _ _))
local macro_rules | `(tactic| walk_at "WhOut") => `(tactic| k_dflt (k_extra "my WhOut"))
local macro_rules | `(tactic| walk_at "call builtin:len") => `(tactic| ((with_reducible show wpAny _ _ (call (Value.builtin "len") [Value.str _ _]) _ _ _); k_dflt (refine len_text (by omega) ?_)))
local macro_rules | `(tactic| walk_at "subscriptTail") => `(tactic| ((with_reducible show wpAny _ _ (subscriptTail _ _ (Value.bytes _ _) (Value.int _ _)) _ _ _); k_dflt (refine item_last (by with_reducible assumption) (by omega) (by first | assumption | (intro q9; simp_all; done)) ?_); intro _ _ kbLo kbHi))
local macro_rules | `(tactic| walk_at "subscriptTail") => `(tactic| ((with_reducible show wpAny _ _ (subscriptTail _ (Expr.Slice _ _ none _) (Value.bytes _ _) (Value.ref _)) _ _ _); (with_reducible rename Fr _ _ _ _ => F'); (with_reducible rename News _ _ _ _ => N'); k_dflt (first | refine cut_last (s := ⟨_, _, _, _, _⟩) F' N' (by with_reducible assumption) (by omega) ?_ | refine cut_init (s := ⟨_, _, _, _, _⟩) F' N' (by with_reducible assumption) (by omega) ?_); intro _ _ _ _ _ _ mineB))
local macro_rules | `(tactic| walk_at "compareOp NotEq bytes bytes") => `(tactic| k_dflt (first | (refine ne_last (k := 125) (by with_reducible assumption) (by rfl) ?_) | (refine ne_last (k := 43) (by with_reducible assumption) (by rfl) ?_) | (refine ne_last (k := 123) (by with_reducible assumption) (by rfl) ?_) | (refine ne_nil (by with_reducible assumption) rfl ?_)))
local macro_rules | `(tactic| walk_at "binaryOp Add str str") => `(tactic| k_dflt (refine add_text (by omega) ?_; intro _ _))

set_option maxHeartbeats 1000000 in
theorem due_con (b : Array UInt8) (t : Tok) (r : List Int) (hb : Back b r) (h3 : r.length ≤ 1000) :
    Con PySem.Challenge.rw_nz0267_01.row.prog hd.heap_39 hd.view_39 4 61 [.bytes b t] (HeadOut (headOf r)) := by
  k_fill
  unfold Con
  intro w loose mean mg mb dp un gd cn cs a ccd cl outer A₀ base h₀ L m news s Q E B F X N T hk hdp hun hret
  have hl1 : r.tail.length ≤ 1000 := by rw [List.length_tail]; omega
  have hl2 : r.tail.tail.length ≤ 1000 := by rw [List.length_tail]; omega
  k_with_none
  k_with "my exec While" => (
    (rename Fr _ _ _ _ => lF'); (rename News _ _ _ _ => lN');
    (first
    | (refine while_out (σ := Array UInt8 × Nat × List Int × List Int × Nat) news (fun c => [(Str.ofString "rest", .bytes c.1 c.2.1), (Str.ofString "figures", .str (textOf c.2.2.2.1) c.2.2.2.2)]) (fun c => Back c.1 c.2.2.1 ∧ c.2.2.1.length + c.2.2.2.1.length ≤ 1000 ∧ r.tail.tail = c.2.2.2.1.reverse ++ c.2.2.1 ∧ ∀ k ∈ c.2.2.2.1, isFig k = true) (fun c => c.2.2.1 = [] ∨ isFig (c.2.2.1.headD 0) = false) (fun c => c.2.2.1.length) (_, _, r.tail.tail, [], _) lF' lN' (by kst_all) ⟨(by assumption), by dsimp only [List.length_nil]; omega, by rfl, by intro k9 hk9; cases hk9⟩ ?_ ?_)
    | (refine while_out (σ := Array UInt8 × Nat × List Int × List Int × Nat) news (fun c => [(Str.ofString "rest", .bytes c.1 c.2.1), (Str.ofString "figures", .str (textOf c.2.2.2.1) c.2.2.2.2)]) (fun c => Back c.1 c.2.2.1 ∧ c.2.2.1.length + c.2.2.2.1.length ≤ 1000 ∧ r.tail = c.2.2.2.1.reverse ++ c.2.2.1 ∧ ∀ k ∈ c.2.2.2.1, isFig k = true) (fun c => c.2.2.1 = [] ∨ isFig (c.2.2.1.headD 0) = false) (fun c => c.2.2.1.length) (_, _, r.tail, [], _) lF' lN' (by kst_all) ⟨(by assumption), by dsimp only [List.length_nil]; omega, by rfl, by intro k9 hk9; cases hk9⟩ ?_ ?_));
    (focus (clear lF' lN'; (rintro ⟨b9, tok8, r9, f9, tok9⟩ u9 h9 tk9 ⟨p91, p92, p93, p94⟩ F9 N9); (try dsimp only at *); (try k_fold)));
    rotate_left;
    (focus (clear lF' lN'; (rintro ⟨b9, tok8, r9, f9, tok9⟩ u9 h9 tk9 ⟨p91, p92, p93, p94⟩ x9 F9 N9); (try dsimp only at *)));
    rotate_left)
  k_with "my KswEnd" => (refine ksw_end (_, _, r9.tail, r9.headD 0 :: f9, _) (by assumption) (by assumption) (fun p hp => hp) trivial (by kst_all) (by intro z h2 h3; have h4 : z ≠ Str.ofString "rest" := h2 _ (List.Mem.head _); have h5 : z ≠ Str.ofString "figures" := h2 _ (List.Mem.tail _ (List.Mem.head _)); show (if z = Str.ofString "rest" then _ else (if z = Str.ofString "figures" then _ else kstB _ _ z)) = _; rw [if_neg h4, if_neg h5]; show (if z = Str.ofString "rest" then _ else (if z = Str.ofString "figures" then _ else _)) = _; rw [if_neg h4, if_neg h5]; rfl) (by exact due_step p92 p93 p94 (by assumption) (by assumption) (by assumption) (by assumption)) (by exact due_less (by assumption)))
  k_with "my WhOut" => (first | exact ⟨_, _, _, rfl, due_out (by first | exact .inl (by assumption) | exact .inr (.inl (by assumption)) | exact .inr (.inr (by assumption))), by assumption, by assumption⟩ | (fail "WhOut falls"))
  k_with "my ListComp" => (
    (rename Fr _ _ _ _ => lF'); (rename News _ _ _ _ => lN'); (refine ListComp_E (cs := (f9.map Int.toNat).reverse) (fun i c => (((#[c].getD 0 0 : Nat) : Int) - 48) * 10 ^ ((i : Int)).toNat) lF' lN' (by with_unfolding_all rfl) (by decide) (by rfl) (by decide) (by rfl) (by rfl) (by decide) (by rfl) (by rw [List.length_reverse, List.length_map]; omega) ?_ ?_ ?_);
    rotate_left;
    (focus (clear lF' lN'; intro i9 c9 e9 it9 C9 D9 oe9 oi9 oC9 m9 t9 u9 ys9 h9 tk9 E9 hc9 hi9 hN9 hx9 hy9 F9 N9; rw [List.length_reverse, List.length_map] at hi9; have hb9 := fig_sign p94 hc9; clear hc9));
    rotate_left;
    (focus (clear lF' lN'; intro D9 ys9 h9 tk9 hI9 F9 N9 l9; (try dsimp only)));
    rotate_left)
  k_with "my enumerate" => (refine enum_of (cs := (f9.map Int.toNat).reverse) ?_ (by rfl) (by assumption) (by assumption); exact rev_text _ _)
  refine wpAny_call ?_
  k_dflt cell_enter
  k_steps
  all_goals first
    | exact hret _ [] _ _ (by k_asm) (by k_asm) none_over (out_none (due_none0 (by assumption)))
    | exact hret _ [] _ _ (by k_asm) (by k_asm) none_over (out_none (due_none (dstart1 (by assumption) (by assumption)) p93 p94 x9 (by first | exact .inl (by assumption) | exact .inr (.inl (by omega)) | exact .inr (.inr (by omega)))))
    | exact hret _ [] _ _ (by k_asm) (by k_asm) none_over (out_none (due_none (dstart2 (by assumption) (by assumption)) p93 p94 x9 (by first | exact .inl (by assumption) | exact .inr (.inl (by omega)) | exact .inr (.inr (by omega)))))
    | exact hret _ [_] _ _ (by k_asm) (drop2 (by k_asm)) (one_over (two_over (by assumption))) (out_some (due_some2 (dstart1 (by assumption) (by assumption)) p93 p94 x9 (by assumption) (by assumption) (by assumption)))
    | exact hret _ [_] _ _ (by k_asm) (drop2 (by k_asm)) (one_over (two_over (by assumption))) (out_some (due_some2 (dstart2 (by assumption) (by assumption)) p93 p94 x9 (by assumption) (by assumption) (by assumption)))
    | (fail "an end is left")
end
end Mine
end

section
open PySem PySem.W PyProof.Rows PySem.Calls PyProof.V PySem.Spec
namespace Mine
set_option maxRecDepth 100000
open Builtin

theorem slot_find : Slot "bytes" "find" "bytes.find" :=
  .of (owner := "bytes") (n := "find") (by rw [typeLookup_type, builtinLookup_eq_fast]; kernel_rfl) (by decide +kernel) (by decide +kernel) (by decide +kernel)
    (by first | exact .inl (by decide +kernel) | exact .inr (by decide +kernel)) (by rw [isSubtype_type]; kernel_rfl)
theorem type_find : typeOf (.builtin "bytes.find") = pure (.type "method_descriptor") := by show builtinType _ = _; rw [builtinType_eq_fast]; kernel_rfl
theorem entry_find : entryFor table "bytes.find" = some Builtin.«bytes.find» := entryFor_of_tree (by kernel_rfl)
theorem args_find (a b c : Value) : argsOk "bytes.find" ⟨[a, b, c], []⟩ := by
  unfold argsOk; rw [signature?_of (id := "bytes.find") (n := ['d', 'n', 'i', 'f']) (o := ['s', 'e', 't', 'y', 'b']) (by kernel_rfl) FB.owner_bytes]; kernel_rfl
theorem slot_join : Slot "bytes" "join" "bytes.join" :=
  .of (owner := "bytes") (n := "join") (by rw [typeLookup_type, builtinLookup_eq_fast]; kernel_rfl) (by decide +kernel) (by decide +kernel) (by decide +kernel)
    (by first | exact .inl (by decide +kernel) | exact .inr (by decide +kernel)) (by rw [isSubtype_type]; kernel_rfl)
theorem type_join : typeOf (.builtin "bytes.join") = pure (.type "method_descriptor") := by show builtinType _ = _; rw [builtinType_eq_fast]; kernel_rfl
theorem entry_join : entryFor table "bytes.join" = some Builtin.«bytes.join» := entryFor_of_tree (by kernel_rfl)
theorem args_join (a b : Value) : argsOk "bytes.join" ⟨[a, b], []⟩ := by
  unfold argsOk; rw [signature?_of (id := "bytes.join") (n := ['n', 'i', 'o', 'j']) (o := ['s', 'e', 't', 'y', 'b']) (by kernel_rfl) FB.owner_bytes]; kernel_rfl
theorem slot_replace : Slot "bytes" "replace" "bytes.replace" :=
  .of (owner := "bytes") (n := "replace") (by rw [typeLookup_type, builtinLookup_eq_fast]; kernel_rfl) (by decide +kernel) (by decide +kernel) (by decide +kernel)
    (by first | exact .inl (by decide +kernel) | exact .inr (by decide +kernel)) (by rw [isSubtype_type]; kernel_rfl)
theorem type_replace : typeOf (.builtin "bytes.replace") = pure (.type "method_descriptor") := by show builtinType _ = _; rw [builtinType_eq_fast]; kernel_rfl
theorem entry_replace : entryFor table "bytes.replace" = some Builtin.«bytes.replace» := entryFor_of_tree (by kernel_rfl)
theorem args_replace (a b c : Value) : argsOk "bytes.replace" ⟨[a, b, c], []⟩ := by
  unfold argsOk; rw [signature?_of (id := "bytes.replace") (n := ['e', 'c', 'a', 'l', 'p', 'e', 'r']) (o := ['s', 'e', 't', 'y', 'b']) (by kernel_rfl) FB.owner_bytes]; kernel_rfl

section
variable {M : Model} {A : Around} {E : Value → Shared → Prop} {s : Shared} {b : Array UInt8} {t : Tok} {pl : Sem Bool} {Q : Value × List Value → Shared → Prop}
theorem meth_find (h : Q (.builtin "bytes.find", [.bytes b t]) s) : wpAny M A (getMethod (.bytes b t) "find" pl) Q E s := by
  with_reducible exact KBd.method_of (.bytes b t) (typeIs_bytes _ _ _) slot_find type_find KBd.noRef h
theorem meth_join (h : Q (.builtin "bytes.join", [.bytes b t]) s) : wpAny M A (getMethod (.bytes b t) "join" pl) Q E s := by
  with_reducible exact KBd.method_of (.bytes b t) (typeIs_bytes _ _ _) slot_join type_join KBd.noRef h
theorem meth_replace (h : Q (.builtin "bytes.replace", [.bytes b t]) s) : wpAny M A (getMethod (.bytes b t) "replace" pl) Q E s := by
  with_reducible exact KBd.method_of (.bytes b t) (typeIs_bytes _ _ _) slot_replace type_replace KBd.noRef h
end

section
variable {prog : Program} {w : World} {A : Around} {E : Value → Shared → Prop} {s : Shared} {b c : Array UInt8} {t u v : Tok} {Q : Value → Shared → Prop}
theorem find_at {k : Nat} (hs : c.size ≤ b.size) (hf : Bytes.find? b c 0 b.size = some k) (h : Q (.int k s.toks) { s with toks := s.toks + 1 }) : wpAny (model prog w) A (call (.builtin "bytes.find") [.bytes b t, .bytes c u, .int 0 v]) Q E s := by
  refine wpAny_call_entry slot_find (typeIs_bytes _ _ _) entry_find ?_ (args_find _ _ _)
  show wpAny _ _ (Bytes.searchArgs .bytes "find" ⟨[.bytes b t, .bytes c u, .int 0 v], []⟩ >>= fun r => _) _ _ s
  refine wpAny_bind ?_
  unfold Bytes.searchArgs
  refine wpAny_bind (wpAny_of_eq (a := (Value.bytes b t, [Value.bytes c u, .int 0 v])) rfl ?_)
  show wpAny _ _ (Bytes.bound? (some (.int 0 v)) >>= fun r => _) _ _ s
  refine wpAny_bind ?_
  unfold Bytes.bound?
  refine wpAny_bind (wpAny_specialOf (T := "int") (typeIs_int _ _ _) F.slot_int_index.lookup ?_)
  refine wpAny_ite (KBy.ite_no (show ¬ (Option.isNone (some _) = true) from Bool.false_ne_true) ?_)
  refine wpAny_bind (wpAny_of_eq (a := 0) rfl (wpAny_pure ?_))
  refine wpAny_bind (wpAny_of_eq (a := none) rfl ?_)
  show wpAny _ _ (Bytes.buffer? _ (.bytes c u) >>= fun r => _) _ _ s
  refine wpAny_bind (wpAny_of_eq KBy.buffer_eq ?_)
  refine wpAny_bind (wpAny_pure ?_)
  refine wpAny_bind (wpAny_of_eq (a := b) rfl ?_)
  refine wpAny_pure ?_
  have h1 : ¬ ((b.size : Int) < 0) := by omega
  have h2 : ¬ ((0 : Int) < 0) := by decide
  have hlt : ¬ ((b.size : Int) < (c.size : Int)) := by omega
  have hm : min (b.size : Int) (b.size : Int) = b.size := by omega
  simp only [Option.getD_none, Option.getD_some, if_neg h1, if_neg h2, hm, Int.sub_zero, if_neg hlt, Int.toNat_natCast]
  show wpAny _ _ (match (Bytes.find? b c 0 b.size) with | some i => retInt i | none => _) _ _ s
  rw [hf]
  exact wpAny_bind (wpAny_mkInt (wpAny_pure ⟨_, rfl, h⟩))
end
end Mine
end

section
open PySem PySem.W PyProof.Rows PySem.Calls PyProof.V PySem.Spec
namespace Mine
set_option maxRecDepth 100000
open Builtin

theorem ext2 {b : Array UInt8} {i : Nat} (h : i + 2 ≤ b.size) : b.extract i (i + 2) = #[b[i], b[i + 1]] := by
  apply Array.ext
  · simp; omega
  · intro j h1 h2
    rw [Array.getElem_extract]
    have h2' : j < 2 := h2
    match j, h2' with
    | 0, _ => rfl
    | 1, _ => rfl
theorem int_at {b : Array UInt8} {i : Nat} (h : i < b.size) : (KBw.bInts b)[i]? = some (b[i].toNat : Int) := KBw.ints_get (by simp [h])
theorem find_crlf {b : Array UInt8} {ks : List Int} (hb : KBw.bInts b = ks ++ [13, 10]) (hn : ∀ k ∈ ks, k ≠ 10) : Bytes.find? b #[13, 10] 0 b.size = some ks.length := by
  have hz : b.size = ks.length + 2 := by
    have := congrArg List.length hb
    rw [KBw.ints_length] at this
    simpa using this
  have at_ : ∀ i, i < b.size → ∀ k, (ks ++ [13, 10])[i]? = some k → (∀ h : i < b.size, (b[i].toNat : Int) = k) := fun i hi k hk h => by
    have e := int_at h
    rw [hb, hk] at e
    exact (Option.some.inj e).symm
  unfold Bytes.find?
  have hr : ((List.range (b.size + 1 - (0 + (#[13, 10] : Array UInt8).size))).map (· + 0)) = List.range (ks.length + 1) := by
    have : b.size + 1 - (0 + (#[13, 10] : Array UInt8).size) = ks.length + 1 := by
      show b.size + 1 - (0 + 2) = _
      omega
    rw [this]
    simp
  rw [hr, List.find?_range_eq_some]
  refine ⟨?_, List.mem_range.mpr (Nat.lt_succ_self _), fun j hj => ?_⟩
  · show (b.extract ks.length (ks.length + 2) == #[13, 10]) = true
    rw [ext2 (by omega)]
    have e1 := at_ ks.length (by omega) 13 (by simp) (by omega)
    have e2 := at_ (ks.length + 1) (by omega) 10 (by rw [List.getElem?_append_right (by omega)]; simp) (by omega)
    have f1 : b[ks.length] = 13 := UInt8.toNat_inj.mp (by show _ = 13; omega)
    have f2 : b[ks.length + 1] = 10 := UInt8.toNat_inj.mp (by show _ = 10; omega)
    rw [f1, f2]
    exact beq_self_eq_true _
  · show (!(b.extract j (j + 2) == #[13, 10])) = true
    rw [ext2 (by omega)]
    have hne : b[j + 1] ≠ 10 := fun e => by
      by_cases q : j + 1 < ks.length
      · have := at_ (j + 1) (by omega) (ks[j + 1]) (by rw [List.getElem?_append_left q]; exact List.getElem?_eq_getElem q) (by omega)
        rw [e] at this
        exact hn _ (List.getElem_mem q) (this.symm.trans rfl)
      · have q' : j + 1 = ks.length := by omega
        have := at_ (j + 1) (by omega) 13 (by rw [q']; simp) (by omega)
        rw [e] at this
        exact absurd this (by decide)
    have : ((#[b[j], b[j + 1]] : Array UInt8) == #[13, 10]) = false := by
      apply beq_eq_false_iff_ne.mpr
      intro e
      have := congrArg Array.toList e
      simp only [List.cons.injEq] at this
      exact hne this.2.1
    rw [this]
    rfl
end Mine
end

section
open PySem PySem.W PyProof.Rows
namespace Mine
set_option maxRecDepth 100000

/-- command_end's answer for a line's end at n with the head r -/
def EndOut (n : Int) (r : Option (Int × Bool)) (v : Value) (nn : List (Addr × Obj)) : Prop := match r with
  | none => ∃ D t c, v = .ref D ∧ nn = [(D, ({ cls := .type "tuple", data := .seq #[.int n t, .none] c } : Obj))]
  | some (k, w) => ∃ D D₁ t t₁ c c₁, v = .ref D ∧ nn = [(D, ({ cls := .type "tuple", data := .seq #[.int (-1) t, .ref D₁] c } : Obj)), (D₁, ({ cls := .type "tuple", data := .seq #[.int k t₁, .bool w] c₁ } : Obj))] ∧ D₁ < D
theorem back_line (ks : List Int) : backOf (ks ++ [13, 10]) 0 (ks.length : Int) = ks.reverse := by
  unfold backOf
  rw [Int.toNat_natCast, List.take_left']
  · rfl
  · rfl

theorem end_none {n : Int} {r : Option (Int × Bool)} {D : Addr} {t : Tok} {c : Nat} (h : r = none) : EndOut n r (.ref D) [(D, ({ cls := .type "tuple", data := .seq #[.int n t, .none] c } : Obj))] := by
  rw [h]; exact ⟨D, t, c, rfl, rfl⟩
theorem end_some' {n k : Int} {w : Bool} {r : Option (Int × Bool)} {D D₁ : Addr} {t t₁ : Tok} {c c₁ : Nat} {news : List (Addr × Obj)} (h : r = some (k, w)) (l : D₁ < D ∧ AllLt D news) :
    EndOut n r (.ref D) [(D, ({ cls := .type "tuple", data := .seq #[.int (-1) t, .ref D₁] c } : Obj)), (D₁, ({ cls := .type "tuple", data := .seq #[.int k t₁, .bool w] c₁ } : Obj))] := by
  rw [h]; exact ⟨D, D₁, t, t₁, c, c₁, rfl, rfl, l.1⟩
theorem pair_over {D D₁ : Addr} {o o₁ : Obj} {news : List (Addr × Obj)} (h : D₁ < D ∧ AllLt D news) (l : ∀ q ∈ news, q.1 < D₁) : ∀ p ∈ [(D, o), (D₁, o₁)], ∀ q ∈ news, q.1 < p.1 := fun p hp q hq => by
  rcases List.mem_cons.mp hp with rfl | hp
  · exact ktn_ltOf h.2 q hq
  · rw [List.mem_singleton.mp hp]; exact l q hq

section
local macro_rules | `(tactic| walk_at "exec While") => `(tactic| k_dflt (k_extra "my exec While"))
local macro_rules | `(tactic| walk_at "getMethod bytes") => `(tactic| k_dflt (refine meth_find ?_))
local macro_rules | `(tactic| walk_at "call builtin:bytes.find") => `(tactic| k_dflt (k_extra "my find"))
local macro_rules | `(tactic| walk_at "call ref") => `(tactic| k_dflt (k_extra "my call ref"))

set_option maxHeartbeats 1000000 in
theorem ce_con (b : Array UInt8) (t t₀ : Tok) (ks : List Int) (hb : KBw.bInts b = ks ++ [13, 10]) (hn : ∀ k ∈ ks, k ≠ 10) (h3 : ks.length ≤ 900) :
    Con PySem.Challenge.rw_nz0267_01.row.prog hd.heap_39 hd.view_39 6 42 [.bytes b t, .int 0 t₀] (EndOut (ks.length + 2) (headOf ks.reverse)) := by
  k_fill
  unfold Con
  intro w loose mean mg mb dp un gd cn cs a ccd cl outer A₀ base h₀ L m news s Q E B F X N T hk hdp hun hret
  have hl9 : (ks ++ [13, 10]).length = ks.length + 2 := by simp
  have hz9 : (#[13, 10] : Array UInt8).size ≤ b.size := by
    have := congrArg List.length hb
    rw [KBw.ints_length, hl9] at this
    rw [this]
    show 2 ≤ _
    omega
  k_with_none
  k_with "my find" => (refine find_at (k := ks.length) (by assumption) (find_crlf (by assumption) (by assumption)) ?_)
  k_with "my call ref" => (
    (refine con_use (lh_con b t (ks ++ [13, 10]) hb 0 ks.length _ _ (by omega) (by omega) (by rw [hl9]; omega) (by rw [hl9]; omega)) (by k_asm) (by k_asm) (by k_asm) (by k_asm) (by k_asm) rfl (by ktr_room) (by ktr_units) ?_);
    (intro v9 nn9 h9 tk9 F9 N9 l9 P9);
    (rw [back_line] at P9);
    (rcases hq9 : headOf ks.reverse with _ | ⟨n9, w9⟩);
    (all_goals rw [hq9] at P9);
    (focus (obtain ⟨rfl, rfl⟩ := P9; clear l9; simp only [List.nil_append] at N9; (try dsimp only)));
    rotate_left;
    (focus (obtain ⟨D9, t9, c9, rfl, rfl⟩ := P9; replace l9 := fun q hq => l9 _ (List.mem_singleton.mpr rfl) q hq; simp only [List.cons_append, List.nil_append] at N9; (try dsimp only)));
    rotate_left)
  k_with "my exec While" => (
    (rename Fr _ _ _ _ => lF'); (rename News _ _ _ _ => lN');
    (refine while_out (σ := Nat) news (fun c => [(Str.ofString "here", .int 0 c)]) (fun _ => True) (fun _ => False) (fun _ => 0) _ lF' lN' (by kst_all) trivial ?_ (fun _ _ _ _ _ x => x.elim));
    (clear lF' lN');
    (rintro c8 u8 h8 tk8 _ F8 N8);
    (try dsimp only at *);
    (try k_fold))
  refine wpAny_call ?_
  k_dflt cell_enter
  k_steps
  all_goals first
    | exact hret _ [_] _ _ (by k_asm) (by k_asm) (one_over (by assumption)) (end_none (by assumption))
    | exact hret _ [_, _] _ _ (by k_asm) (by k_asm) (pair_over (by assumption) (by assumption)) (end_some' (by assumption) (by assumption))
    | (exfalso; have e9 : ([13, 10] : List Int).length = 2 := rfl; omega)
    | (fail "an end is left")
end
end Mine
end

section
open PySem PySem.W PyProof.Rows
namespace Mine
set_option maxRecDepth 100000

theorem pow7 {a : Int} (h0 : 0 ≤ a) (h1 : a < 10 ^ Int.toNat 50) : (Builtin.Int.intBits a : Int) * 7 ≤ 2 ^ 27 := by
  have e : (10 : Int) ^ Int.toNat 50 = 100000000000000000000000000000000000000000000000000 := by decide
  rw [e] at h1
  have : Builtin.Int.intBits a ≤ 167 := PySem.intBits_le_iff.mpr (by
    have e2 : (2 : Nat) ^ 167 = 187072209578355573530071658587684226515959365500928 := by decide
    rw [e2]; omega)
  have e3 : (2 : Int) ^ 27 = 134217728 := by decide
  rw [e3]
  omega
theorem bag_step {n c : Int} (h : 0 ≤ n) : 0 ≤ n * 1000033 + c.fmod (10 ^ Int.toNat 120) := by
  have := fmod_lo c (n := 10 ^ Int.toNat 120) (by decide)
  omega
local macro_rules | `(tactic| walk_at "binaryOp Pow int int") => `(tactic| ((with_reducible show wpAny _ _ (binaryOp Operator.Pow _ (Value.int 7 _)) _ _ _); with_reducible refine PyProof.Rows.pow_int (n := 7) (by decide) (pow7 (by assumption) (by assumption)) ?_))
theorem drop_mid {h₀ h : Heap} {L : Addr} {a b : Addr × Obj} {l : List (Addr × Obj)} (N : News h₀ L h (a :: b :: l)) : News h₀ L h (a :: l) := fun p hp => N p (by
  rcases List.mem_cons.mp hp with rfl | hp
  · exact .head _
  · exact .tail _ (.tail _ hp))
set_option maxHeartbeats 800000 in
/-- _law_bag hands back a fresh list of one int -/
theorem bag_con (vs : List Value) (ns : List Int) (hi : IntsAre vs ns) (hz : ns.length ≤ 63) (sc : Addr) :
  ∀ (w : World) (loose : List Str) (mean : ExcName → Option Value) (mg mb : Str → Option Value) (dp un : Nat) (gd : Option (List Code)) (cn : Str) (cs : Scope) (a : Addr) (ccd : Value) (cl : List (Str × Addr)) (outer : List Env) (A₀ : Around) (base h₀ : Heap) (L : Addr) (m : Str → Option Value) (news : List (Addr × Obj)) (s : Shared) (Q E : Value → Shared → Prop),
    Below A₀ base outer h₀ → Fr h₀ L s.heap m → (hd.heap_39 w.params).In h₀ → News h₀ L s.heap news → Top hd.view_39 loose mean mg mb h₀ → cs.kind = .function → dp + 4 < recursionLimit → un + 8 * 4 < cLine → base.IsList sc vs.toArray →
    (∀ (D : Addr) (n : Int) (t : Tok) (c : Nat) h' tk', Fr h₀ L h' m → News h₀ L h' ((D, ({ cls := .type "list", data := .seq #[.int n t] c } : Obj)) :: news) → (∀ q ∈ news, q.1 < D) → Q (.ref D) { s with heap := h', toks := tk' }) →
    wpAny (model PySem.Challenge.rw_nz0267_01.row.prog w) (ktrTop dp un gd cn cs L a ccd cl outer) (call (.ref 56) [.ref sc]) Q E s := by
  k_fill
  intro w loose mean mg mb dp un gd cn cs a ccd cl outer A₀ base h₀ L m news s Q E B F X N T hk hdp hun hsc hret
  k_with_none
  k_with "pyIter ref" => k_state (fun _ number => 0 ≤ number) "number"
  k_with "state" => (first | exact bag_step (by assumption) | (decide))
  refine wpAny_call ?_
  k_dflt cell_enter
  k_steps
  all_goals first
    | exact hret _ _ _ _ _ _ (by k_asm) (drop_mid (by k_asm)) (ktn_ltOf (And.right (by assumption)))
    | exact hret _ _ _ _ _ _ (by k_asm) (drop_mid (by k_asm)) (fun q hq => ktn_ltOf (by assumption) q (.tail _ hq))
    | (fail "an end is left")
end Mine
end

section
open PySem PySem.W PyProof.Rows PySem.Calls PyProof.V PySem.Spec
namespace Mine
set_option maxRecDepth 100000
open Builtin

theorem take_eq {id : String} {b : Array UInt8} {t : Tok} : Bytes.takeBufferQuiet? id (.bytes b t) 0 = pure (some (b, none)) := by
  unfold Bytes.takeBufferQuiet? Bytes.takeBuffer?
  rw [KBy.special_eq KBy.look_buffer, KBy.own_buffer]
  simp only [pure_bind]
  have e : ((0 : Int) == Bytes.fullReadOnly) = false := by decide
  rw [e, KBy.buffer_eq]
  kernel_rfl
theorem joined_size : ∀ (l : List (Array UInt8)) (k : Nat) (out : Array UInt8), (∀ p ∈ l, p.size ≤ 8) → ((l.zipIdx k).foldl (fun (out : Array UInt8) (x : Array UInt8 × Nat) => match x with | (p, i) => (if i > 0 then out ++ #[] else out) ++ p) out).size ≤ out.size + 8 * l.length
  | [], _, out, _ => by simp
  | p :: l, k, out, h => by
    rw [List.zipIdx_cons, List.foldl_cons]
    have ih := joined_size l (k + 1) ((if k > 0 then out ++ #[] else out) ++ p) fun q hq => h q (.tail _ hq)
    have hp := h p (.head _)
    refine Nat.le_trans ih ?_
    rw [Array.size_append, List.length_cons]
    have : (if k > 0 then out ++ #[] else out).size = out.size := by split <;> simp
    rw [this]
    omega
theorem sum_size : ∀ (l : List (Array UInt8)) (z : Nat), (∀ p ∈ l, p.size ≤ 8) → l.foldl (fun x1 (x2 : Array UInt8) => x1 + x2.size) z ≤ z + 8 * l.length
  | [], _, _ => by simp
  | p :: l, z, h => by
    rw [List.foldl_cons, List.length_cons]
    have ih := sum_size l (z + p.size) fun q hq => h q (.tail _ hq)
    have hp := h p (.head _)
    omega

theorem get_bytes {items : Array Value} {i : Nat} (hi : ∀ v ∈ items.toList, ∃ b t, v = Value.bytes b t ∧ b.size ≤ 8) (h : i < items.size) : ∃ b t, items.getD i Value.none = Value.bytes b t ∧ b.size ≤ 8 := by
  obtain ⟨b, t, hb, hz⟩ := hi items[i] (by simp)
  exact ⟨b, t, by simp [Array.getD, h, hb], hz⟩

section
variable {prog : Program} {w : World} {A : Around} {E : Value → Shared → Prop} {s : Shared} {t₀ : Tok} {Q : Value → Shared → Prop} {D : Addr} {o : Obj} {items : Array Value} {n : Nat}
theorem let_go {keep : List Value} : ∀ {taken : List (Value × Option Value)} {Q : Unit → Shared → Prop}, (∀ y ∈ taken, y.2 = none) → Q () s → wpAny (model prog w) A (Bytes.joinLetGo taken keep) Q E s
  | [], _, _, h => by unfold Bytes.joinLetGo; exact wpAny_pure h
  | (x, u) :: r, Q, ht, h => by
    have hu : u = none := ht (x, u) (.head _)
    subst hu
    unfold Bytes.joinLetGo
    refine wpAny_bind (wpAny_letGo ?_)
    exact let_go (fun y hy => ht y (.tail _ hy)) h
theorem join_at (ho : s.heap.get? D = some o) (hc : o.cls = .type "list") (hd : o.data = .seq items n) (hi : ∀ v ∈ items.toList, ∃ b t, v = Value.bytes b t ∧ b.size ≤ 8) (hn : items.size ≤ 9)
    (h : ∀ c t' k, c.size ≤ 100 → Q (.bytes c t') { s with toks := k }) : wpAny (model prog w) A (call (.builtin "bytes.join") [.bytes #[] t₀, .ref D]) Q E s := by
  refine wpAny_call_entry slot_join (typeIs_bytes _ _ _) entry_join ?_ (args_join _ _)
  unfold Builtin.«bytes.join» Bytes.joinM
  refine wpAny_bind (wpAny_of_eq (a := (Value.bytes #[] t₀, Value.ref D)) rfl ?_)
  have hT : s.TypeIs (.ref D) "list" := ⟨o, ho, hc⟩
  refine wpAny_bind ?_
  unfold Bytes.joinItems
  refine wpAny_bind (wpAny_typeOf hT ?_)
  refine wpAny_ite ?_
  rw [if_pos (by rfl)]
  refine wpAny_pure ?_
  refine wpAny_bind (wpAny_seqItems ho hd ?_)
  dsimp only
  rw [if_pos (by rfl)]
  obtain ⟨l⟩ := items
  rcases l with _ | ⟨x, _ | ⟨y, l⟩⟩
  rotate_left
  · obtain ⟨b, t, rfl, hb⟩ := hi x (by simp)
    show wpAny _ _ (typeOf (Value.bytes b t) >>= fun _ => _) _ _ s
    refine wpAny_bind (wpAny_typeOf (typeIs_bytes _ _ _) ?_)
    rw [if_pos (by rfl)]
    exact wpAny_bind (wpAny_rule (wpAny_pure ⟨_, rfl, h b t s.toks (by omega)⟩))
  · show wpAny _ _ (forIn [:_] _ _ >>= fun _ => _) _ _ s
    refine wpAny_bind ?_
    rw [Std.Legacy.Range.forIn_eq_forIn_range']
    refine wpAny_forIn_list _ (fun rest r s' => s' = s ∧ (∀ p ∈ r.1.toList, p.size ≤ 8) ∧ r.1.size + rest.length ≤ 9 ∧ (∀ y ∈ r.2, y.2 = none ∧ y.1.onHeap = false) ∧ ∀ i ∈ rest, i < Array.size (Array.mk (x :: y :: l))) _ ?_ ?_ _ _ ⟨rfl, by simp, by simp [Std.Legacy.Range.size] at hn ⊢; try omega, by simp, by intro i hi9; simpa [Std.Legacy.Range.size] using hi9⟩
    · rintro i rest ⟨parts, taken⟩ s' ⟨rfl, hp, hl, ht, hr⟩
      refine wpAny_bind (wpAny_seqItems ho hd ?_)
      dsimp only
      obtain ⟨b, t, hx, hz⟩ := get_bytes hi (hr i (.head _))
      have hany : (taken.any fun x => x.1.onHeap) = false := by
        rw [List.any_eq_false]
        intro y hy
        rw [(ht y hy).2]
        exact Bool.false_ne_true
      rw [hx, hany, if_neg (by decide)]
      refine wpAny_bind (wpAny_holding (wpAny_of_eq take_eq ?_))
      dsimp only
      refine wpAny_bind (wpAny_seqItems ho hd ?_)
      dsimp only
      rw [if_neg (by simp)]
      refine wpAny_pure ⟨rfl, fun p hp' => ?_, ?_, fun y hy => ?_, fun j hj => hr j (.tail _ hj)⟩
      · rw [Array.toList_push] at hp'
        rcases List.mem_append.mp hp' with q | q
        · exact hp p q
        · rw [List.mem_singleton.mp q]; exact hz
      · rw [Array.size_push]
        simp only [List.length_cons] at hl
        omega
      · rcases List.mem_append.mp hy with q | q
        · exact ht y q
        · rw [List.mem_singleton.mp q]; exact ⟨rfl, rfl⟩
    · rintro ⟨parts, taken⟩ s' ⟨rfl, hp, hl, ht, _⟩
      dsimp only
      have hlen : parts.size ≤ 9 := by simp only [List.length_nil] at hl; omega
      refine wpAny_bind (wpAny_of_eq (a := #[]) rfl ?_)
      have hsum := sum_size parts.toList 0 hp
      have hj := joined_size parts.toList 0 #[] hp
      rw [Array.length_toList] at hsum hj
      rw [if_neg (by
        unfold Bytes.tooLong
        rw [sizeLine_eq, ← Array.foldl_toList]
        simp only [decide_eq_true_eq]
        have e : (#[] : Array UInt8).size * (parts.size - 1) = 0 := by simp
        rw [e]
        omega)]
      have hj' : (Bytes.joined #[] parts.toList).size ≤ 72 := Nat.le_trans hj (by show 0 + 8 * parts.size ≤ 72; omega)
      refine wpAny_bind (wpAny_mkBytes ?_ (by rw [sizeLine_eq]; omega))
      refine wpAny_bind (wpAny_holding (wpAny_point ?_))
      refine wpAny_bind (let_go (fun y hy => (ht y hy).1) ?_)
      exact wpAny_pure ⟨_, rfl, h _ _ _ (by omega)⟩
  · show wpAny _ _ (forIn [:_] _ _ >>= fun _ => _) _ _ s
    refine wpAny_bind ?_
    rw [Std.Legacy.Range.forIn_eq_forIn_range']
    refine wpAny_forIn_list _ (fun rest r s' => s' = s ∧ (∀ p ∈ r.1.toList, p.size ≤ 8) ∧ r.1.size + rest.length ≤ 9 ∧ (∀ y ∈ r.2, y.2 = none ∧ y.1.onHeap = false) ∧ ∀ i ∈ rest, i < Array.size (#[] : Array Value)) _ ?_ ?_ _ _ ⟨rfl, by simp, by simp [Std.Legacy.Range.size] at hn ⊢; try omega, by simp, by intro i hi9; simpa [Std.Legacy.Range.size] using hi9⟩
    · rintro i rest ⟨parts, taken⟩ s' ⟨rfl, hp, hl, ht, hr⟩
      refine wpAny_bind (wpAny_seqItems ho hd ?_)
      dsimp only
      obtain ⟨b, t, hx, hz⟩ := get_bytes hi (hr i (.head _))
      have hany : (taken.any fun x => x.1.onHeap) = false := by
        rw [List.any_eq_false]
        intro y hy
        rw [(ht y hy).2]
        exact Bool.false_ne_true
      rw [hx, hany, if_neg (by decide)]
      refine wpAny_bind (wpAny_holding (wpAny_of_eq take_eq ?_))
      dsimp only
      refine wpAny_bind (wpAny_seqItems ho hd ?_)
      dsimp only
      rw [if_neg (by simp)]
      refine wpAny_pure ⟨rfl, fun p hp' => ?_, ?_, fun y hy => ?_, fun j hj => hr j (.tail _ hj)⟩
      · rw [Array.toList_push] at hp'
        rcases List.mem_append.mp hp' with q | q
        · exact hp p q
        · rw [List.mem_singleton.mp q]; exact hz
      · rw [Array.size_push]
        simp only [List.length_cons] at hl
        omega
      · rcases List.mem_append.mp hy with q | q
        · exact ht y q
        · rw [List.mem_singleton.mp q]; exact ⟨rfl, rfl⟩
    · rintro ⟨parts, taken⟩ s' ⟨rfl, hp, hl, ht, _⟩
      dsimp only
      have hlen : parts.size ≤ 9 := by simp only [List.length_nil] at hl; omega
      refine wpAny_bind (wpAny_of_eq (a := #[]) rfl ?_)
      have hsum := sum_size parts.toList 0 hp
      have hj := joined_size parts.toList 0 #[] hp
      rw [Array.length_toList] at hsum hj
      rw [if_neg (by
        unfold Bytes.tooLong
        rw [sizeLine_eq, ← Array.foldl_toList]
        simp only [decide_eq_true_eq]
        have e : (#[] : Array UInt8).size * (parts.size - 1) = 0 := by simp
        rw [e]
        omega)]
      have hj' : (Bytes.joined #[] parts.toList).size ≤ 72 := Nat.le_trans hj (by show 0 + 8 * parts.size ≤ 72; omega)
      refine wpAny_bind (wpAny_mkBytes ?_ (by rw [sizeLine_eq]; omega))
      refine wpAny_bind (wpAny_holding (wpAny_point ?_))
      refine wpAny_bind (let_go (fun y hy => (ht y hy).1) ?_)
      exact wpAny_pure ⟨_, rfl, h _ _ _ (by omega)⟩
end
end Mine
end

section
open PySem PySem.W PyProof.Rows PySem.Calls PyProof.V PySem.Spec
namespace Mine
set_option maxRecDepth 100000
open Builtin

def NoTen (b : Array UInt8) : Prop := ∀ c ∈ b.toList, c ≠ 10
def isTen (b : Array UInt8) (i : Nat) : Bool := b.extract i (i + 1) == #[10]
theorem ten_at {b : Array UInt8} {i : Nat} (h : i < b.size) (e : b[i] = 10) : isTen b i = true := by
  have : b.extract i (i + 1) = #[10] := by
    apply Array.ext
    · simp; omega
    · intro j h1 h2
      have h2' : j < 1 := h2
      have : j = 0 := by omega
      subst this
      rw [Array.getElem_extract]
      exact e
  unfold isTen
  rw [this]
  exact beq_self_eq_true _
theorem occ_fold (b : Array UInt8) : ∀ n : Nat, ∃ l k, (List.range n).foldl (fun (acc : List Nat × Nat) (i : Nat) => if i ≥ acc.2 && b.extract i (i + (#[10] : Array UInt8).size) == #[10] then (i :: acc.1, i + (#[10] : Array UInt8).size) else acc) ([], 0) = (l, k) ∧ l.reverse = (List.range n).filter (isTen b) ∧ k ≤ n
  | 0 => ⟨[], 0, rfl, rfl, Nat.le_refl _⟩
  | n + 1 => by
    obtain ⟨l, k, e, hl, hk⟩ := occ_fold b n
    rw [List.range_succ, List.foldl_append, e, List.filter_append]
    by_cases q : isTen b n = true
    · have q' : (decide (n ≥ k) && b.extract n (n + (#[10] : Array UInt8).size) == #[10]) = true := by
        rw [Bool.and_eq_true]; exact ⟨decide_eq_true hk, q⟩
      refine ⟨n :: l, n + 1, ?_, ?_, Nat.le_refl _⟩
      · show (if (decide (n ≥ k) && b.extract n (n + (#[10] : Array UInt8).size) == #[10]) = true then _ else _) = _
        rw [if_pos q']
        rfl
      · rw [List.reverse_cons, hl]
        simp [q]
    · have q' : ¬ (decide (n ≥ k) && b.extract n (n + (#[10] : Array UInt8).size) == #[10]) = true := by
        rw [Bool.and_eq_true]; exact fun c => q c.2
      refine ⟨l, k, ?_, ?_, Nat.le_succ_of_le hk⟩
      · show (if (decide (n ≥ k) && b.extract n (n + (#[10] : Array UInt8).size) == #[10]) = true then _ else _) = _
        rw [if_neg q']
      · rw [hl]
        simp [q]
theorem occ_eq (b : Array UInt8) : Bytes.occurrences b #[10] 0 b.size = (List.range b.size).filter (isTen b) := by
  obtain ⟨l, k, e, hl, _⟩ := occ_fold b b.size
  unfold Bytes.occurrences
  have hr : ((List.range (b.size + 1 - (0 + (#[10] : Array UInt8).size))).map (· + 0)) = List.range b.size := by
    have : b.size + 1 - (0 + (#[10] : Array UInt8).size) = b.size := by show b.size + 1 - (0 + 1) = _; omega
    rw [this]; simp
  rw [hr, ← hl]
  exact congrArg (fun x : List Nat × Nat => x.1.reverse) e
def tot (l : List (Array UInt8)) : Nat := (l.map Array.size).sum
theorem cut_free {b : Array UInt8} {i j : Nat} (h : ∀ k, i ≤ k → k < j → k < b.size → isTen b k = false) : NoTen (b.extract i j) := by
  intro c hc e
  subst e
  obtain ⟨k, hk, hg⟩ := List.getElem_of_mem hc
  rw [Array.length_toList] at hk
  rw [Array.getElem_toList, Array.getElem_extract] at hg
  have hk' : i + k < j ∧ i + k < b.size := by rw [Array.size_extract] at hk; omega
  have := ten_at hk'.2 hg
  rw [h (i + k) (by omega) hk'.1 hk'.2] at this
  cases this
theorem between_free (b : Array UInt8) : ∀ (l : List Nat) (parts : Array (Array UInt8)) (last : Nat), (∀ p ∈ parts.toList, NoTen p) → l.Pairwise (· < ·) → (∀ p ∈ l, last ≤ p ∧ p < b.size) → (∀ k, last ≤ k → k < b.size → isTen b k = true → k ∈ l) →
    ∃ parts' last', l.foldl (fun (x : Array (Array UInt8) × Nat) p => match x with | (parts, last) => (parts.push (b.extract last p), p + 1)) (parts, last) = (parts', last') ∧ (∀ p ∈ (parts'.push (b.extract last' b.size)).toList, NoTen p) ∧
      tot (parts'.push (b.extract last' b.size)).toList ≤ tot parts.toList + (b.size - last) ∧ parts'.size = parts.size + l.length
  | [], parts, last, hp, _, _, hk => by
    refine ⟨parts, last, rfl, fun p hp' => ?_, ?_, rfl⟩
    · rw [Array.toList_push] at hp'
      rcases List.mem_append.mp hp' with q | q
      · exact hp p q
      · rw [List.mem_singleton.mp q]
        refine cut_free fun k h1 _ h2 => ?_
        cases z : isTen b k with
        | false => rfl
        | true => exact absurd (hk k h1 h2 z) (List.not_mem_nil)
    · rw [Array.toList_push]
      unfold tot
      rw [List.map_append, List.sum_append]
      have : (b.extract last b.size).size = b.size - last := by rw [Array.size_extract]; omega
      simp [this]
  | p :: r, parts, last, hp, hs, hb, hk => by
    have hs' := List.pairwise_cons.mp hs
    have hpl := hb p (.head _)
    obtain ⟨parts', last', e, h1, h2, h3⟩ := between_free b r (parts.push (b.extract last p)) (p + 1) (fun q hq => by
      rw [Array.toList_push] at hq
      rcases List.mem_append.mp hq with z | z
      · exact hp q z
      · rw [List.mem_singleton.mp z]
        refine cut_free fun k k1 k2 k3 => ?_
        cases y : isTen b k with
        | false => rfl
        | true =>
          rcases List.mem_cons.mp (hk k k1 k3 y) with x | x
          · omega
          · have := hs'.1 k x; omega) hs'.2 (fun q hq => ⟨hs'.1 q hq, (hb q (.tail _ hq)).2⟩) (fun k k1 k2 y => by
        rcases List.mem_cons.mp (hk k (by omega) k2 y) with x | x
        · omega
        · exact x)
    refine ⟨parts', last', e, h1, Nat.le_trans h2 ?_, by rw [h3, Array.size_push, List.length_cons]; omega⟩
    rw [Array.toList_push]
    unfold tot
    rw [List.map_append, List.sum_append]
    have : (b.extract last p).size = p - last := by rw [Array.size_extract]; omega
    simp [this]
    omega
theorem joined_free : ∀ (l : List (Array UInt8)) (k : Nat) (out : Array UInt8), NoTen out → (∀ p ∈ l, NoTen p) →
    NoTen ((l.zipIdx k).foldl (fun (out : Array UInt8) (x : Array UInt8 × Nat) => match x with | (p, i) => (if i > 0 then out ++ #[120] else out) ++ p) out) ∧
    ((l.zipIdx k).foldl (fun (out : Array UInt8) (x : Array UInt8 × Nat) => match x with | (p, i) => (if i > 0 then out ++ #[120] else out) ++ p) out).size ≤ out.size + tot l + l.length
  | [], _, out, ho, _ => ⟨ho, by simp [tot]⟩
  | p :: l, k, out, ho, h => by
    rw [List.zipIdx_cons, List.foldl_cons]
    have hp := h p (.head _)
    have ho' : NoTen ((if k > 0 then out ++ #[120] else out) ++ p) := by
      intro c hc
      rw [Array.toList_append] at hc
      rcases List.mem_append.mp hc with q | q
      · split at q
        · rw [Array.toList_append] at q
          rcases List.mem_append.mp q with z | z
          · exact ho c z
          · rw [List.mem_singleton.mp z]; decide
        · exact ho c q
      · exact hp c q
    have ih := joined_free l (k + 1) ((if k > 0 then out ++ #[120] else out) ++ p) ho' fun q hq => h q (.tail _ hq)
    refine ⟨ih.1, Nat.le_trans ih.2 ?_⟩
    have hz : (if k > 0 then out ++ #[120] else out).size ≤ out.size + 1 := by split <;> simp
    have ht : tot (p :: l) = p.size + tot l := by simp [tot]
    rw [Array.size_append, List.length_cons, ht]
    omega
theorem replaced (b : Array UInt8) : NoTen (Bytes.joined #[120] (Bytes.between b (#[10] : Array UInt8).size (Bytes.occurrences b #[10] 0 b.size))) ∧ (Bytes.joined #[120] (Bytes.between b (#[10] : Array UInt8).size (Bytes.occurrences b #[10] 0 b.size))).size ≤ 2 * b.size + 1 := by
  rw [occ_eq]
  obtain ⟨parts', last', e, h1, h2, h3⟩ := between_free b ((List.range b.size).filter (isTen b)) #[] 0 (by simp) (List.Pairwise.filter _ List.pairwise_lt_range) (fun p hp => ⟨Nat.zero_le _, List.mem_range.mp (List.mem_filter.mp hp).1⟩) (fun k _ hk hy => List.mem_filter.mpr ⟨List.mem_range.mpr hk, hy⟩)
  have eb : Bytes.between b (#[10] : Array UInt8).size ((List.range b.size).filter (isTen b)) = (parts'.push (b.extract last' b.size)).toList := by
    unfold Bytes.between
    exact congrArg (fun x : Array (Array UInt8) × Nat => (x.1.push (b.extract x.2 b.size)).toList) e
  rw [eb]
  have hj := joined_free (parts'.push (b.extract last' b.size)).toList 0 #[] (fun c hc => absurd hc (by simp)) h1
  refine ⟨hj.1, Nat.le_trans hj.2 ?_⟩
  have hlen : ((List.range b.size).filter (isTen b)).length ≤ b.size := by
    have := List.length_filter_le (isTen b) (List.range b.size)
    rwa [List.length_range] at this
  have h0 : tot (#[] : Array (Array UInt8)).toList = 0 := rfl
  have h4 : (parts'.push (b.extract last' b.size)).toList.length = parts'.size + 1 := by simp
  have h5 : (#[] : Array (Array UInt8)).size = 0 := rfl
  have h6 : (#[] : Array UInt8).size = 0 := rfl
  rw [h4, h6]
  omega
theorem none_ten {b : Array UInt8} (h : (Bytes.occurrences b #[10] 0 b.size).isEmpty = true) : NoTen b := by
  rw [occ_eq, List.isEmpty_iff] at h
  intro c hc e
  subst e
  obtain ⟨k, hk, hg⟩ := List.getElem_of_mem hc
  rw [Array.length_toList] at hk
  rw [Array.getElem_toList] at hg
  have : k ∈ (List.range b.size).filter (isTen b) := List.mem_filter.mpr ⟨List.mem_range.mpr hk, ten_at hk hg⟩
  rw [h] at this
  cases this
theorem noTen_ints {b : Array UInt8} (h : NoTen b) : ∀ k ∈ KBw.bInts b, k ≠ 10 := by
  intro k hk e
  obtain ⟨c, hc, hce⟩ := List.mem_map.mp hk
  refine h c hc (UInt8.toNat_inj.mp ?_)
  have : (c.toNat : Int) = 10 := hce.trans e
  show c.toNat = 10
  omega

section
variable {prog : Program} {w : World} {A : Around} {E : Value → Shared → Prop} {s : Shared} {b : Array UInt8} {t u v : Tok} {Q : Value → Shared → Prop}
theorem replace_at (hz : b.size ≤ 400) (h : ∀ c t' k, c.size ≤ 2 * b.size + 1 → (∀ k ∈ KBw.bInts c, k ≠ 10) → Q (.bytes c t') { s with toks := k }) : wpAny (model prog w) A (call (.builtin "bytes.replace") [.bytes b t, .bytes #[10] u, .bytes #[120] v]) Q E s := by
  refine wpAny_call_entry slot_replace (typeIs_bytes _ _ _) entry_replace ?_ (args_replace _ _ _)
  unfold Builtin.«bytes.replace» Bytes.replaceM
  refine wpAny_bind (wpAny_of_eq (a := (Value.bytes b t, [Value.bytes #[10] u, .bytes #[120] v])) rfl ?_)
  dsimp only
  refine wpAny_bind (wpAny_of_eq KBd.like_eq ?_)
  refine wpAny_bind (wpAny_of_eq KBd.like_eq ?_)
  show wpAny _ _ (pure (-1) >>= fun _ => _) _ _ s
  refine wpAny_bind (wpAny_pure ?_)
  refine wpAny_bind (wpAny_of_eq KBd.like_eq ?_)
  refine wpAny_bind (wpAny_of_eq KBd.like_eq ?_)
  refine wpAny_bind (wpAny_of_eq (a := b) rfl ?_)
  generalize hocc : Bytes.occurrences b #[10] 0 b.size = occ
  have hall : (if (-1 : Int) < 0 then (if (#[10] : Array UInt8).isEmpty = true then List.range (b.size + 1) else occ) else List.take (-1 : Int).toNat (if (#[10] : Array UInt8).isEmpty = true then List.range (b.size + 1) else occ)) = occ := rfl
  rw [hall]
  have hlen : occ.length ≤ b.size := by
    rw [← hocc, occ_eq]
    have := List.length_filter_le (isTen b) (List.range b.size)
    rwa [List.length_range] at this
  by_cases q : occ.isEmpty = true
  · rw [if_pos (by rw [q]; rfl)]
    refine wpAny_bind (wpAny_rule ?_)
    refine wpAny_bind ?_
    unfold Bytes.Kind.same
    rw [if_pos (by rfl)]
    refine wpAny_bind (wpAny_typeOf (typeIs_bytes _ b t) ?_)
    rw [if_pos (by rfl)]
    exact wpAny_pure (wpAny_pure ⟨_, rfl, h b t s.toks (by omega) (noTen_ints (none_ten (by rw [hocc]; exact q)))⟩)
  · have q' : occ.isEmpty = false := by simpa using q
    have hr := replaced b
    rw [hocc] at hr
    rw [if_neg (by rw [q']; decide), if_neg (by
      unfold Bytes.tooLong
      rw [sizeLine_eq]
      have h1 : (#[120] : Array UInt8).size = 1 := rfl
      rw [h1]
      simp only [decide_eq_true_eq]
      omega)]
    refine wpAny_bind (wpAny_mkBytes ?_ (by rw [sizeLine_eq]; have := hr.2; omega))
    exact wpAny_pure ⟨_, rfl, h _ _ _ hr.2 (noTen_ints hr.1)⟩
end
end Mine
end

section
open PySem PySem.W PyProof.Rows PySem.Calls PyProof.V PySem.Spec
namespace Mine
set_option maxRecDepth 100000
open LCg

section
variable {prog : Program} {w : World} {A : Around} {h₀ : Heap} {L : Addr} {m : Str → Option Value} {env : Env} {elt : Expr} {x : Str} {scope : Scope} {cl : List (Str × Addr)} {s : Shared} {S : List (Addr × Obj) → Prop} {P : Nat → Value → Prop} {Fin : List Value → List (Addr × Obj) → Prop} {news : List (Addr × Obj)}
/-- a comprehension by what holds of its list and of the ledger -/
theorem rest_inv {n : Nat} (Inv : List Value → List (Addr × Obj) → Prop)
    (turn : ∀ v I oI C oC D m₂ ys nw h tk (E' : Value → Shared → Prop), Inv ys nw → NsObj oC m₂ → m₂ x = some v → Fr h₀ L h m → News h₀ L h ((I, oI) :: (C, oC) :: (D, lst ys) :: nw) → Off3 I C D nw → ((@Ne Nat I C) ∧ (@Ne Nat I D) ∧ (@Ne Nat C D)) →
      wpAny (model prog w) A (eval elt (compEnvC scope cl C env)) (CompEnd h₀ L m { s with heap := h, toks := tk } I oI C oC D (lst ys) S (fun y nw' => Inv (ys ++ [y]) nw')) E' { s with heap := h, toks := tk })
    (fin : ∀ ys nw, ys.length = n → Inv ys nw → Fin ys nw) (h0 : Inv [] news) : CompRest prog w A h₀ L m env elt x scope cl s S P Fin n 0 [] news := by
  have key : ∀ (j i : Nat) (ys : List Value) (nw : List (Addr × Obj)), i + j = n → ys.length = i → Inv ys nw → CompRest prog w A h₀ L m env elt x scope cl s S P Fin j i ys nw := by
    intro j
    induction j with
    | zero => exact fun i ys nw hi hl hv => CompRest.zero (fin ys nw (by omega) hv)
    | succ j ih =>
      intro i ys nw hi hl hv
      refine CompRest.succ fun v I oI C oC D m₂ h tk E' _ hC hx F N off ne => ?_
      refine wpAny_mono (turn v I oI C oC D m₂ ys nw h tk E' hv hC hx F N off ne) (fun y s₂ hq => ?_) fun _ _ e => e
      obtain ⟨h', tk', nw', e, F', N', off', hS, hi'⟩ := hq
      exact ⟨h', tk', nw', e, F', N', off', hS, ih (i + 1) _ _ (by omega) (by rw [List.length_append, hl]; rfl) hi'⟩
  exact key n 0 [] news (by omega) rfl h0
end

/-- a few octets -/
def Small (v : Value) : Prop := ∃ b t, v = Value.bytes b t ∧ b.size ≤ 8
theorem small_of {l : List UInt8} {t : Tok} (h : l.length ≤ 8 := by decide) : Small (.bytes l.toArray t) := ⟨_, _, rfl, by simpa using h⟩
def bagObj (n : Int) (t : Tok) (c : Nat) : Obj := { cls := .type "list", data := .seq #[.int n t] c }
/-- the ledger behind a turn: the bag's int alone has turned -/
def BagInv (p₀ : Addr × Obj) (bag : Addr) (p₁ p₂ : Addr × Obj) (ys : List Value) (nw : List (Addr × Obj)) : Prop :=
  (∃ n t c, nw = [p₀, (bag, ({ cls := .type "list", data := .seq #[.int n t] c } : Obj)), p₁, p₂]) ∧ ∀ y ∈ ys, Small y
theorem bag_snoc {p₀ p₁ p₂ : Addr × Obj} {bag : Addr} {n : Int} {t : Tok} {c : Nat} {ys : List Value} {b : Array UInt8} {u : Tok} (hs : ∀ y ∈ ys, Small y) (hb : b.size ≤ 8) :
    BagInv p₀ bag p₁ p₂ (ys ++ [.bytes b u]) [p₀, (bag, ({ cls := .type "list", data := .seq #[.int n t] c } : Obj)), p₁, p₂] := ⟨⟨n, t, c, rfl⟩, fun y hy => by
  rcases List.mem_append.mp hy with q | q
  · exact hs y q
  · rw [List.mem_singleton.mp q]; exact ⟨b, u, rfl, hb⟩⟩

section
variable {prog : Program} {w : World} {A : Around} {E : Value → Shared → Prop} {s : Shared} {value slice : PySem.Expr} {Q : Value → Shared → Prop} {l : Addr} {vs : List Value} {k : Int} {u t : Tok} {b c : Array UInt8}
theorem mod_any {a b : Int} (hb : 0 < b) (h : ∀ v : Int, 0 ≤ v → v < b → Q (.int v s.toks) { s with toks := s.toks + 1 }) : wpAny (model prog w) A (binaryOp .Mod (.int a t) (.int b u)) Q E s :=
  mod_int' (by omega) (h _ (fmod_lo a hb) (fmod_hi a hb))
theorem item_small (hl : s.heap.IsList l vs.toArray) (h0 : 0 ≤ k) (h1 : k < vs.length) (hz : vs.length ≤ 1000) (hv : ∀ v ∈ vs, Small v) (h : ∀ b t, b.size ≤ 8 → Q (.bytes b t) s)
    (hs : subscripted slice false (.ref l) (.int k u) = operate [.ref l, .int k u] (getItem (.ref l) (.int k u)) := by with_unfolding_all rfl) :
    wpAny (model prog w) A (subscriptTail value slice (.ref l) (.int k u)) Q E s := by
  have hk : k.toNat < vs.length := by omega
  obtain ⟨b, t, e, hb⟩ := hv vs[k.toNat] (List.getElem_mem hk)
  refine tail_any hl.typeIs slot_list_getitem.lookup (wpAny_getItem_list hl h0 (by omega) (by rw [List.getElem?_toArray]; exact List.getElem?_eq_getElem hk) ?_) hs
  rw [e]
  exact h b t hb
theorem add_small (hb : b.size ≤ 100) (hc : c.size ≤ 8) (h : ∀ (d : Array UInt8) (t' : Tok) (k : Nat) (ks : List Int), KBw.bInts d = ks → ks.length ≤ 108 → Q (.bytes d t') { s with toks := k }) : wpAny (model prog w) A (binaryOp .Add (.bytes b t) (.bytes c u)) Q E s :=
  KBy.add_bytes (by omega) fun t' k => h (b ++ c) t' k _ rfl (by rw [KBw.ints_length, Array.size_append]; omega)
theorem join_small {h₀ : Heap} {L D : Addr} {news : List (Addr × Obj)} {ys : List Value} {n : Nat} (N : News h₀ L s.heap news) (hm : (D, lst ys) ∈ news) (hn : ys.length = n) (hn9 : n ≤ 9) (hs : ∀ y ∈ ys, Small y)
    (h : ∀ c t' k, c.size ≤ 100 → Q (.bytes c t') { s with toks := k }) : wpAny (model prog w) A (call (.builtin "bytes.join") [.bytes #[] t, .ref D]) Q E s :=
  join_at (N _ hm).1 rfl rfl (fun v hv => hs v (by simpa using hv)) (by rw [List.size_toArray]; omega) h
theorem cut_mid {h₀ : Heap} {L : Addr} {m : Str → Option Value} {news : List (Addr × Obj)} {ks : List Int} {bg en : Int} {u₁ u₂ : Tok} (hF : Fr h₀ L s.heap m) (hN : News h₀ L s.heap news) (hk : KBw.bInts b = ks) (hz : ks.length ≤ 1000) (h0 : 0 ≤ bg) (h1 : bg ≤ en) (h2 : en ≤ ks.length)
    (h : ∀ c h' t' k, Fr h₀ L h' m → News h₀ L h' news → Back c (backOf ks bg en) → Q (.bytes c t') { s with heap := h', toks := k })
    (hs : subscripted slice false (.bytes b t) (.ref s.heap.objs.size) = operate [.ref s.heap.objs.size, .bytes b t] (getItem (.bytes b t) (.ref s.heap.objs.size)) := by with_unfolding_all rfl)
    (ht : ∀ r, letTemporaryGo value (.bytes b t) r = pure () := by intro _; with_unfolding_all rfl) :
    wpAny (model prog w) A (subscriptTail value slice (.bytes b t) (.ref s.heap.objs.size)) Q E { s with heap := s.heap.push { cls := .type "slice", data := .fields #[.int bg u₁, .int en u₂, .none] } } :=
  KBc.slice_K hF hN hk (lo := some bg) (hi := some en) (by constructor) (by constructor) (by omega) (fun h' t' k F N e => h _ h' t' k F N (by
    simp only [Option.elim] at e
    show KBw.bInts _ = (backOf ks bg en).reverse
    rw [e, clip_pos h0, clip_pos (by omega)]
    unfold backOf
    rw [List.reverse_reverse, List.drop_take]
    congr 1
    · omega
    · congr 1; omega)) hs ht
theorem back_le {ks : List Int} {bg en : Int} (h : ks.length ≤ 1000) : (backOf ks bg en).length ≤ 1000 := by
  unfold backOf
  rw [List.length_reverse, List.length_drop, List.length_take]
  omega
theorem head_none {r : Option (Int × Bool)} {v : Value} {nn : List (Addr × Obj)} (P : HeadOut r v nn) (h : r = none) : v = .none ∧ nn = [] := by rw [h] at P; exact P
theorem head_some {r : Option (Int × Bool)} {v : Value} {nn : List (Addr × Obj)} {n : Int} {w : Bool} (P : HeadOut r v nn) (h : r = some (n, w)) : ∃ D t c, v = .ref D ∧ nn = [(D, ({ cls := .type "tuple", data := .seq #[.int n t, .bool w] c } : Obj))] := by rw [h] at P; exact P
end
end Mine
end

section
open PySem PySem.W PyProof.Rows
namespace Mine
set_option maxRecDepth 100000

section
variable {w : World} {loose : List Str} {mean : ExcName → Option Value} {mg mb : Str → Option Value} {dp un : Nat} {gd : Option (List Code)} {cn : Str} {cs : Scope} {a : Addr} {ccd : Value} {cl : List (Str × Addr)} {outer : List Env} {A₀ : Around} {base h₀ : Heap} {L : Addr} {m : Str → Option Value} {news : List (Addr × Obj)} {s : Shared} {Q E : Value → Shared → Prop}
variable {b : Array UInt8} {t : Tok} {ks r : List Int}
theorem lh_use {bg en : Int} {tb te : Tok} (hb : KBw.bInts b = ks) (h0 : 0 ≤ bg) (h1 : bg ≤ en) (h2 : en ≤ ks.length) (h3 : ks.length ≤ 1000)
    (B : Below A₀ base outer h₀) (F : Fr h₀ L s.heap m) (X : (hd.heap_39 w.params).In h₀) (N : News h₀ L s.heap news) (T : Top hd.view_39 loose mean mg mb h₀) (hk : cs.kind = .function) (hd' : dp + 4 < recursionLimit) (hu : un + 8 * 4 < cLine)
    (no : ∀ h' tk', Fr h₀ L h' m → News h₀ L h' news → headOf (backOf ks bg en) = none → Q .none { s with heap := h', toks := tk' })
    (yes : ∀ n x D t c h' tk', Fr h₀ L h' m → News h₀ L h' ((D, ({ cls := .type "tuple", data := .seq #[.int n t, .bool x] c } : Obj)) :: news) → (∀ q ∈ news, q.1 < D) → headOf (backOf ks bg en) = some (n, x) → Q (.ref D) { s with heap := h', toks := tk' }) :
    wpAny (model PySem.Challenge.rw_nz0267_01.row.prog w) (ktrTop dp un gd cn cs L a ccd cl outer) (call (.ref 35) [.bytes b t, .int bg tb, .int en te]) Q E s := by
  refine con_use (lh_con b t ks hb bg en tb te h0 h1 h2 h3) B F X N T hk hd' hu fun v nn h' tk' F' N' l P => ?_
  rcases hq : headOf (backOf ks bg en) with _ | ⟨n, x⟩
  · obtain ⟨rfl, rfl⟩ := head_none P hq
    exact no h' tk' F' N' hq
  · obtain ⟨D, t, c, rfl, rfl⟩ := head_some P hq
    exact yes n x D t c h' tk' F' N' (fun q hq => l _ (.head _) q hq) hq
theorem due_no (hb : Back b r) (h3 : r.length ≤ 1000) (hr : headOf r = none)
    (B : Below A₀ base outer h₀) (F : Fr h₀ L s.heap m) (X : (hd.heap_39 w.params).In h₀) (N : News h₀ L s.heap news) (T : Top hd.view_39 loose mean mg mb h₀) (hk : cs.kind = .function) (hd' : dp + 4 < recursionLimit) (hu : un + 8 * 4 < cLine)
    (no : ∀ h' tk', Fr h₀ L h' m → News h₀ L h' news → Q .none { s with heap := h', toks := tk' }) :
    wpAny (model PySem.Challenge.rw_nz0267_01.row.prog w) (ktrTop dp un gd cn cs L a ccd cl outer) (call (.ref 61) [.bytes b t]) Q E s := by
  refine con_use (due_con b t r hb h3) B F X N T hk hd' hu fun v nn h' tk' F' N' l P => ?_
  obtain ⟨rfl, rfl⟩ := head_none P hr
  exact no h' tk' F' N'
theorem due_yes {n : Int} {x : Bool} (hb : Back b r) (h3 : r.length ≤ 1000) (hr : headOf r = some (n, x))
    (B : Below A₀ base outer h₀) (F : Fr h₀ L s.heap m) (X : (hd.heap_39 w.params).In h₀) (N : News h₀ L s.heap news) (T : Top hd.view_39 loose mean mg mb h₀) (hk : cs.kind = .function) (hd' : dp + 4 < recursionLimit) (hu : un + 8 * 4 < cLine)
    (yes : ∀ D t c h' tk', Fr h₀ L h' m → News h₀ L h' ((D, ({ cls := .type "tuple", data := .seq #[.int n t, .bool x] c } : Obj)) :: news) → (∀ q ∈ news, q.1 < D) → Q (.ref D) { s with heap := h', toks := tk' }) :
    wpAny (model PySem.Challenge.rw_nz0267_01.row.prog w) (ktrTop dp un gd cn cs L a ccd cl outer) (call (.ref 61) [.bytes b t]) Q E s := by
  refine con_use (due_con b t r hb h3) B F X N T hk hd' hu fun v nn h' tk' F' N' l P => ?_
  obtain ⟨D, t, c, rfl, rfl⟩ := head_some P hr
  exact yes D t c h' tk' F' N' (fun q hq => l _ (.head _) q hq)
theorem due_any (hb : KBw.bInts b = ks) (h3 : ks.length ≤ 1000)
    (B : Below A₀ base outer h₀) (F : Fr h₀ L s.heap m) (X : (hd.heap_39 w.params).In h₀) (N : News h₀ L s.heap news) (T : Top hd.view_39 loose mean mg mb h₀) (hk : cs.kind = .function) (hd' : dp + 4 < recursionLimit) (hu : un + 8 * 4 < cLine)
    (no : ∀ h' tk', Fr h₀ L h' m → News h₀ L h' news → headOf ks.reverse = none → Q .none { s with heap := h', toks := tk' })
    (yes : ∀ n x D t c h' tk', Fr h₀ L h' m → News h₀ L h' ((D, ({ cls := .type "tuple", data := .seq #[.int n t, .bool x] c } : Obj)) :: news) → (∀ q ∈ news, q.1 < D) → headOf ks.reverse = some (n, x) → Q (.ref D) { s with heap := h', toks := tk' }) :
    wpAny (model PySem.Challenge.rw_nz0267_01.row.prog w) (ktrTop dp un gd cn cs L a ccd cl outer) (call (.ref 61) [.bytes b t]) Q E s := by
  have hb' : Back b ks.reverse := by show KBw.bInts b = ks.reverse.reverse; rw [List.reverse_reverse]; exact hb
  have h3' : ks.reverse.length ≤ 1000 := by rw [List.length_reverse]; exact h3
  rcases hq : headOf ks.reverse with _ | ⟨n, x⟩
  · exact due_no hb' h3' hq B F X N T hk hd' hu fun h' tk' F' N' => no h' tk' F' N' hq
  · exact due_yes hb' h3' hq B F X N T hk hd' hu fun D t c h' tk' F' N' l => yes n x D t c h' tk' F' N' l hq
theorem ce_no {t₀ : Tok} (hb : KBw.bInts b = ks ++ [13, 10]) (hn : ∀ k ∈ ks, k ≠ 10) (h3 : ks.length ≤ 900) (hr : headOf ks.reverse = none)
    (B : Below A₀ base outer h₀) (F : Fr h₀ L s.heap m) (X : (hd.heap_39 w.params).In h₀) (N : News h₀ L s.heap news) (T : Top hd.view_39 loose mean mg mb h₀) (hk : cs.kind = .function) (hd' : dp + 6 < recursionLimit) (hu : un + 8 * 6 < cLine)
    (no : ∀ D t c h' tk', Fr h₀ L h' m → News h₀ L h' ((D, ({ cls := .type "tuple", data := .seq #[.int ((ks ++ [13, 10]).length : Nat) t, .none] c } : Obj)) :: news) → (∀ q ∈ news, q.1 < D) → Q (.ref D) { s with heap := h', toks := tk' }) :
    wpAny (model PySem.Challenge.rw_nz0267_01.row.prog w) (ktrTop dp un gd cn cs L a ccd cl outer) (call (.ref 42) [.bytes b t, .int 0 t₀]) Q E s := by
  refine con_use (ce_con b t t₀ ks hb hn h3) B F X N T hk hd' hu fun v nn h' tk' F' N' l P => ?_
  rw [hr] at P
  obtain ⟨D, t, c, rfl, rfl⟩ := P
  have e : (((ks ++ [13, 10]).length : Nat) : Int) = ks.length + 2 := by simp
  rw [e] at no
  exact no D t c h' tk' F' N' (fun q hq => l _ (.head _) q hq)
theorem ce_yes {t₀ : Tok} {n : Int} {x : Bool} (hb : KBw.bInts b = ks ++ [13, 10]) (hn : ∀ k ∈ ks, k ≠ 10) (h3 : ks.length ≤ 900) (hr : headOf ks.reverse = some (n, x))
    (B : Below A₀ base outer h₀) (F : Fr h₀ L s.heap m) (X : (hd.heap_39 w.params).In h₀) (N : News h₀ L s.heap news) (T : Top hd.view_39 loose mean mg mb h₀) (hk : cs.kind = .function) (hd' : dp + 6 < recursionLimit) (hu : un + 8 * 6 < cLine)
    (yes : ∀ D D₁ t t₁ c c₁ h' tk', Fr h₀ L h' m → News h₀ L h' ((D, ({ cls := .type "tuple", data := .seq #[.int (-1) t, .ref D₁] c } : Obj)) :: (D₁, ({ cls := .type "tuple", data := .seq #[.int n t₁, .bool x] c₁ } : Obj)) :: news) → D₁ < D → (∀ q ∈ news, q.1 < D₁) → Q (.ref D) { s with heap := h', toks := tk' }) :
    wpAny (model PySem.Challenge.rw_nz0267_01.row.prog w) (ktrTop dp un gd cn cs L a ccd cl outer) (call (.ref 42) [.bytes b t, .int 0 t₀]) Q E s := by
  refine con_use (ce_con b t t₀ ks hb hn h3) B F X N T hk hd' hu fun v nn h' tk' F' N' l P => ?_
  rw [hr] at P
  obtain ⟨D, D₁, t, t₁, c, c₁, rfl, rfl, lt⟩ := P
  exact yes D D₁ t t₁ c c₁ h' tk' F' N' lt (fun q hq => l _ (.tail _ (.head _)) q hq)
theorem replace_use {u v : Tok} {prog : Program} {A : Around} (hb : KBw.bInts b = ks) (hz : ks.length ≤ 400) (h : ∀ c t' k ks', KBw.bInts c = ks' → ks'.length ≤ 900 → (∀ k ∈ ks', k ≠ 10) → Q (.bytes c t') { s with toks := k }) :
    wpAny (model prog w) A (call (.builtin "bytes.replace") [.bytes b t, .bytes #[10] u, .bytes #[120] v]) Q E s := by
  have hz' : b.size ≤ 400 := by rw [← KBw.ints_length, hb]; exact hz
  exact replace_at hz' fun c t' k hc hn => h c t' k _ rfl (by rw [KBw.ints_length]; omega) hn
theorem add_crlf {u : Tok} {prog : Program} {A : Around} (hb : KBw.bInts b = ks) (hz : ks.length ≤ 900) (h : ∀ d t' k, KBw.bInts d = ks ++ [13, 10] → Q (.bytes d t') { s with toks := k }) :
    wpAny (model prog w) A (binaryOp .Add (.bytes b t) (.bytes #[13, 10] u)) Q E s := by
  have hz' : b.size ≤ 900 := by rw [← KBw.ints_length, hb]; exact hz
  refine KBy.add_bytes (by have e : (#[13, 10] : Array UInt8).size = 2 := rfl; omega) fun t' k => h _ t' k ?_
  rw [← hb]
  simp [KBw.bInts]
end
end Mine
end

section
open PySem PySem.W PyProof.Rows
namespace Mine
set_option maxRecDepth 100000
theorem bag_use {vs : List Value} {ns : List Int} (hi : IntsAre vs ns) (hz : ns.length ≤ 63) {sc : Addr}
  {w : World} {loose : List Str} {mean : ExcName → Option Value} {mg mb : Str → Option Value} {dp un : Nat} {gd : Option (List Code)} {cn : Str} {cs : Scope} {a : Addr} {ccd : Value} {cl : List (Str × Addr)} {outer : List Env} {A₀ : Around} {base h₀ : Heap} {L : Addr} {m : Str → Option Value} {news : List (Addr × Obj)} {s : Shared} {Q E : Value → Shared → Prop}
    (B : Below A₀ base outer h₀) (F : Fr h₀ L s.heap m) (X : (hd.heap_39 w.params).In h₀) (N : News h₀ L s.heap news) (T : Top hd.view_39 loose mean mg mb h₀) (hk : cs.kind = .function) (hd' : dp + 4 < recursionLimit) (hu : un + 8 * 4 < cLine) (hsc : base.IsList sc vs.toArray)
    (ret : ∀ (D : Addr) (n : Int) (t : Tok) (c : Nat) h' tk', Fr h₀ L h' m → News h₀ L h' ((D, ({ cls := .type "list", data := .seq #[.int n t] c } : Obj)) :: news) → (∀ q ∈ news, q.1 < D) → Q (.ref D) { s with heap := h', toks := tk' }) :
    wpAny (model PySem.Challenge.rw_nz0267_01.row.prog w) (ktrTop dp un gd cn cs L a ccd cl outer) (call (.ref 56) [.ref sc]) Q E s := bag_con vs ns hi hz sc _ _ _ _ _ _ _ _ _ _ _ _ _ _ _ _ _ _ _ _ _ _ _ B F X N T hk hd' hu hsc ret

section
local macro_rules | `(tactic| walk_at "call ref") => `(tactic| k_dflt (k_extra "my call ref"))
local macro_rules | `(tactic| walk_at "getMethod bytes") => `(tactic| (with_reducible first | refine meth_join ?_ | refine meth_find ?_ | refine meth_replace ?_))
local macro_rules | `(tactic| walk_at "eval ListComp") => `(tactic| k_dflt (k_extra "my ListComp"))
local macro_rules | `(tactic| walk_at "CompSrc") => `(tactic| k_dflt (k_extra "my CompSrc"))
local macro_rules | `(tactic| walk_at "CompEnd") => `(tactic| k_dflt (k_extra "my CompEnd"))
local macro_rules | `(tactic| walk_at "binaryOp Mod int int") => `(tactic| ((with_reducible refine mod_any (by omega) ?_); intro v9 lo9 hi9))
local macro_rules | `(tactic| walk_at "subscriptTail") => `(tactic| ((with_reducible show wpAny _ _ (subscriptTail _ _ (Value.ref _) (Value.int _ _)) _ _ _); k_dflt (refine item_small (by is_list) (by omega) (by (simp only [List.length_cons, List.length_nil]; omega)) (by exact Nat.le_of_ble_eq_true rfl) (by (repeat' (first | exact List.forall_mem_nil _ | (refine List.forall_mem_cons.mpr ⟨⟨_, _, rfl, by decide⟩, ?_⟩)))) ?_; intro b9 t9 hb9)))
local macro_rules | `(tactic| walk_at "call builtin:bytes.join") => `(tactic| k_dflt (k_extra "my join"))
local macro_rules | `(tactic| walk_at "binaryOp Add bytes bytes") => `(tactic| k_dflt (k_extra "my add"))
local macro_rules | `(tactic| walk_at "subscriptTail") => `(tactic| ((with_reducible show wpAny _ _ (subscriptTail _ (Expr.Slice _ _ none _) (Value.bytes _ _) (Value.ref _)) _ _ _); k_dflt (k_extra "my cut")))
local macro_rules | `(tactic| walk_at "call builtin:bytes.replace") => `(tactic| k_dflt (k_extra "my replace"))
set_option maxHeartbeats 8000000 in
theorem main : PySem.Challenge.rw_nz0267_01.Holds := hd (by
  k_with_none
  k_with "my call ref" => ((with_reducible show wpAny _ _ (call (Value.ref 56) _) _ _ _); (refine bag_use (by assumption) (by omega) (by k_asm) (by k_asm) (by k_asm) (by k_asm) (by k_asm) rfl (by ktr_room) (by ktr_units) (by assumption) ?_); (intro D9 n9 t9 c9 h9 tk9 F9 N9 l9); (k_lt l9); (try dsimp only))
  k_with "my ListComp" => (refine LCg.ListComp_U (F₀ := by k_asm) (by with_unfolding_all rfl) (by decide) (by rfl) (by decide) (by rfl) ?_)
  k_with "my CompSrc" => (
    (refine LCg.CompSrc.range (by rfl) (by k_asm) (by k_asm) (by assumption) (small_one (by omega) (by omega) (by omega) (by omega)) (rangeSize_nat _ _) (by rw [sizeLine_eq]; omega) ?_);
    (intro g6);
    (refine rest_inv (BagInv _ _ _ _) ?_ ?_ ⟨⟨_, _, _, rfl⟩, by intro y hy; cases hy⟩);
    (focus (intro v6 I6 oI6 C6 oC6 D6 m6 ys6 nw6 h6 tk6 E6 hv6 hC6 hx6 F6 N6 off6 ne6; obtain ⟨⟨n6, t6, c6, e6⟩, hs6⟩ := hv6; subst e6; (simp only [LCg.Off3, and_true] at off6); (try k_fold)));
    rotate_left;
    (focus (intro ys7 nw7 hl7 hv7; obtain ⟨⟨n7, t7, c7, e7⟩, hs7⟩ := hv7; subst e7; intro D7 h7 tk7 F7 N7 o7; (simp only [LCg.Off1, and_true] at o7); (try dsimp only)));
    rotate_left)
  k_with "my CompEnd" => (refine LCg.CompEnd.intro (by assumption) (by assumption) [_, _, _, _] (fun p hp => hp) (by simp only [LCg.Off3, and_true]; assumption) trivial (bag_snoc hs6 (by assumption)))
  k_with "my join" => ((refine join_small (by k_asm) (by k_mem) hl7 (by omega) hs7 ?_); (intro c5 t5 k5 hc5))
  k_with "my add" => ((with_reducible show wpAny _ _ (binaryOp Operator.Add (Value.bytes _ _) (Value.bytes _ _)) _ _ _); (refine add_small (by with_reducible assumption) (by with_reducible assumption) ?_); (intro dO tO kO ksO hdO hlO); (have hzO : dO.size = ksO.length := by rw [← hdO]; exact (KBw.ints_length _).symm))
  k_with "my call ref" => (
    (with_reducible show wpAny _ _ (call (Value.ref 35) _) _ _ _);
    (refine lh_use hdO (by omega) (by omega) (by omega) (by omega) (by k_asm) (by k_asm) (by k_asm) (by k_asm) (by k_asm) rfl (by ktr_room) (by ktr_units) ?_ ?_);
    (focus (intro h4 tk4 F4 N4 hq4; (try dsimp only)));
    rotate_left;
    (focus (intro n4 x4 D4 t4 c4 h4 tk4 F4 N4 l4 hq4; (k_lt l4); (try dsimp only)));
    rotate_left)
  k_with "my cut" => ((rename Fr _ _ _ _ => lF'); (rename News _ _ _ _ => lN'); (refine cut_mid (s := ⟨_, _, _, _, _⟩) lF' lN' hdO (by omega) (by omega) (by omega) (by omega) ?_); (clear lF' lN'); (intro cB hB tB kB FB NB bB))
  k_with "my call ref" => ((with_reducible show wpAny _ _ (call (Value.ref 61) _) _ _ _); first
    | ((refine due_no bB (back_le (by omega)) (by assumption) (by k_asm) (by k_asm) (by k_asm) (by k_asm) (by k_asm) rfl (by ktr_room) (by ktr_units) ?_); (intro h3 tk3 F3 N3; clear bB; (try dsimp only)))
    | ((refine due_yes bB (back_le (by omega)) (by assumption) (by k_asm) (by k_asm) (by k_asm) (by k_asm) (by k_asm) rfl (by ktr_room) (by ktr_units) ?_); (intro D3 t3 c3 h3 tk3 F3 N3 l3; (k_lt l3); clear bB; (try dsimp only))))
  k_with "my replace" => ((refine replace_use hdO (by omega) ?_); (intro cL tL kL ksL hdL hlL hnL))
  k_with "my add" => ((with_reducible show wpAny _ _ (binaryOp Operator.Add (Value.bytes _ _) (Value.bytes #[13, 10] _)) _ _ _); (refine add_crlf hdL (by omega) ?_); (intro dW tW kW hdW); (have hzW : dW.size = (ksL ++ [13, 10]).length := by rw [← hdW]; exact (KBw.ints_length _).symm))
  k_with "my call ref" => (
    (with_reducible show wpAny _ _ (call (Value.ref 61) _) _ _ _);
    (refine due_any hdL (by omega) (by k_asm) (by k_asm) (by k_asm) (by k_asm) (by k_asm) rfl (by ktr_room) (by ktr_units) ?_ ?_);
    (focus (intro h2 tk2 F2 N2 hq2; (try dsimp only)));
    rotate_left;
    (focus (intro n2 x2 D2 t2 c2 h2 tk2 F2 N2 l2 hq2; (k_lt l2); (try dsimp only)));
    rotate_left)
  k_with "my call ref" => ((with_reducible show wpAny _ _ (call (Value.ref 42) _) _ _ _); first
    | ((refine ce_no hdW hnL (by omega) (by assumption) (by k_asm) (by k_asm) (by k_asm) (by k_asm) (by k_asm) rfl (by ktr_room) (by ktr_units) ?_); (intro D1 t1 c1 h1 tk1 F1 N1 l1; (k_lt l1); (try dsimp only)))
    | ((refine ce_yes hdW hnL (by omega) (by assumption) (by k_asm) (by k_asm) (by k_asm) (by k_asm) (by k_asm) rfl (by ktr_room) (by ktr_units) ?_); (intro D1 D0 t1 t0 c1 c0 h1 tk1 F1 N1 l1 l0; (k_lt l0); (try dsimp only))))
  w_strict (
    k_go0
    (all_goals try k_fold)
    k_steps))
end
end Mine
end

theorem PySem.Challenge.cw_nz0267_01_holds : PySem.Challenge.rw_nz0267_01.Holds := by
  exact Mine.main
