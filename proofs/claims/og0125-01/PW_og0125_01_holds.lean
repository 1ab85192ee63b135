import PyProof.Rows.All
import Wide.All
import OpenK.AllK
import Wide.FinOn
import PySem.Challenge.RW_og0125_01
set_option Elab.async false
section
open PySem PySem.W PyProof.Rows
namespace Mine
set_option maxRecDepth 100000 in
set_option maxHeartbeats 8000000 in
open_top hd for PySem.Challenge.rw_og0125_01
end Mine
end
section
open PySem PySem.W PyProof.Rows
namespace Mine
set_option maxRecDepth 100000
/-- the names of the top that the head calls loose -/
noncomputable abbrev Lo : List Str := looseW Mine.hd.view_39 [Str.ofString "PaperError", Str.ofString "OTHER_CODES"]
/-- what comes back is R, all that stood stands -/
abbrev RetV (R : Tok → Value) (h₀ : Heap) (L : Addr) (m : Str → Option Value) (news : List (Addr × Obj)) (s : Shared) (Q : Value → Shared → Prop) : Prop :=
  ∀ (t : Tok) (h' : Heap) (tk' : Nat), Fr h₀ L h' m → News h₀ L h' news → Q (R t) { s with heap := h', toks := tk' }
/-- a new list of texts comes back -/
abbrev RetT (xs : List Str) (h₀ : Heap) (L : Addr) (m : Str → Option Value) (news : List (Addr × Obj)) (s : Shared) (Q : Value → Shared → Prop) : Prop :=
  ∀ (D : Addr) (c : Nat) (vs : List Value) (h' : Heap) (tk' : Nat), StrsAre vs xs → Fr h₀ L h' m → News h₀ L h' ((D, listOf vs.toArray c) :: news) → AllLt D news → Q (.ref D) { s with heap := h', toks := tk' }
/-- the contract of a def of the text: called under any frame of a def, with dd frames and uu units to spare -/
abbrev Cl (w : World) (mean : ExcName → Option Value) (mg mb : Str → Option Value) (f : Addr) (dd uu : Nat) (vs : List Value)
    (R : Heap → Addr → (Str → Option Value) → List (Addr × Obj) → Shared → (Value → Shared → Prop) → Prop) : Prop :=
  ∀ (dp un : Nat) (gd : Option (List Code)) (cn : Str) (cs : Scope) (a : Addr) (ccd : Value) (cl : List (Str × Addr)) (outer : List Env) (A₀ : Around) (base h₀ : Heap) (L : Addr) (m : Str → Option Value) (news : List (Addr × Obj)) (s : Shared) (Q E : Value → Shared → Prop),
    Below A₀ base outer h₀ → Fr h₀ L s.heap m → (Mine.hd.heap_39 w.params).In h₀ → News h₀ L s.heap news → Top Mine.hd.view_39 Lo mean mg mb h₀ → cs.kind = .function →
    dp + dd < recursionLimit → un + uu < cLine → R h₀ L m news s Q →
    wpAny (model PySem.Challenge.rw_og0125_01.row.prog w) (ktrTop dp un gd cn cs L a ccd cl outer) (call (.ref f) vs) Q E s
end Mine
end
section
open PySem PySem.W PyProof.Rows
namespace Mine
set_option maxRecDepth 100000
def isSign (k : Int) : Bool := decide (0 ≤ k) && decide (k ≤ 1114111) && !(decide (55296 ≤ k) && decide (k ≤ 57343))
set_option maxHeartbeats 8000000 in
theorem c_sign {w : World} {mean : ExcName → Option Value} {mg mb : Str → Option Value} (k : Int) (t : Tok) : Cl w mean mg mb 89 2 16 [.int k t] (RetV fun _ => .bool (isSign k)) := by
  unfold Cl RetV
  k_with_none
  k_fill
  intro dp un gd cn cs a ccd cl outer A₀ base h₀ L m news s Q E B F X N T hk hd hu hret
  refine wpAny_call ?_
  k_dflt cell_enter
  k_steps
  all_goals (refine cb_retB (Q := Q) hret ?_ (by k_asm) (by k_asm); (rw [Bool.eq_iff_iff]; simp only [isSign, Bool.and_eq_true, Bool.not_eq_true', decide_eq_true_eq, Bool.and_eq_false_iff, decide_eq_false_iff_not, Bool.not_eq_true, Bool.false_eq_true, Bool.true_eq_false] at *; omega))
set_option maxHeartbeats 8000000 in
theorem c_lsign {w : World} {mean : ExcName → Option Value} {mg mb : Str → Option Value} (k : Int) (t : Tok) : Cl w mean mg mb 129 2 16 [.int k t] (RetV fun _ => .bool (isSign k)) := by
  unfold Cl RetV
  k_with_none
  k_fill
  intro dp un gd cn cs a ccd cl outer A₀ base h₀ L m news s Q E B F X N T hk hd hu hret
  refine wpAny_call ?_
  k_dflt cell_enter
  k_steps
  all_goals (refine cb_retB (Q := Q) hret ?_ (by k_asm) (by k_asm); (rw [Bool.eq_iff_iff]; simp only [isSign, Bool.and_eq_true, Bool.not_eq_true', decide_eq_true_eq, Bool.and_eq_false_iff, decide_eq_false_iff_not, Bool.not_eq_true, Bool.false_eq_true, Bool.true_eq_false] at *; omega))
end Mine
end
section
open PySem PySem.W PyProof.Rows
namespace Mine
set_option maxRecDepth 100000
def HEXS : Str := Str.ofString "0123456789ABCDEF"
def hx : Nat → Int → Str → Str
  | 0, _, s => s
  | n + 1, w, s => if 0 < w ∨ s.length < 4 then hx n (w.fdiv 16) (Txt.item HEXS (w.fmod 16) ++ s) else s
def HxOk (k wo : Int) (si : Str) : Prop := ∃ n : Nat, n ≤ 8 ∧ hx n wo si = hx 8 k Str.empty ∧ wo < 16 ^ n ∧ 4 ≤ si.length + n ∧ si.length + n ≤ 8
theorem fdiv16 {w : Int} (h : 0 ≤ w) : w.fdiv 16 = w / 16 := Int.fdiv_eq_ediv_of_nonneg w (by decide)
theorem hx_stay : ∀ (n : Nat) {w : Int} {s : Str}, ¬ 0 < w → ¬ s.length < 4 → hx n w s = s
  | 0, _, _, _, _ => rfl
  | n + 1, w, s, h1, h2 => by unfold hx; rw [if_neg (by omega)]
theorem hxOk_start {k : Int} (h1 : k ≤ 1114111) : HxOk k k (Str.ofString "") :=
  ⟨8, Nat.le_refl _, rfl, by omega, by decide, by decide⟩
theorem hxOk_step {k w : Int} {s : Str} (h0 : 0 ≤ w) (h : HxOk k w s) (hc : 0 < w ∨ s.length < 4) (hl : (Txt.item (Str.ofString "0123456789ABCDEF") (w.fmod 16)).length = 1) :
    HxOk k (w.fdiv 16) (Txt.item (Str.ofString "0123456789ABCDEF") (w.fmod 16) ++ s) ∧ (Txt.item (Str.ofString "0123456789ABCDEF") (w.fmod 16) ++ s).length ≤ 8 := by
  obtain ⟨n, hn, he, hw, ha, hb⟩ := h
  have hla : (Txt.item (Str.ofString "0123456789ABCDEF") (w.fmod 16) ++ s).length = 1 + s.length := by rw [Str.length_append, hl]
  cases n with
  | zero => exfalso; rcases hc with hc | hc <;> omega
  | succ n =>
    refine ⟨⟨n, by omega, ?_, ?_, by omega, by omega⟩, by omega⟩
    · rw [← he]
      show _ = (if 0 < w ∨ s.length < 4 then hx n (w.fdiv 16) (Txt.item HEXS (w.fmod 16) ++ s) else s)
      rw [if_pos hc]; rfl
    · rw [fdiv16 h0]
      have : (16 : Int) ^ (n + 1) = 16 ^ n * 16 := Int.pow_succ ..
      omega
theorem hxOk_end {k w : Int} {s : Str} (h : HxOk k w s) (h1 : ¬ 0 < w) (h2 : ¬ s.length < 4) : s = hx 8 k Str.empty := by
  obtain ⟨n, _, he, _⟩ := h
  rw [← he, hx_stay n h1 h2]
theorem hx_inv {k w : Int} {s : Str} (h0 : 0 ≤ w) (hw : w ≤ 1114111) (h : HxOk k w s) (hc : 0 < w ∨ s.length < 4) (hl : 1 ≤ (Txt.item (Str.ofString "0123456789ABCDEF") (w.fmod 16)).length ∧ (Txt.item (Str.ofString "0123456789ABCDEF") (w.fmod 16)).length ≤ 1) :
    0 ≤ w.fdiv 16 ∧ w.fdiv 16 ≤ 1114111 ∧ (Txt.item (Str.ofString "0123456789ABCDEF") (w.fmod 16) ++ s).length ≤ 8 ∧ HxOk k (w.fdiv 16) (Txt.item (Str.ofString "0123456789ABCDEF") (w.fmod 16) ++ s) := by
  obtain ⟨a, b⟩ := hxOk_step h0 h hc (by omega)
  rw [fdiv16 h0] at *
  exact ⟨by omega, by omega, b, a⟩
theorem hx_less {w : Int} {s : Str} (h0 : 0 ≤ w) (hc : 0 < w ∨ s.length < 4) (hl : 1 ≤ (Txt.item (Str.ofString "0123456789ABCDEF") (w.fmod 16)).length ∧ (Txt.item (Str.ofString "0123456789ABCDEF") (w.fmod 16)).length ≤ 1) :
    (w.fdiv 16).toNat + (4 - (Txt.item (Str.ofString "0123456789ABCDEF") (w.fmod 16) ++ s).length) < w.toNat + (4 - s.length) := by
  rw [Str.length_append, fdiv16 h0]
  omega
set_option maxHeartbeats 8000000 in
theorem c_hex {w : World} {mean : ExcName → Option Value} {mg mb : Str → Option Value} (k : Int) (t u : Tok) (h0 : 0 ≤ k) (h1 : k ≤ 1114111) : Cl w mean mg mb 82 2 16 [.int k t, .int 4 u] (RetV fun t => .str (hx 8 k Str.empty) t) := by
  unfold Cl RetV
  k_with_none
  k_fill
  intro dp un gd cn cs a ccd cl outer A₀ base h₀ L m news s Q E B F X N T hk hd hu hret
  refine wpAny_call ?_
  k_dflt cell_enter
  (k_with "exec While BoolOp" => k_while (fun _ wo si => 0 ≤ wo ∧ wo ≤ 1114111 ∧ si.length ≤ 8 ∧ HxOk k wo si) (fun _ wo si => wo.toNat + (4 - si.length)) "worth" "signs")
  (k_with "exec While" => k_while (fun _ wo si => 0 ≤ wo ∧ wo ≤ 1114111 ∧ si.length ≤ 8 ∧ HxOk k wo si) (fun _ wo si => wo.toNat + (4 - si.length)) "worth" "signs")
  (k_with "state" => first | exact ⟨h0, h1, by decide, hxOk_start h1⟩ | exact hx_inv (by assumption) (by assumption) (by assumption) (by omega) (by assumption))
  (k_with "measure" => exact hx_less (by assumption) (by omega) (by assumption))
  k_steps
  all_goals (refine cb_retS (Q := Q) hret ?_ (by k_asm) (by k_asm); exact hxOk_end (by assumption) (by omega) (by omega))
end Mine
end
section
open PySem PySem.W PyProof.Rows
namespace Mine
set_option maxRecDepth 100000
def namedS (k : Int) : Str := (if k < 65536 then Str.ofString "uni" else Str.ofString "u") ++ hx 8 k Str.empty
set_option maxHeartbeats 8000000 in
theorem c_named {w : World} {mean : ExcName → Option Value} {mg mb : Str → Option Value} (k : Int) (t : Tok) (h0 : 0 ≤ k) (h1 : k ≤ 1114111) : Cl w mean mg mb 136 2 16 [.int k t] (RetV fun t => .str (namedS k) t) := by
  unfold Cl RetV
  k_with_none
  k_fill
  intro dp un gd cn cs a ccd cl outer A₀ base h₀ L m news s Q E B F X N T hk hd hu hret
  refine wpAny_call ?_
  k_dflt cell_enter
  (k_with "exec While BoolOp" => k_while (fun _ wo si => 0 ≤ wo ∧ wo ≤ 1114111 ∧ si.length ≤ 8 ∧ HxOk k wo si) (fun _ wo si => wo.toNat + (4 - si.length)) "rest" "hexes")
  (k_with "state" => first | exact ⟨h0, h1, by decide, hxOk_start h1⟩ | exact hx_inv (by assumption) (by assumption) (by assumption) (by omega) (by omega))
  (k_with "measure" => exact hx_less (by assumption) (by omega) (by omega))
  k_steps
  all_goals (have he := hxOk_end (by assumption) (by omega) (by omega))
  all_goals (refine cb_retS (Q := Q) hret ?_ (by k_asm) (by k_asm))
  all_goals (rw [he]; unfold namedS; first | rw [if_pos (by assumption)] | rw [if_neg (by assumption)])
end Mine
end
section
open PySem PySem.W PyProof.Rows
namespace Mine
/-! the words of a text that is put together of words by blanks -/
section
open Builtin Builtin.Str PySem.StrLaws
def wf (sp : Nat → Bool) : List Nat → List Nat → List (List Nat)
  | [], cur => if cur.isEmpty then [] else [cur]
  | c :: r, cur => if sp c then (if cur.isEmpty then wf sp r [] else cur :: wf sp r []) else wf sp r (cur ++ [c])
def cut (x : Str) (p : Nat × Nat) : List Nat := (x.cps.toList.drop p.1).take (p.2 - p.1)
theorem wf_run (x : Str) (limit : Nat) : ∀ (m cur : Nat) (words : Array (Nat × Nat)) (start : Option Nat), cur + m = x.length → words.size + m < limit → (∀ b, start = some b → b < cur) →
    ((swEnd x (forIn (List.range' cur m) ((none, words, start) : SwSt) (swBody x limit)).run).map (cut x)) =
      words.toList.map (cut x) ++ wf Unicode.isSpace (x.cps.toList.drop cur) (match start with | some b => cut x (b, cur) | none => [])
  | 0, cur, words, start, hc, hl, hs => by
    have hd : x.cps.toList.drop cur = [] := List.drop_eq_nil_of_le (by rw [Array.length_toList]; exact Nat.le_of_eq (show x.length = cur by omega))
    rw [hd]
    show (swEnd x (none, words, start)).map (cut x) = _
    cases start with
    | none => simp [swEnd, wf]
    | some b =>
      have hb := hs b rfl
      have e : x.length = cur := by omega
      have hne : (cut x (b, cur)).isEmpty = false := by
        have hlen : x.cps.toList.length = x.length := by simp [Str.length]
        rw [List.isEmpty_eq_false_iff_exists_mem]
        have : (cut x (b, cur)).length ≠ 0 := by
          simp only [cut, List.length_take, List.length_drop]; omega
        cases q : cut x (b, cur) with
        | nil => rw [q] at this; exact absurd rfl this
        | cons a r => exact ⟨a, by simp⟩
      simp [swEnd, wf, hne, e]
  | m + 1, cur, words, start, hc, hl, hs => by
    have hlen : x.cps.toList.length = x.length := by simp [Str.length]
    have hcl : cur < x.cps.toList.length := by omega
    have hd : x.cps.toList.drop cur = x.cps.toList[cur] :: x.cps.toList.drop (cur + 1) := List.drop_eq_getElem_cons hcl
    have hg : x.cps.getD cur 0 = x.cps.toList[cur] := by
      have : cur < x.cps.size := by simpa using hcl
      simp [Array.getD, this]
    rw [hd, List.range'_succ, List.forIn_cons]
    have hsz : ¬ ((words.size == limit) = true) := by rw [beq_iff_eq]; omega
    have ih := fun words start a b => wf_run x limit m (cur + 1) words start (by omega) a b
    unfold swBody
    simp only [hsz, hg]
    cases hsp : Unicode.isSpace x.cps.toList[cur] with
    | true =>
      cases start with
      | none =>
        have := ih words none (by omega) (fun b h => by cases h)
        simp only [wf, hsp]
        exact this
      | some b =>
        have hb := hs b rfl
        have := ih (words.push (b, cur)) none (by rw [Array.size_push]; omega) (fun b h => by cases h)
        have hne : (cut x (b, cur)).isEmpty = false := by
          have : (cut x (b, cur)).length ≠ 0 := by
            simp only [cut, List.length_take, List.length_drop]; omega
          cases q : cut x (b, cur) with
          | nil => rw [q] at this; exact absurd rfl this
          | cons a r => rfl
        simp only [wf, hsp, hne, if_true, Bool.false_eq_true, if_false]
        refine this.trans ?_
        simp
    | false =>
      have e1 : ∀ b, b ≤ cur → cut x (b, cur + 1) = cut x (b, cur) ++ [x.cps.toList[cur]] := fun b hb => by
        unfold cut
        show (x.cps.toList.drop b).take (cur + 1 - b) = (x.cps.toList.drop b).take (cur - b) ++ _
        have hs1 : cur + 1 - b = (cur - b) + 1 := by omega
        rw [hs1, List.take_add_one, List.getElem?_drop, show b + (cur - b) = cur from by omega, List.getElem?_eq_getElem hcl]
        rfl
      cases start with
      | none =>
        have := ih words (some cur) (by omega) (fun b h => by cases h; omega)
        simp only [wf, hsp]
        refine this.trans ?_
        dsimp only
        rw [e1 cur (Nat.le_refl _)]
        simp [cut]
      | some b =>
        have hb := hs b rfl
        have := ih words (some b) (by omega) (fun b' h => by cases h; omega)
        simp only [wf, hsp]
        refine this.trans ?_
        dsimp only
        rw [e1 b (by omega)]
        simp
theorem cut_sub (x : Str) (p : Nat × Nat) : strSub x p.1 p.2 = ⟨(cut x p).toArray⟩ := by
  obtain ⟨a, b⟩ := p
  unfold strSub cut
  congr 1
  apply Array.toList_inj.mp
  rw [Array.toList_extract]
theorem words_wf (x : Str) : Txt.words x = (wf Unicode.isSpace x.cps.toList []).map fun w => ⟨w.toArray⟩ := by
  have h := wf_run x (x.length + 1) x.length 0 #[] none (by omega) (by simp) (fun b h => by cases h)
  rw [← sw_eq] at h
  have e : (spaceWords x (x.length + 1)).map (fun p => strSub x p.1 p.2) = (wf Unicode.isSpace x.cps.toList []).map fun w => (⟨w.toArray⟩ : Str) := by
    have h' := congrArg (List.map fun w : List Nat => (⟨w.toArray⟩ : Str)) h
    simp only [List.map_map] at h'
    refine Eq.trans ?_ (h'.trans ?_)
    · exact List.map_congr_left fun p _ => cut_sub x p
    · simp
  unfold Txt.words
  split
  · rename_i hc
    have hc' := eq_of_beq hc
    rw [hc'] at e
    rw [← e]
    simp only [List.map_cons, List.map_nil]
    rw [cut_sub x (0, x.length)]
    congr 1
    obtain ⟨c⟩ := x
    simp only [cut, Str.length, List.drop_zero, Nat.sub_zero]
    rw [List.take_of_length_le (by simp)]
  · exact e
end
/-- words glued by blanks -/
def glue : List (List Nat) → List Nat
  | [] => []
  | [w] => w
  | w :: r => w ++ 32 :: glue r
def wordOk (w : List Nat) : Bool := !w.isEmpty && w.all fun c => decide (33 ≤ c) && decide (c ≤ 126)
theorem not_space {c : Nat} (h1 : 33 ≤ c) (h2 : c ≤ 126) : Unicode.isSpace c = false := by
  unfold Unicode.isSpace UnicodeData.space UnicodeData.space0
  simp only [Unicode.within]
  rw [if_neg (by omega), if_neg (by omega), if_pos (by omega)]
  simp only [Bool.or_false, decide_eq_false_iff_not, Bool.or_eq_false_iff]
  omega
theorem is_space : Unicode.isSpace 32 = true := by decide +kernel
theorem wf_word : ∀ (w cur r : List Nat), (w.all fun c => decide (33 ≤ c) && decide (c ≤ 126)) = true → wf Unicode.isSpace (w ++ r) cur = wf Unicode.isSpace r (cur ++ w)
  | [], cur, r, _ => by simp
  | c :: w, cur, r, h => by
    rw [List.all_cons, Bool.and_eq_true, Bool.and_eq_true, decide_eq_true_eq, decide_eq_true_eq] at h
    show wf Unicode.isSpace (c :: (w ++ r)) cur = _
    simp only [wf, not_space h.1.1 h.1.2]
    rw [if_neg (by decide), wf_word w (cur ++ [c]) r h.2]
    simp
theorem wf_glue : ∀ ws : List (List Nat), ws.all wordOk = true → wf Unicode.isSpace (glue ws) [] = ws
  | [], _ => rfl
  | [w], h => by
    rw [List.all_cons, Bool.and_eq_true, wordOk, Bool.and_eq_true] at h
    have := wf_word w [] [] h.1.2
    rw [List.append_nil, List.nil_append] at this
    show wf Unicode.isSpace w [] = [w]
    rw [this]
    have hne : w.isEmpty = false := by simpa using h.1.1
    simp [wf, hne]
  | w :: v :: r, h => by
    rw [List.all_cons, Bool.and_eq_true, wordOk, Bool.and_eq_true] at h
    have hne : w.isEmpty = false := by simpa using h.1.1
    show wf Unicode.isSpace (w ++ 32 :: glue (v :: r)) [] = _
    rw [wf_word w [] _ h.1.2]
    simp only [wf, is_space, List.nil_append, hne, if_true, Bool.false_eq_true, if_false]
    rw [wf_glue (v :: r) h.2]
def mkS (w : List Nat) : Str := ⟨w.toArray⟩
theorem words_glue {x : Str} (ws : List (List Nat)) (e : x.cps.toList = glue ws) (h : ws.all wordOk = true) : Txt.words x = ws.map mkS := by
  rw [words_wf, e, wf_glue ws h]
  rfl
end Mine
end
section
open PySem PySem.W PyProof.Rows
namespace Mine
set_option maxRecDepth 100000
theorem cps_of_chars {s : String} {cs : List Char} (e : s = String.ofList cs) : (Str.ofString s).cps.toList = cs.map Char.toNat := by
  rw [Str.ofString_eq_toList, e, String.toList_ofList]
theorem glue_len : ∀ ws : List (List Nat), (glue ws).length ≤ (ws.map fun w => w.length + 1).sum
  | [] => Nat.le_refl _
  | [w] => by simp [glue]
  | w :: v :: r => by
    have := glue_len (v :: r)
    show (w ++ 32 :: glue (v :: r)).length ≤ _
    simp only [List.length_append, List.length_cons, List.map_cons, List.sum_cons] at this ⊢
    omega
theorem size_of_glue {s : String} {ws : List (List Nat)} (e : (Str.ofString s).cps.toList = glue ws) (h : (ws.map fun w => w.length + 1).sum ≤ 1000) : (Str.ofString s).length + 2 ≤ sizeLine := by
  have h1 : (Str.ofString s).length = (Str.ofString s).cps.toList.length := by simp [Str.length]
  have h2 := glue_len ws
  rw [h1, e, sizeLine_eq]
  omega
def lowW : List (List Nat) := [[115, 112, 97, 99, 101], [101, 120, 99, 108, 97, 109], [113, 117, 111, 116, 101, 100, 98, 108], [110, 117, 109, 98, 101, 114, 115, 105, 103, 110], [100, 111, 108, 108, 97, 114], [112, 101, 114, 99, 101, 110, 116], [97, 109, 112, 101, 114, 115, 97, 110, 100], [113, 117, 111, 116, 101, 115, 105, 110, 103, 108, 101], [112, 97, 114, 101, 110, 108, 101, 102, 116], [112, 97, 114, 101, 110, 114, 105, 103, 104, 116], [97, 115, 116, 101, 114, 105, 115, 107], [112, 108, 117, 115], [99, 111, 109, 109, 97], [104, 121, 112, 104, 101, 110], [112, 101, 114, 105, 111, 100], [115, 108, 97, 115, 104], [122, 101, 114, 111], [111, 110, 101], [116, 119, 111], [116, 104, 114, 101, 101], [102, 111, 117, 114], [102, 105, 118, 101], [115, 105, 120], [115, 101, 118, 101, 110], [101, 105, 103, 104, 116], [110, 105, 110, 101], [99, 111, 108, 111, 110], [115, 101, 109, 105, 99, 111, 108, 111, 110], [108, 101, 115, 115], [101, 113, 117, 97, 108], [103, 114, 101, 97, 116, 101, 114], [113, 117, 101, 115, 116, 105, 111, 110], [97, 116]]
theorem low_cps : (Str.ofString "space exclam quotedbl numbersign dollar percent ampersand quotesingle parenleft parenright asterisk plus comma hyphen period slash zero one two three four five six seven eight nine colon semicolon less equal greater question at").cps.toList = glue lowW := (cps_of_chars (cs := ['s', 'p', 'a', 'c', 'e', ' ', 'e', 'x', 'c', 'l', 'a', 'm', ' ', 'q', 'u', 'o', 't', 'e', 'd', 'b', 'l', ' ', 'n', 'u', 'm', 'b', 'e', 'r', 's', 'i', 'g', 'n', ' ', 'd', 'o', 'l', 'l', 'a', 'r', ' ', 'p', 'e', 'r', 'c', 'e', 'n', 't', ' ', 'a', 'm', 'p', 'e', 'r', 's', 'a', 'n', 'd', ' ', 'q', 'u', 'o', 't', 'e', 's', 'i', 'n', 'g', 'l', 'e', ' ', 'p', 'a', 'r', 'e', 'n', 'l', 'e', 'f', 't', ' ', 'p', 'a', 'r', 'e', 'n', 'r', 'i', 'g', 'h', 't', ' ', 'a', 's', 't', 'e', 'r', 'i', 's', 'k', ' ', 'p', 'l', 'u', 's', ' ', 'c', 'o', 'm', 'm', 'a', ' ', 'h', 'y', 'p', 'h', 'e', 'n', ' ', 'p', 'e', 'r', 'i', 'o', 'd', ' ', 's', 'l', 'a', 's', 'h', ' ', 'z', 'e', 'r', 'o', ' ', 'o', 'n', 'e', ' ', 't', 'w', 'o', ' ', 't', 'h', 'r', 'e', 'e', ' ', 'f', 'o', 'u', 'r', ' ', 'f', 'i', 'v', 'e', ' ', 's', 'i', 'x', ' ', 's', 'e', 'v', 'e', 'n', ' ', 'e', 'i', 'g', 'h', 't', ' ', 'n', 'i', 'n', 'e', ' ', 'c', 'o', 'l', 'o', 'n', ' ', 's', 'e', 'm', 'i', 'c', 'o', 'l', 'o', 'n', ' ', 'l', 'e', 's', 's', ' ', 'e', 'q', 'u', 'a', 'l', ' ', 'g', 'r', 'e', 'a', 't', 'e', 'r', ' ', 'q', 'u', 'e', 's', 't', 'i', 'o', 'n', ' ', 'a', 't']) (by rfl)).trans (by rfl)
theorem low_ok : lowW.all wordOk = true := by decide +kernel
theorem low_words : Txt.words (Str.ofString "space exclam quotedbl numbersign dollar percent ampersand quotesingle parenleft parenright asterisk plus comma hyphen period slash zero one two three four five six seven eight nine colon semicolon less equal greater question at") = lowW.map mkS := words_glue lowW low_cps low_ok
theorem low_len : (lowW.map mkS).length = 33 := by decide +kernel
theorem low_size : (Str.ofString "space exclam quotedbl numbersign dollar percent ampersand quotesingle parenleft parenright asterisk plus comma hyphen period slash zero one two three four five six seven eight nine colon semicolon less equal greater question at").length + 2 ≤ sizeLine := size_of_glue low_cps (by decide +kernel)
def midW : List (List Nat) := [[98, 114, 97, 99, 107, 101, 116, 108, 101, 102, 116], [98, 97, 99, 107, 115, 108, 97, 115, 104], [98, 114, 97, 99, 107, 101, 116, 114, 105, 103, 104, 116], [97, 115, 99, 105, 105, 99, 105, 114, 99, 117, 109], [117, 110, 100, 101, 114, 115, 99, 111, 114, 101], [103, 114, 97, 118, 101]]
theorem mid_cps : (Str.ofString "bracketleft backslash bracketright asciicircum underscore grave").cps.toList = glue midW := (cps_of_chars (cs := ['b', 'r', 'a', 'c', 'k', 'e', 't', 'l', 'e', 'f', 't', ' ', 'b', 'a', 'c', 'k', 's', 'l', 'a', 's', 'h', ' ', 'b', 'r', 'a', 'c', 'k', 'e', 't', 'r', 'i', 'g', 'h', 't', ' ', 'a', 's', 'c', 'i', 'i', 'c', 'i', 'r', 'c', 'u', 'm', ' ', 'u', 'n', 'd', 'e', 'r', 's', 'c', 'o', 'r', 'e', ' ', 'g', 'r', 'a', 'v', 'e']) (by rfl)).trans (by rfl)
theorem mid_ok : midW.all wordOk = true := by decide +kernel
theorem mid_words : Txt.words (Str.ofString "bracketleft backslash bracketright asciicircum underscore grave") = midW.map mkS := words_glue midW mid_cps mid_ok
theorem mid_len : (midW.map mkS).length = 6 := by decide +kernel
theorem mid_size : (Str.ofString "bracketleft backslash bracketright asciicircum underscore grave").length + 2 ≤ sizeLine := size_of_glue mid_cps (by decide +kernel)
def higW : List (List Nat) := [[98, 114, 97, 99, 101, 108, 101, 102, 116], [98, 97, 114], [98, 114, 97, 99, 101, 114, 105, 103, 104, 116], [97, 115, 99, 105, 105, 116, 105, 108, 100, 101]]
theorem hig_cps : (Str.ofString "braceleft bar braceright asciitilde").cps.toList = glue higW := (cps_of_chars (cs := ['b', 'r', 'a', 'c', 'e', 'l', 'e', 'f', 't', ' ', 'b', 'a', 'r', ' ', 'b', 'r', 'a', 'c', 'e', 'r', 'i', 'g', 'h', 't', ' ', 'a', 's', 'c', 'i', 'i', 't', 'i', 'l', 'd', 'e']) (by rfl)).trans (by rfl)
theorem hig_ok : higW.all wordOk = true := by decide +kernel
theorem hig_words : Txt.words (Str.ofString "braceleft bar braceright asciitilde") = higW.map mkS := words_glue higW hig_cps hig_ok
theorem hig_len : (higW.map mkS).length = 4 := by decide +kernel
theorem hig_size : (Str.ofString "braceleft bar braceright asciitilde").length + 2 ≤ sizeLine := size_of_glue hig_cps (by decide +kernel)
def latW : List (List Nat) := [[101, 120, 99, 108, 97, 109, 100, 111, 119, 110], [99, 101, 110, 116], [115, 116, 101, 114, 108, 105, 110, 103], [99, 117, 114, 114, 101, 110, 99, 121], [121, 101, 110], [98, 114, 111, 107, 101, 110, 98, 97, 114], [115, 101, 99, 116, 105, 111, 110], [100, 105, 101, 114, 101, 115, 105, 115], [99, 111, 112, 121, 114, 105, 103, 104, 116], [111, 114, 100, 102, 101, 109, 105, 110, 105, 110, 101], [103, 117, 105, 108, 108, 101, 109, 111, 116, 108, 101, 102, 116], [108, 111, 103, 105, 99, 97, 108, 110, 111, 116], [104, 121, 112, 104, 101, 110], [114, 101, 103, 105, 115, 116, 101, 114, 101, 100], [109, 97, 99, 114, 111, 110], [100, 101, 103, 114, 101, 101], [112, 108, 117, 115, 109, 105, 110, 117, 115], [116, 119, 111, 115, 117, 112, 101, 114, 105, 111, 114], [116, 104, 114, 101, 101, 115, 117, 112, 101, 114, 105, 111, 114], [97, 99, 117, 116, 101], [109, 117], [112, 97, 114, 97, 103, 114, 97, 112, 104], [112, 101, 114, 105, 111, 100, 99, 101, 110, 116, 101, 114, 101, 100], [99, 101, 100, 105, 108, 108, 97], [111, 110, 101, 115, 117, 112, 101, 114, 105, 111, 114], [111, 114, 100, 109, 97, 115, 99, 117, 108, 105, 110, 101], [103, 117, 105, 108, 108, 101, 109, 111, 116, 114, 105, 103, 104, 116], [111, 110, 101, 113, 117, 97, 114, 116, 101, 114], [111, 110, 101, 104, 97, 108, 102], [116, 104, 114, 101, 101, 113, 117, 97, 114, 116, 101, 114, 115], [113, 117, 101, 115, 116, 105, 111, 110, 100, 111, 119, 110], [65, 103, 114, 97, 118, 101], [65, 97, 99, 117, 116, 101], [65, 99, 105, 114, 99, 117, 109, 102, 108, 101, 120], [65, 116, 105, 108, 100, 101], [65, 100, 105, 101, 114, 101, 115, 105, 115], [65, 114, 105, 110, 103], [65, 69], [67, 99, 101, 100, 105, 108, 108, 97], [69, 103, 114, 97, 118, 101], [69, 97, 99, 117, 116, 101], [69, 99, 105, 114, 99, 117, 109, 102, 108, 101, 120], [69, 100, 105, 101, 114, 101, 115, 105, 115], [73, 103, 114, 97, 118, 101], [73, 97, 99, 117, 116, 101], [73, 99, 105, 114, 99, 117, 109, 102, 108, 101, 120], [73, 100, 105, 101, 114, 101, 115, 105, 115], [69, 116, 104], [78, 116, 105, 108, 100, 101], [79, 103, 114, 97, 118, 101], [79, 97, 99, 117, 116, 101], [79, 99, 105, 114, 99, 117, 109, 102, 108, 101, 120], [79, 116, 105, 108, 100, 101], [79, 100, 105, 101, 114, 101, 115, 105, 115], [109, 117, 108, 116, 105, 112, 108, 121], [79, 115, 108, 97, 115, 104], [85, 103, 114, 97, 118, 101], [85, 97, 99, 117, 116, 101], [85, 99, 105, 114, 99, 117, 109, 102, 108, 101, 120], [85, 100, 105, 101, 114, 101, 115, 105, 115], [89, 97, 99, 117, 116, 101], [84, 104, 111, 114, 110], [103, 101, 114, 109, 97, 110, 100, 98, 108, 115]]
theorem lat_cps : (Str.ofString "exclamdown cent sterling currency yen brokenbar section dieresis copyright ordfeminine guillemotleft logicalnot hyphen registered macron degree plusminus twosuperior threesuperior acute mu paragraph periodcentered cedilla onesuperior ordmasculine guillemotright onequarter onehalf threequarters questiondown Agrave Aacute Acircumflex Atilde Adieresis Aring AE Ccedilla Egrave Eacute Ecircumflex Edieresis Igrave Iacute Icircumflex Idieresis Eth Ntilde Ograve Oacute Ocircumflex Otilde Odieresis multiply Oslash Ugrave Uacute Ucircumflex Udieresis Yacute Thorn germandbls").cps.toList = glue latW := (cps_of_chars (cs := ['e', 'x', 'c', 'l', 'a', 'm', 'd', 'o', 'w', 'n', ' ', 'c', 'e', 'n', 't', ' ', 's', 't', 'e', 'r', 'l', 'i', 'n', 'g', ' ', 'c', 'u', 'r', 'r', 'e', 'n', 'c', 'y', ' ', 'y', 'e', 'n', ' ', 'b', 'r', 'o', 'k', 'e', 'n', 'b', 'a', 'r', ' ', 's', 'e', 'c', 't', 'i', 'o', 'n', ' ', 'd', 'i', 'e', 'r', 'e', 's', 'i', 's', ' ', 'c', 'o', 'p', 'y', 'r', 'i', 'g', 'h', 't', ' ', 'o', 'r', 'd', 'f', 'e', 'm', 'i', 'n', 'i', 'n', 'e', ' ', 'g', 'u', 'i', 'l', 'l', 'e', 'm', 'o', 't', 'l', 'e', 'f', 't', ' ', 'l', 'o', 'g', 'i', 'c', 'a', 'l', 'n', 'o', 't', ' ', 'h', 'y', 'p', 'h', 'e', 'n', ' ', 'r', 'e', 'g', 'i', 's', 't', 'e', 'r', 'e', 'd', ' ', 'm', 'a', 'c', 'r', 'o', 'n', ' ', 'd', 'e', 'g', 'r', 'e', 'e', ' ', 'p', 'l', 'u', 's', 'm', 'i', 'n', 'u', 's', ' ', 't', 'w', 'o', 's', 'u', 'p', 'e', 'r', 'i', 'o', 'r', ' ', 't', 'h', 'r', 'e', 'e', 's', 'u', 'p', 'e', 'r', 'i', 'o', 'r', ' ', 'a', 'c', 'u', 't', 'e', ' ', 'm', 'u', ' ', 'p', 'a', 'r', 'a', 'g', 'r', 'a', 'p', 'h', ' ', 'p', 'e', 'r', 'i', 'o', 'd', 'c', 'e', 'n', 't', 'e', 'r', 'e', 'd', ' ', 'c', 'e', 'd', 'i', 'l', 'l', 'a', ' ', 'o', 'n', 'e', 's', 'u', 'p', 'e', 'r', 'i', 'o', 'r', ' ', 'o', 'r', 'd', 'm', 'a', 's', 'c', 'u', 'l', 'i', 'n', 'e', ' ', 'g', 'u', 'i', 'l', 'l', 'e', 'm', 'o', 't', 'r', 'i', 'g', 'h', 't', ' ', 'o', 'n', 'e', 'q', 'u', 'a', 'r', 't', 'e', 'r', ' ', 'o', 'n', 'e', 'h', 'a', 'l', 'f', ' ', 't', 'h', 'r', 'e', 'e', 'q', 'u', 'a', 'r', 't', 'e', 'r', 's', ' ', 'q', 'u', 'e', 's', 't', 'i', 'o', 'n', 'd', 'o', 'w', 'n', ' ', 'A', 'g', 'r', 'a', 'v', 'e', ' ', 'A', 'a', 'c', 'u', 't', 'e', ' ', 'A', 'c', 'i', 'r', 'c', 'u', 'm', 'f', 'l', 'e', 'x', ' ', 'A', 't', 'i', 'l', 'd', 'e', ' ', 'A', 'd', 'i', 'e', 'r', 'e', 's', 'i', 's', ' ', 'A', 'r', 'i', 'n', 'g', ' ', 'A', 'E', ' ', 'C', 'c', 'e', 'd', 'i', 'l', 'l', 'a', ' ', 'E', 'g', 'r', 'a', 'v', 'e', ' ', 'E', 'a', 'c', 'u', 't', 'e', ' ', 'E', 'c', 'i', 'r', 'c', 'u', 'm', 'f', 'l', 'e', 'x', ' ', 'E', 'd', 'i', 'e', 'r', 'e', 's', 'i', 's', ' ', 'I', 'g', 'r', 'a', 'v', 'e', ' ', 'I', 'a', 'c', 'u', 't', 'e', ' ', 'I', 'c', 'i', 'r', 'c', 'u', 'm', 'f', 'l', 'e', 'x', ' ', 'I', 'd', 'i', 'e', 'r', 'e', 's', 'i', 's', ' ', 'E', 't', 'h', ' ', 'N', 't', 'i', 'l', 'd', 'e', ' ', 'O', 'g', 'r', 'a', 'v', 'e', ' ', 'O', 'a', 'c', 'u', 't', 'e', ' ', 'O', 'c', 'i', 'r', 'c', 'u', 'm', 'f', 'l', 'e', 'x', ' ', 'O', 't', 'i', 'l', 'd', 'e', ' ', 'O', 'd', 'i', 'e', 'r', 'e', 's', 'i', 's', ' ', 'm', 'u', 'l', 't', 'i', 'p', 'l', 'y', ' ', 'O', 's', 'l', 'a', 's', 'h', ' ', 'U', 'g', 'r', 'a', 'v', 'e', ' ', 'U', 'a', 'c', 'u', 't', 'e', ' ', 'U', 'c', 'i', 'r', 'c', 'u', 'm', 'f', 'l', 'e', 'x', ' ', 'U', 'd', 'i', 'e', 'r', 'e', 's', 'i', 's', ' ', 'Y', 'a', 'c', 'u', 't', 'e', ' ', 'T', 'h', 'o', 'r', 'n', ' ', 'g', 'e', 'r', 'm', 'a', 'n', 'd', 'b', 'l', 's']) (by rfl)).trans (by rfl)
theorem lat_ok : latW.all wordOk = true := by decide +kernel
theorem lat_words : Txt.words (Str.ofString "exclamdown cent sterling currency yen brokenbar section dieresis copyright ordfeminine guillemotleft logicalnot hyphen registered macron degree plusminus twosuperior threesuperior acute mu paragraph periodcentered cedilla onesuperior ordmasculine guillemotright onequarter onehalf threequarters questiondown Agrave Aacute Acircumflex Atilde Adieresis Aring AE Ccedilla Egrave Eacute Ecircumflex Edieresis Igrave Iacute Icircumflex Idieresis Eth Ntilde Ograve Oacute Ocircumflex Otilde Odieresis multiply Oslash Ugrave Uacute Ucircumflex Udieresis Yacute Thorn germandbls") = latW.map mkS := words_glue latW lat_cps lat_ok
theorem lat_len : (latW.map mkS).length = 63 := by decide +kernel
theorem lat_size : (Str.ofString "exclamdown cent sterling currency yen brokenbar section dieresis copyright ordfeminine guillemotleft logicalnot hyphen registered macron degree plusminus twosuperior threesuperior acute mu paragraph periodcentered cedilla onesuperior ordmasculine guillemotright onequarter onehalf threequarters questiondown Agrave Aacute Acircumflex Atilde Adieresis Aring AE Ccedilla Egrave Eacute Ecircumflex Edieresis Igrave Iacute Icircumflex Idieresis Eth Ntilde Ograve Oacute Ocircumflex Otilde Odieresis multiply Oslash Ugrave Uacute Ucircumflex Udieresis Yacute Thorn germandbls").length + 2 ≤ sizeLine := size_of_glue lat_cps (by decide +kernel)
end Mine
end
section
open PySem PySem.W PyProof.Rows
namespace Mine
set_option maxRecDepth 100000
def latS : List Str := latW.map mkS
def sliS : List Str := (latS.drop 31).take 31
def lasW : List (List Nat) := [[97, 103, 114, 97, 118, 101], [97, 97, 99, 117, 116, 101], [97, 99, 105, 114, 99, 117, 109, 102, 108, 101, 120], [97, 116, 105, 108, 100, 101], [97, 100, 105, 101, 114, 101, 115, 105, 115], [97, 114, 105, 110, 103], [97, 101], [99, 99, 101, 100, 105, 108, 108, 97], [101, 103, 114, 97, 118, 101], [101, 97, 99, 117, 116, 101], [101, 99, 105, 114, 99, 117, 109, 102, 108, 101, 120], [101, 100, 105, 101, 114, 101, 115, 105, 115], [105, 103, 114, 97, 118, 101], [105, 97, 99, 117, 116, 101], [105, 99, 105, 114, 99, 117, 109, 102, 108, 101, 120], [105, 100, 105, 101, 114, 101, 115, 105, 115], [101, 116, 104], [110, 116, 105, 108, 100, 101], [111, 103, 114, 97, 118, 101], [111, 97, 99, 117, 116, 101], [111, 99, 105, 114, 99, 117, 109, 102, 108, 101, 120], [111, 116, 105, 108, 100, 101], [111, 100, 105, 101, 114, 101, 115, 105, 115], [109, 117, 108, 116, 105, 112, 108, 121], [111, 115, 108, 97, 115, 104], [117, 103, 114, 97, 118, 101], [117, 97, 99, 117, 116, 101], [117, 99, 105, 114, 99, 117, 109, 102, 108, 101, 120], [117, 100, 105, 101, 114, 101, 115, 105, 115], [121, 97, 99, 117, 116, 101], [116, 104, 111, 114, 110]]
def lnW : List (List Nat) := [[101, 120, 99, 108, 97, 109, 100, 111, 119, 110], [99, 101, 110, 116], [115, 116, 101, 114, 108, 105, 110, 103], [99, 117, 114, 114, 101, 110, 99, 121], [121, 101, 110], [98, 114, 111, 107, 101, 110, 98, 97, 114], [115, 101, 99, 116, 105, 111, 110], [100, 105, 101, 114, 101, 115, 105, 115], [99, 111, 112, 121, 114, 105, 103, 104, 116], [111, 114, 100, 102, 101, 109, 105, 110, 105, 110, 101], [103, 117, 105, 108, 108, 101, 109, 111, 116, 108, 101, 102, 116], [108, 111, 103, 105, 99, 97, 108, 110, 111, 116], [104, 121, 112, 104, 101, 110], [114, 101, 103, 105, 115, 116, 101, 114, 101, 100], [109, 97, 99, 114, 111, 110], [100, 101, 103, 114, 101, 101], [112, 108, 117, 115, 109, 105, 110, 117, 115], [116, 119, 111, 115, 117, 112, 101, 114, 105, 111, 114], [116, 104, 114, 101, 101, 115, 117, 112, 101, 114, 105, 111, 114], [97, 99, 117, 116, 101], [109, 117], [112, 97, 114, 97, 103, 114, 97, 112, 104], [112, 101, 114, 105, 111, 100, 99, 101, 110, 116, 101, 114, 101, 100], [99, 101, 100, 105, 108, 108, 97], [111, 110, 101, 115, 117, 112, 101, 114, 105, 111, 114], [111, 114, 100, 109, 97, 115, 99, 117, 108, 105, 110, 101], [103, 117, 105, 108, 108, 101, 109, 111, 116, 114, 105, 103, 104, 116], [111, 110, 101, 113, 117, 97, 114, 116, 101, 114], [111, 110, 101, 104, 97, 108, 102], [116, 104, 114, 101, 101, 113, 117, 97, 114, 116, 101, 114, 115], [113, 117, 101, 115, 116, 105, 111, 110, 100, 111, 119, 110], [65, 103, 114, 97, 118, 101], [65, 97, 99, 117, 116, 101], [65, 99, 105, 114, 99, 117, 109, 102, 108, 101, 120], [65, 116, 105, 108, 100, 101], [65, 100, 105, 101, 114, 101, 115, 105, 115], [65, 114, 105, 110, 103], [65, 69], [67, 99, 101, 100, 105, 108, 108, 97], [69, 103, 114, 97, 118, 101], [69, 97, 99, 117, 116, 101], [69, 99, 105, 114, 99, 117, 109, 102, 108, 101, 120], [69, 100, 105, 101, 114, 101, 115, 105, 115], [73, 103, 114, 97, 118, 101], [73, 97, 99, 117, 116, 101], [73, 99, 105, 114, 99, 117, 109, 102, 108, 101, 120], [73, 100, 105, 101, 114, 101, 115, 105, 115], [69, 116, 104], [78, 116, 105, 108, 100, 101], [79, 103, 114, 97, 118, 101], [79, 97, 99, 117, 116, 101], [79, 99, 105, 114, 99, 117, 109, 102, 108, 101, 120], [79, 116, 105, 108, 100, 101], [79, 100, 105, 101, 114, 101, 115, 105, 115], [109, 117, 108, 116, 105, 112, 108, 121], [79, 115, 108, 97, 115, 104], [85, 103, 114, 97, 118, 101], [85, 97, 99, 117, 116, 101], [85, 99, 105, 114, 99, 117, 109, 102, 108, 101, 120], [85, 100, 105, 101, 114, 101, 115, 105, 115], [89, 97, 99, 117, 116, 101], [84, 104, 111, 114, 110], [103, 101, 114, 109, 97, 110, 100, 98, 108, 115], [97, 103, 114, 97, 118, 101], [97, 97, 99, 117, 116, 101], [97, 99, 105, 114, 99, 117, 109, 102, 108, 101, 120], [97, 116, 105, 108, 100, 101], [97, 100, 105, 101, 114, 101, 115, 105, 115], [97, 114, 105, 110, 103], [97, 101], [99, 99, 101, 100, 105, 108, 108, 97], [101, 103, 114, 97, 118, 101], [101, 97, 99, 117, 116, 101], [101, 99, 105, 114, 99, 117, 109, 102, 108, 101, 120], [101, 100, 105, 101, 114, 101, 115, 105, 115], [105, 103, 114, 97, 118, 101], [105, 97, 99, 117, 116, 101], [105, 99, 105, 114, 99, 117, 109, 102, 108, 101, 120], [105, 100, 105, 101, 114, 101, 115, 105, 115], [101, 116, 104], [110, 116, 105, 108, 100, 101], [111, 103, 114, 97, 118, 101], [111, 97, 99, 117, 116, 101], [111, 99, 105, 114, 99, 117, 109, 102, 108, 101, 120], [111, 116, 105, 108, 100, 101], [111, 100, 105, 101, 114, 101, 115, 105, 115], [100, 105, 118, 105, 100, 101], [111, 115, 108, 97, 115, 104], [117, 103, 114, 97, 118, 101], [117, 97, 99, 117, 116, 101], [117, 99, 105, 114, 99, 117, 109, 102, 108, 101, 120], [117, 100, 105, 101, 114, 101, 115, 105, 115], [121, 97, 99, 117, 116, 101], [116, 104, 111, 114, 110], [121, 100, 105, 101, 114, 101, 115, 105, 115]]
def lasS : List Str := lasW.map mkS
theorem latS_len : latS.length = 63 := by decide +kernel
theorem sliS_len : sliS.length = 31 := by decide +kernel
theorem lasS_len : lasS.length = 31 := by decide +kernel
theorem lat_low : ∀ w ∈ latW, ∀ c ∈ w, c < 128 := by decide +kernel
theorem lat_short : ∀ w ∈ latW, w.length ≤ 100 := by decide +kernel
theorem lower_mk {w : List Nat} (h : ∀ c ∈ w, c < 128) : Txt.lower (mkS w) = mkS (w.map lo1) := by
  rw [lower_ascii (by simpa [mkS] using h)]
  simp [mkS]
theorem sli_eq : sliS = ((latW.drop 31).take 31).map mkS := by
  unfold sliS latS
  rw [List.map_take, List.map_drop]
theorem sli_mem {x : Str} (h : x ∈ sliS) : ∃ w ∈ latW, x = mkS w := by
  rw [sli_eq] at h
  obtain ⟨w, hw, rfl⟩ := List.mem_map.mp h
  exact ⟨w, List.mem_of_mem_drop (List.mem_of_mem_take hw), rfl⟩
theorem sli_short {x : Str} (h : x ∈ sliS) : x.length ≤ 100 := by
  obtain ⟨w, hw, rfl⟩ := sli_mem h
  have := lat_short w hw
  simpa [mkS, Str.length] using this
theorem las_lit : ((latW.drop 31).take 31).map (fun w => w.map lo1) = lasW := by decide +kernel
theorem las_eq : sliS.map Txt.lower = lasS := by
  have : sliS.map Txt.lower = (((latW.drop 31).take 31).map (fun w => w.map lo1)).map mkS := by
    rw [sli_eq, List.map_map, List.map_map]
    refine List.map_congr_left fun w hw => ?_
    exact lower_mk (lat_low w (List.mem_of_mem_drop (List.mem_of_mem_take hw)))
  rw [this, las_lit]
  rfl
def lnL : List Str := latS ++ lasS.set 23 (Str.ofString "divide") ++ [Str.ofString "ydieresis"]
theorem ofS {s : String} {cs : List Char} (e : s = String.ofList cs) : Str.ofString s = mkS (cs.map Char.toNat) := by
  rw [Str.ofString_eq_toList, e, String.toList_ofList]; rfl
theorem divide_eq : Str.ofString "divide" = mkS [100, 105, 118, 105, 100, 101] := ofS (cs := ['d', 'i', 'v', 'i', 'd', 'e']) rfl
theorem ydier_eq : Str.ofString "ydieresis" = mkS [121, 100, 105, 101, 114, 101, 115, 105, 115] := ofS (cs := ['y', 'd', 'i', 'e', 'r', 'e', 's', 'i', 's']) rfl
theorem lnL_eq : lnL = lnW.map mkS := by
  unfold lnL latS lasS
  rw [divide_eq, ydier_eq]
  rfl
end Mine
end
section
open PySem PySem.W PyProof.Rows
namespace Mine
set_option maxRecDepth 100000
def othT : List (Str × Int × Nat) := [(Str.ofString "Euro", 8364, 264), (Str.ofString "quotesinglbase", 8218, 267), (Str.ofString "florin", 402, 270), (Str.ofString "quotedblbase", 8222, 273), (Str.ofString "ellipsis", 8230, 276), (Str.ofString "dagger", 8224, 279), (Str.ofString "daggerdbl", 8225, 282), (Str.ofString "circumflex", 710, 285), (Str.ofString "perthousand", 8240, 288), (Str.ofString "Scaron", 352, 291), (Str.ofString "guilsinglleft", 8249, 294), (Str.ofString "OE", 338, 297), (Str.ofString "Zcaron", 381, 300), (Str.ofString "quoteleft", 8216, 303), (Str.ofString "quoteright", 8217, 306), (Str.ofString "quotedblleft", 8220, 309), (Str.ofString "quotedblright", 8221, 312), (Str.ofString "bullet", 8226, 315), (Str.ofString "endash", 8211, 318), (Str.ofString "emdash", 8212, 321), (Str.ofString "tilde", 732, 324), (Str.ofString "trademark", 8482, 327), (Str.ofString "scaron", 353, 330), (Str.ofString "guilsinglright", 8250, 333), (Str.ofString "oe", 339, 336), (Str.ofString "zcaron", 382, 339), (Str.ofString "Ydieresis", 376, 342), (Str.ofString "fraction", 8260, 345), (Str.ofString "fi", 64257, 348), (Str.ofString "fl", 64258, 351), (Str.ofString "breve", 728, 354), (Str.ofString "dotaccent", 729, 357), (Str.ofString "ring", 730, 360), (Str.ofString "hungarumlaut", 733, 363), (Str.ofString "ogonek", 731, 366), (Str.ofString "caron", 711, 368), (Str.ofString "Lslash", 321, 370), (Str.ofString "lslash", 322, 372), (Str.ofString "dotlessi", 305, 374)]
def othW : List (List Nat × Int) := [([69, 117, 114, 111], 8364), ([113, 117, 111, 116, 101, 115, 105, 110, 103, 108, 98, 97, 115, 101], 8218), ([102, 108, 111, 114, 105, 110], 402), ([113, 117, 111, 116, 101, 100, 98, 108, 98, 97, 115, 101], 8222), ([101, 108, 108, 105, 112, 115, 105, 115], 8230), ([100, 97, 103, 103, 101, 114], 8224), ([100, 97, 103, 103, 101, 114, 100, 98, 108], 8225), ([99, 105, 114, 99, 117, 109, 102, 108, 101, 120], 710), ([112, 101, 114, 116, 104, 111, 117, 115, 97, 110, 100], 8240), ([83, 99, 97, 114, 111, 110], 352), ([103, 117, 105, 108, 115, 105, 110, 103, 108, 108, 101, 102, 116], 8249), ([79, 69], 338), ([90, 99, 97, 114, 111, 110], 381), ([113, 117, 111, 116, 101, 108, 101, 102, 116], 8216), ([113, 117, 111, 116, 101, 114, 105, 103, 104, 116], 8217), ([113, 117, 111, 116, 101, 100, 98, 108, 108, 101, 102, 116], 8220), ([113, 117, 111, 116, 101, 100, 98, 108, 114, 105, 103, 104, 116], 8221), ([98, 117, 108, 108, 101, 116], 8226), ([101, 110, 100, 97, 115, 104], 8211), ([101, 109, 100, 97, 115, 104], 8212), ([116, 105, 108, 100, 101], 732), ([116, 114, 97, 100, 101, 109, 97, 114, 107], 8482), ([115, 99, 97, 114, 111, 110], 353), ([103, 117, 105, 108, 115, 105, 110, 103, 108, 114, 105, 103, 104, 116], 8250), ([111, 101], 339), ([122, 99, 97, 114, 111, 110], 382), ([89, 100, 105, 101, 114, 101, 115, 105, 115], 376), ([102, 114, 97, 99, 116, 105, 111, 110], 8260), ([102, 105], 64257), ([102, 108], 64258), ([98, 114, 101, 118, 101], 728), ([100, 111, 116, 97, 99, 99, 101, 110, 116], 729), ([114, 105, 110, 103], 730), ([104, 117, 110, 103, 97, 114, 117, 109, 108, 97, 117, 116], 733), ([111, 103, 111, 110, 101, 107], 731), ([99, 97, 114, 111, 110], 711), ([76, 115, 108, 97, 115, 104], 321), ([108, 115, 108, 97, 115, 104], 322), ([100, 111, 116, 108, 101, 115, 115, 105], 305)]
def othL : List (Str × Int) := othT.map fun p => (p.1, p.2.1)
theorem othL_eq : othL = othW.map fun p => (mkS p.1, p.2) := by rfl
def othK : List (Str × Value) := othT.map fun p => (p.1, .int p.2.1 (p.2.2 + 1))
def othE (P : Params) : List DictEntry := othT.map fun p => ⟨PyData.keyHash P p.1, .str p.1 p.2.2, .int p.2.1 (p.2.2 + 1)⟩
theorem oth_at (P : Params) : List.lookup 62 (Mine.hd.heap_39 P) = some ⟨.type "dict", none, .dict (othE P).toArray 39, #[]⟩ := by with_unfolding_all rfl
theorem oth_nodup : (othK.map (·.1)).Nodup := by
  have e : othK.map (·.1) = (othW.map (·.1)).map mkS := by rfl
  rw [e]
  exact List.Pairwise.map mkS (fun a b h q => h (by simpa [mkS] using q)) (by decide +kernel : (othW.map (·.1)).Nodup)
theorem oth_pairs (prog : Program) (w : World) : ∀ l : List (Str × Int × Nat), Pairs (strKind prog w) (l.map fun p => (⟨PyData.keyHash w.params p.1, .str p.1 p.2.2, .int p.2.1 (p.2.2 + 1)⟩ : DictEntry)) (l.map fun p => (p.1, Value.int p.2.1 (p.2.2 + 1)))
  | [] => .nil
  | p :: r => .cons (strKind_is prog w p.1 p.2.2) rfl (oth_pairs prog w r)
theorem oth_dict {prog : Program} {w : World} {h : Heap} (X : (Mine.hd.heap_39 w.params).In h) : h.DictAt (strKind prog w) 62 othK 39 := by
  refine ⟨_, _, X _ _ (oth_at w.params), ⟨rfl, rfl, rfl⟩, rfl, ?_, oth_pairs prog w othT, oth_nodup⟩
  intro e he
  obtain ⟨p, _, rfl⟩ := List.mem_map.mp (show e ∈ othE w.params from by simpa using he)
  exact ⟨p.1, strKind_is prog w _ _, rfl⟩
/-- what the dict holds at a name -/
def oth (x : Str) : Option Int := (othL.find? fun p => p.1 = x).map (·.2)
theorem oth_value (x : Str) : (oth x = none ∧ valueAt othK x = none) ∨ ∃ v t, oth x = some v ∧ valueAt othK x = some (.int v t) := by
  unfold oth valueAt othL othK
  generalize othT = l
  induction l with
  | nil => exact .inl ⟨rfl, rfl⟩
  | cons p r ih =>
    simp only [List.map_cons, List.find?_cons]
    by_cases h : p.1 = x
    · simp only [h, decide_true]
      exact .inr ⟨p.2.1, p.2.2 + 1, rfl, rfl⟩
    · simp only [h, decide_false]
      exact ih
end Mine
end
section
open PySem PySem.W PyProof.Rows
namespace Mine
set_option maxRecDepth 100000
def chrS (k : Int) : Str := ⟨#[k.toNat]⟩
def capL : List Str := (rangeKs 65 26).map chrS
def smaL : List Str := (rangeKs 97 26).map chrS
def anL : List Str := lowW.map mkS ++ capL ++ midW.map mkS ++ smaL ++ higW.map mkS
theorem capL_len : capL.length = 26 := by decide +kernel
theorem smaL_len : smaL.length = 26 := by decide +kernel
section
variable {prog : Program} {w : World} {A : Around} {E : Value → Shared → Prop} {s : Shared} {h₀ : Heap} {L : Addr} {m : Str → Option Value} {news : List (Addr × Obj)} {S : List (Addr × Obj) → Prop} {Fin : List Value → List (Addr × Obj) → Prop} {env : Env} {elt : Expr} {x : Str} {scope : Scope} {cl : List (Str × Addr)}
theorem add_strs {l b : Addr} {vs ws : List Value} {n₁ n₂ : Nat} {xs ys : List Str} {Q : Value → Shared → Prop} (F : Fr h₀ L s.heap m) (N : News h₀ L s.heap news)
    (hl : (l, listOf vs.toArray n₁) ∈ news) (hb : (b, listOf ws.toArray n₂) ∈ news) (hx : StrsAre vs xs) (hy : StrsAre ws ys) (hz : xs.length + ys.length ≤ 1000)
    (h : ∀ D zs h', StrsAre zs (xs ++ ys) → Fr h₀ L h' m → News h₀ L h' ((D, listOf zs.toArray 0) :: news) → (∀ p ∈ news, p.1 < D) → Q (.ref D) { s with heap := h' }) :
    wpAny (model prog w) A (binaryOp .Add (.ref l) (.ref b)) Q E s :=
  add_lists F N (PySem.IsL.isList (n := n₁) (N _ hl).1) (PySem.IsL.isList (n := n₂) (N _ hb).1) (fun h' F' N' => h _ _ h' (StrsAre.append' hx hy) F' N' fun p hp => Heap.lt_size (N p hp).1)
    (by rw [hx.length, hy.length, sizeLine_eq]; omega)
theorem kct_rangeS {a : Int} (n : Nat) (g : Int → Str)
    (turn : ∀ k t I oI C oC D m₂ ys h tk (E' : Value → Shared → Prop), a ≤ k → k < a + (n : Int) → LCg.NsObj oC m₂ → m₂ x = some (.int k t) → Fr h₀ L h m → News h₀ L h ((I, oI) :: (C, oC) :: (D, LCg.lst ys) :: news) → LCg.Off3 I C D news → ((@Ne Nat I C) ∧ (@Ne Nat I D) ∧ (@Ne Nat C D)) → KPfMark →
      wpAny (model prog w) A (eval elt (compEnvC scope cl C env)) (LCg.CompEnd h₀ L m { s with heap := h, toks := tk } I oI C oC D (LCg.lst ys) S (fun y news' => KCtEl news (g k) y news')) E' { s with heap := h, toks := tk })
    {ks : List Str} (hks : (rangeKs a n).map g = ks) (fin : KPfDone (∀ ys, StrsAre ys ks → Fin ys news)) : LCg.CompRest prog w A h₀ L m env elt x scope cl s S (fun i v => ∃ t, v = .int (a + (i : Int)) t) Fin n 0 [] news :=
  kct_range g turn (fun ys hc _ => fin ys (hks ▸ CarriedAll.strsOf hc))
end
section
local macro_rules | `(tactic| walk_at "CompSrc") => `(tactic| (k_here; k_dflt (refine LCg.CompSrc.range (n := 26) (by rfl) (by k_asm) (by k_asm) (by assumption) (by decide) (by rfl) (by exact Nat.le_of_ble_eq_true rfl) ?_; intro g'; (refine' kct_rangeS 26 chrS (fun k' t' I' oI' C' oC' D' m' ys' h' tk' E' hlo' hhi' hC' hx' F' N' off' ne' => ?_) (by first | exact (rfl : _ = capL) | exact (rfl : _ = smaL)) ?_); (all_goals (try ((show KPfMark → _); intro hMark'))); kcf_last)))
local macro_rules | `(tactic| walk_at "CompEnd") => `(tactic| (refine LCg.CompEnd.intro (by assumption) (by assumption) _ (fun p hp => hp) (by assumption) True.intro ?_; exact ⟨rfl, _, rfl⟩))
local macro_rules | `(tactic| walk_at "call builtin:str.split") => `(tactic| (k_here; (with_reducible show wpAny _ _ (call (Value.builtin "str.split") _) _ _ _); (refine KSpl.split0 (by k_asm) (by k_asm) ?_ (by first | exact low_size | exact mid_size | exact hig_size)); (intro D' l' h' k' e' a' F' N' l1); (rw [e'] at a'); (first | rw [low_words] at a' | rw [mid_words] at a' | rw [hig_words] at a'); (try clear e'); (try k_lt l1); (try k_sweep)))
local macro_rules | `(tactic| walk_at "binaryOp Add ref ref") => `(tactic| (k_here; (with_reducible show wpAny _ _ (binaryOp _ (Value.ref _) (Value.ref _)) _ _ _); k_dflt (refine' add_strs ?F ?N ?a ?b ?x ?y ?z ?_; (case F => k_asm); (case N => k_asm); (case a => k_mem); (case b => k_mem); (case x => assumption); (case y => assumption); (case z => (simp only [List.length_append, low_len, mid_len, hig_len, capL_len, smaL_len]; omega))); intro D' zs' h' a' F' N' l1; (try k_lt l1); (try k_sweep)))
set_option maxHeartbeats 8000000 in
theorem c_ascii {w : World} {mean : ExcName → Option Value} {mg mb : Str → Option Value} : Cl w mean mg mb 70 2 16 [] (RetT anL) := by
  unfold Cl RetT
  k_with_none
  k_fill
  intro dp un gd cn cs a ccd cl outer A₀ base h₀ L m news s Q E B F X N T hk hd hu hret
  refine wpAny_call ?_
  k_dflt cell_enter
  k_steps
  (with_reducible rename (_ < _ ∧ _ ∧ _ ∧ _ ∧ _ ∧ _ ∧ _ ∧ _ ∧ AllLt _ _) => l9)
  refine hret _ 0 _ _ _ (by assumption) (by k_asm) (cb_drop (by k_asm) ?_) l9.2.2.2.2.2.2.2.2
  intro p hp
  simp only [List.mem_cons] at hp ⊢
  rcases hp with rfl | hp <;> simp [*]
end
end Mine
end
section
open PySem PySem.W PyProof.Rows
namespace Mine
set_option maxRecDepth 100000
section
variable {prog : Program} {w : World} {A : Around} {E : Value → Shared → Prop} {s : Shared} {h₀ : Heap} {L : Addr} {m : Str → Option Value} {news : List (Addr × Obj)} {S : List (Addr × Obj) → Prop} {P : Nat → Value → Prop} {Fin : List Value → List (Addr × Obj) → Prop} {env : Env} {elt : Expr} {x : Str} {scope : Scope} {cl : List (Str × Addr)}
theorem strsAre_at : ∀ {vs : List Value} {xs : List Str}, StrsAre vs xs → ∀ (i : Nat) (v : Value), vs[i]? = some v → ∃ k t, xs[i]? = some k ∧ v = .str k t
  | _, _, .nil, i, v, h => by simp at h
  | _, _, .cons y t r, 0, v, h => ⟨y, t, rfl, (Option.some.inj h).symm⟩
  | _, _, .cons y t r, i + 1, v, h => strsAre_at r i v h
theorem strs_size {vs : List Value} {xs : List Str} (h : StrsAre vs xs) (hx : xs.length ≤ 1000) : vs.toArray.size ≤ sizeLine := by
  rw [List.size_toArray, h.length, sizeLine_eq]; omega
theorem slice_strs {vs : List Value} {xs : List Str} (h : StrsAre vs xs) (a b : Nat) (hb : b ≤ xs.length) (hab : a ≤ b) : StrsAre (slicePick vs.toArray (some (a : Int)) (some (b : Int)) none).toList ((xs.drop a).take (b - a)) := by
  rw [slicePick_run vs.toArray a b (by rw [List.size_toArray, h.length]; exact hb) hab]
  simpa using StrsAre.take' (StrsAre.drop' h a) (b - a)
theorem sli_strs {vs : List Value} (h : StrsAre vs latS) : StrsAre (slicePick vs.toArray (some 31) (some 62) none).toList sliS := slice_strs h 31 62 (by rw [latS_len]; decide) (by decide)
theorem strs_set {x : Str} {u : Tok} : ∀ {vs : List Value} {xs : List Str}, StrsAre vs xs → ∀ j : Nat, StrsAre (vs.set j (.str x u)) (xs.set j x)
  | _, _, .nil, _ => .nil
  | _, _, .cons _ _ h, 0 => .cons x u h
  | _, _, .cons i t h, j + 1 => .cons i t (strs_set h j)
theorem set_str {D : Addr} {vs : List Value} {xs : List Str} {n : Nat} {k : Int} {x : Str} {t u : Tok} {rest : List (Addr × Obj)} {Q : Unit → Shared → Prop} (F : Fr h₀ L s.heap m) (N : News h₀ L s.heap ((D, listOf vs.toArray n) :: rest)) (off : LCg.Off1 D rest)
    (hi : StrsAre vs xs) (h0 : 0 ≤ k) (h1 : k < xs.length) (hfit : k < 2 ^ 63)
    (h : ∀ h', Fr h₀ L h' m → News h₀ L h' ((D, listOf (vs.set k.toNat (.str x u)).toArray n) :: rest) → StrsAre (vs.set k.toNat (.str x u)) (xs.set k.toNat x) → Q () { s with heap := h' }) :
    wpAny (model prog w) A (setItem (.ref D) (.int k t) (.str x u)) Q E s := by
  have z := N (D, listOf vs.toArray n) (.head _)
  have hl : vs.length = xs.length := hi.length
  have offm : ∀ {l : List (Addr × Obj)}, LCg.Off1 D l → ∀ p ∈ l, p.1 ≠ D := by
    intro l
    induction l with
    | nil => intro _ p hp; cases hp
    | cons q r ih =>
      intro o p hp
      rcases List.mem_cons.mp hp with rfl | hp
      · exact o.1
      · exact ih o.2 p hp
  refine ki_setAt z.1 h0 hfit (by rw [List.size_toArray, hl]; exact h1) (h _ (F.change (Heap.SameBut.update ..) z.2.1 z.2.2) (ki_turn (pre := []) _ N (fun _ hp => nomatch hp) (offm off) ?_ ?_) (strs_set hi _))
  · show vs.toArray.setIfInBounds k.toNat (.str x u) = (vs.set k.toNat (.str x u)).toArray
    apply Array.toList_inj.mp
    simp
  · simp
/-- a comprehension over texts whose turns make texts -/
theorem st_rest {vs : List Value} {ks : List Str} (g : Str → Str) (hi : StrsAre vs ks)
    (turn : ∀ k t I oI C oC D m₂ ys h tk (E' : Value → Shared → Prop), k ∈ ks → LCg.NsObj oC m₂ → m₂ x = some (.str k t) → Fr h₀ L h m → News h₀ L h ((I, oI) :: (C, oC) :: (D, LCg.lst ys) :: news) → LCg.Off3 I C D news → ((@Ne Nat I C) ∧ (@Ne Nat I D) ∧ (@Ne Nat C D)) →
      wpAny (model prog w) A (eval elt (compEnvC scope cl C env)) (LCg.CompEnd h₀ L m { s with heap := h, toks := tk } I oI C oC D (LCg.lst ys) S (fun y news' => KCtEl news (g k) y news')) E' { s with heap := h, toks := tk })
    {ls : List Str} (hls : ks.map g = ls) (fin : KPfDone (∀ ys, StrsAre ys ls → Fin ys news)) : LCg.CompRest prog w A h₀ L m env elt x scope cl s S (fun i v => vs.toArray[i]? = some v) Fin vs.toArray.size 0 [] news := by
  subst hls
  have key : ∀ (j i : Nat) (ys : List Value), i + j = ks.length → StrsAre ys ((ks.take i).map g) → LCg.CompRest prog w A h₀ L m env elt x scope cl s S (fun i v => vs.toArray[i]? = some v) Fin j i ys news := by
    intro j
    induction j with
    | zero =>
      intro i ys hi' hy
      refine LCg.CompRest.zero (fin ys ?_)
      rw [show i = ks.length from by omega, List.take_length] at hy
      exact hy
    | succ j ih =>
      intro i ys hi' hy
      refine LCg.CompRest.succ fun v I oI C oC D m₂ h tk E' hv hC hx F N off ne => ?_
      obtain ⟨k, t, hk, rfl⟩ := strsAre_at hi i v (by simpa using hv)
      refine wpAny_mono (turn k t I oI C oC D m₂ ys h tk E' (List.mem_of_getElem? hk) hC hx F N off ne) (fun y s₂ hq => ?_) fun _ _ e => e
      obtain ⟨h', tk', nw, e, F', N', off', hS, rfl, t', rfl⟩ := hq
      refine ⟨h', tk', nw, e, F', N', off', hS, ih (i + 1) _ (by omega) ?_⟩
      rw [List.take_add_one, hk]
      simpa using kct_snoc hy
  rw [show vs.toArray.size = ks.length from by rw [List.size_toArray, hi.length]]
  exact key ks.length 0 [] (by omega) .nil
end
section
local macro_rules | `(tactic| walk_at "exec Assign cons ListComp") => `(tactic| (k_here; k_dflt (refine LCg.Assign_ListComp_U (F₀ := by k_asm) (by rfl) (by with_unfolding_all rfl) (by with_unfolding_all rfl) (by decide) (by rfl) (by decide) (by rfl) (by rfl) (by rfl) ?_)))
local macro_rules | `(tactic| walk_at "subscriptTail Name Slice ref ref") => `(tactic| (k_here; (with_reducible show wpAny _ _ (subscriptTail _ (PySem.Expr.Slice _ _ none _) (Value.ref _) (Value.ref _)) _ _ _); k_dflt (refine' kmk_slice ?F ?N ?l ?p ?q ?_ ?s ?t ?z; (case F => k_asm); (case N => k_asm); (case l => kmk_list); (case p => kmk_part); (case q => kmk_part); (case s => with_unfolding_all rfl); (case t => kmk_pure); (case z => exact strs_size (by assumption) (by rw [latS_len]; decide))); (have a9 := sli_strs (by assumption)); intro D' h' F' N' l1; (try k_lt l1); (try k_sweep)))
local macro_rules | `(tactic| walk_at "CompSrc") => `(tactic| (k_here; k_dflt (refine LCg.CompSrc.ledger (its := List.toArray _) (by rfl) (by k_asm) (by k_asm) (by k_mem) (strs_size (by assumption) (by rw [sliS_len]; decide)) ?_; intro g'; (refine' st_rest Txt.lower (by assumption) (fun k' t' I' oI' C' oC' D' m' ys' h' tk' E' hk' hC' hx' F' N' off' ne' => ?_) las_eq ?_); (all_goals (try (have hs9 := sli_short hk'))); kcf_last)))
local macro_rules | `(tactic| walk_at "CompEnd") => `(tactic| (refine LCg.CompEnd.intro (by assumption) (by assumption) _ (fun p hp => hp) (by assumption) (by first | lcg_src | assumption) ?_; exact ⟨rfl, _, rfl⟩))
local macro_rules | `(tactic| walk_at "call builtin:str.lower") => `(tactic| (dsimp only; refine SCL.lower (by omega) ?_; intro _))
local macro_rules | `(tactic| walk_at "setItem ref int") => `(tactic| (k_here; k_dflt (refine set_str (by k_asm) (by k_asm) (by assumption) (by assumption) (by decide) (by rw [lasS_len]; decide) (by decide) ?_); intro h' F' N' a'; (try k_sweep)))
local macro_rules | `(tactic| walk_at "call builtin:str.split") => `(tactic| (k_here; (with_reducible show wpAny _ _ (call (Value.builtin "str.split") _) _ _ _); (refine KSpl.split0 (by k_asm) (by k_asm) ?_ lat_size); (intro D' l' h' k' e' a' F' N' l1); (rw [e'] at a'); (replace a' := (lat_words ▸ a' : StrsAre _ latS)); (try clear e'); (try k_lt l1); (try k_sweep)))
local macro_rules | `(tactic| walk_at "binaryOp Add ref ref") => `(tactic| (k_here; (with_reducible show wpAny _ _ (binaryOp _ (Value.ref _) (Value.ref _)) _ _ _); k_dflt (refine' add_strs ?F ?N ?a ?b ?x ?y ?z ?_; (case F => k_asm); (case N => k_asm); (case a => k_mem); (case b => k_mem); (case x => assumption); (case y => first | assumption | exact .cons _ _ .nil); (case z => (simp only [List.length_append, latS_len, lasS_len, List.length_set, List.length_cons, List.length_nil]; omega))); intro D' zs' h' a' F' N' l1; (try k_lt l1); (try k_sweep)))
set_option maxHeartbeats 8000000 in
theorem c_latin {w : World} {mean : ExcName → Option Value} {mg mb : Str → Option Value} : Cl w mean mg mb 75 2 16 [] (RetT lnL) := by
  unfold Cl RetT
  k_with_none
  k_fill
  intro dp un gd cn cs a ccd cl outer A₀ base h₀ L m news s Q E B F X N T hk hd hu hret
  refine wpAny_call ?_
  k_dflt cell_enter
  k_steps
  (with_reducible rename (_ < _ ∧ _ ∧ _ ∧ _ ∧ _ ∧ AllLt _ _) => l9)
  refine hret _ 0 _ _ _ (by assumption) (by k_asm) (cb_drop (by k_asm) ?_) l9.2.2.2.2.2
  intro p hp
  simp only [List.mem_cons] at hp ⊢
  rcases hp with rfl | hp <;> simp [*]
end
end Mine
end
section
open PySem PySem.W PyProof.Rows PySem.Calls
namespace Mine
set_option maxRecDepth 100000
def idx (k : Str) : List Str → Nat
  | [] => 0
  | x :: r => if x == k then 0 else idx k r + 1
/-- what known_code gives -/
def kc (x : Str) : Int := match oth x with
  | some v => v
  | none => if anL.any (· == x) then 32 + idx x anL else if lnL.any (· == x) then 161 + idx x lnL else -1
theorem idx_spec' {k : Str} : ∀ {vs : List Value} {xs : List Str}, StrsAre vs xs → xs.any (· == k) = true → ∀ j, j = idx k xs → ∃ hj : j < vs.length, isStrOf k vs[j] = true ∧ ∀ i (hi : i < vs.length), i < j → isStrOf k vs[i] = false
  | _, _, .nil, h, _, _ => by simp at h
  | _, _, .cons y t r, h, j, hj => by
    unfold idx at hj
    by_cases q : (y == k) = true
    · rw [if_pos q] at hj
      subst hj
      exact ⟨by simp, by simpa [isStrOf] using q, fun i _ hlt => absurd hlt (Nat.not_lt_zero _)⟩
    · rw [if_neg q] at hj
      rw [List.any_cons, Bool.or_eq_true] at h
      obtain ⟨a, b, c⟩ := idx_spec' r (h.resolve_left q) _ rfl
      subst hj
      refine ⟨by simpa using a, by simpa using b, fun i hi hlt => ?_⟩
      cases i with
      | zero => simpa [isStrOf] using q
      | succ i => exact c i (by simpa using hi) (by omega)
theorem idx_spec {k : Str} {vs : List Value} {xs : List Str} (h : StrsAre vs xs) (hk : xs.any (· == k) = true) : ∃ hj : idx k xs < vs.length, isStrOf k vs[idx k xs] = true ∧ ∀ i (hi : i < vs.length), i < idx k xs → isStrOf k vs[i] = false := idx_spec' h hk _ rfl
theorem idx_le (k : Str) : ∀ xs : List Str, idx k xs ≤ xs.length
  | [] => Nat.le_refl _
  | x :: r => by
    unfold idx
    have := idx_le k r
    split <;> simp <;> omega
section
variable {prog : Program} {w : World} {A : Around} {E : Value → Shared → Prop} {s : Shared} {h₀ : Heap} {L D : Addr} {m : Str → Option Value} {news : List (Addr × Obj)} {x : Str} {t : Tok} {vs : List Value} {xs : List Str} {n : Nat} {v : Int}
theorem dict_in {Q : Value → Shared → Prop} (F : Fr h₀ L s.heap m) (X : (Mine.hd.heap_39 w.params).In h₀) (h : Q (.bool (oth x).isSome) { s with toks := s.toks + 1 }) :
    wpAny (model prog w) A (compareOp .In (.str x t) (.ref 62)) Q E s := by
  refine wpAny_in_of (strKind_is prog w x t) (by decide) (oth_dict (prog := prog) (X.keeps F.keep)).dictOf.mapOf ?_
  rcases oth_value x with ⟨a, b⟩ | ⟨v, tk, a, b⟩
  · rw [b]; rw [a] at h; exact h
  · rw [b]; rw [a] at h; exact h
theorem dict_get {Q : Value → Shared → Prop} {value slice : PySem.Expr} (F : Fr h₀ L s.heap m) (X : (Mine.hd.heap_39 w.params).In h₀) (hx : (oth x).isSome = true) (h : ∀ tk, Q (.int ((oth x).getD 0) tk) { s with toks := s.toks + 1 })
    (hs : subscripted slice false (.ref 62) (.str x t) = operate [.ref 62, .str x t] (getItem (.ref 62) (.str x t)) := by with_unfolding_all rfl) :
    wpAny (model prog w) A (subscriptTail value slice (.ref 62) (.str x t)) Q E s := by
  have hm := (oth_dict (prog := prog) (X.keeps F.keep)).dictOf.mapOf
  rcases oth_value x with ⟨a, b⟩ | ⟨v', tk, a, b⟩
  · rw [a] at hx; cases hx
  · rw [a] at h
    exact tail_any hm.typeIs slot_dict_getitem.lookup (wpAny_getItem_of (strKind_is prog w x t) hm b (h tk)) hs
theorem list_in {Q : Value → Shared → Prop} (N : News h₀ L s.heap news) (hm : (D, listOf vs.toArray n) ∈ news) (hi : StrsAre vs xs) (h : Q (.bool (xs.any (· == x))) s) :
    wpAny (model prog w) A (compareOp .In (.str x t) (.ref D)) Q E s := in_list_strs (PySem.IsL.isList (n := n) (N _ hm).1) hi h
theorem list_idx {Q : Value → Shared → Prop} (N : News h₀ L s.heap news) (hm : (D, listOf vs.toArray n) ∈ news) (hi : StrsAre vs xs) (hk : xs.any (· == x) = true) (hz : xs.length ≤ 1000)
    (h : Q (.int (idx x xs) s.toks) { s with toks := s.toks + 1 }) : wpAny (model prog w) A (call (.builtin "list.index") [.ref D, .str x t]) Q E s := by
  obtain ⟨a, b, c⟩ := idx_spec hi hk
  have hl := hi.length
  refine call_meets PySem.F.slot_list_index ⟨_, (N _ hm).1, rfl⟩ PySem.F.entry_list_index (PySem.F.args_list_index_2 _ _)
    (MeetsSeq.list_index D vs.toArray n (.str x t) (isStrOf x) (fun y hy => eq_isStrOf x t hi y (by simpa using hy)) (idx x xs) (by rw [List.size_toArray]; omega) (by omega) (by simpa using b) (fun i hi' hlt => (c i (by simpa using hi') hlt))) ⟨(N _ hm).1, h⟩
end
theorem kc1 {x : Str} (h : (oth x).isSome = true) : (oth x).getD 0 = kc x := by
  unfold kc
  cases q : oth x with
  | none => rw [q] at h; cases h
  | some v => rfl
theorem kc2 {x : Str} (h : (oth x).isSome = false) (a : (anL.any fun y => y == x) = true) : (32 + (idx x anL : Int)) = kc x := by
  unfold kc
  cases q : oth x with
  | none => simp [a]
  | some v => rw [q] at h; cases h
theorem kc3 {x : Str} (h : (oth x).isSome = false) (a : (anL.any fun y => y == x) = false) (b : (lnL.any fun y => y == x) = true) : (161 + (idx x lnL : Int)) = kc x := by
  unfold kc
  cases q : oth x with
  | none => simp [a, b]
  | some v => rw [q] at h; cases h
theorem kc4 {x : Str} (h : (oth x).isSome = false) (a : (anL.any fun y => y == x) = false) (b : (lnL.any fun y => y == x) = false) : -1 = kc x := by
  unfold kc
  cases q : oth x with
  | none => simp [a, b]
  | some v => rw [q] at h; cases h
theorem anL_len : anL.length = 95 := by
  simp only [anL, List.length_append, low_len, mid_len, hig_len, capL_len, smaL_len]
theorem lnL_len : lnL.length = 95 := by
  simp only [lnL, List.length_append, latS_len, lasS_len, List.length_set, List.length_cons, List.length_nil]
section
local macro_rules | `(tactic| walk_at "compareOp In str ref") => `(tactic| (k_here; k_dflt (first | (refine' dict_in ?F ?X ?_; (case F => k_asm); (case X => k_asm)) | (refine' list_in ?N ?m ?a ?_; (case N => k_asm); (case m => k_mem); (case a => assumption)))))
local macro_rules | `(tactic| walk_at "subscriptTail Name Name ref str") => `(tactic| (k_here; k_dflt (refine' dict_get ?F ?X ?a ?_ ?z; (case F => k_asm); (case X => k_asm); (case a => assumption); (case z => with_unfolding_all rfl)); intro tk'))
local macro_rules | `(tactic| walk_at "call builtin:list.index") => `(tactic| (k_here; k_dflt (refine' list_idx ?N ?m ?a ?b ?z ?_; (case N => k_asm); (case m => k_mem); (case a => assumption); (case b => assumption); (case z => first | (rw [anL_len]; decide) | (rw [lnL_len]; decide)))))
local macro_rules | `(tactic| walk_at $s:str) => `(tactic| k_extra $s)
set_option maxHeartbeats 8000000 in
theorem c_known {w : World} {mean : ExcName → Option Value} {mg mb : Str → Option Value} (x : Str) (t : Tok) : Cl w mean mg mb 96 3 24 [.str x t] (RetV fun t => .int (kc x) t) := by
  unfold Cl RetV
  k_with_none
  k_fill
  intro dp un gd cn cs a ccd cl outer A₀ base h₀ L m news s Q E B F X N T hk hd hu hret
  refine wpAny_call ?_
  k_dflt cell_enter
  (k_with "call ref" => (k_here; k_dflt (refine' c_ascii _ _ _ _ _ _ _ _ _ _ _ _ _ _ _ _ _ _ _ _ _ _ _ _ _ _ _; (all_goals (try ((with_reducible show News _ _ _ _); k_asm))); (all_goals (try ((with_reducible show Below _ _ _ _); k_asm))); (all_goals (try ((with_reducible show Fr _ _ _ _); k_asm))); (all_goals (try ((with_reducible show Frag.In _ _); k_asm))); (all_goals (try ((with_reducible show Top _ _ _ _ _ _); k_asm))); (all_goals (try ((with_reducible show _ = ScopeKind.function); first | exact rfl | assumption))); (all_goals (try ((with_reducible show _ < recursionLimit); ktr_room))); (all_goals (try ((with_reducible show _ < cLine); ktr_units)))); intro D' c' vs' h' tk' a' F' N' l1; (try simp only [AllLt, and_true] at l1); (try k_sweep)))
  (k_with "call ref" => (k_here; k_dflt (refine' c_latin _ _ _ _ _ _ _ _ _ _ _ _ _ _ _ _ _ _ _ _ _ _ _ _ _ _ _; (all_goals (try ((with_reducible show News _ _ _ _); k_asm))); (all_goals (try ((with_reducible show Below _ _ _ _); k_asm))); (all_goals (try ((with_reducible show Fr _ _ _ _); k_asm))); (all_goals (try ((with_reducible show Frag.In _ _); k_asm))); (all_goals (try ((with_reducible show Top _ _ _ _ _ _); k_asm))); (all_goals (try ((with_reducible show _ = ScopeKind.function); first | exact rfl | assumption))); (all_goals (try ((with_reducible show _ < recursionLimit); ktr_room))); (all_goals (try ((with_reducible show _ < cLine); ktr_units)))); intro D' c' vs' h' tk' a' F' N' l1; (try simp only [AllLt, and_true] at l1); (try k_sweep)))
  k_steps
  all_goals (refine cb_retI (Q := Q) hret ?_ (by k_asm) (by first | k_asm | (refine cb_drop (by k_asm) ?_; intro p hp; simp [hp])))
  all_goals first | exact kc1 (by assumption) | exact kc2 (by assumption) (by assumption) | exact kc3 (by assumption) (by assumption) (by assumption) | exact kc4 (by assumption) (by assumption) (by assumption)
end
end Mine
end
section
open PySem PySem.W PyProof.Rows PySem.Calls
namespace Mine
set_option maxRecDepth 100000
/-- what glyph_name gives for the code of a sign -/
def gn (k : Int) : Str :=
  if 32 ≤ k ∧ k ≤ 126 then anL.getD (k - 32).toNat Str.empty
  else if 161 ≤ k ∧ k ≤ 255 ∧ k ≠ 173 then lnL.getD (k - 161).toNat Str.empty
  else match othL.find? (fun p => p.2 == k) with
    | some p => p.1
    | none => namedS k
/-- none of the first i codes of the dict is k -/
def NoneOf (k : Int) (i : Nat) : Prop := ∀ p ∈ othL.take i, p.2 ≠ k
theorem othL_key : ∀ p ∈ othL, oth p.1 = some p.2 := by decide +kernel
section
variable {prog : Program} {w : World} {A : Around} {E : Value → Shared → Prop} {s : Shared} {env : Env} {h₀ : Heap} {x : Str} {body : List Stmt} {Q : Flow → Shared → Prop} {m₀ : Str → Option Value} {news : List (Addr × Obj)}
def DictEnd (h₀ : Heap) (L : Addr) (x : Str) (m₀ : Str → Option Value) (P : Prop) (need : List (Addr × Obj)) (s₁ s₂ : Shared) : Prop :=
  ∃ h' tk m' news', s₂ = { s₁ with heap := h', toks := tk } ∧ Fr h₀ L h' m' ∧ News h₀ L h' news' ∧ (∀ p ∈ need, p ∈ news') ∧ (∀ z, z ≠ x → m' z = m₀ z) ∧ P
def DictPost (h₀ : Heap) (L : Addr) (x : Str) (m₀ : Str → Option Value) (P : Prop) (need : List (Addr × Obj)) (s₁ : Shared) (Q : Flow → Shared → Prop) (f : Flow) (s₂ : Shared) : Prop :=
  match f with
  | .ret v => Q (.ret v) s₂
  | .brk => Q .next s₂
  | _ => DictEnd h₀ L x m₀ P need s₁ s₂
theorem DictEnd.intro {L : Addr} {P : Prop} {m' : Str → Option Value} {need news' : List (Addr × Obj)} {s₁ : Shared} {h' : Heap} {tk : Nat} (F : Fr h₀ L h' m') (N : News h₀ L h' news') (hn : ∀ p ∈ need, p ∈ news')
    (hm : ∀ z, z ≠ x → m' z = m₀ z) (hP : P) : DictEnd h₀ L x m₀ P need s₁ { s₁ with heap := h', toks := tk } := ⟨h', tk, m', news', rfl, F, N, hn, hm, hP⟩
/-- a loop over the names of OTHER_CODES -/
theorem iter_dict (k : Int) (hh : A.handled = none) (X : (Mine.hd.heap_39 w.params).In h₀) (F : Fr h₀ env.locals s.heap m₀) (N : News h₀ env.locals s.heap news)
    (turn : ∀ i (p : Str × Int) t h tk own, othL[i]? = some p → NoneOf k i → oth p.1 = some p.2 → Fr h₀ env.locals h (fun y => if y = x then some (.str p.1 t) else m₀ y) → News h₀ env.locals h (own ++ news) →
      wpAny (model prog w) A (execs body env) (DictPost h₀ env.locals x m₀ (NoneOf k (i + 1)) (own ++ news) { s with heap := h, toks := tk } Q) E { s with heap := h, toks := tk })
    (done : ∀ u h tk, NoneOf k othL.length → Fr h₀ env.locals h (fun y => if y = x then u else m₀ y) → News h₀ env.locals h news → Q .next { s with heap := h, toks := tk }) :
    wpAny (model prog w) A (pyIter (.ref 62)) (fun it s₂ => LoopAtV prog w A h₀ env x body Q E it s₂) E s := by
  have hD₀ := oth_dict (prog := prog) X
  have hD := hD₀.keep F.keep
  obtain ⟨od, hod⟩ : ∃ o, h₀.get? 62 = some o := let ⟨o, _, ho, _⟩ := hD₀; ⟨o, ho⟩
  have hlt : (62 : Nat) < h₀.objs.size := hD₀.lt_size
  have hne : (62 : Addr) ≠ s.heap.objs.size := Nat.ne_of_lt (Nat.lt_trans (Nat.lt_of_lt_of_le hlt F.above) F.ns.lt)
  refine wpAny_pyIter_dict (by decide) hD ?_
  have W := Walks.dictKeys (knd := strKind prog w) hh s.heap.objs.size 62 hne othK 39
  have hlen : othK.length = othL.length := by simp [othK, othL]
  let J' : Nat → (Str → Option Value) → List (Addr × Obj) → Prop := fun i m₁ news₁ => news₁ = news ∧ NoneOf k i ∧ ∀ z, z ≠ x → m₁ z = m₀ z
  refine ⟨_, _, _, _, _, _, m₀, news, J', rfl, W, ?_, ?_, ?_, ⟨⟨_, Heap.get?_push_size _ rfl, rfl, rfl⟩, hD.push _⟩, F.push _, (fun p hp => ⟨Heap.get?_push_of_some _ (N p hp).1, (N p hp).2⟩), ⟨rfl, by intro p hp; simp at hp, fun _ _ => rfl⟩, ?_, ?_⟩
  · intro hm
    rcases List.mem_cons.mp hm with e | hm
    · exact absurd F.ns.lt (e ▸ Nat.lt_irrefl _)
    · exact absurd (Nat.lt_of_lt_of_le hlt F.above) ((List.mem_singleton.mp hm) ▸ Nat.lt_irrefl _)
  · intro b hb
    rw [List.mem_singleton.mp hb]
    exact next_is_new F
  · intro p hp hI
    exact absurd (Heap.lt_size (N p hp).1) ((List.mem_singleton.mp hI) ▸ Nat.lt_irrefl _)
  · rintro i v m₁ news₁ s₁ own ⟨hh', tk', rfl⟩ hin ⟨key, val, hkv, hkey⟩ ⟨rfl, hJ, hm⟩ hoff _ _ _ _ F₁ N₁
    obtain ⟨t, rfl⟩ := Value.isStrOf_shape hkey
    obtain ⟨q, hq, e⟩ : ∃ q, othT[i]? = some q ∧ (q.1, Value.int q.2.1 (q.2.2 + 1)) = (key, val) := by
      unfold othK at hkv
      rw [List.getElem?_map] at hkv
      obtain ⟨q, hq, e⟩ := Option.map_eq_some_iff.mp hkv
      exact ⟨q, hq, e⟩
    have hp : othL[i]? = some (q.1, q.2.1) := by
      unfold othL
      rw [List.getElem?_map, hq]; rfl
    have hk1 : q.1 = key := congrArg Prod.fst e
    subst hk1
    have e : (fun y => if y = x then some (Value.str q.1 t) else m₁ y) = fun y => if y = x then some (Value.str q.1 t) else m₀ y := by
      funext y
      by_cases hy : y = x
      · simp [hy]
      · simp only [if_neg hy]; exact hm y hy
    rw [e] at F₁
    refine wpAny_mono (turn i (q.1, q.2.1) t hh' tk' own hp hJ (othL_key _ (List.mem_of_getElem? hp)) F₁ N₁) (fun f s₂ p => ?_) fun _ _ e => e
    have fin : DictEnd h₀ env.locals x m₀ (NoneOf k (i + 1)) (own ++ news₁) { s with heap := hh', toks := tk' } s₂ → LoopStepU h₀ env.locals [s.heap.objs.size] own (J' (i + 1)) { s with heap := hh', toks := tk' } .next s₂ := by
      rintro ⟨h', tk, m', news', e, F', N', hn, hm, hP⟩
      exact ⟨rfl, h', tk, m', news₁, e, F', fun p hp => N' p (hn p hp), hoff, rfl, hP, hm⟩
    cases f with
    | ret v => exact .ret p
    | brk => exact .brk p
    | next => exact .next (fin p)
    | cont => exact .cont (fin p)
  · rintro h' tk m' news' F' N' _ ⟨rfl, hJ, hm⟩
    rw [hlen] at hJ
    refine done (m' x) h' tk hJ ?_ N'
    have e : (fun y => if y = x then m' x else m₀ y) = m' := by
      funext y
      by_cases hy : y = x
      · simp [hy]
      · simp only [if_neg hy]; exact (hm y hy).symm
    rw [e]; exact F'
theorem none_next {k : Int} {i : Nat} {p : Str × Int} (h : NoneOf k i) (hi : othL[i]? = some p) (hp : ¬ p.2 = k) : NoneOf k (i + 1) := by
  intro q hq
  rw [List.take_add_one, hi] at hq
  rcases List.mem_append.mp hq with hq | hq
  · exact h q hq
  · rw [List.mem_singleton.mp hq]; exact hp
theorem list_item {h₀ : Heap} {L D : Addr} {vs : List Value} {xs : List Str} {n : Nat} {k : Int} {u : Tok} {Q : Value → Shared → Prop} {value slice : PySem.Expr} (N : News h₀ L s.heap news) (hm : (D, listOf vs.toArray n) ∈ news) (hi : StrsAre vs xs) (h0 : 0 ≤ k) (h1 : k < xs.length) (hz : xs.length ≤ 1000)
    (h : ∀ tk, Q (.str (xs.getD k.toNat Str.empty) tk) s)
    (hs : subscripted slice false (.ref D) (.int k u) = operate [.ref D, .int k u] (getItem (.ref D) (.int k u)) := by with_unfolding_all rfl) :
    wpAny (model prog w) A (subscriptTail value slice (.ref D) (.int k u)) Q E s := by
  have hL := PySem.IsL.isList (n := n) (N _ hm).1
  have hj : k.toNat < vs.length := by rw [hi.length]; omega
  obtain ⟨y, tk, hy, hv⟩ := strsAre_at hi k.toNat vs[k.toNat] (by simp [hj])
  have e : xs.getD k.toNat Str.empty = y := by simp [List.getD, hy]
  have hx : vs[k.toNat]? = some (.str y tk) := by rw [← hv]; simp [hj]
  have h' := h tk
  rw [e] at h'
  exact tail_any hL.typeIs slot_list_getitem.lookup (wpAny_getItem_list hL h0 (by omega) (by simpa using hx) h') hs
end
section
variable {w : World} {mean : ExcName → Option Value} {mg mb : Str → Option Value}
theorem c_sign_t (k : Int) (t : Tok) (hs : isSign k = true) : Cl w mean mg mb 89 2 16 [.int k t] (RetV fun _ => .bool true) := hs ▸ c_sign k t
theorem c_sign_f (k : Int) (t : Tok) (hs : isSign k = false) : Cl w mean mg mb 89 2 16 [.int k t] (RetV fun _ => .bool false) := hs ▸ c_sign k t
end
theorem hx_len : ∀ (n : Nat) (w : Int) (s : Str), (hx n w s).length ≤ n + s.length
  | 0, _, s => by simp [hx]
  | n + 1, w, s => by
    unfold hx
    have := hx_len n (w.fdiv 16) (Txt.item HEXS (w.fmod 16) ++ s)
    rw [Str.length_append] at this
    have h1 : (Txt.item HEXS (w.fmod 16)).length = 1 := rfl
    split <;> omega
theorem hx_len8 {k : Int} (_ : isSign k = true) : (hx 8 k Str.empty).length ≤ 8 := hx_len 8 k Str.empty
theorem gn_low {k : Int} (h1 : 32 ≤ k) (h2 : k ≤ 126) : anL.getD (k - 32).toNat Str.empty = gn k := by
  unfold gn; rw [if_pos ⟨h1, h2⟩]
theorem gn_lat {k : Int} (h1 : 161 ≤ k) (h2 : k ≤ 255) (h3 : k ≠ 173) : lnL.getD (k - 161).toNat Str.empty = gn k := by
  unfold gn; rw [if_neg (by omega), if_pos ⟨h1, h2, h3⟩]
theorem gn_oth {k : Int} (h : ¬ (32 ≤ k ∧ k ≤ 126)) (h' : ¬ (161 ≤ k ∧ k ≤ 255 ∧ k ≠ 173)) {i : Nat} {p : Str × Int} (hi : othL[i]? = some p) (hn : NoneOf k i) (hp : p.2 = k) : p.1 = gn k := by
  unfold gn
  rw [if_neg h, if_neg h']
  have : othL.find? (fun p => p.2 == k) = some p := by
    rw [List.find?_eq_some_iff_append]
    obtain ⟨hl, e⟩ := List.getElem?_eq_some_iff.mp hi
    refine ⟨by simpa using hp, othL.take i, othL.drop (i + 1), ?_, fun q hq => by simpa using hn q hq⟩
    rw [← e, ← List.drop_eq_getElem_cons hl, List.take_append_drop]
  rw [this]
theorem gn_hex {k : Int} (h : ¬ (32 ≤ k ∧ k ≤ 126)) (h' : ¬ (161 ≤ k ∧ k ≤ 255 ∧ k ≠ 173)) (hn : NoneOf k othL.length) : namedS k = gn k := by
  unfold gn
  rw [if_neg h, if_neg h']
  have : othL.find? (fun p => p.2 == k) = none := by
    rw [List.find?_eq_none]
    intro p hp
    have := hn p (by rw [List.take_length]; exact hp)
    simpa using this
  rw [this]
theorem sign_lo {k : Int} (h : isSign k = true) : 0 ≤ k ∧ k ≤ 1114111 := by
  simp only [isSign, Bool.and_eq_true, decide_eq_true_eq] at h
  exact h.1
section
local macro_rules | `(tactic| walk_at "subscriptTail Name Name ref str") => `(tactic| (k_here; k_dflt (refine' dict_get ?F ?X ?a ?_ ?z; (case F => k_asm); (case X => k_asm); (case a => (rw [‹oth _ = some _›]; rfl)); (case z => with_unfolding_all rfl)); intro tk'; (try rw [‹oth _ = some _›]); (try dsimp only [Option.getD_some])))
local macro_rules | `(tactic| walk_at "subscriptTail Name BinOp ref int") => `(tactic| (k_here; k_dflt (refine' list_item ?N ?m ?a ?b ?c ?d ?_ ?z; (case N => k_asm); (case m => k_mem); (case a => assumption); (case b => omega); (case c => first | (rw [anL_len]; omega) | (rw [lnL_len]; omega)); (case d => first | (rw [anL_len]; omega) | (rw [lnL_len]; omega)); (case z => with_unfolding_all rfl)); intro tk'))
local macro_rules | `(tactic| walk_at "exec For Name Name") => `(tactic| (k_here; (rename Fr _ _ _ _ => lF'); (with_unfolding_all refine' For_invVF lF' ?k1 ?k2 ?_; (case k1 => exact rfl); (case k2 => exact rfl); k_whole)))
local macro_rules | `(tactic| walk_at "exec For Name Name cons nil") => `(tactic| (k_here; (rename Fr _ _ _ _ => lF'); (with_unfolding_all refine' For_invVF lF' ?k1 ?k2 ?_; (case k1 => exact rfl); (case k2 => exact rfl); k_whole)))
local macro_rules | `(tactic| walk_at "DictPost") => `(tactic| (dsimp only [DictPost]))
local macro_rules | `(tactic| walk_at "DictEnd") => `(tactic| exact DictEnd.intro (by assumption) (by assumption) (fun _ hp => hp) (fun z hz => if_neg hz) (none_next (by assumption) (by assumption) (by assumption)))
local macro_rules | `(tactic| walk_at $s:str) => `(tactic| k_extra $s)
set_option maxHeartbeats 8000000 in
theorem c_glyph {w : World} {mean : ExcName → Option Value} {mg mb : Str → Option Value} (k : Int) (t : Tok) (hs : isSign k = true) : Cl w mean mg mb 103 4 40 [.int k t] (RetV fun t => .str (gn k) t) := by
  unfold Cl RetV
  k_with_none
  k_fill
  intro dp un gd cn cs a ccd cl outer A₀ base h₀ L m news s Q E B F X N T hk hd hu hret
  have hlo := sign_lo hs
  refine wpAny_call ?_
  k_dflt cell_enter
  (k_with "pyIter ref" => (k_here; k_dflt (refine' iter_dict k ?hh ?X ?F ?N (fun i p t' h' tk' own' hp' hn' ho' F' N' => ?_) (fun u' h' tk' hn' F' N' => ?_); (case hh => rfl); (case X => k_asm); (case F => k_asm); (case N => k_asm)); (all_goals try k_fold)))
  (k_with "call ref" => (k_here; k_dflt (refine' c_ascii _ _ _ _ _ _ _ _ _ _ _ _ _ _ _ _ _ _ _ _ _ _ _ _ _ _ _; (all_goals (try ((with_reducible show News _ _ _ _); k_asm))); (all_goals (try ((with_reducible show Below _ _ _ _); k_asm))); (all_goals (try ((with_reducible show Fr _ _ _ _); k_asm))); (all_goals (try ((with_reducible show Frag.In _ _); k_asm))); (all_goals (try ((with_reducible show Top _ _ _ _ _ _); k_asm))); (all_goals (try ((with_reducible show _ = ScopeKind.function); first | exact rfl | assumption))); (all_goals (try ((with_reducible show _ < recursionLimit); ktr_room))); (all_goals (try ((with_reducible show _ < cLine); ktr_units)))); intro D' c' vs' h' tk' a' F' N' l1; (try simp only [AllLt, and_true] at l1); (try k_sweep)))
  (k_with "call ref" => (k_here; k_dflt (refine' c_latin _ _ _ _ _ _ _ _ _ _ _ _ _ _ _ _ _ _ _ _ _ _ _ _ _ _ _; (all_goals (try ((with_reducible show News _ _ _ _); k_asm))); (all_goals (try ((with_reducible show Below _ _ _ _); k_asm))); (all_goals (try ((with_reducible show Fr _ _ _ _); k_asm))); (all_goals (try ((with_reducible show Frag.In _ _); k_asm))); (all_goals (try ((with_reducible show Top _ _ _ _ _ _); k_asm))); (all_goals (try ((with_reducible show _ = ScopeKind.function); first | exact rfl | assumption))); (all_goals (try ((with_reducible show _ < recursionLimit); ktr_room))); (all_goals (try ((with_reducible show _ < cLine); ktr_units)))); intro D' c' vs' h' tk' a' F' N' l1; (try simp only [AllLt, and_true] at l1); (try k_sweep)))
  (k_with "call ref" => (k_here; k_dflt (refine' c_hex _ _ _ _ _ _ _ _ _ _ _ _ _ _ _ _ _ _ _ _ _ _ _ _ _ _ _ _ _ _ _ _; (all_goals (try ((with_reducible show News _ _ _ _); k_asm))); (all_goals (try ((with_reducible show Below _ _ _ _); k_asm))); (all_goals (try ((with_reducible show Fr _ _ _ _); k_asm))); (all_goals (try ((with_reducible show Frag.In _ _); k_asm))); (all_goals (try ((with_reducible show Top _ _ _ _ _ _); k_asm))); (all_goals (try ((with_reducible show _ = ScopeKind.function); first | exact rfl | assumption))); (all_goals (try ((with_reducible show _ < recursionLimit); ktr_room))); (all_goals (try ((with_reducible show _ < cLine); ktr_units))); (all_goals (try ((with_reducible show _ ≤ _); omega)))); intro t' h' tk' F' N'; (have hl9 := hx_len8 (by assumption)); (try dsimp only); (try k_sweep)))
  (k_with "call ref" => (k_here; k_dflt (refine' c_sign_t _ _ _ _ _ _ _ _ _ _ _ _ _ _ _ _ _ _ _ _ _ _ _ _ _ _ _ _ _ _; (all_goals (try ((with_reducible show News _ _ _ _); k_asm))); (all_goals (try ((with_reducible show isSign _ = _); assumption))); (all_goals (try ((with_reducible show Below _ _ _ _); k_asm))); (all_goals (try ((with_reducible show Fr _ _ _ _); k_asm))); (all_goals (try ((with_reducible show Frag.In _ _); k_asm))); (all_goals (try ((with_reducible show Top _ _ _ _ _ _); k_asm))); (all_goals (try ((with_reducible show _ = ScopeKind.function); first | exact rfl | assumption))); (all_goals (try ((with_reducible show _ < recursionLimit); ktr_room))); (all_goals (try ((with_reducible show _ < cLine); ktr_units)))); intro t' h' tk' F' N'; (try k_sweep)))
  k_steps
  all_goals (refine cb_retS (Q := Q) hret ?_ (by k_asm) (cb_drop (by k_asm) ?_))
  all_goals first
    | exact gn_low (by assumption) (by assumption)
    | exact gn_lat (by assumption) (by assumption) (by assumption)
    | exact gn_oth (by omega) (by omega) (by assumption) (by assumption) (by assumption)
    | (refine Eq.trans ?_ (gn_hex (by omega) (by omega) (by assumption)); unfold namedS; first | rw [if_pos (by omega)] | rw [if_neg (by omega)])
    | (intro p hp; simp [hp])
    | skip
end
end Mine
end
section
open PySem PySem.W PyProof.Rows
namespace Mine
set_option maxRecDepth 100000
/-! the plain law: the names and the codes, on lists of numbers -/
def capW : List (List Nat) := (List.range 26).map fun i => [65 + i]
def smaW : List (List Nat) := (List.range 26).map fun i => [97 + i]
def anW : List (List Nat) := lowW ++ capW ++ midW ++ smaW ++ higW
theorem capL_eq : capL = capW.map mkS := by decide +kernel
theorem smaL_eq : smaL = smaW.map mkS := by decide +kernel
theorem anL_eq : anL = anW.map mkS := by
  unfold anL anW
  rw [capL_eq, smaL_eq]
  simp only [List.map_append]
theorem mkS_beq (a b : List Nat) : (mkS a == mkS b) = (a == b) := by
  rw [Bool.eq_iff_iff, beq_iff_eq, beq_iff_eq]
  exact ⟨fun h => by simpa [mkS] using h, fun h => by rw [h]⟩
def idxW (k : List Nat) : List (List Nat) → Nat
  | [] => 0
  | x :: r => if x == k then 0 else idxW k r + 1
theorem idx_mk (k : List Nat) : ∀ l : List (List Nat), idx (mkS k) (l.map mkS) = idxW k l
  | [] => rfl
  | x :: r => by
    show (if mkS x == mkS k then 0 else idx (mkS k) (r.map mkS) + 1) = if x == k then 0 else idxW k r + 1
    rw [mkS_beq, idx_mk k r]
theorem any_mk (k : List Nat) : ∀ l : List (List Nat), (l.map mkS).any (· == mkS k) = l.any (· == k)
  | [] => rfl
  | x :: r => by simp only [List.map_cons, List.any_cons, mkS_beq, any_mk k r]
def othWf (w : List Nat) : Option Int := (othW.find? fun p => p.1 == w).map (·.2)
theorem oth_mk (w : List Nat) : oth (mkS w) = othWf w := by
  unfold oth othWf
  rw [othL_eq]
  generalize othW = l
  induction l with
  | nil => rfl
  | cons p r ih =>
    simp only [List.map_cons, List.find?_cons]
    by_cases h : p.1 = w
    · have h' : mkS p.1 = mkS w := by rw [h]
      simp [h]
    · have h' : ¬ mkS p.1 = mkS w := fun q => h (by simpa [mkS] using q)
      simp only [h', decide_false]
      have : (p.1 == w) = false := by simpa using h
      rw [this]
      exact ih
def kcW (w : List Nat) : Int := match othWf w with
  | some v => v
  | none => if anW.any (· == w) then 32 + idxW w anW else if lnW.any (· == w) then 161 + idxW w lnW else -1
theorem kc_mk (w : List Nat) : kc (mkS w) = kcW w := by
  unfold kc kcW
  rw [oth_mk, anL_eq, lnL_eq, any_mk, any_mk, idx_mk, idx_mk]
  try rfl
/-- no point, no underline, no blank; not empty; not long -/
def clean (w : List Nat) : Bool := !w.isEmpty && decide (w.length ≤ 20) && w.all fun c => c != 46 && c != 95 && c != 32
theorem tabA : (List.range 95).all (fun i => clean (anW.getD i []) && kcW (anW.getD i []) == 32 + (i : Int)) = true := by decide +kernel
theorem tabL : (List.range 95).all (fun i => i == 12 || (clean (lnW.getD i []) && kcW (lnW.getD i []) == 161 + (i : Int))) = true := by decide +kernel
theorem tabO : othW.all (fun p => clean p.1 && kcW p.1 == p.2) = true := by decide +kernel
theorem anW_len : anW.length = 95 := by decide +kernel
theorem lnW_len : lnW.length = 95 := by decide +kernel
/-! figures of base 16 -/
def figs : List Nat := [48, 49, 50, 51, 52, 53, 54, 55, 56, 57, 65, 66, 67, 68, 69, 70]
def dig (n : Nat) : Nat := figs.getD n 0
def und (c : Nat) : Nat := if c ≤ 57 then c - 48 else c - 55
theorem dig_und : ∀ n < 16, und (dig n) = n := by decide +kernel
theorem dig_mem : ∀ n < 16, dig n ∈ figs := by decide +kernel
theorem item_dig : ∀ n < 16, Txt.item HEXS ((n : Nat) : Int) = mkS [dig n] := by decide +kernel
def hxl : Nat → Nat → List Nat → List Nat
  | 0, _, s => s
  | n + 1, w, s => if 0 < w ∨ s.length < 4 then hxl n (w / 16) (dig (w % 16) :: s) else s
theorem mkS_len (w : List Nat) : (mkS w).length = w.length := by simp [mkS, Str.length]
theorem mkS_app (a b : List Nat) : mkS a ++ mkS b = mkS (a ++ b) := by
  show (⟨(mkS a).cps ++ (mkS b).cps⟩ : Str) = _
  simp [mkS]
theorem hx_mk : ∀ (n w : Nat) (s : List Nat), hx n (w : Int) (mkS s) = mkS (hxl n w s)
  | 0, _, _ => rfl
  | n + 1, w, s => by
    unfold hx hxl
    rw [mkS_len]
    have e1 : (w : Int).fdiv 16 = ((w / 16 : Nat) : Int) := by
      rw [Int.fdiv_eq_ediv_of_nonneg _ (by decide)]; rfl
    have e2 : (w : Int).fmod 16 = ((w % 16 : Nat) : Int) := by
      rw [Int.fmod_eq_emod_of_nonneg _ (by decide)]; rfl
    by_cases h : 0 < w ∨ s.length < 4
    · rw [if_pos (by omega), if_pos h, e1, e2, item_dig _ (Nat.mod_lt _ (by decide)), mkS_app]
      exact hx_mk n (w / 16) (dig (w % 16) :: s)
    · rw [if_neg (by omega), if_neg h]
theorem hxl_figs : ∀ (n w : Nat) (s : List Nat), (∀ c ∈ s, c ∈ figs) → ∀ c ∈ hxl n w s, c ∈ figs
  | 0, _, _, h => h
  | n + 1, w, s, h => by
    unfold hxl
    split
    · refine hxl_figs n _ _ fun c hc => ?_
      rcases List.mem_cons.mp hc with rfl | hc
      · exact dig_mem _ (Nat.mod_lt _ (by decide))
      · exact h c hc
    · exact h
theorem hxl_long : ∀ (n w : Nat) (s : List Nat), (hxl n w s).length ≤ n + s.length
  | 0, _, s => by simp [hxl]
  | n + 1, w, s => by
    unfold hxl
    have := hxl_long n (w / 16) (dig (w % 16) :: s)
    simp only [List.length_cons] at this
    split <;> omega
theorem hxl_four : ∀ (n w : Nat) (s : List Nat), 4 ≤ n + s.length → 4 ≤ (hxl n w s).length
  | 0, _, s, h => by simpa [hxl] using h
  | n + 1, w, s, h => by
    unfold hxl
    split
    · exact hxl_four n _ _ (by simp only [List.length_cons]; omega)
    · omega
def val : List Nat → Nat
  | [] => 0
  | c :: r => und c * 16 ^ r.length + val r
theorem hxl_val : ∀ (n w : Nat) (s : List Nat), w < 16 ^ n → val (hxl n w s) = w * 16 ^ s.length + val s
  | 0, w, s, h => by
    have : w = 0 := by simpa using h
    subst this
    simp [hxl]
  | n + 1, w, s, h => by
    unfold hxl
    split
    · have hw : w / 16 < 16 ^ n := by
        rw [Nat.pow_succ] at h
        omega
      rw [hxl_val n _ _ hw]
      simp only [val, List.length_cons, dig_und _ (Nat.mod_lt w (show 0 < 16 by decide))]
      rw [← Nat.add_assoc, Nat.pow_succ, Nat.mul_comm (16 ^ s.length) 16, ← Nat.mul_assoc, ← Nat.add_mul]
      congr 2
      omega
    · rename_i q
      have : w = 0 := by omega
      subst this
      simp
def nmW (k : Nat) : List Nat := (if k < 65536 then [117, 110, 105] else [117]) ++ hxl 8 k []
theorem uni_eq : Str.ofString "uni" = mkS [117, 110, 105] := ofS (cs := ['u', 'n', 'i']) rfl
theorem u_eq : Str.ofString "u" = mkS [117] := ofS (cs := ['u']) rfl
theorem named_mk (k : Nat) : namedS (k : Int) = mkS (nmW k) := by
  unfold namedS nmW
  have e : hx 8 (k : Int) Str.empty = mkS (hxl 8 k []) := hx_mk 8 k []
  rw [e]
  by_cases h : k < 65536
  · rw [if_pos (by omega), if_pos h, uni_eq, mkS_app]
  · rw [if_neg (by omega), if_neg h, u_eq, mkS_app]
theorem hx8_figs (k : Nat) : ∀ c ∈ hxl 8 k [], c ∈ figs := hxl_figs 8 k [] fun _ h => nomatch h
theorem hx8_len (k : Nat) : 4 ≤ (hxl 8 k []).length ∧ (hxl 8 k []).length ≤ 8 := ⟨hxl_four 8 k [] (by decide), hxl_long 8 k []⟩
theorem hx8_val {k : Nat} (h : k ≤ 1114111) : val (hxl 8 k []) = k := by
  rw [hxl_val 8 k [] (by omega)]
  simp [val]
theorem nm_inj {k l : Nat} (hk : k ≤ 1114111) (hl : l ≤ 1114111) (e : nmW k = nmW l) : k = l := by
  have fin : hxl 8 k [] = hxl 8 l [] → k = l := fun q => by rw [← hx8_val hk, ← hx8_val hl, q]
  have odd : ∀ (a b : Nat) (r : List Nat), [117, 110, 105] ++ r = [117] ++ hxl 8 b [] → False := fun a b r q => by
    have := hx8_figs b 110 (by
      have q' : 110 :: 105 :: r = hxl 8 b [] := by simpa using q
      rw [← q']; exact .head _)
    revert this
    decide
  unfold nmW at e
  split at e <;> split at e
  · exact fin (by simpa using e)
  · exact (odd 0 l _ e).elim
  · exact (odd 0 k _ e.symm).elim
  · exact fin (by simpa using e)
theorem figs_clean : figs.all (fun c => c != 46 && c != 95 && c != 32) = true := by decide
theorem nm_clean (k : Nat) : clean (nmW k) = true := by
  have h := hx8_len k
  unfold clean
  rw [Bool.and_eq_true, Bool.and_eq_true]
  refine ⟨⟨?_, ?_⟩, ?_⟩
  · unfold nmW; split <;> rfl
  · rw [decide_eq_true_eq]
    unfold nmW
    split <;> simp only [List.length_append, List.length_cons, List.length_nil] <;> omega
  · have hf : (hxl 8 k []).all (fun c => c != 46 && c != 95 && c != 32) = true := by
      rw [List.all_eq_true]
      intro c hc
      exact List.all_eq_true.mp figs_clean c (hx8_figs k c hc)
    unfold nmW
    split <;> rw [List.all_append, hf] <;> decide
/-- the form of a name that is put together: five signs at least, the last a figure -/
def hexy (w : List Nat) : Bool := decide (5 ≤ w.length) && (match w.getLast? with
  | some c => figs.contains c
  | none => false)
theorem tabs_not : (anW ++ lnW ++ othW.map (·.1)).all (fun w => !hexy w) = true := by decide +kernel
theorem nm_hexy (k : Nat) : hexy (nmW k) = true := by
  have h := hx8_len k
  have hne : hxl 8 k [] ≠ [] := fun q => by rw [q] at h; simp at h
  unfold hexy
  rw [Bool.and_eq_true, decide_eq_true_eq]
  refine ⟨?_, ?_⟩
  · unfold nmW
    split <;> simp only [List.length_append, List.length_cons, List.length_nil] <;> omega
  · have e : (nmW k).getLast? = some ((hxl 8 k []).getLast hne) := by
      unfold nmW
      rw [List.getLast?_append, List.getLast?_eq_some_getLast hne]
      rfl
    rw [e]
    have := hx8_figs k _ (List.getLast_mem hne)
    simpa using this
theorem nm_kc (k : Nat) : kcW (nmW k) = -1 := by
  have hx := nm_hexy k
  have no : ∀ w ∈ anW ++ lnW ++ othW.map (·.1), (w == nmW k) = false := fun w hw => by
    have := List.all_eq_true.mp tabs_not w hw
    cases q : w == nmW k with
    | false => rfl
    | true =>
      rw [eq_of_beq q, hx] at this
      cases this
  have h1 : othWf (nmW k) = none := by
    unfold othWf
    rw [Option.map_eq_none_iff, List.find?_eq_none]
    intro p hp
    rw [no p.1 (List.mem_append_right _ (List.mem_map_of_mem hp))]
    decide
  have h2 : anW.any (· == nmW k) = false := by
    rw [List.any_eq_false]
    intro w hw
    rw [no w (List.mem_append_left _ (List.mem_append_left _ hw))]
    decide
  have h3 : lnW.any (· == nmW k) = false := by
    rw [List.any_eq_false]
    intro w hw
    rw [no w (List.mem_append_left _ (List.mem_append_right _ hw))]
    decide
  unfold kcW
  rw [h1, h2, h3]
  rfl
/-- what is so of a name x of the sign's code k -/
structure Good (k : Int) (x : Str) : Prop where
  w : ∃ v : List Nat, x = mkS v ∧ clean v = true ∧ (kcW v = k ∨ (kcW v = -1 ∧ x = namedS k))
theorem getD_mk (l : List (List Nat)) (i : Nat) (h : i < l.length) : (l.map mkS).getD i Str.empty = mkS (l.getD i []) := by
  simp [List.getD, h]
theorem gn_good {k : Int} (hs : isSign k = true) : Good k (gn k) := by
  obtain ⟨h0, h1⟩ := sign_lo hs
  unfold gn
  split
  · rename_i h
    have hi : (k - 32).toNat < 95 := by omega
    have t := List.all_eq_true.mp tabA (k - 32).toNat (List.mem_range.mpr hi)
    rw [Bool.and_eq_true, beq_iff_eq] at t
    rw [anL_eq, getD_mk _ _ (by rw [anW_len]; exact hi)]
    exact ⟨_, rfl, t.1, .inl (by rw [t.2]; omega)⟩
  · split
    · rename_i h
      have hi : (k - 161).toNat < 95 := by omega
      have t := List.all_eq_true.mp tabL (k - 161).toNat (List.mem_range.mpr hi)
      have ne : ((k - 161).toNat == 12) = false := by
        rw [beq_eq_false_iff_ne]; omega
      rw [ne, Bool.false_or, Bool.and_eq_true, beq_iff_eq] at t
      rw [lnL_eq, getD_mk _ _ (by rw [lnW_len]; exact hi)]
      exact ⟨_, rfl, t.1, .inl (by rw [t.2]; omega)⟩
    · split
      · rename_i p hp
        rw [othL_eq] at hp
        have hm := List.mem_of_find?_eq_some hp
        have hq := List.find?_some hp
        obtain ⟨q, hq', rfl⟩ := List.mem_map.mp hm
        have t := List.all_eq_true.mp tabO q hq'
        rw [Bool.and_eq_true, beq_iff_eq] at t
        exact ⟨q.1, rfl, t.1, .inl (by rw [t.2]; simpa using hq)⟩
      · have e : namedS k = mkS (nmW k.toNat) := by
          have := named_mk k.toNat
          rwa [show ((k.toNat : Nat) : Int) = k by omega] at this
        exact ⟨_, e, nm_clean _, .inr ⟨nm_kc _, rfl⟩⟩
theorem clean_parts {v : List Nat} (h : clean v = true) : v ≠ [] ∧ v.length ≤ 20 ∧ ∀ c ∈ v, c ≠ 46 ∧ c ≠ 95 ∧ c ≠ 32 := by
  unfold clean at h
  rw [Bool.and_eq_true, Bool.and_eq_true, decide_eq_true_eq] at h
  refine ⟨fun q => by rw [q] at h; simp at h, h.1.2, fun c hc => ?_⟩
  have := List.all_eq_true.mp h.2 c hc
  simp only [Bool.and_eq_true, bne_iff_ne] at this
  exact ⟨this.1.1, this.1.2, this.2⟩
theorem empty_eq : Str.ofString "" = mkS [] := ofS (cs := []) rfl
theorem gn_ne {k : Int} (hs : isSign k = true) : (gn k == Str.ofString "") = false := by
  obtain ⟨v, e, c, _⟩ := gn_good hs
  rw [e, empty_eq, mkS_beq]
  simpa using (clean_parts c).1
theorem gn_len {k : Int} (hs : isSign k = true) : (gn k).length ≤ 20 := by
  obtain ⟨v, e, c, _⟩ := gn_good hs
  rw [e, mkS_len]
  exact (clean_parts c).2.1
theorem gn_clean {k : Int} (hs : isSign k = true) : ∀ c ∈ (gn k).cps.toList, c ≠ 46 ∧ c ≠ 95 ∧ c ≠ 32 := by
  obtain ⟨v, e, c, _⟩ := gn_good hs
  rw [e]
  exact (clean_parts c).2.2
theorem gn_known {k : Int} (hs : isSign k = true) : kc (gn k) = -1 ∨ kc (gn k) = k := by
  obtain ⟨v, e, _, r⟩ := gn_good hs
  rw [e, kc_mk]
  rcases r with r | r
  · exact .inr r
  · exact .inl r.1
theorem gn_named {k : Int} (hs : isSign k = true) (h : kc (gn k) = -1) : gn k = namedS k := by
  obtain ⟨v, e, _, r⟩ := gn_good hs
  rw [e, kc_mk] at h
  rcases r with r | r
  · have := (sign_lo hs).1
    omega
  · exact r.2
theorem named_inj {k l : Int} (hk : isSign k = true) (hl : isSign l = true) (e : namedS k = namedS l) : k = l := by
  obtain ⟨a, b⟩ := sign_lo hk
  obtain ⟨c, d⟩ := sign_lo hl
  have ek := named_mk k.toNat
  have el := named_mk l.toNat
  rw [show ((k.toNat : Nat) : Int) = k by omega] at ek
  rw [show ((l.toNat : Nat) : Int) = l by omega] at el
  rw [ek, el] at e
  have := nm_inj (by omega) (by omega) (show nmW k.toNat = nmW l.toNat by simpa [mkS] using e)
  omega
theorem gn_inj {k l : Int} (hs : isSign k = true) (hl : isSign l = true) : (gn k == gn l) = (k == l) := by
  rw [Bool.eq_iff_iff, beq_iff_eq, beq_iff_eq]
  refine ⟨fun e => ?_, fun e => by rw [e]⟩
  obtain ⟨a, _⟩ := sign_lo hs
  obtain ⟨b, _⟩ := sign_lo hl
  rcases gn_known hs with p | p
  · rcases gn_known hl with q | q
    · exact named_inj hs hl (by rw [← gn_named hs p, ← gn_named hl q, e])
    · rw [← e, p] at q; omega
  · rcases gn_known hl with q | q
    · rw [e, q] at p; omega
    · rw [← p, ← q, e]
end Mine
end
section
open PySem PySem.W PyProof.Rows PySem.Calls
namespace Mine
set_option maxRecDepth 100000
/-- the class FontFault as the head has it -/
abbrev ffBm : List Value := [.ref 46, .type "Exception", .type "BaseException", .type "object"]
abbrev ffObj : Obj := excClassObj (Str.ofString "FontFault") (Str.ofString "FontFault") 59 58 [.ref 46] ffBm true [] [] false none none (some (.ref 50)) none (some (.str (Str.ofString "FontFault") 236)) (some (.str (Str.ofString "FontFault") 244)) (some (.bool true)) "Exception.__new__"
theorem ff_at (P : Params) : List.lookup 59 (Mine.hd.heap_39 P) = some ffObj := by with_unfolding_all rfl
section
variable {M : Model} {A : Around} {E : Value → Shared → Prop} {h : Heap} {g : Array GenState} {d : Drawn} {t : Nat} {os : OsState}
theorem ff_check_new {rest : List Value} {Q : Unit → Shared → Prop} (hC : h.get? 59 = some ffObj) (hq : Q () ⟨h, g, d, t, os⟩) :
    wpAny M A (checkBuiltinCall "Exception.__new__" ⟨.ref 59 :: rest, []⟩) Q E ⟨h, g, d, t, os⟩ := by
  have F := F.excBase_Exception
  have hcont : (Value.ref 59 :: ffBm).contains (.type "Exception") = true := by decide
  have hstar := F.noStar
  simp only [checkBuiltinCall, F.newKind, F.newSplit, F.newRow]
  repeat (first | refine wpAny_loadPart_at hC ?_ | (refine wpAny_isSubtype_exc hC ?_; rw [hcont]) | refine wpAny_staticBase_exc hC ?_ | refine wpAny_madeBy_exc hC ?_ | simp only [bne_self_eq_false, Bool.false_eq_true, if_false] | wp_step)
  exact hq
end
section
variable {prog : Program} {w : World} {A : Around} {R : Result → Shared → Prop} {E : Value → Shared → Prop} {h : Heap} {g : Array GenState} {d : Drawn} {t : Nat} {os : OsState}
theorem ff_new {rest : List Value} (hC : h.get? 59 = some ffObj)
    (hq : R (.ok (.ret (.ref (h.objs.size + 1)))) ⟨(h.push { cls := .type "tuple", data := .seq rest.toArray }).push
      { cls := .ref 59, data := .fields #[.ref h.objs.size, .none, .none, .none, .bool false, .none] }, g, d, t, os⟩) (hrest : rest.length ≤ sizeLine := by size_fits) :
    codeAny (model prog w) A (.builtin "Exception.__new__" ⟨.ref 59 :: rest, []⟩) R ⟨h, g, d, t, os⟩ := by
  have F := F.excBase_Exception
  have hends := F.ends
  have hcB : (Value.ref 59 :: ffBm).contains (.type "Exception") = true := by decide
  have hcA : (Value.ref 59 :: ffBm).contains (.type "AttributeError") = false := by decide
  have hcN : (Value.ref 59 :: ffBm).contains (.type "NameError") = false := by decide
  refine codeAny_builtinAt F.entry ?_
  unfold Builtin.«BaseException.__new__»
  refine PySem.wpAt_bind ?_
  show PySem.wpAt _ _ _ (stack >>= _) _ _ _
  refine PySem.wpAt_bind (PySem.wpAt_stack fun p below => PySem.wpAt_of_wpAny ?_)
  wp_walk
  refine PySem.wpAt_of_wpAny ?_
  rw [F.owner]
  repeat (first | with_reducible refine wpAny_madeHere_exc F.canon hC ?_ | with_reducible refine wpAny_loadPart_at hC ?_ | (with_reducible refine wpAny_isSubtype_exc hC ?_; first | rw [hcB] | rw [hcA] | rw [hcN]) | wp_step)
  show R _ _
  rw [Heap.size_push]
  exact hq
end
theorem ff_init (P : Params) : findIn (Mine.hd.heap_39 P) (.ref 59) "__init__" = some (some (.ref 36)) := by with_unfolding_all rfl
theorem fi_at (P : Params) : ∃ o, List.lookup 36 (Mine.hd.heap_39 P) = some o ∧ o.cls = .type "function" := ⟨_, by with_unfolding_all rfl, rfl⟩
section
variable {prog : Program} {w : World} {A : Around} {E : Value → Shared → Prop} {h : Heap} {g : Array GenState} {d : Drawn} {t : Nat} {os : OsState}
theorem ff_type_call {rest : List Value} {Q : PySem.Fin → Shared → Prop} (X : (Mine.hd.heap_39 w.params).In h)
    (hq : ∀ h' e, Heap.MadeExcOf h h' e (.ref 59) rest →
      wpAny (model prog w) A (call (.ref 36) (.ref e :: rest)) (fun r s' => r = .none ∧ Q (.done (.ret (.ref e))) s') E ⟨h', g, d, t, os⟩) (hrest : rest.length ≤ sizeLine := by size_fits) :
    wpAny (model prog w) A (Builtin.«type.__call__» ⟨.ref 59 :: rest, []⟩) Q E ⟨h, g, d, t, os⟩ := by
  have F := F.excBase_Exception
  have hC := X _ _ (ff_at w.params)
  repeat (first | with_reducible refine wpAny_loadPart_at hC ?_ | with_reducible refine wpAny_madeBy_exc hC ?_ | wp_step)
  refine codeAny_call_builtin_code (Code.quiet_builtin _ F.quiet) (ff_check_new hC ?_)
  refine ff_new hC ?_ hrest
  show wpAny _ _ _ _ _ _
  have kp : ∀ b o, h.get? b = some o → ((h.push { cls := .type "tuple", data := .seq rest.toArray }).push
      { cls := .ref 59, data := .fields #[.ref h.objs.size, .none, .none, .none, .bool false, .none] }).get? b = some o := fun b o hb => Heap.get?_push_of_some _ (Heap.get?_push_of_some _ hb)
  have X₁ := X.keeps kp
  have hC₁ := kp _ _ hC
  have hget : ((h.push { cls := .type "tuple", data := .seq rest.toArray }).push
      { cls := .ref 59, data := .fields #[.ref h.objs.size, .none, .none, .none, .bool false, .none] }).get? (h.objs.size + 1) = some
      { cls := .ref 59, data := .fields #[.ref h.objs.size, .none, .none, .none, .bool false, .none] } := by heap_get
  have hcC : (Value.ref 59 :: ffBm).contains (.ref 59) = true := by decide
  unfold isInstance
  repeat (first | with_reducible refine wpAny_loadPart_at hget ?_ | (with_reducible refine wpAny_isSubtype_exc hC₁ ?_; rw [hcC]) | wp_step)
  show wpAny _ _ (typeLookup (.ref 59) _) _ _ _
  refine (looks_findIn (M := model prog w) X₁ (ff_init w.params)).at ?_
  obtain ⟨oI, hfI, hfc⟩ := fi_at w.params
  have hfI₁ := X₁ _ _ hfI
  refine wpAny_holding (wpAny_bind ?_)
  unfold bindSpecial
  refine wpAny_bind (wpAny_typeOf (T := "function") ⟨_, hfI₁, hfc⟩ ?_)
  rw [if_pos (by decide)]
  refine wpAny_pure (wpAny_bind (wpAny_mono (hq _ (h.objs.size + 1) ⟨kp, Heap.get?_none_of_le (Nat.le_succ _), h.objs.size, hget, Heap.get?_none_of_le (Nat.le_refl _), ?_⟩) (fun r s' hr => ?_) fun _ _ x => x))
  · exact Heap.get?_push_of_some _ (Heap.get?_push_at rfl rfl)
  · obtain ⟨rfl, hQ⟩ := hr
    wp_walk
    exact hQ
theorem ff_call {rest : List Value} {Q : Value → Shared → Prop} (X : (Mine.hd.heap_39 w.params).In h)
    (hq : ∀ h' e, Heap.MadeExcOf h h' e (.ref 59) rest →
      wpAny (model prog w) (A.under (.builtin "type.__call__" ⟨.ref 59 :: rest, []⟩)) (call (.ref 36) (.ref e :: rest)) (fun r s' => r = .none ∧ Q (.ref e) s') E ⟨h', g, d, t, os⟩) (hrest : rest.length ≤ sizeLine := by size_fits) :
    wpAny (model prog w) A (call (.ref 59) rest) Q E ⟨h, g, d, t, os⟩ := by
  have hC := X _ _ (ff_at w.params)
  have f1 := tc_lookup
  have f2 := tc_bind (.ref 59)
  have hT : (⟨h, g, d, t, os⟩ : Shared).TypeIs (.ref 59) "type" := ⟨_, hC, rfl⟩
  refine wpAny_call (codeAny_of_tree ?_)
  show wpAny _ _ (callAny (.ref 59) _) _ _ _
  repeat (any_goals (first | assumption | with_reducible refine wpAny_loadPart_at hC ?_ | wp_step))
  refine ⟨rfl, ?_⟩
  refine codeAny_call_builtin_at (Code.quiet_builtin _ (by decide +kernel)) entry_typeCall (wpAny_check_type_call_sub hC (ff_type_call (hrest := hrest) X fun h' e hm => ?_))
  exact hq h' e hm
end
end Mine
end
section
open PySem PySem.W PyProof.Rows PySem.Calls
namespace Mine
set_option maxRecDepth 100000
/-- an object of FontFault, its text in the tuple t -/
abbrev ffInst (t : Addr) (dx : Option Addr) : Obj := { cls := .ref 59, dict := dx, data := .fields #[.ref t, .none, .none, .none, .bool false, .none] }
abbrev tupObj (vs : List Value) (n : Nat) : Obj := { cls := .type "tuple", data := .seq vs.toArray n }
section
variable {prog : Program} {w : World} {A : Around} {E : Value → Shared → Prop} {h₀ : Heap} {L : Addr} {m : Str → Option Value} {news : List (Addr × Obj)}
theorem ff_check_init {M : Model} {h : Heap} {g : Array GenState} {d : Drawn} {t : Nat} {os : OsState} {e : Addr} {oe : Obj} {rest : List Value} {Q : Unit → Shared → Prop}
    (hC : h.get? 59 = some ffObj) (he : h.get? e = some oe) (hcls : oe.cls = .ref 59) (hq : Q () ⟨h, g, d, t, os⟩) :
    wpAny M A (checkBuiltinCall "Exception.__init__" ⟨.ref e :: rest, []⟩) Q E ⟨h, g, d, t, os⟩ := by
  have F := PySem.F.excBase_Exception
  have hcB : (Value.ref 59 :: ffBm).contains (.type "Exception") = true := by decide
  have hshort := F.noStar
  simp only [checkBuiltinCall, F.initKind, F.initSplit, F.initRow]
  repeat (first | (with_reducible refine wpAny_loadPart_at he ?_; rw [hcls]) | with_reducible refine wpAny_loadPart_at hC ?_ | (with_reducible refine wpAny_isSubtype_exc hC ?_; rw [hcB]) | wp_step)
  refine wpAny_onRaise ?_
  rw [show ∀ (a b : String) (n : Nat), Bind.check ⟨.positional, "*", "Exception", .self, [⟨"args", .varPos, false⟩]⟩ a b n (List.map (fun x => x.fst) ({ pos := Value.ref e :: rest } : Args).kw) = pure () from
    fun a b n => check_star_args _ _ _ _ _ _]
  exact wpAny_pure hq
theorem exc_init {h : Heap} {g : Array GenState} {d : Drawn} {tk : Nat} {os : OsState} {e tu : Addr} {v : Value} {rest : List (Addr × Obj)} {Q : Value → Shared → Prop} (F : Fr h₀ L h m) (X : (Mine.hd.heap_39 w.params).In h₀) (N : News h₀ L h ((e, ffInst tu none) :: rest)) (off : ∀ p ∈ rest, p.1 ≠ e)
    (hq : ∀ h' tu', Fr h₀ L h' m → News h₀ L h' ((e, ffInst tu' none) :: (tu', tupObj [v] 0) :: rest) → Q .none ⟨h', g, d, tk, os⟩) :
    wpAny (model prog w) A (call (.builtin "Exception.__init__") [.ref e, v]) Q E ⟨h, g, d, tk, os⟩ := by
  have FE := PySem.F.excBase_Exception
  have hC := X.keeps F.keep _ _ (ff_at w.params)
  have hget := (N _ (.head _)).1
  refine wpAny_call (codeAny_call_builtin FE.init.plain FE.initEntry (ff_check_init hC hget rfl ?_))
  wp_walk
  show Q .none _
  have hlt := Heap.lt_size hget
  have F₁ := F.push (tupObj [v] 0)
  have N₁ := News.push F N (tupObj [v] 0) rfl
  have z := N₁ (e, ffInst tu none) (.tail _ (.head _))
  refine hq _ h.objs.size (F₁.change (Heap.SameBut.update ..) z.2.1 z.2.2) (cb_drop (news_set (pre := [(h.objs.size, tupObj [v] 0)]) (o' := ffInst h.objs.size none) N₁ ?_ off (Heap.SameBut.update ..) ((Heap.get?_update_self (Obj.mapFields fun x => x.setIfInBounds 0 (Value.ref h.objs.size)) z.1 rfl).trans ?_)) ?_)
  · intro p hp
    rw [List.mem_singleton.mp hp]
    exact Nat.ne_of_gt hlt
  · rfl
  · intro p hp
    simp only [List.mem_cons, List.mem_append, List.mem_singleton, List.cons_append, List.nil_append] at hp ⊢
    rcases hp with rfl | rfl | hp
    · exact .inr (.inl rfl)
    · exact .inl rfl
    · exact .inr (.inr hp)
end
end Mine
end
section
open PySem PySem.W PyProof.Rows PySem.Calls Builtin Builtin.ObjectAttr
namespace Mine
set_option maxRecDepth 100000
theorem ff_sa (P : Params) : findIn (Mine.hd.heap_39 P) (.ref 59) "__setattr__" = some (some (.builtin "object.__setattr__")) := by with_unfolding_all rfl
theorem ff_obj (P : Params) : mroIn (Mine.hd.heap_39 P) 59 (.type "object") = some true := by with_unfolding_all rfl
theorem ff_what (P : Params) : findIn (Mine.hd.heap_39 P) (.ref 59) "what" = some none := by with_unfolding_all rfl
theorem ff_at' (P : Params) : findIn (Mine.hd.heap_39 P) (.ref 59) "at" = some none := by with_unfolding_all rfl
section
variable {prog : Program} {w : World} {A : Around} {E : Value → Shared → Prop} {s : Shared} {R : Result → Shared → Prop} {e : Addr} {ox : Obj} {od : Option Obj} {name : Str} {v : Value} {tk : Tok}
theorem ff_open (X : (Mine.hd.heap_39 w.params).In s.heap) (I : InstAt s.heap e ox 59 od) (ha : findIn (Mine.hd.heap_39 w.params) (.ref 59) name = some none)
    (h : wpAny (model prog w) A.in1 (storeInOwnDict (.ref e) (.ref 59) (.str name tk) name v false)
      (fun fin s' => match (fin : PySem.Fin) with | PySem.Fin.done f => R (.ok f) s' | PySem.Fin.again c' => c'.quiet = true ∧ codeAny (model prog w) A c' R s') (fun e s' => R (.error e) s') s) :
    codeAny (model prog w) A (.call (.builtin "object.__setattr__") ⟨[.ref e, .str name tk, v], []⟩) R s := by
  have SF := PySem.F.store_object
  have hC := X _ _ (ff_at w.params)
  have sub : Looks (model prog w) s.heap (isInstance (.ref e) (.type "object")) true := I.type.andThen (looks_mroIn X (ff_obj w.params))
  refine codeAny_call_builtin SF.slot.plain SF.entry (@check_slot (model prog w) _ _ s "object.__setattr__" "object" "__setattr__" (.ref e) [.str name tk, v] [] _ SF.kind SF.split sub (SF.args (.ref e) (.str name tk) v) ?_)
  rw [osa_eq, refuse_eq]
  refine wpAny_bind (wpAny_bind (I.type.here (wpAny_bind (wpAny_mroOf_exc hC ?_))))
  rw [refuseLoop_ref, refuseLoop_ref, PySem.F.store_Exception.passes]
  refine wpAny_pure (wpAny_bind (I.type.here (wpAny_bind ((looks_findIn X ha).here (wpAny_bind (wpAny_pure ?_))))))
  exact h

end
theorem ff_cls (P : Params) : (clsIn (Mine.hd.heap_39 P) 59).any (·.hasDict) = true := by with_unfolding_all rfl
section
variable {prog : Program} {w : World} {A : Around} {E : Value → Shared → Prop} {h₀ : Heap} {L : Addr} {m : Str → Option Value}
theorem ff_put {h : Heap} {g : Array GenState} {d : Drawn} {tk₀ : Nat} {os : OsState} {dx : Addr} {name : Str} {tk : Tok} {v : Value} {pre post : List (Addr × Obj)} {es : List DictEntry} {n : Nat} {Q : PySem.Fin → Shared → Prop}
    (F : Fr h₀ L h m) (N : News h₀ L h (pre ++ (dx, dictOf es n) :: post)) (h1 : ∀ p ∈ pre, p.1 ≠ dx) (h2 : ∀ p ∈ post, p.1 ≠ dx) (hl : (getL name es).isSome = true) (hz : es.length ≤ 900)
    (hq : ∀ h' tk', Fr h₀ L h' m → News h₀ L h' (pre ++ (dx, dictOf (putL name (PyData.keyHash w.params name) (.str name tk₀) v es) (putN name es n)) :: post) → Q (.done (.ret .none)) ⟨h', g, d, tk', os⟩) :
    wpAny (model prog w) A (storeInDict dx (.str name tk) name v) Q E ⟨h, g, d, tk₀, os⟩ := by
  obtain ⟨U1, U2⟩ := news_upd (f := Obj.putName name (PyData.keyHash w.params name) (.str name tk₀) v) F N h1 h2 (putName_dict ..) rfl
  have D := (N (dx, dictOf es n) (by simp)).1
  have D' := (U2 _ (List.mem_append_right _ (.head _))).1
  unfold storeInDict newKeyGuard
  refine wpAny_bind (wpAny_pure (wpAny_bind ?_))
  unfold nsSet
  refine wpAny_bind (wpAny_bind (wpAny_askSetting (wpAny_pure (wpAny_bind (wpAny_mkText (wpAny_bind (wpAny_loadPart D ?_)))))))
  dsimp only
  have c : (!es.any (·.key.isStr name) && es.any (·.refKey)) = false := by
    unfold getL at hl
    split at hl
    · rename_i en he
      rw [List.any_eq_true.mpr ⟨en, List.mem_of_find?_eq_some he, List.find?_some he⟩]; rfl
    · split at hl
      · cases hl
      · rename_i z; rw [Bool.not_eq_true] at z; rw [z, Bool.and_false]
  have c' : (!es.toArray.any (·.key.isStr name) && es.toArray.any (·.refKey)) = false := by
    rw [← Array.any_toList, ← Array.any_toList]; exact c
  rw [aRefKeyMayBeTheName_at, c']
  refine wpAny_updatePart D ?_
  refine wpAny_bind (wpAny_lookBehind D' ?_ ?_)
  · have hlen : ∀ es : List DictEntry, (putL name (PyData.keyHash w.params name) (.str name tk₀) v es).length ≤ es.length + 1 := by
      intro es
      induction es with
      | nil => simp [putL]
      | cons e r ih => unfold putL; split <;> simp <;> omega
    have := hlen es
    exact pastItsLine_dict (by rw [List.size_toArray, sizeLine_eq]; omega)
  · exact wpAny_pure (hq _ _ U1 U2)
theorem ff_set1 {h : Heap} {g : Array GenState} {d : Drawn} {tk₀ : Nat} {os : OsState} {e dx : Addr} {tu : Addr} {name : Str} {v : Value} {post : List (Addr × Obj)} {es : List DictEntry} {n : Nat} {Q : Unit → Shared → Prop}
    (F : Fr h₀ L h m) (X : (Mine.hd.heap_39 w.params).In h₀) (N : News h₀ L h ((e, ffInst tu (some dx)) :: (dx, dictOf es n) :: post)) (ha : findIn (Mine.hd.heap_39 w.params) (.ref 59) name = some none)
    (h0 : e ≠ dx) (h2 : ∀ p ∈ post, p.1 ≠ dx) (hl : (getL name es).isSome = true) (hz : es.length ≤ 900)
    (hq : ∀ h' tk' es' n', Fr h₀ L h' m → News h₀ L h' ((e, ffInst tu (some dx)) :: (dx, dictOf es' n') :: post) → Q () ⟨h', g, d, tk', os⟩) :
    wpAny (model prog w) A (setAttr (.ref e) name v) Q E ⟨h, g, d, tk₀, os⟩ := by
  have X' := X.keeps F.keep
  have I : InstAt h e (ffInst tu (some dx)) 59 (some (dictOf es n)) := ⟨(N _ (.head _)).1, rfl, rfl, (N _ (.tail _ (.head _))).1⟩
  obtain ⟨cd, hc, hd'⟩ := any_some (ff_cls w.params)
  refine set_plain X' I (ff_sa w.params) (ff_open X' I ha ?_)
  unfold storeInOwnDict
  refine wpAny_bind (wpAny_pure (wpAny_bind (wpAny_bind (wpAny_loadPart I.at_ (wpAny_bind ((looks_clsIn X' hc).here ?_))))))
  rw [hd']
  refine wpAny_pure (a := some dx) (wpAny_bind (wpAny_pure ?_))
  exact ff_put (tk := tk₀) (pre := [(e, ffInst tu (some dx))]) F N (fun p hp => by rw [List.mem_singleton.mp hp]; exact h0) h2 hl hz fun h' tk' F' N' => hq _ _ _ _ F' N'
theorem ff_set0 {h : Heap} {g : Array GenState} {d : Drawn} {tk₀ : Nat} {os : OsState} {e : Addr} {tu : Addr} {name : Str} {v : Value} {post : List (Addr × Obj)} {Q : Unit → Shared → Prop}
    (F : Fr h₀ L h m) (X : (Mine.hd.heap_39 w.params).In h₀) (N : News h₀ L h ((e, ffInst tu none) :: post)) (ha : findIn (Mine.hd.heap_39 w.params) (.ref 59) name = some none)
    (h2 : ∀ p ∈ post, p.1 ≠ e)
    (hq : ∀ h' tk' dx t', e ≠ dx → (∀ p ∈ post, p.1 ≠ dx) → Fr h₀ L h' m → News h₀ L h' ((e, ffInst tu (some dx)) :: (dx, dictOf [⟨PyData.keyHash w.params name, .str name t', v⟩] 1) :: post) → Q () ⟨h', g, d, tk', os⟩) :
    wpAny (model prog w) A (setAttr (.ref e) name v) Q E ⟨h, g, d, tk₀, os⟩ := by
  have X' := X.keeps F.keep
  have I : InstAt h e (ffInst tu none) 59 none := ⟨(N _ (.head _)).1, rfl, rfl, trivial⟩
  obtain ⟨cd, hc, hd'⟩ := any_some (ff_cls w.params)
  refine set_plain X' I (ff_sa w.params) (ff_open X' I ha ?_)
  unfold storeInOwnDict
  refine wpAny_bind (wpAny_pure (wpAny_bind (wpAny_bind (wpAny_loadPart I.at_ (wpAny_bind ((looks_clsIn X' hc).here ?_))))))
  rw [hd']
  have F₁ := F.push (dictOf [] 0)
  have N₁ := News.push F N (dictOf [] 0) rfl
  have hlt := Heap.lt_size I.at_
  have hne : e ≠ h.objs.size := Nat.ne_of_lt hlt
  have hget := (N₁ (e, ffInst tu none) (.tail _ (.head _))).1
  refine wpAny_bind (wpAny_alloc' (wpAny_bind (wpAny_update' hget ?_)))
  refine wpAny_bind (wpAny_pure ?_)
  obtain ⟨U1, U2⟩ := news_upd (pre := [(h.objs.size, dictOf [] 0)]) (f := fun o => { o with dict := some h.objs.size }) (o' := ffInst tu (some h.objs.size)) F₁ N₁ (fun p hp => by rw [List.mem_singleton.mp hp]; exact hne.symm) h2 rfl rfl
  have hp : ∀ p ∈ post, p.1 ≠ h.objs.size := fun p hp => Nat.ne_of_lt (Heap.lt_size (N p (.tail _ hp)).1)
  refine wpAny_pure (wpAny_bind (wpAny_pure ?_))
  refine ff_put (tk := tk₀) (pre := [(e, ffInst tu (some h.objs.size))]) (post := post) (es := []) (n := 0) U1 ?_ (fun p hp => by rw [List.mem_singleton.mp hp]; exact hne) hp rfl (by simp) fun h' tk' F' N' => hq _ _ _ _ hne hp F' N'
  intro p hp
  refine U2 p ?_
  simp only [List.mem_cons, List.mem_append, List.mem_singleton, List.cons_append, List.nil_append] at hp ⊢
  rcases hp with rfl | rfl | hp
  · exact .inr (.inl rfl)
  · exact .inl rfl
  · exact .inr (.inr hp)
end
end Mine
end
section
open PySem PySem.W PyProof.Rows PySem.Calls
namespace Mine
set_option maxRecDepth 100000
theorem meta_exc : typeOf (.type "Exception") = pure (.type "type") := by kernel_rfl
theorem second_drop {h₀ h : Heap} {L : Addr} {p q : Addr × Obj} {news : List (Addr × Obj)} (N : News h₀ L h (p :: q :: news)) : News h₀ L h (p :: news) :=
  cb_drop N fun r hr => by
    rcases List.mem_cons.mp hr with rfl | hr
    · exact .head _
    · exact .tail _ (.tail _ hr)
section
variable {prog : Program} {w : World} {A : Around} {E : Value → Shared → Prop} {h₀ : Heap} {L : Addr} {m : Str → Option Value}
theorem exc_init2 {h : Heap} {g : Array GenState} {d : Drawn} {tk : Nat} {os : OsState} {e tu : Addr} {v : Value} {rest : List (Addr × Obj)} {Q : Value → Shared → Prop} (F : Fr h₀ L h m) (X : (Mine.hd.heap_39 w.params).In h₀) (N : News h₀ L h ((e, ffInst tu none) :: rest)) (off : ∀ p ∈ rest, p.1 ≠ e)
    (hq : ∀ h' tu', Fr h₀ L h' m → News h₀ L h' ((e, ffInst tu' none) :: rest) → Q .none ⟨h', g, d, tk, os⟩) :
    wpAny (model prog w) A (call (.builtin "Exception.__init__") [.ref e, v]) Q E ⟨h, g, d, tk, os⟩ :=
  exc_init F X N off fun h' tu' F' N' => hq h' tu' F' (cb_drop N' fun p hp => by
    rcases List.mem_cons.mp hp with rfl | hp
    · exact .head _
    · exact .tail _ (.tail _ hp))
end
section
local macro_rules | `(tactic| walk_at "getMethod type:Exception") => `(tactic| (k_here; refine' method_type ?F ?X ?m (by decide +kernel) ?e ?h ?_; (case F => k_asm); (case X => k_asm); (case m => exact meta_exc); (case e => k_dflt k_is); (case h => k_handed)))
local macro_rules | `(tactic| walk_at "call builtin:Exception.__init__") => `(tactic| (k_here; k_dflt (refine' exc_init2 ?F ?X ?N ?off ?_; (case F => k_asm); (case X => k_asm); (case N => k_asm); (case off => assumption)); intro h' tu' F' N'))
local macro_rules | `(tactic| walk_at "setAttr ref") => `(tactic| (k_here; k_dflt (refine' ff_set0 ?F ?X ?N (ff_what _) ?off ?_; (case F => k_asm); (case X => k_asm); (case N => k_asm); (case off => assumption)); intro h' tk' dx' t' ne' off' F' N'))
local macro_rules | `(tactic| walk_at "setAttr ref") => `(tactic| (k_here; k_dflt (refine' ff_set1 ?F ?X ?N (ff_at' _) ?ne ?off ?l ?z ?_; (case F => k_asm); (case X => k_asm); (case N => k_asm); (case ne => assumption); (case off => assumption); (case l => rfl); (case z => (simp only [List.length_cons, List.length_nil]; omega))); intro h' tk' es' n' F' N'))
set_option maxHeartbeats 8000000 in
theorem fi_walk {w : World} {mean : ExcName → Option Value} {mg mb : Str → Option Value} {e tu : Addr} (x : Str) (t : Tok) (dp un : Nat) (gd : Option (List Code)) (cn : Str) (cs : Scope) (a : Addr) (ccd : Value) (cl : List (Str × Addr)) (outer : List Env) (A₀ : Around) (base h₀ : Heap) (L : Addr) (m : Str → Option Value) (news : List (Addr × Obj)) (s : Shared) (Q E : Value → Shared → Prop)
  (B : Below A₀ base outer h₀) (F : Fr h₀ L s.heap m) (X : (Mine.hd.heap_39 w.params).In h₀) (N : News h₀ L s.heap ((e, ffInst tu none) :: news)) (off : ∀ p ∈ news, p.1 ≠ e) (T : Top Mine.hd.view_39 Lo mean mg mb h₀) (hk : cs.kind = .function)
  (hd : dp + 3 < recursionLimit) (hu : un + 24 < cLine)
  (hret : ∀ h' tk' tu' dx, Fr h₀ L h' m → News h₀ L h' ((e, ffInst tu' (some dx)) :: news) → Q .none { s with heap := h', toks := tk' }) :
  wpAny (model PySem.Challenge.rw_og0125_01.row.prog w) ((ktrTop dp un gd cn cs L a ccd cl outer).under (.builtin "type.__call__" ⟨[.ref 59, .str x t], []⟩)) (call (.ref 36) [.ref e, .str x t]) Q E s := by
  k_with_none
  (revert X; k_fill; intro X)
  refine wpAny_call ?_
  k_dflt (refine' code_def ?k1 ?k2 ?k3 ?k4 ?k5 ?kA ?kF ?kK ?k6 ?k7 ?k8 ?k9 ?kB ?_ ?c2 ?c3 ?c4 ?c5; (case kA => exact rfl); (case kF => exact rfl); (case kK => assumption); (case k1 => k_asm); (case k2 => k_asm); (case k3 => k_asm); (case k4 => k_asm); (case k5 => k_asm); (case k6 => k_is); (case k7 => k_is); (case k8 => ktr_room); (case k9 => exact binds_K (by k_in) rfl (by k_is) rfl rfl rfl); (case c5 => decide); (case kB => exact locs rfl); (case c2 => exact rfl); (case c3 => exact rfl); (case c4 => exact rfl); k_whole; intro g' L' h' FG' F' N' B' X' T'; (try dsimp only); (try k_lift B'); (try k_fold))
  k_steps
  (with_reducible rename News _ _ _ _ => kN9)
  (with_reducible rename Fr _ _ _ _ => kF9)
  exact hret _ _ _ _ kF9 (second_drop kN9)
end
end Mine
end
section
open PySem PySem.W PyProof.Rows PySem.Calls
namespace Mine
set_option maxRecDepth 100000
/-- FontFault(text) gives an object, all that stood stands -/
theorem c_ff {w : World} {mean : ExcName → Option Value} {mg mb : Str → Option Value} (x : Str) (t : Tok) (dp un : Nat) (gd : Option (List Code)) (cn : Str) (cs : Scope) (a : Addr) (ccd : Value) (cl : List (Str × Addr)) (outer : List Env) (A₀ : Around) (base h₀ : Heap) (L : Addr) (m : Str → Option Value) (news : List (Addr × Obj)) (s : Shared) (Q E : Value → Shared → Prop)
  (B : Below A₀ base outer h₀) (F : Fr h₀ L s.heap m) (X : (Mine.hd.heap_39 w.params).In h₀) (N : News h₀ L s.heap news) (T : Top Mine.hd.view_39 Lo mean mg mb h₀) (hk : cs.kind = .function)
  (hd : dp + 3 < recursionLimit) (hu : un + 24 < cLine)
  (hret : ∀ e tu dx h' tk', (∀ p ∈ news, p.1 ≠ e) → Fr h₀ L h' m → News h₀ L h' ((e, ffInst tu (some dx)) :: news) → Q (.ref e) { s with heap := h', toks := tk' }) :
  wpAny (model PySem.Challenge.rw_og0125_01.row.prog w) (ktrTop dp un gd cn cs L a ccd cl outer) (call (.ref 59) [.str x t]) Q E s := by
  obtain ⟨h, g, d, tk, os⟩ := s
  refine ff_call (X.keeps F.keep) fun h' e hm => ?_
  obtain ⟨tu, he, ht, hte⟩ := hm.there
  have F' : Fr h₀ L h' m := F.keeps hm.keeps
  have hne : ∀ b, h.get? b = none → h₀.get? b = none := fun b hb => by
    cases q : h₀.get? b with
    | none => rfl
    | some o => have := F.keep b o q; rw [hb] at this; cases this
  have N' : News h₀ L h' ((e, ffInst tu none) :: news) := by
    refine News.more F' (fun p hp => ⟨hm.keeps _ _ (N p hp).1, (N p hp).2⟩) he (fun es n q => by cases q) (hne e hm.new)
  have off : ∀ p ∈ news, p.1 ≠ e := fun p hp q => by
    have := (N p hp).1
    rw [q, hm.new] at this; cases this
  exact fi_walk x t dp un gd cn cs a ccd cl outer A₀ base h₀ L m news ⟨h', g, d, tk, os⟩ _ E B F' X N' off T hk hd hu fun h'' tk' tu' dx F'' N'' => ⟨rfl, hret e tu' dx h'' tk' off F'' N''⟩
section
variable {M : Model} {A : Around} {E : Value → Shared → Prop} {s : Shared} {env : Env}
theorem ff_raise {e₀ : PySem.Expr} {pos : Pos} {Q : Flow → Shared → Prop} (hh : A.handled = none)
    (h : wpAny M A (eval e₀ env) (fun v s₁ => ∃ e t dx, v = .ref e ∧ s₁.heap.get? 59 = some ffObj ∧ s₁.heap.get? e = some (ffInst t dx) ∧ E (.ref e) s₁) E s) :
    wpAny M A (exec (.Raise (some e₀) none pos) env) Q E s := by
  have hcB : (Value.ref 59 :: ffBm).contains (.type "BaseException") = true := by decide
  show wpAny M A (do standAt pos; raiseStmt env (some (do let v ← eval e₀ env; standAt pos; pure v)) none) Q E s
  refine wpAny_bind (wpAny_standAt ?_)
  unfold raiseStmt
  refine wpAny_bind (wpAny_mono (wpAny_bind (wpAny_mono h (fun v s₁ h₁ => wpAny_bind (wpAny_standAt (wpAny_pure h₁))) fun _ _ x => x)) (fun v s₁ h₁ => ?_) fun _ _ x => x)
  obtain ⟨e, t, dx, rfl, hC, he, hE⟩ := h₁
  obtain ⟨hp, g, d, tk, os⟩ := s₁
  repeat (first | with_reducible refine wpAny_loadPart_at he ?_ | with_reducible refine wpAny_loadPart_at hC ?_ | (with_reducible refine wpAny_isSubtype_exc hC ?_; rw [hcB]) | wp_step)
  exact wpAny_raiseNew_none hh hE
end
end Mine
end
section
open PySem PySem.W PyProof.Rows PySem.Calls PySem.Spec
namespace Mine
set_option maxRecDepth 100000
section
variable {M : Model} {A : Around} {E : Value → Shared → Prop} {s' : Shared} {base g : Heap} {outer : List Env} {L a e t : Addr} {m : Str → Option Value} {name : Str} {scope : Scope} {cd : Value} {Q : Unit → Shared → Prop} {news : List (Addr × Obj)} {dx : Option Addr}
/-- an object of FontFault, made in this frame, leaves it -/
theorem leave_ff (K : Below A base outer g) (F : Fr g L s'.heap m) (N : News g L s'.heap ((e, ffInst t dx) :: news)) (off : ∀ p ∈ news, p.1 ≠ e)
    (hQ : ∀ h', RaisedSN base g outer e (.ref 59) news h' → g.UpToSlots h' → Q () { s' with heap := h' }) (hk : scope.kind = .function := by rfl) :
    wpAny M (A.deeper (envOf name scope L a cd)) (leaving (envOf name scope L a cd) (.ref e)) Q E s' := by
  have K' := K.push (name := name) (a := a) (cd := cd) F hk
  let fs := (envOf name scope L a cd :: outer).filterMap (·.frame)
  obtain ⟨he, heL, heg⟩ := N (e, ffInst t dx) (.head _)
  have memf : ∀ b, b ∈ fs → b = L ∨ b ∈ outer.filterMap (·.frame) := fun b hb => kts_mem hb
  have hin : ∀ env ∈ (envOf name scope L a cd :: outer), ∀ b, env.frame = some b → b ∈ e :: fs := fun env he b hb => .tail _ (List.mem_filterMap.mpr ⟨env, he, hb⟩)
  have keepB : ∀ b o, g.get? b = some o → b ∉ outer.filterMap (·.frame) → (hideAll s'.heap (e :: fs)).get? b = some o := fun b o q nm => hideAll_get _ (F.keep b o q) fun hm => by
    rcases List.mem_cons.mp hm with rfl | hm
    · rw [heg] at q; cases q
    · rcases memf _ hm with rfl | z
      · rw [kts_self F] at q; cases q
      · exact nm z
  have st : base.StaysIn (hideAll s'.heap (e :: fs)) := fun b o q => hideAll_get _ (K'.stays b o q) fun hm => by
    rcases List.mem_cons.mp hm with rfl | hm
    · have := K.stays _ _ q; rw [heg] at this; cases this
    · rw [(K'.frames.mem hm).1] at q; cases q
  have hl : ∀ q ∈ news, (hideAll s'.heap (e :: fs)).get? q.1 = some q.2 ∧ g.get? q.1 = none ∧ base.get? q.1 = none := fun q hq => by
    obtain ⟨n1, n2, n3⟩ := N q (.tail _ hq)
    refine ⟨hideAll_get _ n1 fun hm => ?_, n3, fresh_of_stays K.stays n3⟩
    rcases List.mem_cons.mp hm with z | hm
    · exact off q hq z
    · rcases memf _ hm with z | z
      · exact n2 z
      · obtain ⟨_, o, ho, _⟩ := K.frames.mem z
        rw [n3] at ho; cases ho
  refine wpAny_leaving_firstW (a0 := .ref t) K'.stack (funFrames_hide K'.frames hin) rfl he (fun b o hb => of_hideAll _ hb) (hideAll_none _ (.head _)) rfl rfl rfl fun h' hL => ?_
  obtain ⟨k1, ⟨_, _, k2⟩, k3, k4⟩ := hL
  exact hQ h' ⟨_, .ref t, st, keepB, hl, k1, hideAll_none _ (.head _), k2, k3⟩ ((Heap.UpToSlots.of_keeps F.keep).trans k4)
end
section
local macro_rules | `(tactic| walk_at "exec Raise some none") => `(tactic| (refine ff_raise rfl ?_))
local macro_rules | `(tactic| walk_at $s:str) => `(tactic| k_extra $s)
set_option maxHeartbeats 8000000 in
theorem c_glyph_f {w : World} {mean : ExcName → Option Value} {mg mb : Str → Option Value} (k : Int) (t : Tok) (hs : isSign k = false) (dp un : Nat) (gd : Option (List Code)) (cn : Str) (cs : Scope) (a : Addr) (ccd : Value) (cl : List (Str × Addr)) (outer : List Env) (A₀ : Around) (base h₀ : Heap) (L : Addr) (m : Str → Option Value) (news : List (Addr × Obj)) (s : Shared) (Q E : Value → Shared → Prop)
    (B : Below A₀ base outer h₀) (F : Fr h₀ L s.heap m) (X : (Mine.hd.heap_39 w.params).In h₀) (N : News h₀ L s.heap news) (T : Top Mine.hd.view_39 Lo mean mg mb h₀) (hk : cs.kind = .function)
    (hd : dp + 6 < recursionLimit) (hu : un + 48 < cLine)
    (hE : ∀ G e h' tk', Fr h₀ L G m → RaisedSN base G (envX cn cs L a ccd cl :: outer) e (.ref 59) news h' → G.UpToSlots h' → E (.ref e) { s with heap := h', toks := tk' }) :
    wpAny (model PySem.Challenge.rw_og0125_01.row.prog w) (ktrTop dp un gd cn cs L a ccd cl outer) (call (.ref 103) [.int k t]) Q E s := by
  k_with_none
  (revert X; k_fill; intro X)
  refine wpAny_call ?_
  k_dflt cell_enter
  (k_with "call ref" => (k_here; k_dflt (refine' c_sign_f _ _ _ _ _ _ _ _ _ _ _ _ _ _ _ _ _ _ _ _ _ _ _ _ _ _ _ _ _ _; (all_goals (try ((with_reducible show News _ _ _ _); k_asm))); (all_goals (try ((with_reducible show isSign _ = _); assumption))); (all_goals (try ((with_reducible show Below _ _ _ _); k_asm))); (all_goals (try ((with_reducible show Fr _ _ _ _); k_asm))); (all_goals (try ((with_reducible show Frag.In _ _); k_asm))); (all_goals (try ((with_reducible show Top _ _ _ _ _ _); k_asm))); (all_goals (try ((with_reducible show _ = ScopeKind.function); first | exact rfl | assumption))); (all_goals (try ((with_reducible show _ < recursionLimit); ktr_room))); (all_goals (try ((with_reducible show _ < cLine); ktr_units)))); intro t' h' tk' F' N'; (try k_sweep)))
  k_steps
  (with_reducible rename Fr h₀ L _ m => FG')
  (with_reducible rename Below _ _ _ _ => B')
  k_here
  k_dflt (refine' c_ff _ _ _ _ _ _ _ _ _ _ _ _ _ _ _ _ _ _ _ _ ?k1 ?k2 ?k3 ?k4 ?k5 ?kK ?kd ?ku (fun e' tu' dx' h' tk' off' F' N' => ⟨_, tu', some dx', rfl, ?A, ?B, ?C⟩))
  case k1 => k_asm
  case k2 => k_asm
  case k3 => k_asm
  case k4 => k_asm
  case k5 => k_asm
  case kK => first | exact rfl | assumption
  case kd => ktr_room
  case ku => ktr_units
  case A => exact (X.keeps (FG'.keep)).keeps F'.keep _ _ (ff_at w.params)
  case B => exact (N' _ (.head _)).1
  case C => exact leave_ff (dx := some dx') B' F' N' off' (fun h'' R U => hE _ _ _ _ FG' R U) rfl
end
end Mine
end
section
open PySem PySem.W PyProof.Rows PySem.Calls
namespace Mine
set_option maxRecDepth 100000
section
local macro_rules | `(tactic| walk_at $s:str) => `(tactic| k_extra $s)
set_option maxHeartbeats 8000000 in
theorem c_heard_t {w : World} {mean : ExcName → Option Value} {mg mb : Str → Option Value} (k : Int) (t : Tok) (hs : isSign k = true) : Cl w mean mg mb 143 5 48 [.int k t] (RetV fun t => .str (gn k) t) := by
  unfold Cl RetV
  k_with_none
  k_fill
  intro dp un gd cn cs a ccd cl outer A₀ base h₀ L m news s Q E B F X N T hk hd hu hret
  refine wpAny_call ?_
  k_dflt cell_enter
  (k_with "call ref" => (k_here; k_dflt (refine' c_glyph _ _ _ _ _ _ _ _ _ _ _ _ _ _ _ _ _ _ _ _ _ _ _ _ _ _ _ _ _ _; (all_goals (try ((with_reducible show News _ _ _ _); k_asm))); (all_goals (try ((with_reducible show isSign _ = _); assumption))); (all_goals (try ((with_reducible show Below _ _ _ _); k_asm))); (all_goals (try ((with_reducible show Fr _ _ _ _); k_asm))); (all_goals (try ((with_reducible show Frag.In _ _); k_asm))); (all_goals (try ((with_reducible show Top _ _ _ _ _ _); k_asm))); (all_goals (try ((with_reducible show _ = ScopeKind.function); first | exact rfl | assumption))); (all_goals (try ((with_reducible show _ < recursionLimit); ktr_room))); (all_goals (try ((with_reducible show _ < cLine); ktr_units)))); intro t' h' tk' F' N'; (try k_sweep)))
  k_steps
  all_goals exact cb_retS (Q := Q) hret rfl (by k_asm) (by k_asm)
end
end Mine
end
section
open PySem PySem.W PyProof.Rows PySem.Calls PySem.Spec
namespace Mine
set_option maxRecDepth 100000
section
variable {prog : Program} {w : World} {A₀ : Around} {E : Value → Shared → Prop} {s' : Shared} {base g G : Heap} {outer : List Env} {L a e : Addr} {m : Str → Option Value} {name : Str} {scope : Scope} {cd : Value}
  {b₀ : Stmt} {suite : List Stmt} {pos np : Pos} {rest : List ExceptHandler} {Q : Flow → Shared → Prop} {news : List (Addr × Obj)}
  {p : Program} {loose : List Str} {mean : ExcName → Option Value} {mg mb : Str → Option Value} {x : Str}
/-- «except FontFault» takes a FontFault that a callee raised -/
theorem caught_ff (R : RaisedSN base G (envOf name scope L a cd :: outer) e (.ref 59) news s'.heap) (F : Fr g L G m) (K : Below A₀ base outer g) (hsm : G.UpToSlots s'.heap) (XB : (Mine.hd.heap_39 w.params).In base) (TB : Top p loose mean mg mb base)
    (ex : nsIn (Mine.hd.heap_39 w.params) mainGlobals x = some (some (.ref 59)))
    (k : ∀ h' g', KtsTurn (outer.filterMap (·.frame)) g g' → Fr g' L h' m → News g' L h' news → Below A₀ base outer g' → (Mine.hd.heap_39 w.params).In g' → Top p loose mean mg mb g' →
      wpAny (model prog w) ((A₀.deeper (envOf name scope L a cd)).mark (some (.ref e))) (execs (b₀ :: suite) (envOf name scope L a cd)) Q E { s' with heap := h' })
    (hk : scope.kind = .function := by rfl) (hx : (envOf name scope L a cd).kindOf x = some .globalImplicit := by rfl) (hd : (x == ("__debug__" : Str)) = false := by decide)
    (hE : PassesOwnAt (model prog w) ((A₀.deeper (envOf name scope L a cd)).mark (some (.ref e))) (A₀.deeper (envOf name scope L a cd)) (envOf name scope L a cd) E := by passes_own) :
    wpAny (model prog w) (A₀.deeper (envOf name scope L a cd)) (noteFrame (.ref e) (envOf name scope L a cd))
      (fun _ s₂ => wpAny (model prog w) (A₀.deeper (envOf name scope L a cd)) (setFlight (.ref e) none) (fun _ s₃ =>
        wpAny (model prog w) (A₀.deeper (envOf name scope L a cd)) (handleBy (.ref e) (envOf name scope L a cd) (.ExceptHandler (some (.Name x np)) none (b₀ :: suite) pos :: rest)) Q E s₃) E s₂) E s' := by
  obtain ⟨B, a0, hB, hBG, hl, hfl⟩ := R
  have hL : B.get? L = none := by
    obtain ⟨_, ⟨L', _, hf, hn', _⟩, _⟩ := hfl.2.2.1
    obtain rfl : L = L' := Option.some.inj hf
    exact hn'
  refine wpAny_looks_onW (Around.frames_deeper K.stack) rfl hfl fun h₁ held₁ up₁ => ?_
  refine wpAny_landsW held₁ fun h₂ held₂ up₂ => ?_
  have up := up₁.trans up₂
  obtain ⟨g₂, T₂, F₂, K₂⟩ := kts_ground K F hBG held₂.1 (hsm.trans up)
  have X₂ : (Mine.hd.heap_39 w.params).In g₂ := XB.keeps K₂.stays
  obtain ⟨ob, hob, hobc⟩ := held₂.there
  have hC := F₂.keep _ _ (X₂ _ _ (ff_at w.params))
  refine wpAny_handleBy_cons (codeAny_handlers_test (name_K F₂ X₂ (topRead_of (TB.keeps K₂.stays)) ex ?_ hk hx hd)) (by intro q; cases q)
  refine wpAny_excMatches_sub_self hC hob hobc (by decide) (codeAny_handlers_suite ?_)
  refine lands_againW held₂ fun h₃ fl₃ up₃ => ?_
  obtain ⟨g₃, T₃, F₃, K₃⟩ := kts_ground K F hBG fl₃.1 ((hsm.trans up).trans up₃)
  have N₃ : News g₃ L h₃ news := fun q hq => ⟨fl₃.1 _ _ (hl q hq).1, (fun z => by have := (hl q hq).1; rw [z, hL] at this; cases this), T₃.none_ _ (kts_none F.keep (hl q hq).2.1)⟩
  exact wpAny_passesOwnAt hE (k h₃ g₃ T₃ F₃ N₃ K₃ (XB.keeps K₃.stays) (TB.keeps K₃.stays))
end
section
variable {prog : Program} {w : World} {A₀ A : Around} {s : Shared} {base h₀ : Heap} {L : Addr} {m : Str → Option Value} {env : Env} {news : List (Addr × Obj)} {K : Frag} {p : Program} {loose : List Str} {mean : ExcName → Option Value} {mg mb : Str → Option Value}
    {R : Result → Shared → Prop} {name qual : Str} {params : Arguments} {body : List Stmt} {scope : Scope} {dV kV doc pm cdv ct oc : Value} {an od : Option Addr} {osl : Array (Option Value)} {f : Addr} {args : Args} {binds : List (Str × Value)}
/-- a def is entered whose body may catch what a callee raises: the caller's frame alone may turn, its slots -/
theorem enter_catching (B : Below A₀ base [] h₀) (F : Fr h₀ L s.heap m) (X₀ : K.In h₀) (N : News h₀ L s.heap news) (T : Top p loose mean mg mb h₀) (hA : A.frames = some [env]) (hf : env.frame = some L) (hke : env.scope.kind = .function)
    (ho : K.lookup f = some ⟨oc, od, .func (fnOf name qual params body scope dV kV doc pm an cdv ct), osl⟩) (hcd : codeIn K cdv qual = true) (hroom : A.depth < recursionLimit)
    (hbind : BindsTo s (fnOf name qual params body scope dV kV doc pm an cdv ct) args binds) (hloc : ∀ y ∈ binds, scope.names.lookup y.1 = some .local)
    (h : ∀ g L' h₁, Fr h₀ L g m → Fr g L' h₁ (fun y => binds.reverse.lookup y) → News g L' h₁ news → Below A base [env] g → K.In g → Top p loose mean mg mb g →
      wpAny (model prog w) (A.deeper (envOf qual scope L' f cdv)) (execs body (envOf qual scope L' f cdv))
        (fun fl s' => LeaveS0 [L] h₀ L m g R (match fl with | .ret v => v | _ => .none) s')
        (fun e s' => wpAny (model prog w) (A.deeper (envOf qual scope L' f cdv)) (leaving (envOf qual scope L' f cdv) e) (fun _ s'' => R (.error e) s'') (fun e' s'' => R (.error e') s'') s')
        { s with heap := h₁, toks := s.toks + binds.length })
    (hco : scope.isCoroutine = false) (hgen : scope.isGenerator = false) (hk : scope.kind = .function)
    (hcell : ∀ x ∈ scope.names, x.2 ≠ .cell) : codeAny (model prog w) A (.call (.ref f) args) R s := by
  have X := X₀.keeps F.keep
  refine codeAny_call_def (fd := fnOf name qual params body scope dV kV doc pm an cdv ct) (body := body) (binds := binds) hroom (X _ _ ho) rfl (T.nolimit.keeps F.keep) (codeRec_of X hcd) rfl hbind hcell hloc (fun h₁ hns hk₁ => ?_) hco hgen hk
  obtain ⟨FG, BG, st, _⟩ := groundX (R := R) B F N hA hf hke
  refine wpAny_mono (h _ s.heap.objs.size h₁ FG ⟨hns, fun b o e => hk₁ b o (of_hideAll _ e), Nat.le_of_eq (hideAll_size _ _)⟩
    (fun p hp => ⟨hk₁ _ _ (N p hp).1, Nat.ne_of_lt (Heap.lt_size (N p hp).1), hideAll_none _ (List.mem_map_of_mem hp)⟩) BG (X₀.keeps st) (T.keeps st)) (fun fl s' hl => ?_) fun _ _ y => y
  obtain ⟨g', L', m', news', T', F', N', k⟩ := hl
  obtain ⟨oL, es, ep, hLg, hLd, hLk, hLf⟩ := FG.ns
  have nL₀ : h₀.get? L = none := kts_self F
  obtain ⟨sl, hs⟩ := T'.up hLg
  refine k ⟨⟨_, es, ep, F'.keep _ _ hs, hLd, hLk, hLf⟩, fun b o e => F'.keep b o (T'.other b o (st b o e) fun q => ?_), F.above⟩ fun p hp => ⟨(N' p hp).1, fun q => ?_, ?_⟩
  · rw [List.mem_singleton.mp q, nL₀] at e; cases e
  · have := (N' p hp).2.2
    rw [q, hs] at this; cases this
  · cases q : h₀.get? p.1 with
    | none => rfl
    | some o =>
      obtain ⟨sl', hs'⟩ := T'.up (st _ _ q)
      have := (N' p hp).2.2
      rw [hs'] at this; cases this
end
end Mine
end
section
open PySem PySem.W PyProof.Rows PySem.Calls PySem.Spec
namespace Mine
set_option maxRecDepth 100000
section
local macro_rules | `(tactic| walk_at "noteFrame ref") => `(tactic| (k_here; k_dflt (refine' caught_ff ?R ?F ?K ?U ?XB ?TB ?ex ?_; (case R => assumption); (case F => assumption); (case K => assumption); (case U => assumption); (case XB => assumption); (case TB => assumption); (case ex => k_is)); intro h' g' T' F' N' K' X' P'; (try k_lift K'); (try k_sweep)))
local macro_rules | `(tactic| walk_at $s:str) => `(tactic| k_extra $s)
set_option maxHeartbeats 8000000 in
theorem c_heard_f {w : World} {mean : ExcName → Option Value} {mg mb : Str → Option Value} (k : Int) (t : Tok) (hs : isSign k = false) (dp un : Nat) (gd : Option (List Code)) (cn : Str) (cs : Scope) (a : Addr) (ccd : Value) (cl : List (Str × Addr)) (A₀ : Around) (base h₀ : Heap) (L : Addr) (m : Str → Option Value) (news : List (Addr × Obj)) (s : Shared) (Q E : Value → Shared → Prop)
    (B : Below A₀ base [] h₀) (F : Fr h₀ L s.heap m) (X : (Mine.hd.heap_39 w.params).In h₀) (N : News h₀ L s.heap news) (T : Top Mine.hd.view_39 Lo mean mg mb h₀) (XB : (Mine.hd.heap_39 w.params).In base) (TB : Top Mine.hd.view_39 Lo mean mg mb base) (hk : cs.kind = .function)
    (hd : dp + 8 < recursionLimit) (hu : un + 64 < cLine)
    (hret : ∀ h' tk', Fr h₀ L h' m → News h₀ L h' news → Q .none { s with heap := h', toks := tk' }) :
    wpAny (model PySem.Challenge.rw_og0125_01.row.prog w) (ktrTop dp un gd cn cs L a ccd cl []) (call (.ref 143) [.int k t]) Q E s := by
  k_with_none
  (revert X; k_fill; intro X)
  refine wpAny_call ?_
  k_dflt (refine' enter_catching ?k1 ?k2 ?k3 ?k4 ?k5 ?kA ?kF ?kK ?k6 ?k7 ?k8 ?k9 ?kB ?_ ?c2 ?c3 ?c4 ?c5; (case kA => exact rfl); (case kF => exact rfl); (case kK => assumption); (case k1 => k_asm); (case k2 => k_asm); (case k3 => k_asm); (case k4 => k_asm); (case k5 => k_asm); (case k6 => k_is); (case k7 => k_is); (case k8 => ktr_room); (case k9 => exact BindsTo.of_eq rfl); (case c5 => decide); (case kB => exact locs rfl); (case c2 => exact rfl); (case c3 => exact rfl); (case c4 => exact rfl); k_whole; intro g' L' h' FG' F' N' B' X' T'; (try dsimp only); (try k_lift B'); (try k_fold))
  (k_with "call ref" => (k_here; k_dflt (refine' c_glyph_f _ _ _ _ _ _ _ _ _ _ _ _ _ _ _ _ _ _ _ _ _ _ _ _ _ _ _ _ _ _; (all_goals (try ((with_reducible show News _ _ _ _); k_asm))); (all_goals (try ((with_reducible show isSign _ = _); assumption))); (all_goals (try ((with_reducible show Below _ _ _ _); k_asm))); (all_goals (try ((with_reducible show Fr _ _ _ _); k_asm))); (all_goals (try ((with_reducible show Frag.In _ _); k_asm))); (all_goals (try ((with_reducible show Top _ _ _ _ _ _); k_asm))); (all_goals (try ((with_reducible show _ = ScopeKind.function); first | exact rfl | assumption))); (all_goals (try ((with_reducible show _ < recursionLimit); ktr_room))); (all_goals (try ((with_reducible show _ < cLine); ktr_units)))); intro G' e' h' tk' F' R' U'))
  k_steps
  exact hret _ _ (by k_asm) (by k_asm)
end
end Mine
end
section
open PySem PySem.W PyProof.Rows PySem.Calls PySem.Spec
namespace Mine
set_option maxRecDepth 100000
/-- the pot's three parts -/
abbrev potL (C : Addr) (st : Int) (t1 : Tok) (pl : Int) (t2 : Tok) : List Value := [.ref C, .int st t1, .int pl t2]
structure PotOk (ns : List Int) (st : Int) : Prop where
  len : ns.length ≤ 40
  pos : ∀ x ∈ ns, 0 ≤ x ∧ x < 10 ^ 400
  lo : 0 ≤ st
  hi : st < 2147483647
section
variable {prog : Program} {w : World} {A : Around} {E : Value → Shared → Prop} {s : Shared} {h₀ : Heap} {L D C : Addr} {m : Str → Option Value} {ms : List Value} {ns : List Int} {nC nD : Nat} {st pl k v : Int} {t t1 t2 u : Tok} {news : List (Addr × Obj)} {Q : Unit → Shared → Prop}
theorem off1_mem {D : Addr} : ∀ {l : List (Addr × Obj)}, LCg.Off1 D l → ∀ p ∈ l, p.1 ≠ D
  | [], _, p, hp => nomatch hp
  | q :: r, o, p, hp => by
    rcases List.mem_cons.mp hp with rfl | hp
    · exact o.1
    · exact off1_mem o.2 p hp
theorem pot_set2 (F : Fr h₀ L s.heap m) (N : News h₀ L s.heap ((D, listOf (potL C st t1 pl t2).toArray nD) :: (C, listOf ms.toArray nC) :: news)) (hDC : @Ne Nat D C) (offD : LCg.Off1 D news)
    (h : ∀ h', Fr h₀ L h' m → News h₀ L h' ((D, listOf (potL C st t1 v u).toArray nD) :: (C, listOf ms.toArray nC) :: news) → Q () { s with heap := h' }) :
    wpAny (model prog w) A (setItem (.ref D) (.int 2 t) (.int v u)) Q E s := by
  have z := N (D, listOf (potL C st t1 pl t2).toArray nD) (.head _)
  refine ki_setAt z.1 (by decide) (by decide) (by simp) (h _ (F.change (Heap.SameBut.update ..) z.2.1 z.2.2) (ki_turn (pre := []) _ N (fun _ hp => nomatch hp) (fun p hp => ?_) ?_ ?_))
  · rcases List.mem_cons.mp hp with rfl | hp
    · exact fun q => hDC q.symm
    · exact off1_mem offD p hp
  · rfl
  · rfl
theorem pot_set1 (F : Fr h₀ L s.heap m) (N : News h₀ L s.heap ((D, listOf (potL C st t1 pl t2).toArray nD) :: (C, listOf ms.toArray nC) :: news)) (hDC : @Ne Nat D C) (offD : LCg.Off1 D news)
    (h : ∀ h', Fr h₀ L h' m → News h₀ L h' ((D, listOf (potL C v u pl t2).toArray nD) :: (C, listOf ms.toArray nC) :: news) → Q () { s with heap := h' }) :
    wpAny (model prog w) A (setItem (.ref D) (.int 1 t) (.int v u)) Q E s := by
  have z := N (D, listOf (potL C st t1 pl t2).toArray nD) (.head _)
  refine ki_setAt z.1 (by decide) (by decide) (by simp) (h _ (F.change (Heap.SameBut.update ..) z.2.1 z.2.2) (ki_turn (pre := []) _ N (fun _ hp => nomatch hp) (fun p hp => ?_) ?_ ?_))
  · rcases List.mem_cons.mp hp with rfl | hp
    · exact fun q => hDC q.symm
    · exact off1_mem offD p hp
  · rfl
  · rfl
theorem ints_set {x : Int} {u : Tok} : ∀ {vs : List Value} {xs : List Int}, IntsAre vs xs → ∀ j : Nat, IntsAre (vs.set j (.int x u)) (xs.set j x)
  | _, _, .nil, _ => .nil
  | _, _, .cons _ _ h, 0 => .cons x u h
  | _, _, .cons i t h, j + 1 => .cons i t (ints_set h j)
theorem pot_set0 (F : Fr h₀ L s.heap m) (N : News h₀ L s.heap ((D, listOf (potL C st t1 pl t2).toArray nD) :: (C, listOf ms.toArray nC) :: news)) (hDC : @Ne Nat D C) (offC : LCg.Off1 C news) (hi : IntsAre ms ns) (h0 : 0 ≤ k) (h1 : k < ns.length) (hfit : k < 2 ^ 63)
    (h : ∀ h', Fr h₀ L h' m → News h₀ L h' ((D, listOf (potL C st t1 pl t2).toArray nD) :: (C, listOf (ms.set k.toNat (.int v u)).toArray nC) :: news) → IntsAre (ms.set k.toNat (.int v u)) (ns.set k.toNat v) → Q () { s with heap := h' }) :
    wpAny (model prog w) A (setItem (.ref C) (.int k t) (.int v u)) Q E s := by
  have z := N (C, listOf ms.toArray nC) (.tail _ (.head _))
  have hl := hi.length
  refine ki_setAt z.1 h0 hfit (by rw [List.size_toArray, hl]; exact h1) (h _ (F.change (Heap.SameBut.update ..) z.2.1 z.2.2) (ki_turn (pre := [(D, listOf (potL C st t1 pl t2).toArray nD)]) _ N (fun p hp => ?_) (off1_mem offC) ?_ ?_) (ints_set hi _))
  · rw [List.mem_singleton.mp hp]; exact hDC
  · show ms.toArray.setIfInBounds k.toNat (.int v u) = (ms.set k.toNat (.int v u)).toArray
    apply Array.toList_inj.mp
    simp
  · simp
end
theorem fmod_in (x : Int) {l : Int} (h : 1 ≤ l) : 0 ≤ x.fmod l ∧ x.fmod l < l := ⟨Int.fmod_nonneg_of_pos x (by omega), Int.fmod_lt_of_pos x (by omega)⟩
theorem fmod_len (x : Int) {ns : List Int} (h : (0 : Int) < ns.length) : 0 ≤ x.fmod (ns.length : Int) ∧ x.fmod (ns.length : Int) < ns.length := fmod_in x h
theorem potOk_st {ns : List Int} {st : Int} (ok : PotOk ns st) (v : Int) : PotOk ns (v.fmod 2147483647) :=
  ⟨ok.len, ok.pos, (fmod_in v (by decide)).1, (fmod_in v (by decide)).2⟩
theorem getD_pos {ns : List Int} {st : Int} (ok : PotOk ns st) (j : Nat) : 0 ≤ ns.getD j 0 ∧ ns.getD j 0 < 10 ^ 400 := by
  by_cases h : j < ns.length
  · rw [List.getD_eq_getElem?_getD, List.getElem?_eq_getElem h]
    exact ok.pos _ (List.getElem_mem h)
  · rw [List.getD_eq_getElem?_getD, List.getElem?_eq_none (by omega)]
    decide
theorem fmod_fit {x : Int} {ns : List Int} {st : Int} (ok : PotOk ns st) (h : (0 : Int) < ns.length) : x.fmod (ns.length : Int) < 2 ^ 63 := by
  have := (fmod_len x h).2
  have := ok.len
  omega
theorem potOk_set {ns : List Int} {st l : Int} (ok : PotOk ns st) (j : Nat) (hl : 1 ≤ l) : PotOk (ns.set j ((ns.getD j 0).fdiv l)) st := by
  refine ⟨by rw [List.length_set]; exact ok.len, fun x hx => ?_, ok.lo, ok.hi⟩
  rcases List.mem_or_eq_of_mem_set hx with hx | rfl
  · exact ok.pos x hx
  · obtain ⟨a, b⟩ := getD_pos ok j
    rw [Int.fdiv_eq_ediv_of_nonneg _ (by omega)]
    have := Int.ediv_nonneg a (show 0 ≤ l by omega)
    have := Int.ediv_le_self l a
    exact ⟨by assumption, by omega⟩
section
local macro_rules | `(tactic| walk_at "setItem ref int") => `(tactic| (k_here; (with_reducible show wpAny _ _ (setItem _ (Value.int (Int.fmod _ _) _) (Value.int _ _)) _ _ _); k_dflt (refine' pot_set0 ?F ?N ?n ?o ?i ?a ?b ?f ?_; (case F => k_asm); (case N => k_asm); (case n => assumption); (case o => assumption); (case i => assumption); (case a => exact (fmod_len _ (by omega)).1); (case b => exact (fmod_len _ (by omega)).2); (case f => exact fmod_fit (by assumption) (by omega))); intro h' F' N' i'; (try k_sweep)))
local macro_rules | `(tactic| walk_at "setItem ref int") => `(tactic| (k_here; (with_reducible show wpAny _ _ (setItem _ (Value.int 2 _) (Value.int _ _)) _ _ _); k_dflt (refine' pot_set2 ?F ?N ?n ?o ?_; (case F => k_asm); (case N => k_asm); (case n => assumption); (case o => assumption)); intro h' F' N'; (try k_sweep)))
local macro_rules | `(tactic| walk_at "setItem ref int") => `(tactic| (k_here; (with_reducible show wpAny _ _ (setItem _ (Value.int 1 _) (Value.int _ _)) _ _ _); k_dflt (refine' pot_set1 ?F ?N ?n ?o ?_; (case F => k_asm); (case N => k_asm); (case n => assumption); (case o => assumption)); intro h' F' N'; (try k_sweep)))
set_option maxHeartbeats 8000000 in
theorem c_draw {w : World} {mean : ExcName → Option Value} {mg mb : Str → Option Value} {D C : Addr} {cs' : List Value} {ns : List Int} {nC nD : Nat} {st pl limit : Int} {t1 t2 tl : Tok} (hi : IntsAre cs' ns) (ok : PotOk ns st) (hp : 0 ≤ pl) (hp' : pl ≤ 100) (hl : 1 ≤ limit) (hl' : limit ≤ 10000)
    (dp un : Nat) (gd : Option (List Code)) (cn : Str) (cs : Scope) (a : Addr) (ccd : Value) (cl : List (Str × Addr)) (outer : List Env) (A₀ : Around) (base h₀ : Heap) (L : Addr) (m : Str → Option Value) (news : List (Addr × Obj)) (s : Shared) (Q E : Value → Shared → Prop)
    (B : Below A₀ base outer h₀) (F : Fr h₀ L s.heap m) (X : (Mine.hd.heap_39 w.params).In h₀) (N : News h₀ L s.heap ((D, listOf (potL C st t1 pl t2).toArray nD) :: (C, listOf cs'.toArray nC) :: news)) (T : Top Mine.hd.view_39 Lo mean mg mb h₀) (hk : cs.kind = .function)
    (hDC : @Ne Nat D C) (offD : LCg.Off1 D news) (offC : LCg.Off1 C news)
    (hd : dp + 3 < recursionLimit) (hu : un + 24 < cLine)
    (hret : ∀ r t h' tk' ms ns' nC' st' t1' t2' nD', 0 ≤ r → r < limit → IntsAre ms ns' → PotOk ns' st' → Fr h₀ L h' m → News h₀ L h' ((D, listOf (potL C st' t1' (pl + 1) t2').toArray nD') :: (C, listOf ms.toArray nC') :: news) → Q (.int r t) { s with heap := h', toks := tk' }) :
    wpAny (model PySem.Challenge.rw_og0125_01.row.prog w) (ktrTop dp un gd cn cs L a ccd cl outer) (call (.ref 115) [.ref D, .int limit tl]) Q E s := by
  k_with_none
  (revert X; k_fill; intro X)
  obtain ⟨ok1, ok2, ok3, ok4⟩ := id ok
  refine wpAny_call ?_
  k_dflt cell_enter
  k_steps
  all_goals (with_reducible rename News _ _ _ _ => kN9)
  all_goals (with_reducible rename Fr _ _ _ _ => kF9)
  all_goals first
    | exact hret _ _ _ _ _ ns _ _ _ _ _ (fmod_in _ hl).1 (fmod_in _ hl).2 hi (potOk_st ok _) kF9 kN9
    | exact hret _ _ _ _ _ _ _ _ _ _ _ (fmod_in _ hl).1 (fmod_in _ hl).2 (by assumption) (potOk_set ok (pl.fmod (ns.length : Int)).toNat hl) kF9 kN9
end
end Mine
end
section
open PySem PySem.W PyProof.Rows PySem.Calls PySem.Spec
namespace Mine
set_option maxRecDepth 100000
/-- what a draw hands back, at one value r -/
abbrev DrawRet (D C : Addr) (pl : Int) (h₀ : Heap) (L : Addr) (m : Str → Option Value) (news : List (Addr × Obj)) (s : Shared) (Q : Value → Shared → Prop) (r : Int) : Prop :=
  ∀ t h' tk' ms ns' nC' st' t1' t2' nD', IntsAre ms ns' → PotOk ns' st' → Fr h₀ L h' m → News h₀ L h' ((D, listOf (potL C st' t1' (pl + 1) t2').toArray nD') :: (C, listOf ms.toArray nC') :: news) → Q (.int r t) { s with heap := h', toks := tk' }
theorem c_draw8 {w : World} {mean : ExcName → Option Value} {mg mb : Str → Option Value} {D C : Addr} {cs' : List Value} {ns : List Int} {nC nD : Nat} {st pl : Int} {t1 t2 tl : Tok} (hi : IntsAre cs' ns) (ok : PotOk ns st) (hp : 0 ≤ pl) (hp' : pl ≤ 100)
    (dp un : Nat) (gd : Option (List Code)) (cn : Str) (cs : Scope) (a : Addr) (ccd : Value) (cl : List (Str × Addr)) (outer : List Env) (A₀ : Around) (base h₀ : Heap) (L : Addr) (m : Str → Option Value) (news : List (Addr × Obj)) (s : Shared) (Q E : Value → Shared → Prop)
    (B : Below A₀ base outer h₀) (F : Fr h₀ L s.heap m) (X : (Mine.hd.heap_39 w.params).In h₀) (N : News h₀ L s.heap ((D, listOf (potL C st t1 pl t2).toArray nD) :: (C, listOf cs'.toArray nC) :: news)) (T : Top Mine.hd.view_39 Lo mean mg mb h₀) (hk : cs.kind = .function)
    (hDC : @Ne Nat D C) (offD : LCg.Off1 D news) (offC : LCg.Off1 C news)
    (hd : dp + 3 < recursionLimit) (hu : un + 24 < cLine)
    (r0 : DrawRet D C pl h₀ L m news s Q 0) (r1 : DrawRet D C pl h₀ L m news s Q 1) (r2 : DrawRet D C pl h₀ L m news s Q 2) (r3 : DrawRet D C pl h₀ L m news s Q 3)
    (r4 : DrawRet D C pl h₀ L m news s Q 4) (r5 : DrawRet D C pl h₀ L m news s Q 5) (r6 : DrawRet D C pl h₀ L m news s Q 6) (r7 : DrawRet D C pl h₀ L m news s Q 7) :
    wpAny (model PySem.Challenge.rw_og0125_01.row.prog w) (ktrTop dp un gd cn cs L a ccd cl outer) (call (.ref 115) [.ref D, .int 8 tl]) Q E s :=
  c_draw hi ok hp hp' (by decide) (by decide) dp un gd cn cs a ccd cl outer A₀ base h₀ L m news s Q E B F X N T hk hDC offD offC hd hu fun r t h' tk' ms ns' nC' st' t1' t2' nD' lo hi' i o F' N' => by
    have e : r = 0 ∨ r = 1 ∨ r = 2 ∨ r = 3 ∨ r = 4 ∨ r = 5 ∨ r = 6 ∨ r = 7 := by omega
    rcases e with rfl | rfl | rfl | rfl | rfl | rfl | rfl | rfl
    · exact r0 t h' tk' ms ns' nC' st' t1' t2' nD' i o F' N'
    · exact r1 t h' tk' ms ns' nC' st' t1' t2' nD' i o F' N'
    · exact r2 t h' tk' ms ns' nC' st' t1' t2' nD' i o F' N'
    · exact r3 t h' tk' ms ns' nC' st' t1' t2' nD' i o F' N'
    · exact r4 t h' tk' ms ns' nC' st' t1' t2' nD' i o F' N'
    · exact r5 t h' tk' ms ns' nC' st' t1' t2' nD' i o F' N'
    · exact r6 t h' tk' ms ns' nC' st' t1' t2' nD' i o F' N'
    · exact r7 t h' tk' ms ns' nC' st' t1' t2' nD' i o F' N'
theorem pot_front {h₀ h : Heap} {L : Addr} {p q : Addr × Obj} {news front : List (Addr × Obj)} (N : News h₀ L h (front ++ p :: q :: news)) : News h₀ L h (p :: q :: news) :=
  cb_drop N fun r hr => List.mem_append_right _ hr
section
local macro_rules | `(tactic| walk_at $s:str) => `(tactic| k_extra $s)
set_option maxHeartbeats 8000000 in
theorem c_code {w : World} {mean : ExcName → Option Value} {mg mb : Str → Option Value} {D C : Addr} {cs' : List Value} {ns : List Int} {nC nD : Nat} {st pl : Int} {t1 t2 : Tok} (hi : IntsAre cs' ns) (ok : PotOk ns st) (hp : 0 ≤ pl) (hp' : pl ≤ 90)
    (dp un : Nat) (gd : Option (List Code)) (cn : Str) (cs : Scope) (a : Addr) (ccd : Value) (cl : List (Str × Addr)) (outer : List Env) (A₀ : Around) (base h₀ : Heap) (L : Addr) (m : Str → Option Value) (news : List (Addr × Obj)) (s : Shared) (Q E : Value → Shared → Prop)
    (B : Below A₀ base outer h₀) (F : Fr h₀ L s.heap m) (X : (Mine.hd.heap_39 w.params).In h₀) (N : News h₀ L s.heap ((D, listOf (potL C st t1 pl t2).toArray nD) :: (C, listOf cs'.toArray nC) :: news)) (T : Top Mine.hd.view_39 Lo mean mg mb h₀) (hk : cs.kind = .function)
    (hDC : @Ne Nat D C) (offD : LCg.Off1 D news) (offC : LCg.Off1 C news)
    (hd : dp + 5 < recursionLimit) (hu : un + 48 < cLine)
    (hret : ∀ r t h' tk' ms ns' nC' st' t1' t2' nD', -9 ≤ r → r ≤ 1118207 → IntsAre ms ns' → PotOk ns' st' → Fr h₀ L h' m → News h₀ L h' ((D, listOf (potL C st' t1' (pl + 1 + 1) t2').toArray nD') :: (C, listOf ms.toArray nC') :: news) → Q (.int r t) { s with heap := h', toks := tk' }) :
    wpAny (model PySem.Challenge.rw_og0125_01.row.prog w) (ktrTop dp un gd cn cs L a ccd cl outer) (call (.ref 122) [.ref D]) Q E s := by
  k_with_none
  (revert X; k_fill; intro X)
  refine wpAny_call ?_
  k_dflt cell_enter
  (k_with "call ref" => (k_here; (with_reducible show wpAny _ _ (call (Value.ref 115) [_, Value.int _ _]) _ _ _); k_dflt (refine' c_draw _ _ _ _ _ _ _ _ _ _ _ _ _ _ _ _ _ _ _ _ _ _ _ _ _ _ _ _ _ _ _ _ _ _ _ _; (all_goals (try ((with_reducible show News _ _ _ _); exact pot_front (front := [_, _, _, _, _, _, _, _, _]) (by assumption)))); (all_goals (try ((with_reducible show IntsAre _ _); assumption))); (all_goals (try ((with_reducible show PotOk _ _); assumption))); (all_goals (try ((with_reducible show Below _ _ _ _); k_asm))); (all_goals (try ((with_reducible show Fr _ _ _ _); k_asm))); (all_goals (try ((with_reducible show Frag.In _ _); k_asm))); (all_goals (try ((with_reducible show Top _ _ _ _ _ _); k_asm))); (all_goals (try ((with_reducible show _ = ScopeKind.function); first | exact rfl | assumption))); (all_goals (try ((with_reducible show _ < recursionLimit); ktr_room))); (all_goals (try ((with_reducible show _ < cLine); ktr_units))); (all_goals (try ((with_reducible show Ne _ _); assumption))); (all_goals (try ((with_reducible show LCg.Off1 _ _); assumption))); (all_goals (try ((with_reducible show _ ≤ _); omega)))); intro r' t' h' tk' ms' ns' nC' st' t1' t2' nD' lo' hi' i' o' F' N'; (try k_sweep)))
  (k_with "call ref" => (k_here; (with_reducible show wpAny _ _ (call (Value.ref 115) [_, Value.int 8 _]) _ _ _); k_dflt (refine' c_draw8 _ _ _ _ _ _ _ _ _ _ _ _ _ _ _ _ _ _ _ _ _ _ _ _ _ _ _ _ _ _ _ _ _ _ _ _ _ _ _ _ _; (all_goals (try ((with_reducible show News _ _ _ _); assumption))); (all_goals (try ((with_reducible show IntsAre _ _); assumption))); (all_goals (try ((with_reducible show PotOk _ _); assumption))); (all_goals (try ((with_reducible show Below _ _ _ _); k_asm))); (all_goals (try ((with_reducible show Fr _ _ _ _); k_asm))); (all_goals (try ((with_reducible show Frag.In _ _); k_asm))); (all_goals (try ((with_reducible show Top _ _ _ _ _ _); k_asm))); (all_goals (try ((with_reducible show _ = ScopeKind.function); first | exact rfl | assumption))); (all_goals (try ((with_reducible show _ < recursionLimit); ktr_room))); (all_goals (try ((with_reducible show _ < cLine); ktr_units))); (all_goals (try ((with_reducible show Ne _ _); assumption))); (all_goals (try ((with_reducible show LCg.Off1 _ _); assumption))); (all_goals (try ((with_reducible show _ ≤ _); omega)))); (all_goals (intro t' h' tk' ms' ns' nC' st' t1' t2' nD' i' o' F' N'; (try k_sweep)))))
  k_steps
  all_goals (with_reducible rename News _ _ _ _ => kN9)
  all_goals (with_reducible rename Fr _ _ _ _ => kF9)
  all_goals exact hret _ _ _ _ _ _ _ _ _ _ _ (by omega) (by omega) (by assumption) (by assumption) kF9 kN9
end
end Mine
end
section
open PySem PySem.W PyProof.Rows PySem.Calls PySem.Spec
namespace Mine
set_option maxRecDepth 100000
theorem fold_in (f : Int × Unit → Int → Int × Unit) (hf : ∀ σ n, 0 ≤ (f σ n).1 ∧ (f σ n).1 < 2147483647) : ∀ (l : List Int) (σ : Int × Unit), 0 ≤ σ.1 ∧ σ.1 < 2147483647 → 0 ≤ (l.foldl f σ).1 ∧ (l.foldl f σ).1 < 2147483647
  | [], _, h => h
  | n :: r, σ, _ => fold_in f hf r (f σ n) (hf σ n)
theorem ten400 : (1 : Int) ≤ 10 ^ Int.toNat 400 := by decide +kernel
theorem potOk_made (ks : List Int) (g : Int → Int) {st : Int} (hn : ks.length ≤ 40) (h : 0 ≤ st ∧ st < 2147483647) : PotOk (ks.map fun k => (g k).fmod (10 ^ Int.toNat 400)) st := by
  refine ⟨by rw [List.length_map]; exact hn, fun x hx => ?_, h.1, h.2⟩
  obtain ⟨k, _, rfl⟩ := List.mem_map.mp hx
  exact fmod_in (g k) ten400
theorem off_of_lt {d : Addr} : ∀ {l : List (Addr × Obj)}, AllLt d l → LCg.Off1 d l
  | [], _ => trivial
  | _ :: _, h => ⟨Nat.ne_of_lt h.1, off_of_lt h.2⟩
theorem two_keep {h₀ h : Heap} {L : Addr} {p q r t : Addr × Obj} {news : List (Addr × Obj)} (N : News h₀ L h (p :: q :: r :: t :: news)) : News h₀ L h (p :: q :: news) :=
  cb_drop N fun z hz => by
    rcases List.mem_cons.mp hz with rfl | hz
    · exact .head _
    rcases List.mem_cons.mp hz with rfl | hz
    · exact .tail _ (.head _)
    exact .tail _ (.tail _ (.tail _ (.tail _ hz)))
section
local macro_rules | `(tactic| walk_at "exec Assign cons ListComp") => `(tactic| (k_here; k_dflt (refine LCg.Assign_ListComp_U (F₀ := by k_asm) (by rfl) (by with_unfolding_all rfl) (by with_unfolding_all rfl) (by decide) (by rfl) (by decide) (by rfl) (by rfl) (by rfl) ?_)))
local macro_rules | `(tactic| walk_at "eval ListComp") => `(tactic| (k_here; k_dflt (refine LCg.ListComp_U (F₀ := by k_asm) (by with_unfolding_all rfl) (by decide) (by rfl) (by decide) (by rfl) ?_)))
local macro_rules | `(tactic| walk_at "CompSrc") => `(tactic| (k_here; (try kcf_lens); k_dflt (refine LCg.CompSrc.ledger (by rfl) (by k_asm) (by k_asm) (by k_mem) (by kcf_size) ?_; intro g'; (refine' kcf_list _ (by first | assumption | l_ints) (fun k' t' I' oI' C' oC' D' m' ys' h' tk' E' hk' hC' hx' F' N' off' ne' hMark' => ?_) ?_); (all_goals (try (simp only [LCg.Off3, and_true] at off'))); kcf_last)))
set_option maxHeartbeats 1000000 in
theorem c_pot {w : World} {mean : ExcName → Option Value} {mg mb : Str → Option Value} {l : Addr} {vs : List Value} {ns : List Int} (hi : IntsAre vs ns) (hn : ns.length ≤ 63)
    (dp un : Nat) (gd : Option (List Code)) (cn : Str) (cs : Scope) (a : Addr) (ccd : Value) (cl : List (Str × Addr)) (outer : List Env) (A₀ : Around) (base h₀ : Heap) (L : Addr) (m : Str → Option Value) (news : List (Addr × Obj)) (s : Shared) (Q E : Value → Shared → Prop)
    (B : Below A₀ base outer h₀) (F : Fr h₀ L s.heap m) (X : (Mine.hd.heap_39 w.params).In h₀) (hl : h₀.IsList l vs.toArray) (N : News h₀ L s.heap news) (T : Top Mine.hd.view_39 Lo mean mg mb h₀) (hk : cs.kind = .function)
    (hd : dp + 3 < recursionLimit) (hu : un + 24 < cLine)
    (hret : ∀ D C h' tk' ms ns' nC' st' t1' t2' nD', IntsAre ms ns' → PotOk ns' st' → @Ne Nat D C → LCg.Off1 D news → LCg.Off1 C news → Fr h₀ L h' m → News h₀ L h' ((D, listOf (potL C st' t1' 0 t2').toArray nD') :: (C, listOf ms.toArray nC') :: news) → Q (.ref D) { s with heap := h', toks := tk' }) :
    wpAny (model PySem.Challenge.rw_og0125_01.row.prog w) (ktrTop dp un gd cn cs L a ccd cl outer) (call (.ref 108) [.ref l]) Q E s := by
  k_with_none
  (revert X; k_fill; intro X)
  refine wpAny_call ?_
  k_dflt cell_enter
  (with_reducible rename Fr h₀ L _ m => FG9)
  have hlg := Fr.lst FG9 hl
  k_steps
  (with_reducible rename News _ _ _ _ => kN9)
  (with_reducible rename Fr _ _ _ _ => kF9)
  (with_reducible rename IntsAre _ _ => hI9)
  (with_reducible rename _ < _ ∧ _ ∧ _ ∧ AllLt _ _ => l9)
  (with_reducible rename _ ∧ _ ∧ LCg.Off1 _ _ => o9)
  refine hret _ _ _ _ _ _ _ _ _ _ _ hI9 (potOk_made _ _ (by simp only [List.length_map, List.length_take]; omega) (fold_in _ (fun σ n => fmod_in _ (by decide)) _ _ ⟨by decide, by decide⟩)) (Nat.ne_of_gt l9.1) (off_of_lt l9.2.2.2) o9.2.2 kF9 (two_keep kN9)
end
end Mine
end
section
open PySem PySem.W PyProof.Rows PySem.Calls PySem.Spec
namespace Mine
set_option maxRecDepth 100000
theorem pot_back1 {h₀ h : Heap} {L : Addr} {p q x : Addr × Obj} {news : List (Addr × Obj)} (N : News h₀ L h (x :: p :: q :: news)) : News h₀ L h (p :: q :: x :: news) :=
  cb_drop N fun z hz => by
    simp only [List.mem_cons] at hz ⊢
    rcases hz with h | h | h | h <;> simp [h]
/-- what _law_heard hands back, both ways, called by a frame that nothing of the text called -/
theorem c_heard {w : World} {mean : ExcName → Option Value} {mg mb : Str → Option Value} (k : Int) (t : Tok) (dp un : Nat) (gd : Option (List Code)) (cn : Str) (cs : Scope) (a : Addr) (ccd : Value) (cl : List (Str × Addr)) (A₀ : Around) (h₀ : Heap) (L : Addr) (m : Str → Option Value) (news : List (Addr × Obj)) (s : Shared) (Q E : Value → Shared → Prop)
    (B : Below A₀ h₀ [] h₀) (F : Fr h₀ L s.heap m) (X : (Mine.hd.heap_39 w.params).In h₀) (N : News h₀ L s.heap news) (T : Top Mine.hd.view_39 Lo mean mg mb h₀) (hk : cs.kind = .function)
    (hd : dp + 8 < recursionLimit) (hu : un + 64 < cLine)
    (ht : isSign k = true → ∀ t' h' tk', Fr h₀ L h' m → News h₀ L h' news → Q (.str (gn k) t') { s with heap := h', toks := tk' })
    (hf : isSign k = false → ∀ h' tk', Fr h₀ L h' m → News h₀ L h' news → Q .none { s with heap := h', toks := tk' }) :
    wpAny (model PySem.Challenge.rw_og0125_01.row.prog w) (ktrTop dp un gd cn cs L a ccd cl []) (call (.ref 143) [.int k t]) Q E s := by
  cases hs : isSign k with
  | true => exact c_heard_t k t hs dp un gd cn cs a ccd cl [] A₀ h₀ h₀ L m news s Q E B F X N T hk (by omega) (by omega) (ht hs)
  | false => exact c_heard_f k t hs dp un gd cn cs a ccd cl A₀ h₀ h₀ L m news s Q E B F X N T X T hk hd hu (hf hs)
end Mine
end
section
open PySem PySem.W PyProof.Rows PySem.Calls PySem.Spec
namespace Mine
set_option maxRecDepth 100000
section
variable {w : World} {mean : ExcName → Option Value} {mg mb : Str → Option Value}
theorem c_lsign_t (k : Int) (t : Tok) (hs : isSign k = true) : Cl w mean mg mb 129 2 16 [.int k t] (RetV fun _ => .bool true) := hs ▸ c_lsign k t
theorem c_lsign_f (k : Int) (t : Tok) (hs : isSign k = false) : Cl w mean mg mb 129 2 16 [.int k t] (RetV fun _ => .bool false) := hs ▸ c_lsign k t
end
section
variable {prog : Program} {w : World} {A : Around} {E : Value → Shared → Prop} {s : Shared} {Q : Value → Shared → Prop}
theorem eq_str_to {x y : Str} {t u : Tok} {b : Bool} (e : (x == y) = b) (h : Q (.bool b) s) : wpAny (model prog w) A (compareOp .Eq (.str x t) (.str y u)) Q E s := by
  subst e
  exact eq_str h
theorem ne_str_to {x y : Str} {t u : Tok} (e : x = y) (h : Q (.bool false) s) : wpAny (model prog w) A (compareOp .NotEq (.str x t) (.str y u)) Q E s := by
  subst e
  refine ne_str ?_
  have : (x != x) = false := by simp
  rw [this]
  exact h
end
end Mine
end
section
open PySem PySem.W PyProof.Rows PySem.Calls PySem.Spec
namespace Mine
set_option maxRecDepth 100000
section
variable {prog : Program} {w : World} {A : Around} {E : Value → Shared → Prop} {s : Shared}
/-- a sign that is none of the three is not in their text -/
theorem in_dots {c : Nat} {t u : Tok} {Q : Value → Shared → Prop} (h : c ≠ 46 ∧ c ≠ 95 ∧ c ≠ 32) (hq : Q (.bool false) s) : wpAny (model prog w) A (compareOp .In (.str ⟨#[c]⟩ t) (.str (Str.ofString "._ ") u)) Q E s := by
  refine in_str ?_
  have e : decide (c ∈ (Str.ofString "._ ").cps.toList) = false := by
    have : (Str.ofString "._ ").cps.toList = [46, 95, 32] := by decide +kernel
    rw [this]
    simpa using h
  rw [PySem.StrLaws.found_one, e]
  exact hq
variable {h₀ : Heap} {L : Addr} {m : Str → Option Value} {env : Env}
theorem str_st {I : Addr} {ty : String} {x : Str} {t : Tok} : ∀ i (h h' : Heap) (o : Obj) (nw : List (Addr × Obj)), h.IsStrIter I ty x t i → h.get? I = some o → h'.get? I = some o → (∀ b o, h₀.get? b = some o → h'.get? b = some o) → News h₀ L h' nw → True → h'.IsStrIter I ty x t i :=
  fun i h h' o nw ⟨o', e', r⟩ e e2 _ _ _ => by
    rw [e] at e'
    cases e'
    exact ⟨o, e2, r⟩
/-- a comprehension over a text's signs whose test none passes makes an empty list -/
theorem comp_none {ct elt iter : PySem.Expr} {x : Str} {px : Pos} {scope : Scope} {cl : List (Str × Addr)} {pos : Pos} {Q : Value → Shared → Prop} {tx : Str} {tt : Tok} {news : List (Addr × Obj)}
    (hh : A.handled = none) (F : Fr h₀ L s.heap m) (N : News h₀ L s.heap news) (hsz : tx.length ≤ 1000)
    (hclos : closureFor scope env = pure cl) (hcell : ∀ y ∈ scope.names, y.2 ≠ .cell) (hkind : scope.kind = .function)
    (hnames : ∀ y ∈ scope.names, y.2 = .local → scope.names.lookup y.1 = some .local) (hx : scope.names.lookup x = some .local)
    (hi : wpAny (model prog w) A (eval iter env) (fun v s' => v = .str tx tt ∧ s' = s) E s)
    (turn : ∀ c t I oI C oC D m₂ h tk (E' : Value → Shared → Prop), c ∈ tx.cps.toList → LCg.NsObj oC m₂ → m₂ x = some (.str ⟨#[c]⟩ t) → Fr h₀ L h m → News h₀ L h ((I, oI) :: (C, oC) :: (D, LCg.lst []) :: news) → LCg.Off3 I C D news → ((@Ne Nat I C) ∧ (@Ne Nat I D) ∧ (@Ne Nat C D)) →
      wpAny (model prog w) A (isTrue ct (compEnvC scope cl C env) (eval ct (compEnvC scope cl C env))) (fun ok s' => ok = false ∧ LCg.CompEnd h₀ L m { s with heap := h, toks := tk } I oI C oC D (LCg.lst []) (fun _ => True) (fun _ news' => news' = news) Value.none s') E' { s with heap := h, toks := tk })
    (fin : ∀ D h tk, Fr h₀ L h m → News h₀ L h ((D, LCg.lst []) :: news) → Q (.ref D) { s with heap := h, toks := tk })
    (hs : ∀ x, foldedSetIterable iter env x = pure x := by intro _; rfl) :
    wpAny (model prog w) A (eval (.ListComp elt [⟨.Name x px, iter, [ct], 0⟩] scope pos) env) Q E s := by
  have hz : tx.cps.size ≤ sizeLine := by
    have : tx.cps.size ≤ 1000 := hsz
    rw [sizeLine_eq]; omega
  have key : ∀ s₂ : Shared, (∃ g, s₂ = { s with heap := g }) → ∀ (n i : Nat), i + n = tx.cps.size →
      LCt.CompRestT prog w A h₀ L m env ct elt x scope cl s₂ (fun _ => True) (SignAt tx) (LCg.FinE h₀ L m s₂ Q) n i [] news := by
    rintro s₂ ⟨g, rfl⟩ n
    induction n with
    | zero =>
      intro i _
      exact LCt.CompRestT.zero fun D h tk F' N' _ => fin D h tk F' N'
    | succ n ih =>
      intro i hin
      refine LCt.CompRestT.succ fun v I oI C oC D m₂ h tk E' hv hC hx' F' N' off ne => ?_
      obtain ⟨c, t, hc, rfl⟩ := hv
      refine wpAny_mono (turn c t I oI C oC D m₂ h tk E' (by rw [← Array.getElem?_toList] at hc; exact List.mem_of_getElem? hc) hC hx' F' N' off ne) (fun ok s' hq => ?_) fun _ _ e => e
      obtain ⟨rfl, h', tk', nw, e, F₁, N₁, off₁, hS, rfl⟩ := hq
      simp only [Bool.false_eq_true, if_false]
      exact ⟨h', tk', nw, e, F₁, N₁, off₁, hS, ih (i + 1) (by omega)⟩
  rw [eval_ListComp]
  refine wpAny_comprehension_free (use := none) rfl hs hclos hkind hnames (wpAny_mono hi (fun xv s₁ h₁ => ?_) fun _ _ e => e)
  obtain ⟨rfl, rfl⟩ := h₁
  cases ha : tx.cps.all (· < 128)
  · refine wpAny_pyIter_wide ha ?_
    refine LCt.block_T (S := fun _ => True) (news := news) (Walks.strWide hh s₁.heap.objs.size tx tt) hz (fun i h st => by obtain ⟨o, e, _⟩ := st; exact ⟨o, e⟩) str_st hcell hkind hx ⟨_, Heap.get?_push_size _ rfl, rfl, rfl⟩ (fun b hb => ?_)
      (F.keeps fun _ _ e => Heap.get?_push_of_some _ e) (N.grown fun _ _ e => Heap.get?_push_of_some _ e) (Nat.ne_of_lt F.ns.lt) (next_is_new F) (fun p hp => Nat.ne_of_lt (Heap.lt_size (N p hp).1)) trivial (key _ ⟨_, rfl⟩ _ 0 (by omega)) ?_
    · rw [List.mem_singleton.mp hb]
      show s₁.heap.objs.size < (s₁.heap.push _).objs.size
      rw [Heap.size_push]; exact Nat.lt_succ_self _
    · intro D C h tk m' ys news' F' N' o1 hn hC₀ hD₀ hCL hDL hCD offC fn
      refine ⟨m', hn, fun h'' hs'' => fn D h'' tk (F'.change hs'' hCL hC₀) (fun p hp => ?_) o1⟩
      refine ⟨hs''.extBut _ _ ?_ (N' p hp).1, (N' p hp).2⟩
      rcases List.mem_cons.mp hp with rfl | hp
      · exact Ne.symm hCD
      · exact offC p hp
  · refine wpAny_pyIter_ascii ha ?_
    refine LCt.block_T (S := fun _ => True) (news := news) (Walks.strAscii hh s₁.heap.objs.size tx tt) hz (fun i h st => by obtain ⟨o, e, _⟩ := st; exact ⟨o, e⟩) str_st hcell hkind hx ⟨_, Heap.get?_push_size _ rfl, rfl, rfl⟩ (fun b hb => ?_)
      (F.keeps fun _ _ e => Heap.get?_push_of_some _ e) (N.grown fun _ _ e => Heap.get?_push_of_some _ e) (Nat.ne_of_lt F.ns.lt) (next_is_new F) (fun p hp => Nat.ne_of_lt (Heap.lt_size (N p hp).1)) trivial (key _ ⟨_, rfl⟩ _ 0 (by omega)) ?_
    · rw [List.mem_singleton.mp hb]
      show s₁.heap.objs.size < (s₁.heap.push _).objs.size
      rw [Heap.size_push]; exact Nat.lt_succ_self _
    · intro D C h tk m' ys news' F' N' o1 hn hC₀ hD₀ hCL hDL hCD offC fn
      refine ⟨m', hn, fun h'' hs'' => fn D h'' tk (F'.change hs'' hCL hC₀) (fun p hp => ?_) o1⟩
      refine ⟨hs''.extBut _ _ ?_ (N' p hp).1, (N' p hp).2⟩
      rcases List.mem_cons.mp hp with rfl | hp
      · exact Ne.symm hCD
      · exact offC p hp
/-- what known_code says of a sign's name is in (-1, code) -/
theorem notin_known {T : Addr} {k : Int} {t1 t2 u : Tok} {n : Nat} {news : List (Addr × Obj)} {Q : Value → Shared → Prop} (N : News h₀ L s.heap news) (hm : (T, ({ cls := .type "tuple", data := .seq #[.int (-1) t1, .int k t2] n } : Obj)) ∈ news) (hs : isSign k = true)
    (h : Q (.bool false) s) : wpAny (model prog w) A (compareOp .NotIn (.int (kc (gn k)) u) (.ref T)) Q E s := by
  refine notin_tuple_ints (ns := [-1, k]) ⟨_, (N _ hm).1, rfl, _, rfl⟩ (.cons _ _ (.cons _ _ .nil)) ?_
  have e : (!([-1, k].any (· == kc (gn k)))) = false := by
    rcases gn_known hs with e | e
    · simp [e]
    · simp [e]
  rw [e]
  exact h
end
end Mine
end
section
open PySem PySem.W PyProof.Rows PySem.Calls PySem.Spec
namespace Mine
set_option maxRecDepth 100000
def isNone : Value → Bool
  | .none => true
  | _ => false
theorem eqGives_none : MeetsSeq.EqGives .none .none true := by
  intro prog w A E s Q h
  unfold eqBool
  refine wpAny_holding ?_
  rw [if_pos (by rfl)]
  exact wpAny_bind (wpAny_rule (wpAny_pure h))
theorem eqGives_str_none (x : Str) (t : Tok) : MeetsSeq.EqGives (.str x t) .none false := by
  intro prog w A E s Q h
  unfold eqBool
  refine wpAny_holding ?_
  rw [if_neg (by intro q; have := eq_of_beq q; cases this)]
  exact wpAny_bind (show wpAny _ _ (richCompare .Eq (.str x t) .none) _ _ _ from EqNone.eq_str_none (wpAny_truthy_bool h))
/-- None or a text -/
def NoS (v : Value) : Prop := v = .none ∨ ∃ x t, v = .str x t
theorem eqGives_noS {v : Value} (h : NoS v) : MeetsSeq.EqGives v .none (isNone v) := by
  rcases h with rfl | ⟨x, t, rfl⟩
  · exact eqGives_none
  · exact eqGives_str_none x t
section
variable {prog : Program} {w : World} {A : Around} {E : Value → Shared → Prop} {s : Shared} {h₀ : Heap} {L : Addr}
theorem in_none {D : Addr} {a b : Value} {n : Nat} {r : Bool} {news : List (Addr × Obj)} {Q : Value → Shared → Prop} (N : News h₀ L s.heap news) (hm : (D, ({ cls := .type "list", data := .seq [a, b].toArray n } : Obj)) ∈ news) (ha : NoS a) (hb : NoS b) (e : (isNone a || isNone b) = r)
    (h : Q (.bool r) s) : wpAny (model prog w) A (compareOp .In .none (.ref D)) Q E s := by
  refine PySem.SeqInW.in_listW isNone (fun y hy => ?_) (PySem.IsL.isList (n := n) (N _ hm).1) ?_
  · have hy' : y ∈ [a, b] := by simpa using hy
    rcases List.mem_cons.mp hy' with rfl | hy'
    · exact eqGives_noS ha
    · rw [List.mem_singleton.mp hy']; exact eqGives_noS hb
  · have : (#[a, b].any isNone) = r := by rw [← e]; simp
    rw [this]
    exact h
/-- the test is false, all that stood stands: the ways meet -/
def JoinEnd (h₀ : Heap) (L : Addr) (m : Str → Option Value) (news : List (Addr × Obj)) (s : Shared) (b : Bool) (s' : Shared) : Prop :=
  b = false ∧ ∃ h' tk', s' = { s with heap := h', toks := tk' } ∧ Fr h₀ L h' m ∧ News h₀ L h' news
theorem JoinEnd.intro {m : Str → Option Value} {news : List (Addr × Obj)} {h' : Heap} {tk' : Nat} (F : Fr h₀ L h' m) (N : News h₀ L h' news) : JoinEnd h₀ L m news s false { s with heap := h', toks := tk' } := ⟨rfl, h', tk', rfl, F, N⟩
theorem join_false {t : Sem Bool} {m : Str → Option Value} {news : List (Addr × Obj)} {Q : Bool → Shared → Prop} (_F : Fr h₀ L s.heap m) (_N : News h₀ L s.heap news)
    (h : wpAny (model prog w) A t (JoinEnd h₀ L m news s) E s) (k : ∀ h' tk', Fr h₀ L h' m → News h₀ L h' news → Q false { s with heap := h', toks := tk' }) : wpAny (model prog w) A t Q E s := by
  refine wpAny_mono h (fun b s' q => ?_) fun _ _ e => e
  obtain ⟨rfl, h', tk', rfl, F, N⟩ := q
  exact k h' tk' F N
end
end Mine
end
section
open PySem PySem.W PyProof.Rows PySem.Calls PySem.Spec
namespace Mine
set_option maxRecDepth 100000
section
local macro_rules | `(tactic| walk_at $s:str) => `(tactic| k_extra $s)
set_option maxHeartbeats 8000000 in
theorem cw : PySem.Challenge.rw_og0125_01.Holds := Mine.hd (by
  k_with_none
  (k_with "call ref" => (k_here; (with_reducible show wpAny _ _ (call (Value.ref 108) _) _ _ _); k_dflt (refine' c_pot _ _ _ _ _ _ _ _ _ _ _ _ _ _ _ _ _ _ _ _ _ _ _ _ _ _ _ _ _ _; (all_goals (try ((with_reducible show News _ _ _ _); k_asm))); (all_goals (try ((with_reducible show Heap.IsList _ _ _); assumption))); (all_goals (try ((with_reducible show IntsAre _ _); assumption))); (all_goals (try ((with_reducible show Below _ _ _ _); k_asm))); (all_goals (try ((with_reducible show Fr _ _ _ _); k_asm))); (all_goals (try ((with_reducible show Frag.In _ _); k_asm))); (all_goals (try ((with_reducible show Top _ _ _ _ _ _); k_asm))); (all_goals (try ((with_reducible show _ = ScopeKind.function); first | exact rfl | assumption))); (all_goals (try ((with_reducible show _ < recursionLimit); ktr_room))); (all_goals (try ((with_reducible show _ < cLine); ktr_units))); (all_goals (try ((with_reducible show _ ≤ _); omega)))); intro D' C' h' tk' ms' ns' nC' st' t1' t2' nD' i' o' dc' od' oc' F' N'; (try k_sweep)))
  (k_with "call ref" => (k_here; (with_reducible show wpAny _ _ (call (Value.ref 122) _) _ _ _); k_dflt (refine' c_code _ _ _ _ _ _ _ _ _ _ _ _ _ _ _ _ _ _ _ _ _ _ _ _ _ _ _ _ _ _ _ _ _ _; (all_goals (try ((with_reducible show News _ _ _ _); first | assumption | exact pot_back1 (by assumption)))); (all_goals (try ((with_reducible show IntsAre _ _); assumption))); (all_goals (try ((with_reducible show PotOk _ _); assumption))); (all_goals (try ((with_reducible show Below _ _ _ _); k_asm))); (all_goals (try ((with_reducible show Fr _ _ _ _); k_asm))); (all_goals (try ((with_reducible show Frag.In _ _); k_asm))); (all_goals (try ((with_reducible show Top _ _ _ _ _ _); k_asm))); (all_goals (try ((with_reducible show _ = ScopeKind.function); first | exact rfl | assumption))); (all_goals (try ((with_reducible show _ < recursionLimit); ktr_room))); (all_goals (try ((with_reducible show _ < cLine); ktr_units))); (all_goals (try ((with_reducible show Ne _ _); assumption))); (all_goals (try ((with_reducible show LCg.Off1 _ _); first | assumption | exact ⟨by omega, trivial⟩ | exact ⟨by omega, by omega, trivial⟩))); (all_goals (try ((with_reducible show _ ≤ _); omega)))); intro r' t' h' tk' ms' ns' nC' st' t1' t2' nD' lo' hi' i' o' F' N'; (try k_sweep)))
  (k_with "call ref" => (k_here; (with_reducible show wpAny _ _ (call (Value.ref 115) _) _ _ _); k_dflt (refine' c_draw _ _ _ _ _ _ _ _ _ _ _ _ _ _ _ _ _ _ _ _ _ _ _ _ _ _ _ _ _ _ _ _ _ _ _ _; (all_goals (try ((with_reducible show News _ _ _ _); first | assumption | exact pot_back1 (by assumption)))); (all_goals (try ((with_reducible show IntsAre _ _); assumption))); (all_goals (try ((with_reducible show PotOk _ _); assumption))); (all_goals (try ((with_reducible show Below _ _ _ _); k_asm))); (all_goals (try ((with_reducible show Fr _ _ _ _); k_asm))); (all_goals (try ((with_reducible show Frag.In _ _); k_asm))); (all_goals (try ((with_reducible show Top _ _ _ _ _ _); k_asm))); (all_goals (try ((with_reducible show _ = ScopeKind.function); first | exact rfl | assumption))); (all_goals (try ((with_reducible show _ < recursionLimit); ktr_room))); (all_goals (try ((with_reducible show _ < cLine); ktr_units))); (all_goals (try ((with_reducible show Ne _ _); assumption))); (all_goals (try ((with_reducible show LCg.Off1 _ _); first | assumption | exact ⟨by omega, trivial⟩ | exact ⟨by omega, by omega, trivial⟩))); (all_goals (try ((with_reducible show _ ≤ _); omega)))); intro r' t' h' tk' ms' ns' nC' st' t1' t2' nD' lo' hi' i' o' F' N'; (try k_sweep)))
  (k_with "call ref" => (k_here; (with_reducible show wpAny _ _ (call (Value.ref 143) [Value.int _ _]) _ _ _); k_dflt (refine' c_heard _ _ _ _ _ _ _ _ _ _ _ _ _ _ _ _ _ _ _ _ _ _ _ _ _ _ _ _; (all_goals (try ((with_reducible show News _ _ _ _); k_asm))); (all_goals (try ((with_reducible show Below _ _ _ _); k_asm))); (all_goals (try ((with_reducible show Fr _ _ _ _); k_asm))); (all_goals (try ((with_reducible show Frag.In _ _); k_asm))); (all_goals (try ((with_reducible show Top _ _ _ _ _ _); k_asm))); (all_goals (try ((with_reducible show _ = ScopeKind.function); first | exact rfl | assumption))); (all_goals (try ((with_reducible show _ < recursionLimit); ktr_room))); (all_goals (try ((with_reducible show _ < cLine); ktr_units)))); (all_goals (first | (intro hs' t' h' tk' F' N'; (try k_sweep)) | (intro hs' h' tk' F' N'; (try k_sweep))))))
  (k_with "call ref" => (k_here; (with_reducible show wpAny _ _ (call (Value.ref 129) _) _ _ _); k_dflt (refine' c_lsign_t _ _ _ _ _ _ _ _ _ _ _ _ _ _ _ _ _ _ _ _ _ _ _ _ _ _ _ _ _ _; (all_goals (try ((with_reducible show News _ _ _ _); k_asm))); (all_goals (try ((with_reducible show isSign _ = _); assumption))); (all_goals (try ((with_reducible show Below _ _ _ _); k_asm))); (all_goals (try ((with_reducible show Fr _ _ _ _); k_asm))); (all_goals (try ((with_reducible show Frag.In _ _); k_asm))); (all_goals (try ((with_reducible show Top _ _ _ _ _ _); k_asm))); (all_goals (try ((with_reducible show _ = ScopeKind.function); first | exact rfl | assumption))); (all_goals (try ((with_reducible show _ < recursionLimit); ktr_room))); (all_goals (try ((with_reducible show _ < cLine); ktr_units)))); intro t' h' tk' F' N'; (try k_sweep)))
  (k_with "call ref" => (k_here; (with_reducible show wpAny _ _ (call (Value.ref 129) _) _ _ _); k_dflt (refine' c_lsign_f _ _ _ _ _ _ _ _ _ _ _ _ _ _ _ _ _ _ _ _ _ _ _ _ _ _ _ _ _ _; (all_goals (try ((with_reducible show News _ _ _ _); k_asm))); (all_goals (try ((with_reducible show isSign _ = _); assumption))); (all_goals (try ((with_reducible show Below _ _ _ _); k_asm))); (all_goals (try ((with_reducible show Fr _ _ _ _); k_asm))); (all_goals (try ((with_reducible show Frag.In _ _); k_asm))); (all_goals (try ((with_reducible show Top _ _ _ _ _ _); k_asm))); (all_goals (try ((with_reducible show _ = ScopeKind.function); first | exact rfl | assumption))); (all_goals (try ((with_reducible show _ < recursionLimit); ktr_room))); (all_goals (try ((with_reducible show _ < cLine); ktr_units)))); intro t' h' tk' F' N'; (try k_sweep)))
  (k_with "call ref" => (k_here; (with_reducible show wpAny _ _ (call (Value.ref 96) _) _ _ _); k_dflt (refine' c_known _ _ _ _ _ _ _ _ _ _ _ _ _ _ _ _ _ _ _ _ _ _ _ _ _ _ _ _ _; (all_goals (try ((with_reducible show News _ _ _ _); k_asm))); (all_goals (try ((with_reducible show Below _ _ _ _); k_asm))); (all_goals (try ((with_reducible show Fr _ _ _ _); k_asm))); (all_goals (try ((with_reducible show Frag.In _ _); k_asm))); (all_goals (try ((with_reducible show Top _ _ _ _ _ _); k_asm))); (all_goals (try ((with_reducible show _ = ScopeKind.function); first | exact rfl | assumption))); (all_goals (try ((with_reducible show _ < recursionLimit); ktr_room))); (all_goals (try ((with_reducible show _ < cLine); ktr_units)))); intro t' h' tk' F' N'; (try k_sweep)))
  (k_with "call ref" => (k_here; (with_reducible show wpAny _ _ (call (Value.ref 136) _) _ _ _); k_dflt (refine' c_named _ _ _ _ _ _ _ _ _ _ _ _ _ _ _ _ _ _ _ _ _ _ _ _ _ _ _ _ _ _ _; (all_goals (try ((with_reducible show News _ _ _ _); k_asm))); (all_goals (try ((with_reducible show Below _ _ _ _); k_asm))); (all_goals (try ((with_reducible show Fr _ _ _ _); k_asm))); (all_goals (try ((with_reducible show Frag.In _ _); k_asm))); (all_goals (try ((with_reducible show Top _ _ _ _ _ _); k_asm))); (all_goals (try ((with_reducible show _ = ScopeKind.function); first | exact rfl | assumption))); (all_goals (try ((with_reducible show _ < recursionLimit); ktr_room))); (all_goals (try ((with_reducible show _ < cLine); ktr_units))); (all_goals (try ((with_reducible show 0 ≤ _); exact (sign_lo (by assumption)).1))); (all_goals (try ((with_reducible show _ ≤ _); exact (sign_lo (by assumption)).2)))); intro t' h' tk' F' N'; (try k_sweep)))
  (k_with "compareOp Eq str str" => (k_here; (with_reducible show wpAny _ _ (compareOp _ (Value.str (gn _) _) (Value.str (Str.ofString "") _)) _ _ _); k_dflt (refine' eq_str_to (gn_ne (by assumption)) ?_)))
  (k_with "eval ListComp" => (k_here; k_dflt (refine' comp_none (cl := []) (by rfl) _ _ _ (by with_unfolding_all rfl) (by decide) (by rfl) (by decide) (by rfl) _ (fun c' t' I' oI' C' oC' D' m' h' tk' E' hc' hC' hx' F' N' off' ne' => ?_) (fun D' h' tk' F' N' => ?_) (by intro _; rfl); (all_goals (try ((with_reducible show Fr _ _ _ _); k_asm))); (all_goals (try ((with_reducible show News _ _ _ _); k_asm))); (all_goals (try ((with_reducible show wpAny _ _ (eval _ _) _ _ _); walk1; walk1; exact ⟨rfl, rfl⟩))); (all_goals (try ((with_reducible show _ ≤ _); exact Nat.le_trans (gn_len (by assumption)) (by decide))))); (all_goals (try (have cl9' := gn_clean (by assumption) _ hc'))); (all_goals (try (simp only [LCg.Off3, and_true] at off'))); (all_goals (try k_sweep))))
  (k_with "compareOp In str str" => (k_here; k_dflt (refine' in_dots (by assumption) ?_)))
  (k_with "CompEnd" => (refine LCg.CompEnd.intro (by assumption) (by assumption) _ (fun p hp => hp) (by first | assumption | (simp only [LCg.Off3, and_true]; assumption)) True.intro ?_; exact rfl))
  (k_with "compareOp NotIn int ref" => (k_here; k_dflt (refine' notin_known _ _ _ ?_; (all_goals (try ((with_reducible show News _ _ _ _); k_asm))); (all_goals (try ((with_reducible show _ ∈ _); k_mem))); (all_goals (try ((with_reducible show isSign _ = _); assumption))))))
  (k_with "compareOp NotEq str str" => (k_here; k_dflt (refine' ne_str_to (gn_named (by assumption) (by first | assumption | omega)) ?_)))
  (k_with "compareOp In none ref" => (k_here; k_dflt (first | (refine' in_none (r := true) _ _ _ _ _ ?_; (all_goals (try ((with_reducible show News _ _ _ _); k_asm))); (all_goals (try ((with_reducible show _ ∈ _); k_mem))); (all_goals (try ((with_reducible show NoS _); first | exact Or.inl rfl | exact Or.inr ⟨_, _, rfl⟩))); (all_goals (try ((with_reducible show _ = true); rfl))); (all_goals (fail_if_success (with_reducible show _ = true)))) | (refine' in_none (r := false) _ _ _ _ _ ?_; (all_goals (try ((with_reducible show News _ _ _ _); k_asm))); (all_goals (try ((with_reducible show _ ∈ _); k_mem))); (all_goals (try ((with_reducible show NoS _); first | exact Or.inl rfl | exact Or.inr ⟨_, _, rfl⟩))); (all_goals (try ((with_reducible show _ = false); rfl))); (all_goals (fail_if_success (with_reducible show _ = false)))))))
  (k_with "compareOp Eq str str" => (k_here; (with_reducible show wpAny _ _ (compareOp _ (Value.str (gn _) _) (Value.str (gn _) _)) _ _ _); k_dflt (refine' eq_str_to (gn_inj (by assumption) (by assumption)) ?_)))
  (k_with "isTrue BoolOp" => (k_here; (fail_if_success (with_reducible show wpAny _ _ _ (JoinEnd _ _ _ _ _) _ _)); k_dflt (refine' join_false _ _ ?_ (fun h' tk' F' N' => ?_); (all_goals (try ((with_reducible show Fr _ _ _ _); k_asm))); (all_goals (try ((with_reducible show News _ _ _ _); k_asm)))); (all_goals (try k_sweep))))
  (k_with "JoinEnd" => exact JoinEnd.intro (by k_asm) (by first | k_asm | exact cb_drop (by k_asm) fun _ hp => List.Mem.tail _ hp | exact cb_drop (by k_asm) fun _ hp => List.Mem.tail _ (List.Mem.tail _ hp) | exact cb_drop (by k_asm) fun _ hp => List.Mem.tail _ (List.Mem.tail _ (List.Mem.tail _ hp))))
  k_go0
  k_steps)
end
end Mine
end
theorem PySem.Challenge.cw_og0125_01_holds : PySem.Challenge.rw_og0125_01.Holds :=
  Mine.cw
