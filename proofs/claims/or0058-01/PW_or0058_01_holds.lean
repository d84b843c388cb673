import PyProof.Rows.All
import Wide.All
import OpenK.AllK
import Wide.FinOn
import PySem.Challenge.RW_or0058_01
open PySem PySem.W PyProof.Rows
set_option Elab.async false
set_option rowWalk.seconds 0
namespace Mine
set_option maxRecDepth 100000 in
set_option maxHeartbeats 8000000 in
open_top hd for PySem.Challenge.rw_or0058_01
end Mine
set_option maxRecDepth 100000
set_option maxHeartbeats 8000000
local macro_rules | `(tactic| walk_at $s:str) => `(tactic| k_extra $s)
local macro_rules | `(tactic| k_room) => `(tactic| ktr_room)
local macro_rules | `(tactic| ke_room) => `(tactic| ktr_units)

/-! part C1 -/
namespace Mine
open PySem PySem.W PyProof.Rows
theorem fill_once : (∀ P, hd.heap_39 P = hd.heap_39 P) ∧ PySem.Challenge.rw_or0058_01 = PySem.Challenge.rw_or0058_01 := by
  k_fill
  exact ⟨fun _ => rfl, rfl⟩
abbrev PR : Program := PySem.Challenge.rw_or0058_01.row.prog
abbrev tupObj (vs : List Value) : Obj := { cls := .type "tuple", data := .seq vs.toArray }
abbrev ent (w : World) (n : String) (k : Tok) (v : Value) : DictEntry := { hash := PyData.keyHash w.params (Str.ofString n), key := .str (Str.ofString n) k, val := v }
abbrev atomD (w : World) (W : Str) (k tk : Tok) : Obj := dictOf [ent w "text" k (.str W tk)] 1
inductive CodeIs (w : World) (news : List (Addr × Obj)) : Value → Str → Int → Prop
  | none : CodeIs w news .none (Str.ofString "") (-1)
  | empty (t : Addr) : (t, tupObj []) ∈ news → CodeIs w news (.ref t) (Str.ofString "") (-1)
  | nums (t : Addr) (n : Int) (t1 t2 : Tok) : (t, tupObj [.int n t1, .int n t2]) ∈ news → CodeIs w news (.ref t) (Str.ofString "") n
  | word (t a da : Addr) (W : Str) (k tk : Tok) : W ≠ Str.ofString "" → (t, tupObj [.ref a]) ∈ news → (a, instObj 85 da) ∈ news → (da, atomD w W k tk) ∈ news → CodeIs w news (.ref t) W (-1)
  | wordn (t a da : Addr) (W : Str) (n : Int) (k tk t1 : Tok) : W ≠ Str.ofString "" → (t, tupObj [.ref a, .int n t1]) ∈ news → (a, instObj 85 da) ∈ news → (da, atomD w W k tk) ∈ news → CodeIs w news (.ref t) W n
theorem sub_news {h₀ h : Heap} {L : Addr} {news news' : List (Addr × Obj)} (N : News h₀ L h news) (hs : ∀ p ∈ news', p ∈ news) : News h₀ L h news' := fun p hp => N p (hs p hp)
theorem grow1 {h₀ h : Heap} {L : Addr} {news : List (Addr × Obj)} {q : Addr × Obj} (N : News h₀ L h news) (hq : q ∈ news) : News h₀ L h (q :: news) := fun p hp => by
  rcases List.mem_cons.mp hp with rfl | hp
  · exact N _ hq
  · exact N _ hp
section
variable {w : World} {dp un : Nat} {gd : Option (List Code)} {cn : Str} {cs : Scope} {a : Addr} {ccd : Value} {cl : List (Str × Addr)} {outer : List Env} {A₀ : Around} {base h₀ : Heap} {L : Addr} {m : Str → Option Value} {news : List (Addr × Obj)} {s : Shared} {p : Program} {loose : List Str} {mean : ExcName → Option Value} {mg mb : Str → Option Value} {Q E : Value → Shared → Prop}
theorem word_c (B : Below A₀ base outer h₀) (F : Fr h₀ L s.heap m) (X : (hd.heap_39 w.params).In h₀) (N₀ : News h₀ L s.heap news) (T : Top p loose mean mg mb h₀) (hk : cs.kind = .function) (hdp : dp + 1 < recursionLimit) (hu : un + 8 < cLine)
    {cv : Value} {W : Str} {n : Int} (hc : CodeIs w news cv W n)
    (ret : ∀ tk1 h' tk', Fr h₀ L h' m → News h₀ L h' news → Q (.str W tk1) { s with heap := h', toks := tk' }) :
    wpAny (model PR w) (ktrTop dp un gd cn cs L a ccd cl outer) (call (.ref 148) [cv]) Q E s := by
  w_on
  w_top on
  k_with_none
  cases hc with
  | none =>
    refine wpAny_call ?_
    k_dflt cell_enter
    k_steps
    all_goals exact ret _ _ _ (by assumption) (by assumption)
  | empty t ht =>
    have N := grow1 N₀ ht
    clear N₀
    refine wpAny_call ?_
    k_dflt cell_enter
    k_steps
    all_goals exact ret _ _ _ (by assumption) (sub_news (by assumption) fun _ hp => .tail _ hp)
  | nums t n t1 t2 ht =>
    have N := grow1 N₀ ht
    clear N₀
    refine wpAny_call ?_
    k_dflt cell_enter
    k_steps
    all_goals exact ret _ _ _ (by assumption) (sub_news (by assumption) fun _ hp => .tail _ hp)
  | word t a da W k tk hW ht ha hda =>
    have N := grow1 (grow1 (grow1 N₀ hda) (.tail _ ha)) (.tail _ (.tail _ ht))
    dsimp only [atomD, ent] at N
    clear N₀
    refine wpAny_call ?_
    k_dflt cell_enter
    k_steps
    all_goals exact ret _ _ _ (by assumption) (sub_news (by assumption) fun _ hp => .tail _ (.tail _ (.tail _ hp)))
  | wordn t a da W n k tk t1 hW ht ha hda =>
    have N := grow1 (grow1 (grow1 N₀ hda) (.tail _ ha)) (.tail _ (.tail _ ht))
    dsimp only [atomD, ent] at N
    clear N₀
    refine wpAny_call ?_
    k_dflt cell_enter
    k_steps
    all_goals exact ret _ _ _ (by assumption) (sub_news (by assumption) fun _ hp => .tail _ (.tail _ (.tail _ hp)))
theorem num_c (B : Below A₀ base outer h₀) (F : Fr h₀ L s.heap m) (X : (hd.heap_39 w.params).In h₀) (N₀ : News h₀ L s.heap news) (T : Top p loose mean mg mb h₀) (hk : cs.kind = .function) (hdp : dp + 1 < recursionLimit) (hu : un + 8 < cLine)
    {cv : Value} {W : Str} {n : Int} (hc : CodeIs w news cv W n) (hW : W ≠ Str.ofString "")
    (ret : ∀ tk1 h' tk', Fr h₀ L h' m → News h₀ L h' news → Q (.int n tk1) { s with heap := h', toks := tk' }) :
    wpAny (model PR w) (ktrTop dp un gd cn cs L a ccd cl outer) (call (.ref 155) [cv]) Q E s := by
  w_on
  w_top on
  k_with_none
  cases hc with
  | none => exact absurd rfl hW
  | empty t ht => exact absurd rfl hW
  | nums t n t1 t2 ht => exact absurd rfl hW
  | word t a da W k tk hW ht ha hda =>
    have N := grow1 N₀ ht
    clear N₀
    refine wpAny_call ?_
    k_dflt cell_enter
    k_steps
    all_goals exact ret _ _ _ (by assumption) (sub_news (by assumption) fun _ hp => .tail _ hp)
  | wordn t a da W n k tk t1 hW ht ha hda =>
    have N := grow1 N₀ ht
    clear N₀
    refine wpAny_call ?_
    k_dflt cell_enter
    k_steps
    all_goals exact ret _ _ _ (by assumption) (sub_news (by assumption) fun _ hp => .tail _ hp)
end
end Mine

/-! part C2 -/
namespace Mine
open PySem PySem.W PyProof.Rows
def wordsAll : List Str := [Str.ofString "HIGHESTMODSEQ", Str.ofString "UIDVALIDITY", Str.ofString "UIDNEXT", Str.ofString "READ-ONLY", Str.ofString "READ-WRITE", Str.ofString "ALERT", Str.ofString "HIGHESTMODSEQS", Str.ofString ""]
/-- a ledger that is written up to a tail -/
inductive Split : List (Addr × Obj) → List (Addr × Obj) → List (Addr × Obj) → Prop
  | nil (own : List (Addr × Obj)) : Split own [] own
  | cons (q : Addr × Obj) {r ex own : List (Addr × Obj)} : Split r ex own → Split (q :: r) (q :: ex) own
theorem Split.eq : ∀ {news ex own : List (Addr × Obj)}, Split news ex own → news = ex ++ own
  | _, _, _, .nil _ => rfl
  | _, _, _, .cons q h => congrArg (q :: ·) h.eq
def CodeObj (w : World) (o : Obj) : Prop := o.cls = .type "tuple" ∨ o.cls = .ref 85 ∨ ∃ W k tk, o = atomD w W k tk
theorem CodeIs.mono {w : World} {news news' : List (Addr × Obj)} {cv : Value} {W : Str} {n : Int} (hs : ∀ p ∈ news, p ∈ news') (hc : CodeIs w news cv W n) : CodeIs w news' cv W n := by
  cases hc with
  | none => exact .none
  | empty t h => exact .empty t (hs _ h)
  | nums t n t1 t2 h => exact .nums t n t1 t2 (hs _ h)
  | word t a da W k tk hW h1 h2 h3 => exact .word t a da W k tk hW (hs _ h1) (hs _ h2) (hs _ h3)
  | wordn t a da W n k tk t1 hW h1 h2 h3 => exact .wordn t a da W n k tk t1 hW (hs _ h1) (hs _ h2) (hs _ h3)
abbrev CodeRet (w : World) (h₀ : Heap) (L : Addr) (m : Str → Option Value) (ex own : List (Addr × Obj)) (s : Shared) (Q : Value → Shared → Prop) : Prop :=
  ∀ cv W k h' tk' own', Fr h₀ L h' m → News h₀ L h' (ex ++ own') → (∀ p ∈ own, p ∈ own') → (∀ p ∈ own', p ∈ own ∨ CodeObj w p.2) → CodeIs w own' cv W k → W ∈ wordsAll → Q cv { s with heap := h', toks := tk' }
section
variable {w : World} {h₀ h' : Heap} {L : Addr} {m : Str → Option Value} {news ex own big : List (Addr × Obj)} {s : Shared} {Q : Value → Shared → Prop} {tk' : Nat}
theorem code_end (S : Split news ex own) (ret : CodeRet w h₀ L m ex own s Q) (new : List (Addr × Obj)) {cv : Value} {W : Str} {k : Int} (F : Fr h₀ L h' m) (N : News h₀ L h' big) (hb : ∀ p ∈ news, p ∈ big) (hn : ∀ p ∈ new, p ∈ big) (ho : ∀ p ∈ new, CodeObj w p.2)
    (hc : CodeIs w new cv W k) (hW : W ∈ wordsAll) : Q cv { s with heap := h', toks := tk' } := by
  have e := S.eq
  subst e
  refine ret cv W k h' tk' (new ++ own) F (fun p hp => N p ?_) (fun p hp => List.mem_append_right _ hp) (fun p hp => ?_) (hc.mono fun p hp => List.mem_append_left _ hp) hW
  · rcases List.mem_append.mp hp with hp | hp
    · exact hb p (List.mem_append_left _ hp)
    · rcases List.mem_append.mp hp with hp | hp
      · exact hn p hp
      · exact hb p (List.mem_append_right _ hp)
  · rcases List.mem_append.mp hp with hp | hp
    · exact .inr (ho p hp)
    · exact .inl hp
theorem code_end_none (S : Split news ex own) (ret : CodeRet w h₀ L m ex own s Q) (F : Fr h₀ L h' m) (N : News h₀ L h' big) (hb : ∀ p ∈ news, p ∈ big) : Q .none { s with heap := h', toks := tk' } :=
  code_end S ret [] F N hb (fun _ hp => nomatch hp) (fun _ hp => nomatch hp) .none (by decide +kernel)
theorem code_end_empty (S : Split news ex own) (ret : CodeRet w h₀ L m ex own s Q) (F : Fr h₀ L h' m) (N : News h₀ L h' big) (hb : ∀ p ∈ news, p ∈ big) {t : Addr} (h1 : (t, tupObj []) ∈ big) : Q (.ref t) { s with heap := h', toks := tk' } :=
  code_end S ret [(t, tupObj [])] F N hb (fun _ hp => by rcases List.mem_cons.mp hp with rfl | hp; exact h1; exact nomatch hp) (fun _ hp => by rcases List.mem_cons.mp hp with rfl | hp; exact .inl rfl; exact nomatch hp) (.empty t (.head _)) (by decide +kernel)
theorem code_end_nums (S : Split news ex own) (ret : CodeRet w h₀ L m ex own s Q) (F : Fr h₀ L h' m) (N : News h₀ L h' big) (hb : ∀ p ∈ news, p ∈ big) {t : Addr} {n : Int} {t1 t2 : Tok} (h1 : (t, tupObj [.int n t1, .int n t2]) ∈ big) : Q (.ref t) { s with heap := h', toks := tk' } :=
  code_end S ret [(t, tupObj [.int n t1, .int n t2])] F N hb (fun _ hp => by rcases List.mem_cons.mp hp with rfl | hp; exact h1; exact nomatch hp) (fun _ hp => by rcases List.mem_cons.mp hp with rfl | hp; exact .inl rfl; exact nomatch hp) (.nums t n t1 t2 (.head _)) (by decide +kernel)
theorem code_end_word (S : Split news ex own) (ret : CodeRet w h₀ L m ex own s Q) (F : Fr h₀ L h' m) (N : News h₀ L h' big) (hb : ∀ p ∈ news, p ∈ big) {t a da : Addr} {W : Str} {k tk : Tok} (h1 : (t, tupObj [.ref a]) ∈ big) (h2 : (a, instObj 85 da) ∈ big) (h3 : (da, atomD w W k tk) ∈ big)
    (hne : W ≠ Str.ofString "") (hW : W ∈ wordsAll) : Q (.ref t) { s with heap := h', toks := tk' } :=
  code_end S ret [(t, tupObj [.ref a]), (a, instObj 85 da), (da, atomD w W k tk)] F N hb
    (fun _ hp => by rcases List.mem_cons.mp hp with rfl | hp; exact h1; rcases List.mem_cons.mp hp with rfl | hp; exact h2; rcases List.mem_cons.mp hp with rfl | hp; exact h3; exact nomatch hp)
    (fun _ hp => by rcases List.mem_cons.mp hp with rfl | hp; exact .inl rfl; rcases List.mem_cons.mp hp with rfl | hp; exact .inr (.inl rfl); rcases List.mem_cons.mp hp with rfl | hp; exact .inr (.inr ⟨_, _, _, rfl⟩); exact nomatch hp)
    (.word t a da W k tk hne (.head _) (.tail _ (.head _)) (.tail _ (.tail _ (.head _)))) hW
theorem code_end_wordn (S : Split news ex own) (ret : CodeRet w h₀ L m ex own s Q) (F : Fr h₀ L h' m) (N : News h₀ L h' big) (hb : ∀ p ∈ news, p ∈ big) {t a da : Addr} {W : Str} {n : Int} {k tk t1 : Tok} (h1 : (t, tupObj [.ref a, .int n t1]) ∈ big) (h2 : (a, instObj 85 da) ∈ big) (h3 : (da, atomD w W k tk) ∈ big)
    (hne : W ≠ Str.ofString "") (hW : W ∈ wordsAll) : Q (.ref t) { s with heap := h', toks := tk' } :=
  code_end S ret [(t, tupObj [.ref a, .int n t1]), (a, instObj 85 da), (da, atomD w W k tk)] F N hb
    (fun _ hp => by rcases List.mem_cons.mp hp with rfl | hp; exact h1; rcases List.mem_cons.mp hp with rfl | hp; exact h2; rcases List.mem_cons.mp hp with rfl | hp; exact h3; exact nomatch hp)
    (fun _ hp => by rcases List.mem_cons.mp hp with rfl | hp; exact .inl rfl; rcases List.mem_cons.mp hp with rfl | hp; exact .inr (.inl rfl); rcases List.mem_cons.mp hp with rfl | hp; exact .inr (.inr ⟨_, _, _, rfl⟩); exact nomatch hp)
    (.wordn t a da W n k tk t1 hne (.head _) (.tail _ (.head _)) (.tail _ (.tail _ (.head _)))) hW
end
theorem seven (i : Nat) (h : i < 1 + 1 + 1 + 1 + 1 + 1 + 1) : [Str.ofString "HIGHESTMODSEQ", Str.ofString "HIGHESTMODSEQ", Str.ofString "UIDVALIDITY", Str.ofString "UIDNEXT", Str.ofString "READ-ONLY", Str.ofString "READ-WRITE", Str.ofString "ALERT"].getD i Str.empty ≠ Str.ofString "" ∧
    [Str.ofString "HIGHESTMODSEQ", Str.ofString "HIGHESTMODSEQ", Str.ofString "UIDVALIDITY", Str.ofString "UIDNEXT", Str.ofString "READ-ONLY", Str.ofString "READ-WRITE", Str.ofString "ALERT"].getD i Str.empty ∈ wordsAll := by
  match i, h with
  | 0, _ => decide +kernel
  | 1, _ => decide +kernel
  | 2, _ => decide +kernel
  | 3, _ => decide +kernel
  | 4, _ => decide +kernel
  | 5, _ => decide +kernel
  | 6, _ => decide +kernel
theorem kind_cases (n : Int) (h : ¬ Int.fmod n 11 < 7) : Int.fmod n 11 - 7 = 0 ∨ Int.fmod n 11 - 7 = 1 ∨ Int.fmod n 11 - 7 = 2 ∨ Int.fmod n 11 - 7 = 3 := by
  have h1 := Int.fmod_lt_of_pos n (show (0 : Int) < 11 by decide)
  omega
section
variable {w : World} {dp un : Nat} {gd : Option (List Code)} {cn : Str} {cs : Scope} {a : Addr} {ccd : Value} {cl : List (Str × Addr)} {outer : List Env} {A₀ : Around} {base h₀ : Heap} {L : Addr} {m : Str → Option Value} {news ex own : List (Addr × Obj)} {s : Shared} {p : Program} {loose : List Str} {mean : ExcName → Option Value} {mg mb : Str → Option Value} {Q E : Value → Shared → Prop}
theorem code_c (B : Below A₀ base outer h₀) (F : Fr h₀ L s.heap m) (X : (hd.heap_39 w.params).In h₀) (N : News h₀ L s.heap news) (T : Top p loose mean mg mb h₀) (hk : cs.kind = .function) (hdp : dp + 9 < recursionLimit) (hu : un + 300 < cLine)
    {n : Int} {tk : Tok} (S : Split news ex own) (ret : CodeRet w h₀ L m ex own s Q) :
    wpAny (model PR w) (ktrTop dp un gd cn cs L a ccd cl outer) (call (.ref 210) [.int n tk]) Q E s := by
  w_on
  w_top on
  k_with_none
  k_with "subscriptTail" => ((with_reducible show wpAny _ _ (subscriptTail _ _ (Value.ref _) (Value.int (Int.fmod _ 11 - 7) _)) _ _ _); (have hk4 := Mine.kind_cases _ (by assumption)); (rcases hk4 with hk4 | hk4 | hk4 | hk4) <;> rw [hk4])
  k_with "table" => skip
  refine wpAny_call ?_
  k_dflt cell_enter
  k_steps
  all_goals (rename Fr h₀ L _ m => kF; rename News h₀ L _ _ => kN)
  · exact code_end_word S ret kF kN (fun p hp => by repeat (first | exact hp | refine List.Mem.tail _ ?_)) (by k_mem) (by k_mem) (by k_mem) (seven _ (by assumption)).1 (seven _ (by assumption)).2
  · exact code_end_wordn S ret kF kN (fun p hp => by repeat (first | exact hp | refine List.Mem.tail _ ?_)) (by k_mem) (by k_mem) (by k_mem) (seven _ (by assumption)).1 (seven _ (by assumption)).2
  · exact code_end_none S ret kF kN (fun p hp => by repeat (first | exact hp | refine List.Mem.tail _ ?_))
  · exact code_end_empty S ret kF kN (fun p hp => by repeat (first | exact hp | refine List.Mem.tail _ ?_)) (by k_mem)
  · exact code_end_nums S ret kF kN (fun p hp => by repeat (first | exact hp | refine List.Mem.tail _ ?_)) (by k_mem)
  · exact code_end_wordn S ret kF kN (fun p hp => by repeat (first | exact hp | refine List.Mem.tail _ ?_)) (by k_mem) (by k_mem) (by k_mem) (by decide +kernel) (by decide +kernel)
end
end Mine

/-! part C3 -/
namespace Mine
open PySem PySem.W PyProof.Rows
/-- what a code does: the state ahead of it, the word, the number, tagged or not; the fault that is due, the state behind it -/
inductive Tr : Bool → Int → Int → Int → Int → Bool → Str → Int → Bool → Option Int → Int → Int → Int → Int → Bool → Prop
  | same {o v n t c ro tg} : Tr o v n t c ro (Str.ofString "UIDVALIDITY") v tg none v n t c ro
  | fault {v n t c ro tg N} : N ≠ v → Tr false v n t c ro (Str.ofString "UIDVALIDITY") N tg (some N) v n t c ro
  | valid {v n t c ro tg N} : N ≠ v → Tr true v n t c ro (Str.ofString "UIDVALIDITY") N tg none N n 0 c ro
  | next {o v n t c ro tg N} : Tr o v n t c ro (Str.ofString "UIDNEXT") N tg none v N t c ro
  | fell {v n t c ro tg N} : N < t → Tr true v n t c ro (Str.ofString "HIGHESTMODSEQ") N tg (some N) v n t c ro
  | coming {v n t c ro tg N} : ¬ N < t → Tr true v n t c ro (Str.ofString "HIGHESTMODSEQ") N tg none v n t N ro
  | tagged {v n t c ro N} : Tr false v n t c ro (Str.ofString "HIGHESTMODSEQ") N true none v n (if N > t then N else t) c ro
  | untagged {v n t c ro N} : Tr false v n t c ro (Str.ofString "HIGHESTMODSEQ") N false none v n t c ro
  | only {o v n t c ro tg N} : Tr o v n t c ro (Str.ofString "READ-ONLY") N tg none v n t c true
  | write {o v n t c ro tg N} : Tr o v n t c ro (Str.ofString "READ-WRITE") N tg none v n t c false
  | alert {o v n t c ro tg N} : Tr o v n t c ro (Str.ofString "ALERT") N tg none v n t c ro
  | seqs {o v n t c ro tg N} : Tr o v n t c ro (Str.ofString "HIGHESTMODSEQS") N tg none v n t c ro
  | noword {o v n t c ro tg N} : Tr o v n t c ro (Str.ofString "") N tg none v n t c ro
abbrev stL (o : Bool) (v n t c : Int) (ro : Bool) (tv tn tt tc : Tok) : Obj := W.listOf #[.bool o, .int v tv, .int n tn, .int t tt, .int c tc, .bool ro] 0
def setL (l : Addr) (o : Obj) : List (Addr × Obj) → List (Addr × Obj)
  | [] => []
  | p :: r => if p.1 = l then (l, o) :: r else p :: setL l o r
theorem setL_eq (l : Addr) (o o' : Obj) (r : List (Addr × Obj)) : setL l o ((l, o') :: r) = (l, o) :: r := if_pos rfl
theorem setL_ne {l b : Addr} (h : b ≠ l) (o o' : Obj) (r : List (Addr × Obj)) : setL l o ((b, o') :: r) = (b, o') :: setL l o r := if_neg h
def rest (l : Addr) (news : List (Addr × Obj)) : List (Addr × Obj) := news.filter (fun q => !(decide (@Eq Nat q.1 l)))
theorem mem_rest {l : Addr} {q : Addr × Obj} {news : List (Addr × Obj)} : q ∈ rest l news ↔ q ∈ news ∧ q.1 ≠ l := by
  unfold rest
  rw [List.mem_filter]
  constructor
  · rintro ⟨h1, h2⟩
    refine ⟨h1, fun e => ?_⟩
    rw [decide_eq_true (show @Eq Nat q.1 l from e)] at h2
    cases h2
  · rintro ⟨h1, h2⟩
    refine ⟨h1, ?_⟩
    rw [decide_eq_false (show ¬ @Eq Nat q.1 l from h2)]
    rfl
theorem mem_setL {l : Addr} {o o' oo : Obj} : ∀ {news news' : List (Addr × Obj)}, Upd l o oo news news' → ∀ p ∈ setL l o' news, p = (l, o') ∨ p ∈ rest l news
  | _, _, .head h, p, hp => by
    rw [setL_eq] at hp
    rcases List.mem_cons.mp hp with rfl | hp
    · exact .inl rfl
    · exact .inr (mem_rest.mpr ⟨.tail _ hp, h p hp⟩)
  | _, _, .tail (p := q) h u, p, hp => by
    obtain ⟨b, ob⟩ := q
    rw [setL_ne h] at hp
    rcases List.mem_cons.mp hp with rfl | hp
    · exact .inr (mem_rest.mpr ⟨.head _, h⟩)
    · rcases mem_setL u p hp with h1 | h1
      · exact .inl h1
      · have h2 := mem_rest.mp h1
        exact .inr (mem_rest.mpr ⟨.tail _ h2.1, h2.2⟩)
theorem upd_mem {l : Addr} {o oo : Obj} {news news' : List (Addr × Obj)} (U : Upd l o oo news news') : (l, o) ∈ news := by
  induction U with
  | head _ => exact .head _
  | tail _ _ ih => exact .tail _ ih
theorem off_rest (l : Addr) (news : List (Addr × Obj)) : OwnOff (rest l news) [l] := fun p hp b hb => by
  rw [List.mem_singleton.mp hb]
  exact (mem_rest.mp hp).2
theorem news_ne {h₀ h : Heap} {L a b : Addr} {news : List (Addr × Obj)} {o o' : Obj} (N : News h₀ L h news) (ha : (a, o) ∈ news) (hb : (b, o') ∈ news) (hne : o ≠ o') : @Ne Nat a b := by
  intro e
  have h1 := (N _ ha).1
  have h2 := (N _ hb).1
  have e' : a = b := e
  subst e'
  rw [h1] at h2
  exact hne (Option.some.inj h2)
theorem set_back {h₀ h : Heap} {L l : Addr} {news big news' : List (Addr × Obj)} {o oo o' : Obj} (U : Upd l o oo news news') (N : News h₀ L h big) (hl : (l, o') ∈ big) (hr : ∀ p ∈ rest l news, p ∈ big) : News h₀ L h (setL l o' news) := fun p hp => by
  rcases mem_setL U p hp with rfl | h1
  · exact N _ hl
  · exact N _ (hr _ h1)
theorem with_rest {h₀ h : Heap} {L l : Addr} {news news' : List (Addr × Obj)} {o oo : Obj} (U : Upd l o oo news news') (N : News h₀ L h news) : News h₀ L h ((l, o) :: rest l news) := fun p hp => by
  rcases List.mem_cons.mp hp with rfl | hp
  · exact N _ (upd_mem U)
  · exact N _ (mem_rest.mp hp).1
theorem tup_ne_cons {prog : Program} {w : World} {A : Around} {E : Value → Shared → Prop} {s : Shared} {h₀ : Heap} {L a b : Addr} {news : List (Addr × Obj)} {y : Value} {xs : List Value} {Q : Value → Shared → Prop}
    (N : News h₀ L s.heap news) (ha : (a, tupObj (y :: xs)) ∈ news) (hb : (b, tupObj []) ∈ news) (hu : A.units < cLine) (h : Q (.bool true) s) :
    wpAny (model prog w) A (compareOp .NotEq (.ref a) (.ref b)) Q E s := by
  refine cmp_ofNotEq ?_
  have q := PySem.SeqAt.RcNeAt.tuples (A := A) (s := s) (l := a) (b := b) (items := (y :: xs).toArray) (items2 := #[]) (e := fun _ => true) ⟨_, (N _ ha).1, rfl, 0, rfl⟩ ⟨_, (N _ hb).1, rfl, 0, rfl⟩ hu (fun j _ h2 => absurd h2 (Nat.not_lt_zero j))
  refine q prog w E Q ?_
  have e : (!((List.range (min (y :: xs).toArray.size (#[] : Array Value).size)).all (fun _ => true) && (y :: xs).toArray.size == (#[] : Array Value).size)) = true := by simp
  rw [e]
  exact h
theorem tup_ne_nil {prog : Program} {w : World} {A : Around} {E : Value → Shared → Prop} {s : Shared} {h₀ : Heap} {L a b : Addr} {news : List (Addr × Obj)} {Q : Value → Shared → Prop}
    (N : News h₀ L s.heap news) (ha : (a, tupObj []) ∈ news) (hb : (b, tupObj []) ∈ news) (hu : A.units < cLine) (h : Q (.bool false) s) :
    wpAny (model prog w) A (compareOp .NotEq (.ref a) (.ref b)) Q E s := by
  refine cmp_ofNotEq ?_
  have q := PySem.SeqAt.RcNeAt.tuples (A := A) (s := s) (l := a) (b := b) (items := #[]) (items2 := #[]) (e := fun _ => true) ⟨_, (N _ ha).1, rfl, 0, rfl⟩ ⟨_, (N _ hb).1, rfl, 0, rfl⟩ hu (fun j _ h2 => absurd h2 (Nat.not_lt_zero j))
  exact q prog w E Q h
def optV (t : Tok) : Option Int → Value
  | none => .none
  | some n => .int n t
abbrev DueRet (h₀ : Heap) (L : Addr) (m : Str → Option Value) (news : List (Addr × Obj)) (l : Addr) (o : Bool) (v n t c : Int) (ro : Bool) (W : Str) (N : Int) (tg : Bool) (s : Shared) (Q : Value → Shared → Prop) : Prop :=
  ∀ res v' n' t' c' ro' tr tv tn tt tc h' tk', Tr o v n t c ro W N tg res v' n' t' c' ro' → Fr h₀ L h' m → News h₀ L h' (setL l (stL o v' n' t' c' ro' tv tn tt tc) news) → Q (optV tr res) { s with heap := h', toks := tk' }
section
variable {h₀ h' : Heap} {L : Addr} {m : Str → Option Value} {news big own : List (Addr × Obj)} {l : Addr} {o ro tg : Bool} {v n t c : Int} {W : Str} {N : Int} {s : Shared} {Q : Value → Shared → Prop} {tk' : Nat} {v' n' t' c' : Int} {ro' : Bool} {tv tn tt tc tr : Tok}
theorem due_end0 (ret : DueRet h₀ L m news l o v n t c ro W N tg s Q) (back : ∀ {h' big o'}, News h₀ L h' big → (l, o') ∈ big → (∀ p ∈ own, p ∈ big) → News h₀ L h' (setL l o' news))
    (F : Fr h₀ L h' m) (kN : News h₀ L h' big) (mem : (l, stL o v' n' t' c' ro' tv tn tt tc) ∈ big) (tails : ∀ p ∈ own, p ∈ big) (T : Tr o v n t c ro W N tg none v' n' t' c' ro') : Q .none { s with heap := h', toks := tk' } :=
  ret none v' n' t' c' ro' 0 tv tn tt tc h' tk' T F (back kN mem tails)
theorem due_end1 (ret : DueRet h₀ L m news l o v n t c ro W N tg s Q) (back : ∀ {h' big o'}, News h₀ L h' big → (l, o') ∈ big → (∀ p ∈ own, p ∈ big) → News h₀ L h' (setL l o' news))
    (F : Fr h₀ L h' m) (kN : News h₀ L h' big) (mem : (l, stL o v' n' t' c' ro' tv tn tt tc) ∈ big) (tails : ∀ p ∈ own, p ∈ big) (T : Tr o v n t c ro W N tg (some N) v' n' t' c' ro') : Q (.int N tr) { s with heap := h', toks := tk' } :=
  ret (some N) v' n' t' c' ro' tr tv tn tt tc h' tk' T F (back kN mem tails)
end
def stmtAt (i : Nat) : Stmt := (PySem.Challenge.pw_or0058_01.main.body.drop i).headD default
def fnBody (i : Nat) : List Stmt := match stmtAt i with | .FunctionDef _ _ b _ _ _ _ _ _ _ => b | _ => []
def fnScope (i : Nat) : Scope := match stmtAt i with | .FunctionDef _ _ _ _ _ _ s _ _ _ => s | _ => default
def fnValue (i j : Nat) : Expr := match (fnBody i).drop j with | .Assign _ v _ :: _ => v | _ => default
theorem fr_at {h₀ h : Heap} {L : Addr} {m : Str → Option Value} {x : Str} {v : Value} (F : Fr h₀ L h m) (hm : m x = some v) : Fr h₀ L h (fun y => if y = x then some v else m y) := by
  have e : (fun y => if y = x then some v else m y) = m := by
    funext y
    by_cases hy : y = x
    · rw [if_pos hy, hy, hm]
    · rw [if_neg hy]
  rw [e]
  exact F
theorem fr_off {h₀ h : Heap} {L : Addr} {m : Str → Option Value} {x : Str} {v : Value} (hm : m x = some v) (F : Fr h₀ L h (fun y => if y = x then some v else m y)) : Fr h₀ L h m := by
  have e : (fun y => if y = x then some v else m y) = m := by
    funext y
    by_cases hy : y = x
    · rw [if_pos hy, hy, hm]
    · rw [if_neg hy]
  rw [e] at F
  exact F
section
variable {w : World} {A : Around} {L a : Addr} {ccd : Value} {h₀ : Heap} {m : Str → Option Value} {news : List (Addr × Obj)} {s : Shared} {p : Program} {loose : List Str} {mean : ExcName → Option Value} {mg mb : Str → Option Value} {Q E : Value → Shared → Prop}
theorem due_word (F₀ : Fr h₀ L s.heap m) (X : (hd.heap_39 w.params).In h₀) (N₀ : News h₀ L s.heap news) (T : Top p loose mean mg mb h₀) (hu : A.units + 300 < cLine)
    {cv : Value} {W : Str} {n : Int} (hm : m (Str.ofString "code") = some cv) (hc : CodeIs w news cv W n)
    (ret : ∀ tk1 h' tk', Fr h₀ L h' m → News h₀ L h' news → Q (.str W tk1) { s with heap := h', toks := tk' }) :
    wpAny (model PR w) A (eval (fnValue 20 0) (envOf (Str.ofString "_law_due") (fnScope 20) L a ccd)) Q E s := by
  have F := fr_at F₀ hm
  w_on
  w_top on
  k_with_none
  k_with "compareOp NotEq ref ref" => (k_here; (with_reducible show wpAny _ _ (compareOp CmpOp.NotEq (Value.ref _) (Value.ref _)) _ _ _); k_dflt (first | (refine' Mine.tup_ne_nil ?k1 ?k2 ?k3 ?k4 ?_; (case k1 => k_asm); (case k2 => k_mem); (case k3 => k_mem); (case k4 => ktr_units)) | (refine' Mine.tup_ne_cons ?k1 ?k2 ?k3 ?k4 ?_; (case k1 => k_asm); (case k2 => k_mem); (case k3 => k_mem); (case k4 => ktr_units))))
  obtain ⟨e, he⟩ : ∃ e, e = fnValue 20 0 := ⟨_, rfl⟩
  obtain ⟨sc, hsc⟩ : ∃ sc, sc = fnScope 20 := ⟨_, rfl⟩
  rw [← he, ← hsc]
  conv at he => rhs; whnf
  conv at hsc => rhs; whnf
  subst he hsc
  clear F₀
  cases hc with
  | none =>
    k_steps
    all_goals exact ret _ _ _ (fr_off hm (by assumption)) (by assumption)
  | empty t ht =>
    have N := grow1 N₀ ht
    clear N₀
    k_steps
    all_goals exact ret _ _ _ (fr_off hm (by assumption)) (sub_news (by assumption) fun _ hp => by repeat (first | exact hp | refine List.Mem.tail _ ?_))
  | nums t n t1 t2 ht =>
    have N := grow1 N₀ ht
    clear N₀
    k_steps
    all_goals exact ret _ _ _ (fr_off hm (by assumption)) (sub_news (by assumption) fun _ hp => by repeat (first | exact hp | refine List.Mem.tail _ ?_))
  | word t a da W k tk hW ht ha hda =>
    have N := grow1 (grow1 (grow1 N₀ hda) (.tail _ ha)) (.tail _ (.tail _ ht))
    dsimp only [atomD, ent] at N
    clear N₀
    k_steps
    all_goals exact ret _ _ _ (fr_off hm (by assumption)) (sub_news (by assumption) fun _ hp => by repeat (first | exact hp | refine List.Mem.tail _ ?_))
  | wordn t a da W n k tk t1 hW ht ha hda =>
    have N := grow1 (grow1 (grow1 N₀ hda) (.tail _ ha)) (.tail _ (.tail _ ht))
    dsimp only [atomD, ent] at N
    clear N₀
    k_steps
    all_goals exact ret _ _ _ (fr_off hm (by assumption)) (sub_news (by assumption) fun _ hp => by repeat (first | exact hp | refine List.Mem.tail _ ?_))
theorem due_num (F₀ : Fr h₀ L s.heap m) (X : (hd.heap_39 w.params).In h₀) (N₀ : News h₀ L s.heap news) (T : Top p loose mean mg mb h₀) (hu : A.units + 300 < cLine)
    {cv : Value} {W : Str} {n : Int} (hm : m (Str.ofString "code") = some cv) (hc : CodeIs w news cv W n)
    (ret : ∀ tk1 h' tk', Fr h₀ L h' m → News h₀ L h' news → Q (.int n tk1) { s with heap := h', toks := tk' }) :
    wpAny (model PR w) A (eval (fnValue 20 1) (envOf (Str.ofString "_law_due") (fnScope 20) L a ccd)) Q E s := by
  have F := fr_at F₀ hm
  w_on
  w_top on
  k_with_none
  k_with "compareOp NotEq ref ref" => (k_here; (with_reducible show wpAny _ _ (compareOp CmpOp.NotEq (Value.ref _) (Value.ref _)) _ _ _); k_dflt (first | (refine' Mine.tup_ne_nil ?k1 ?k2 ?k3 ?k4 ?_; (case k1 => k_asm); (case k2 => k_mem); (case k3 => k_mem); (case k4 => ktr_units)) | (refine' Mine.tup_ne_cons ?k1 ?k2 ?k3 ?k4 ?_; (case k1 => k_asm); (case k2 => k_mem); (case k3 => k_mem); (case k4 => ktr_units))))
  obtain ⟨e, he⟩ : ∃ e, e = fnValue 20 1 := ⟨_, rfl⟩
  obtain ⟨sc, hsc⟩ : ∃ sc, sc = fnScope 20 := ⟨_, rfl⟩
  rw [← he, ← hsc]
  conv at he => rhs; whnf
  conv at hsc => rhs; whnf
  subst he hsc
  clear F₀
  cases hc with
  | none =>
    k_steps
    all_goals exact ret _ _ _ (fr_off hm (by assumption)) (by assumption)
  | empty t ht =>
    have N := grow1 N₀ ht
    clear N₀
    k_steps
    all_goals exact ret _ _ _ (fr_off hm (by assumption)) (sub_news (by assumption) fun _ hp => by repeat (first | exact hp | refine List.Mem.tail _ ?_))
  | nums t n t1 t2 ht =>
    have N := grow1 N₀ ht
    clear N₀
    k_steps
    all_goals exact ret _ _ _ (fr_off hm (by assumption)) (sub_news (by assumption) fun _ hp => by repeat (first | exact hp | refine List.Mem.tail _ ?_))
  | word t a da W k tk hW ht ha hda =>
    have N := grow1 N₀ ht
    clear N₀
    k_steps
    all_goals exact ret _ _ _ (fr_off hm (by assumption)) (sub_news (by assumption) fun _ hp => by repeat (first | exact hp | refine List.Mem.tail _ ?_))
  | wordn t a da W n k tk t1 hW ht ha hda =>
    have N := grow1 N₀ ht
    clear N₀
    k_steps
    all_goals exact ret _ _ _ (fr_off hm (by assumption)) (sub_news (by assumption) fun _ hp => by repeat (first | exact hp | refine List.Mem.tail _ ?_))
end
theorem in_rest {h₀ h : Heap} {L l t : Addr} {news : List (Addr × Obj)} {o ol : Obj} (N : News h₀ L h news) (hl : (l, ol) ∈ news) (ht : (t, o) ∈ news) (hne : o.cls ≠ ol.cls) : (t, o) ∈ rest l news :=
  mem_rest.mpr ⟨ht, news_ne N ht hl fun e => hne (congrArg Obj.cls e)⟩
theorem code_rest {w : World} {h₀ h : Heap} {L l : Addr} {news : List (Addr × Obj)} {ol : Obj} {cv : Value} {W : Str} {n : Int} (N : News h₀ L h news) (hl : (l, ol) ∈ news) (hol : ol.cls = .type "list") (hc : CodeIs w news cv W n) : CodeIs w (rest l news) cv W n := by
  have go : ∀ {t o}, (t, o) ∈ news → o.cls ≠ .type "list" → (t, o) ∈ rest l news := fun ht hne => in_rest N hl ht (hol ▸ hne)
  cases hc with
  | none => exact .none
  | empty t h => exact .empty t (go h (by decide))
  | nums t n t1 t2 h => exact .nums t n t1 t2 (go h (by simp))
  | word t a da W k tk hW h1 h2 h3 => exact .word t a da W k tk hW (go h1 (by simp)) (go h2 (by simp)) (go h3 (by simp))
  | wordn t a da W n k tk t1 hW h1 h2 h3 => exact .wordn t a da W n k tk t1 hW (go h1 (by simp)) (go h2 (by simp)) (go h3 (by simp))
end Mine

/-! part C4 -/
namespace Mine
open PySem PySem.W PyProof.Rows
section
variable {w : World} {dp un : Nat} {gd : Option (List Code)} {cn : Str} {cs : Scope} {a : Addr} {ccd : Value} {cl : List (Str × Addr)} {outer : List Env} {A₀ : Around} {base h₀ : Heap} {L : Addr} {m : Str → Option Value} {news : List (Addr × Obj)} {s : Shared} {p : Program} {loose : List Str} {mean : ExcName → Option Value} {mg mb : Str → Option Value} {Q E : Value → Shared → Prop}
theorem due_c (B : Below A₀ base outer h₀) (F : Fr h₀ L s.heap m) (X : (hd.heap_39 w.params).In h₀) (N₀ : News h₀ L s.heap news) (T : Top p loose mean mg mb h₀) (hk : cs.kind = .function) (hdp : dp + 9 < recursionLimit) (hu : un + 400 < cLine)
    {cv : Value} {W : Str} {N : Int} {l : Addr} {o ro tg : Bool} {v n t c : Int} {tv tn tt tc : Tok} (hc₀ : CodeIs w news cv W N) (hW : W ∈ wordsAll) (U : Upd l (stL o v n t c ro tv tn tt tc) (stL o v n t c ro tv tn tt tc) news news)
    (ret : DueRet h₀ L m news l o v n t c ro W N tg s Q) :
    wpAny (model PR w) (ktrTop dp un gd cn cs L a ccd cl outer) (call (.ref 217) [.ref l, cv, .bool tg]) Q E s := by
  w_on
  w_top on
  k_with_none
  k_with "eval IfExp" => (k_here; k_dflt (first | (refine' Mine.due_word ?k1 ?k2 ?k3 ?k4 ?k5 ?k6 ?k7 ?_; (case k1 => k_asm); (case k2 => k_asm); (case k3 => k_asm); (case k4 => k_asm); (case k5 => ktr_units); (case k6 => k_dflt (exact rfl)); (case k7 => ((rename Mine.CodeIs _ _ _ _ _ => hcX); exact Mine.CodeIs.mono (fun p hp => by repeat (first | exact hp | refine List.Mem.tail _ ?_)) hcX))) | (refine' Mine.due_num ?k1 ?k2 ?k3 ?k4 ?k5 ?k6 ?k7 ?_; (case k1 => k_asm); (case k2 => k_asm); (case k3 => k_asm); (case k4 => k_asm); (case k5 => ktr_units); (case k6 => k_dflt (exact rfl)); (case k7 => ((rename Mine.CodeIs _ _ _ _ _ => hcX); exact Mine.CodeIs.mono (fun p hp => by repeat (first | exact hp | refine List.Mem.tail _ ?_)) hcX)))); intro tk' h' tk' F' N'; (try k_sweep))
  have hl := upd_mem U
  have hO := off_rest l news
  have hback : ∀ {h' big o'}, News h₀ L h' big → (l, o') ∈ big → (∀ p ∈ rest l news, p ∈ big) → News h₀ L h' (setL l o' news) := fun N hl hr => set_back U N hl hr
  have N₁ := with_rest U N₀
  have hc := code_rest N₀ hl rfl hc₀
  clear hl U N₀ hc₀
  generalize rest l news = own at *
  simp only [wordsAll, List.mem_cons, List.not_mem_nil, or_false] at hW
  rcases hW with rfl | rfl | rfl | rfl | rfl | rfl | rfl | rfl
  all_goals
    refine wpAny_call ?_
    k_dflt cell_enter
    k_steps
  all_goals (rename Fr h₀ L _ m => kF; rename News h₀ L _ _ => kN)
  all_goals (subst_vars; first
    | (refine' Mine.due_end0 ret hback kF kN ?mem ?tails ?tr; (case mem => k_mem); (case tails => exact (fun p hp => by repeat (first | exact hp | refine List.Mem.tail _ ?_))); (case tr => first | exact .noword | exact .coming (by assumption) | exact .tagged | exact .untagged | exact .same | exact .valid (by assumption) | exact .next | exact .only | exact .write | exact .alert | exact .seqs))
    | (refine' Mine.due_end1 ret hback kF kN ?mem ?tails ?tr; (case mem => k_mem); (case tails => exact (fun p hp => by repeat (first | exact hp | refine List.Mem.tail _ ?_))); (case tr => first | exact .fell (by assumption) | exact .fault (by assumption))))
end
end Mine

/-! part C5 -/
namespace Mine
open PySem PySem.W PyProof.Rows
abbrev cpD (w : World) (k0 k1 k2 k3 k4 k5 k6 k7 k8 k9 : Tok) (vb vf : Value) (r k : Addr) (o : Bool) (v n t c : Int) (ro : Bool) (tv tn tt tc : Tok) : Obj :=
  dictOf [ent w "box" k0 vb, ent w "validity" k1 (.int v tv), ent w "next_uid" k2 (.int n tn), ent w "top" k3 (.int t tt), ent w "rows" k4 (.ref r), ent w "kept" k5 (.ref k), ent w "is_opening" k6 (.bool o), ent w "coming_top" k7 (.int c tc), ent w "is_readonly" k8 (.bool ro), ent w "flag_names" k9 vf] 10
structure EmptyD (w : World) (k : Addr) (o : Obj) : Prop where
  hs : Obj.IsDictOf (PySem.strKind PR w) o []
  hi : Obj.IsDictOf (intKind PR w) o []
  lo : (k == sysModules) = false
theorem EmptyD.flat {w : World} {k : Addr} {o : Obj} (h : EmptyD w k o) : o.cls = .type "dict" ∧ ∃ n, o.data = .dict #[] n := by
  obtain ⟨es, ep, hx, hd, _, hp, _⟩ := h.hs
  refine ⟨hx.1, ep, ?_⟩
  have hl := hp.length
  have e : es = #[] := Array.eq_empty_of_size_eq_zero (by simpa using hl)
  rw [hd, e]
section
variable {prog : Program} {w : World} {A : Around} {E : Value → Shared → Prop} {s : Shared} {env : Env} {h₀ : Heap} {x : Str} {body : List Stmt} {Q : Flow → Shared → Prop} {m : Str → Option Value} {news : List (Addr × Obj)} {d : Addr} {ok : Obj}
theorem iter_none_dict (hh : A.handled = none) (F : Fr h₀ env.locals s.heap m) (N : News h₀ env.locals s.heap news) (hd : (d, ok) ∈ news) (hs : Obj.IsDictOf (PySem.strKind prog w) ok []) (lo : (d == sysModules) = false)
    (done : ∀ h' tk, Fr h₀ env.locals h' m → News h₀ env.locals h' news → Q .next { s with heap := h', toks := tk }) :
    wpAny (model prog w) A (pyIter (.ref d)) (fun it s₂ => LoopAtV prog w A h₀ env x body Q E it s₂) E s := by
  obtain ⟨es, ep, hx, hdat, hk, hp, hn⟩ := hs
  have hat : s.heap.DictAt (PySem.strKind prog w) d [] ep := ⟨ok, es, (N _ hd).1, hx, hdat, hk, hp, hn⟩
  refine wpAny_pyIter_dict lo hat ?_
  have hne : d ≠ s.heap.objs.size := Nat.ne_of_lt hat.lt_size
  refine ⟨s.heap.objs.size, [s.heap.objs.size, d], [s.heap.objs.size], 0, _, _, m, news, fun _ m' nx => m' = m ∧ nx = news, rfl, Walks.dictKeys (knd := PySem.strKind prog w) hh _ d hne [] ep, ?_, ?_, ?_,
    ⟨⟨_, Heap.get?_push_size _ rfl, rfl, rfl⟩, hat.push _⟩, F.push _, fun p hp => ⟨Heap.get?_push_of_some _ (N p hp).1, (N p hp).2⟩, ⟨rfl, rfl⟩, ?_, ?_⟩
  · intro hm
    rcases List.mem_cons.mp hm with e | hm
    · exact absurd F.ns.lt (e ▸ Nat.lt_irrefl _)
    · exact (N _ hd).2.1 (List.mem_singleton.mp hm).symm
  · intro b hb
    rw [List.mem_singleton.mp hb]
    exact next_is_new F
  · intro p hp hI
    exact absurd (Heap.lt_size (N p hp).1) ((List.mem_singleton.mp hI) ▸ Nat.lt_irrefl _)
  · intro i _ _ _ _ _ _ hi
    exact absurd hi (Nat.not_lt_zero i)
  · rintro h' tk m' news' F' N' _ ⟨rfl, rfl⟩
    exact done h' tk F' N'
theorem iter_none_list {nn : Nat} (hh : A.handled = none) (F : Fr h₀ env.locals s.heap m) (N : News h₀ env.locals s.heap news) (hd : (d, W.listOf #[] nn) ∈ news)
    (done : ∀ h' tk, Fr h₀ env.locals h' m → News h₀ env.locals h' news → Q .next { s with heap := h', toks := tk }) :
    wpAny (model prog w) A (pyIter (.ref d)) (fun it s₂ => LoopAtV prog w A h₀ env x body Q E it s₂) E s := by
  refine iter_invNL (vs := []) (ns := []) (nn := nn) (fun _ m' nx => m' = m ∧ nx = news) hh hd .nil F N ⟨rfl, rfl⟩ ?_ ?_
  · intro i n t m₁ news₁ h tk own hn
    simp at hn
  · rintro m₁ news₁ h tk _ ⟨rfl, rfl⟩ F₁ N₁
    exact done h tk F₁ N₁
end
theorem allLt_ne1 {L : Addr} : ∀ {own : List (Addr × Obj)}, AllLt L own → ∀ p ∈ own, p.1 ≠ L + 1
  | [], _, _, hp => nomatch hp
  | q :: r, h, p, hp => by
    rcases List.mem_cons.mp hp with rfl | hp
    · have h1 : @LT.lt Nat _ p.1 L := h.1
      intro e
      have e' : @Eq Nat p.1 (L + 1) := e
      omega
    · exact allLt_ne1 h.2 p hp
local macro_rules | `(tactic| k_all) => `(tactic| (refine Mine.allLt_ne1 ?hlt; (repeat (rename _ ∧ _ => hAnd; obtain ⟨hA1, hA2⟩ := hAnd)); assumption))
/-- a turn of the opening: the state ahead of it, resync or not, the state behind it -/
inductive Tu : Bool → Int → Int → Int → Int → Bool → Bool → Bool → Int → Int → Int → Int → Bool → Prop
  | close {v n t c ro rs} : Tu true v n t c ro rs false v n c c ro
  | resync {v n t c ro} : Tu false v n t c ro true true v n t 0 ro
  | fresh {v n t c ro} : Tu false v n t c ro false true 0 0 0 0 ro
abbrev core (w : World) (x dx l r k : Addr) (ok : Obj) (k0 k1 k2 k3 k4 k5 k6 k7 k8 k9 : Tok) (vb vf : Value) (o : Bool) (v n t c : Int) (ro : Bool) (tv tn tt tc sv sn st sc : Tok) (own : List (Addr × Obj)) : List (Addr × Obj) :=
  (x, instObj 137 dx) :: (dx, cpD w k0 k1 k2 k3 k4 k5 k6 k7 k8 k9 vb vf r k o v n t c ro tv tn tt tc) :: (l, stL o v n t c ro sv sn st sc) :: (r, W.listOf #[] 0) :: (k, ok) :: own
theorem core_ne {w : World} {h₀ h : Heap} {L x dx l r k : Addr} {ok : Obj} {k0 k1 k2 k3 k4 k5 k6 k7 k8 k9 : Tok} {vb vf : Value} {o ro : Bool} {v n t c : Int} {tv tn tt tc sv sn st sc : Tok} {own : List (Addr × Obj)}
    (N : News h₀ L h (core w x dx l r k ok k0 k1 k2 k3 k4 k5 k6 k7 k8 k9 vb vf o v n t c ro tv tn tt tc sv sn st sc own)) (hk : EmptyD w k ok) :
    @Ne Nat x dx ∧ @Ne Nat x l ∧ @Ne Nat dx l ∧ @Ne Nat r dx ∧ @Ne Nat r l ∧ @Ne Nat k dx ∧ @Ne Nat k l := by
  have m1 := List.Mem.head (a := (x, instObj 137 dx)) ((dx, cpD w k0 k1 k2 k3 k4 k5 k6 k7 k8 k9 vb vf r k o v n t c ro tv tn tt tc) :: (l, stL o v n t c ro sv sn st sc) :: (r, W.listOf #[] 0) :: (k, ok) :: own)
  obtain ⟨hc, en, hd⟩ := hk.flat
  refine ⟨news_ne N (.head _) (.tail _ (.head _)) ?_, news_ne N (.head _) (.tail _ (.tail _ (.head _))) ?_, news_ne N (.tail _ (.head _)) (.tail _ (.tail _ (.head _))) ?_, news_ne N (.tail _ (.tail _ (.tail _ (.head _)))) (.tail _ (.head _)) ?_,
    news_ne N (.tail _ (.tail _ (.tail _ (.head _)))) (.tail _ (.tail _ (.head _))) ?_, news_ne N (.tail _ (.tail _ (.tail _ (.tail _ (.head _))))) (.tail _ (.head _)) ?_, news_ne N (.tail _ (.tail _ (.tail _ (.tail _ (.head _))))) (.tail _ (.tail _ (.head _))) ?_⟩
  · intro e; have := congrArg Obj.cls e; simp at this
  · intro e; have := congrArg Obj.cls e; simp at this
  · intro e; have := congrArg Obj.cls e; simp at this
  · intro e; have := congrArg Obj.cls e; simp at this
  · intro e; have := congrArg Obj.data e; simp at this
  · intro e; rw [e] at hd; simp at hd
  · intro e; rw [e] at hc; simp at hc
abbrev TurnRet (w : World) (h₀ : Heap) (L : Addr) (m : Str → Option Value) (own : List (Addr × Obj)) (x dx l : Addr) (k0 k1 k2 k3 k4 k5 k6 k7 k8 k9 : Tok) (vf : Value) (o : Bool) (v n t c : Int) (ro rs : Bool) (s : Shared) (Q : Value → Shared → Prop) : Prop :=
  ∀ r k ok vb o' v' n' t' c' ro' tv tn tt tc sv sn st sc h' tk', Tu o v n t c ro rs o' v' n' t' c' ro' → EmptyD w k ok → Fr h₀ L h' m →
    News h₀ L h' (core w x dx l r k ok k0 k1 k2 k3 k4 k5 k6 k7 k8 k9 vb vf o' v' n' t' c' ro' tv tn tt tc sv sn st sc own) → Q .none { s with heap := h', toks := tk' }
section
variable {w : World} {h₀ h' : Heap} {L : Addr} {m : Str → Option Value} {own big : List (Addr × Obj)} {x dx l r k : Addr} {ok : Obj} {k0 k1 k2 k3 k4 k5 k6 k7 k8 k9 : Tok} {vb vf : Value} {o ro rs : Bool} {v n t c : Int} {s : Shared} {Q : Value → Shared → Prop} {tk' : Nat}
  {o' ro' : Bool} {v' n' t' c' : Int} {tv tn tt tc sv sn st sc : Tok}
theorem turn_end (ret : TurnRet w h₀ L m own x dx l k0 k1 k2 k3 k4 k5 k6 k7 k8 k9 vf o v n t c ro rs s Q) (F : Fr h₀ L h' m) (kN : News h₀ L h' big) (m1 : (x, instObj 137 dx) ∈ big) (m2 : (dx, cpD w k0 k1 k2 k3 k4 k5 k6 k7 k8 k9 vb vf r k o' v' n' t' c' ro' tv tn tt tc) ∈ big)
    (m3 : (l, stL o' v' n' t' c' ro' sv sn st sc) ∈ big) (m4 : (r, W.listOf #[] 0) ∈ big) (m5 : (k, ok) ∈ big) (ho : ∀ p ∈ own, p ∈ big) (hk : EmptyD w k ok) (T : Tu o v n t c ro rs o' v' n' t' c' ro') : Q .none { s with heap := h', toks := tk' } :=
  ret r k ok vb o' v' n' t' c' ro' tv tn tt tc sv sn st sc h' tk' T hk F (sub_news kN fun p hp => by
    rcases List.mem_cons.mp hp with rfl | hp
    · exact m1
    rcases List.mem_cons.mp hp with rfl | hp
    · exact m2
    rcases List.mem_cons.mp hp with rfl | hp
    · exact m3
    rcases List.mem_cons.mp hp with rfl | hp
    · exact m4
    rcases List.mem_cons.mp hp with rfl | hp
    · exact m5
    exact ho p hp)
end
section
variable {w : World} {dp un : Nat} {gd : Option (List Code)} {cn : Str} {cs : Scope} {a : Addr} {ccd : Value} {cl : List (Str × Addr)} {outer : List Env} {A₀ : Around} {base h₀ : Heap} {L : Addr} {m : Str → Option Value} {own : List (Addr × Obj)} {s : Shared} {p : Program} {loose : List Str} {mean : ExcName → Option Value} {mg mb : Str → Option Value} {Q E : Value → Shared → Prop}
theorem turn_c (B : Below A₀ base outer h₀) (F : Fr h₀ L s.heap m) (X : (hd.heap_39 w.params).In h₀) (T : Top p loose mean mg mb h₀) (hk : cs.kind = .function) (hdp : dp + 9 < recursionLimit) (hu : un + 400 < cLine)
    {x dx l r k : Addr} {ok : Obj} {o ro rs : Bool} {v n t c : Int} {tv tn tt tc sv sn st sc k0 k1 k2 k3 k4 k5 k6 k7 k8 k9 : Tok} {vb vf : Value}
    (N : News h₀ L s.heap (core w x dx l r k ok k0 k1 k2 k3 k4 k5 k6 k7 k8 k9 vb vf o v n t c ro tv tn tt tc sv sn st sc own)) (hO : OwnOff own [dx, l]) (hE : EmptyD w k ok)
    (ret : TurnRet w h₀ L m own x dx l k0 k1 k2 k3 k4 k5 k6 k7 k8 k9 vf o v n t c ro rs s Q) :
    wpAny (model PR w) (ktrTop dp un gd cn cs L a ccd cl outer) (call (.ref 224) [.ref x, .ref l, .bool rs]) Q E s := by
  w_on
  w_top on
  k_with_none
  k_with "pyIter ref" => ((with_reducible show wpAny _ _ (pyIter (Value.ref _)) (fun it s₂ => LoopAtV _ _ _ _ _ _ _ _ _ it s₂) _ _); k_here; (rename Fr _ _ _ _ => lF'); (rename News _ _ _ _ => lN'); (first | ((with_unfolding_all refine' Mine.iter_none_dict ?kh lF' lN' ?k1 ?k2 ?k3 ?_); (case kh => k_dflt (exact rfl)); (case k1 => k_mem); (case k2 => assumption); (case k3 => assumption)) | ((with_unfolding_all refine' Mine.iter_none_list ?kh lF' lN' ?k1 ?_); (case kh => k_dflt (exact rfl)); (case k1 => k_mem))); intro h' tk' F' N'; (try clear lF' lN'))
  obtain ⟨n1, n2, n3, n4, n5, n6, n7⟩ := core_ne N hE
  have n3' : @Ne Nat l dx := Ne.symm n3
  dsimp only [core, cpD, ent] at N
  obtain ⟨hs', hi', lo'⟩ := hE
  have fs' : PyProof.V.FlatPairs PyData.str [] [] := .nil
  have fi' : PyProof.V.FlatPairs PyData.int [] [] := .nil
  cases o with
  | false =>
    cases rs with
    | false =>
      refine wpAny_call ?_
      k_dflt cell_enter
      k_steps
      all_goals (rename Fr h₀ L _ m => kF; rename News h₀ L _ _ => kN)
      all_goals (refine' Mine.turn_end ret kF kN ?m1 ?m2 ?m3 ?m4 ?m5 ?ho ?hk ?T; (case m1 => k_mem); (case m2 => k_mem); (case m3 => k_mem); (case m4 => k_mem); (case m5 => k_mem); (case ho => exact (fun p hp => by repeat (first | exact hp | refine List.Mem.tail _ ?_))); (case hk => exact ⟨by assumption, by assumption, by assumption⟩); (case T => exact .fresh))
    | true =>
      refine wpAny_call ?_
      k_dflt cell_enter
      k_steps
      all_goals (rename Fr h₀ L _ m => kF; rename News h₀ L _ _ => kN)
      all_goals (refine' Mine.turn_end ret kF kN ?m1 ?m2 ?m3 ?m4 ?m5 ?ho ?hk ?T; (case m1 => k_mem); (case m2 => k_mem); (case m3 => k_mem); (case m4 => k_mem); (case m5 => k_mem); (case ho => exact (fun p hp => by repeat (first | exact hp | refine List.Mem.tail _ ?_))); (case hk => exact ⟨by assumption, by assumption, by assumption⟩); (case T => exact .resync))
  | true =>
    refine wpAny_call ?_
    k_dflt cell_enter
    k_steps
    all_goals (rename Fr h₀ L _ m => kF; rename News h₀ L _ _ => kN)
    all_goals (rename List.length _ = List.length (List.map _ _) => hL8; rename List.length _ = 0 => he0; (have hys := List.eq_nil_of_length_eq_zero (hL8.trans ((List.length_map _).trans he0))); subst hys)
    all_goals (refine' Mine.turn_end ret kF kN ?m1 ?m2 ?m3 ?m4 ?m5 ?ho ?hk ?T; (case m1 => k_mem); (case m2 => k_mem); (case m3 => k_mem); (case m4 => k_mem); (case m5 => k_mem); (case ho => exact (fun p hp => by repeat (first | exact hp | refine List.Mem.tail _ ?_))); (case hk => exact ⟨by assumption, by assumption, by assumption⟩); (case T => exact .close))
end
end Mine

/-! part X1 -/
namespace Mine
open PySem PySem.W PySem.Calls PyProof.Rows
abbrev bmF : List Value := [.ref 46, .type "Exception", .type "BaseException", .type "object"]
theorem fault_cls {P : Params} {h : Heap} (X : (hd.heap_39 P).In h) : ∃ nm q N bs sn sub ab col dd k0 k1 k2 k3 k5, h.get? 59 = some (excClassObj nm q 59 N bs bmF true sn sub ab col dd k0 k1 k2 k3 k5 "Exception.__new__") :=
  ⟨_, _, _, _, _, _, _, _, _, _, _, _, _, _, X 59 _ (by k_is)⟩
abbrev faultObj (t : Addr) : Obj := { cls := .ref 59, data := .fields #[.ref t, .none, .none, .none, .bool false, .none] }
section
variable {prog : Program} {w : World} {A : Around} {E : Value → Shared → Prop} {R : Result → Shared → Prop} {h : Heap} {g : Array GenState} {d : Drawn} {t : Nat} {os : OsState}
variable {nm q : Str} {N : Addr} {bs : List Value} {sn : List Str} {sub : List Value} {ab : Bool} {col : Option Bool} {dd : Option Addr} {k0 k1 k2 k3 k5 : Option Value}
theorem fault_new {rest : List Value} (hC : h.get? 59 = some (excClassObj nm q 59 N bs bmF true sn sub ab col dd k0 k1 k2 k3 k5 "Exception.__new__"))
    (hq : R (.ok (.ret (.ref (h.objs.size + 1)))) ⟨(h.push { cls := .type "tuple", data := .seq rest.toArray }).push (faultObj h.objs.size), g, d, t, os⟩) (hrest : rest.length ≤ sizeLine) :
    codeAny (model prog w) A (.builtin "Exception.__new__" ⟨.ref 59 :: rest, []⟩) R ⟨h, g, d, t, os⟩ := by
  have F := PySem.F.excBase_Exception
  have hends := F.ends
  have b1 : (Value.ref 59 :: bmF).contains (.type "Exception") = true := by decide +kernel
  have b2 : (Value.ref 59 :: bmF).contains (.type "AttributeError") = false := by decide +kernel
  have b3 : (Value.ref 59 :: bmF).contains (.type "NameError") = false := by decide +kernel
  refine codeAny_builtinAt F.entry ?_
  unfold Builtin.«BaseException.__new__»
  refine PySem.wpAt_bind ?_
  show PySem.wpAt _ _ _ (stack >>= _) _ _ _
  refine PySem.wpAt_bind (PySem.wpAt_stack fun p below => PySem.wpAt_of_wpAny ?_)
  wp_walk
  refine PySem.wpAt_of_wpAny ?_
  rw [F.owner]
  repeat (first | with_reducible refine wpAny_madeHere_exc F.canon hC ?_ | with_reducible refine wpAny_loadPart_at hC ?_ | (with_reducible refine wpAny_isSubtype_exc hC ?_; first | rw [b1] | rw [b2] | rw [b3]) | wp_step)
  show R _ _
  rw [Heap.size_push]
  exact hq
theorem fault_check {M : Model} {rest : List Value} {Q : Unit → Shared → Prop} (hC : h.get? 59 = some (excClassObj nm q 59 N bs bmF true sn sub ab col dd k0 k1 k2 k3 k5 "Exception.__new__")) (hq : Q () ⟨h, g, d, t, os⟩) :
    wpAny M A (checkBuiltinCall "Exception.__new__" ⟨.ref 59 :: rest, []⟩) Q E ⟨h, g, d, t, os⟩ := by
  have F := PySem.F.excBase_Exception
  have b1 : (Value.ref 59 :: bmF).contains (.type "Exception") = true := by decide +kernel
  have hstar := F.noStar
  simp only [checkBuiltinCall, F.newKind, F.newSplit, F.newRow]
  repeat (first | refine wpAny_loadPart_at hC ?_ | (refine wpAny_isSubtype_exc hC ?_; rw [b1]) | refine wpAny_staticBase_exc hC ?_ | refine wpAny_madeBy_exc hC ?_ | simp only [bne_self_eq_false, Bool.false_eq_true, if_false] | wp_step)
  exact hq
theorem fault_type_call {rest : List Value} {Q : Fin → Shared → Prop} (X : (hd.heap_39 w.params).In h) (hrest : rest.length ≤ sizeLine)
    (hq : wpAny (model prog w) A (call (.ref 36) (.ref (h.objs.size + 1) :: rest)) (fun r s' => r = .none ∧ Q (.done (.ret (.ref (h.objs.size + 1)))) s') E
      ⟨(h.push { cls := .type "tuple", data := .seq rest.toArray }).push (faultObj h.objs.size), g, d, t, os⟩) :
    wpAny (model prog w) A (Builtin.«type.__call__» ⟨.ref 59 :: rest, []⟩) Q E ⟨h, g, d, t, os⟩ := by
  have F := PySem.F.excBase_Exception
  obtain ⟨nm, q, N, bs, sn, sub, ab, col, dd, k0, k1, k2, k3, k5, hC⟩ := fault_cls X
  repeat (first | with_reducible refine wpAny_loadPart_at hC ?_ | with_reducible refine wpAny_madeBy_exc hC ?_ | wp_step)
  refine codeAny_call_builtin_code (Code.quiet_builtin _ F.quiet) (fault_check hC ?_)
  refine fault_new hC ?_ hrest
  show wpAny _ _ _ _ _ _
  have X₁ : (hd.heap_39 w.params).In ((h.push { cls := .type "tuple", data := .seq rest.toArray }).push (faultObj h.objs.size)) :=
    X.keeps fun b o e => Heap.get?_push_of_some _ (Heap.get?_push_of_some _ e)
  have hC₁ := Heap.get?_push_of_some (faultObj h.objs.size) (Heap.get?_push_of_some { cls := .type "tuple", data := .seq rest.toArray } hC)
  have hget : ((h.push { cls := .type "tuple", data := .seq rest.toArray }).push (faultObj h.objs.size)).get? (h.objs.size + 1) = some (faultObj h.objs.size) := by heap_get
  have hcC : (Value.ref 59 :: bmF).contains (.ref 59) = true := by decide +kernel
  unfold isInstance
  repeat (first | with_reducible refine wpAny_loadPart_at hget ?_ | (with_reducible refine wpAny_isSubtype_exc hC₁ ?_; rw [hcC]) | wp_step)
  show wpAny _ _ (typeLookup (.ref 59) _) _ _ _
  refine (looks_findIn X₁ (r := some (.ref 36)) (by k_is)).at ?_
  refine wpAny_holding (wpAny_bind ((bind_fn X₁ _ (by k_is)).at ?_))
  refine wpAny_bind (wpAny_mono hq (fun r s' hr => ?_) fun _ _ y => y)
  obtain ⟨rfl, hQ⟩ := hr
  wp_walk
  exact hQ
theorem fault_call {rest : List Value} {Q : Value → Shared → Prop} (X : (hd.heap_39 w.params).In h) (hrest : rest.length ≤ sizeLine)
    (hq : wpAny (model prog w) (A.under (.builtin "type.__call__" ⟨.ref 59 :: rest, []⟩)) (call (.ref 36) (.ref (h.objs.size + 1) :: rest)) (fun r s' => r = .none ∧ Q (.ref (h.objs.size + 1)) s') E
      ⟨(h.push { cls := .type "tuple", data := .seq rest.toArray }).push (faultObj h.objs.size), g, d, t, os⟩) :
    wpAny (model prog w) A (call (.ref 59) rest) Q E ⟨h, g, d, t, os⟩ := by
  obtain ⟨nm, q, N, bs, sn, sub, ab, col, dd, k0, k1, k2, k3, k5, hC⟩ := fault_cls X
  have f1 := tc_lookup
  have f2 := tc_bind (.ref 59)
  have hT : (⟨h, g, d, t, os⟩ : Shared).TypeIs (.ref 59) "type" := ⟨_, hC, rfl⟩
  refine wpAny_call (codeAny_of_tree ?_)
  show wpAny _ _ (callAny (.ref 59) _) _ _ _
  repeat (any_goals (first | assumption | with_reducible refine wpAny_loadPart_at hC ?_ | wp_step))
  refine ⟨rfl, ?_⟩
  exact codeAny_call_builtin_at (Code.quiet_builtin _ (by decide +kernel)) entry_typeCall (wpAny_check_type_call_sub hC (fault_type_call X hrest hq))
end
end Mine

/-! part X2 -/
namespace Mine
open PySem PySem.W PySem.Calls PyProof.Rows Builtin Builtin.ObjectAttr
abbrev faultD (t d : Addr) : Obj := { cls := .ref 59, dict := some d, data := .fields #[.ref t, .none, .none, .none, .bool false, .none] }
section
variable {w : World} {A : Around} {E : Value → Shared → Prop} {R : Result → Shared → Prop} {h : Heap} {g : Array GenState} {d : Drawn} {t : Nat} {os : OsState} {x : Addr} {name : Str} {tk : Tok} {v : Value}
theorem osa_fault {ox : Obj} {od : Option Obj} (X : (hd.heap_39 w.params).In h) (I : InstAt h x ox 59 od) (hf : findIn (hd.heap_39 w.params) (.ref 59) name = some none)
    (hq : wpAny (model PR w) A.in1 (storeInOwnDict (.ref x) (.ref 59) (.str name tk) name v false) (fun fin s' => match fin with | .done f => R (.ok f) s' | .again c' => c'.quiet = true ∧ codeAny (model PR w) A c' R s') (fun e s' => R (.error e) s') ⟨h, g, d, t, os⟩) :
    codeAny (model PR w) A (.call (.builtin "object.__setattr__") ⟨[.ref x, .str name tk, v], []⟩) R ⟨h, g, d, t, os⟩ := by
  have SF := PySem.F.store_object
  have sub : Looks (model PR w) h (isInstance (.ref x) (.type "object")) true := I.type.andThen (looks_subIn X (by k_is))
  refine codeAny_call_builtin SF.slot.plain SF.entry (@check_slot (model PR w) _ _ ⟨h, g, d, t, os⟩ "object.__setattr__" "object" "__setattr__" (.ref x) [.str name tk, v] [] _ SF.kind SF.split sub (SF.args (.ref x) (.str name tk) v) ?_)
  obtain ⟨nm, q, N, bs, sn, sub', ab, col, dd, k0, k1, k2, k3, k5, hC⟩ := fault_cls X
  rw [osa_eq, refuse_eq]
  refine wpAny_bind (wpAny_bind (I.type.at (wpAny_bind (wpAny_mroOf_exc hC ?_))))
  rw [refuseLoop_ref, refuseLoop_ref, PySem.F.store_Exception.passes]
  refine wpAny_pure (wpAny_bind (I.type.at (wpAny_bind ((looks_findIn X hf).at (wpAny_bind (wpAny_pure ?_))))))
  exact hq
theorem store_new {t₀ : Addr} (X : (hd.heap_39 w.params).In h) (hx : h.get? x = some (faultObj t₀)) {Q : PySem.Fin → Shared → Prop}
    (hq : ∀ h', h'.get? x = some (faultD t₀ h.objs.size) → h'.get? h.objs.size = some (dictOf [⟨PyData.keyHash w.params name, .str name t, v⟩] 1) → (∀ b o, b ≠ x → h.get? b = some o → h'.get? b = some o) → Q (.done (.ret .none)) ⟨h', g, d, t + 1, os⟩) :
    wpAny (model PR w) A (storeInOwnDict (.ref x) (.ref 59) (.str name tk) name v false) Q E ⟨h, g, d, t, os⟩ := by
  obtain ⟨nm, q, N, bs, sn, sub', ab, col, dd, k0, k1, k2, k3, k5, hC⟩ := fault_cls X
  unfold storeInOwnDict ownDictForStores instanceDict
  repeat (first | with_reducible refine wpAny_loadPart_at hx ?_ | with_reducible refine wpAny_loadPart_at hC ?_ | wp_step)
  have hxs : x ≠ h.objs.size := Nat.ne_of_lt (Heap.lt_size hx)
  have hx₁ : (h.push { cls := .type "dict", data := .dict #[] }).get? x = some (faultObj t₀) := Heap.get?_push_of_some _ hx
  have hgd : ((h.push { cls := .type "dict", data := .dict #[] }).update x fun o => { cls := o.cls, dict := some h.objs.size, data := o.data, slots := o.slots }).get? h.objs.size = some (dictOf [] 0) :=
    (Heap.get?_update_ne _ _ _ _ hxs.symm).trans (Heap.get?_push_at rfl rfl)
  have hgx : ((h.push { cls := .type "dict", data := .dict #[] }).update x fun o => { cls := o.cls, dict := some h.objs.size, data := o.data, slots := o.slots }).get? x = some (faultD t₀ h.objs.size) := Heap.get?_update_self _ hx₁ rfl
  refine wpAny_askSetting (wpAny_pure (wpAny_bind (wpAny_mkText (wpAny_bind (wpAny_loadPart hgd ?_)))))
  have e1 : Obj.putName name (PyData.keyHash w.params name) (.str name t) v (dictOf [] 0) = dictOf [⟨PyData.keyHash w.params name, .str name t, v⟩] 1 := by rw [putName_dict]; rfl
  have hgd₂ := Heap.get?_update_self (Obj.putName name (PyData.keyHash w.params name) (.str name t) v) hgd (by rw [e1]; rfl)
  rw [e1] at hgd₂
  refine wpAny_updatePart hgd ?_
  refine wpAny_bind (wpAny_lookBehind hgd₂ (pastItsLine_dict (by rw [sizeLine_eq]; show 1 ≤ _; omega)) ?_)
  refine wpAny_pure (hq _ ((Heap.get?_update_ne _ _ _ _ hxs).trans hgx) hgd₂ fun b o hb hb' => ?_)
  exact (Heap.get?_update_ne _ _ _ _ (Nat.ne_of_lt (Heap.lt_size hb'))).trans ((Heap.get?_update_ne _ _ _ _ hb).trans (Heap.get?_push_of_some _ hb'))
theorem store_old {t₀ dx : Addr} {es : List DictEntry} {n : Nat} (X : (hd.heap_39 w.params).In h) (hx : h.get? x = some (faultD t₀ dx)) (hdx : h.get? dx = some (dictOf es n)) (hne : x ≠ dx) (hk : es.any (·.refKey) = false) (hz : (putL name (PyData.keyHash w.params name) (.str name t) v es).length ≤ 1000) {Q : PySem.Fin → Shared → Prop}
    (hq : ∀ h', h'.get? x = some (faultD t₀ dx) → h'.get? dx = some (dictOf (putL name (PyData.keyHash w.params name) (.str name t) v es) (putN name es n)) → (∀ b o, b ≠ dx → h.get? b = some o → h'.get? b = some o) → Q (.done (.ret .none)) ⟨h', g, d, t + 1, os⟩) :
    wpAny (model PR w) A (storeInOwnDict (.ref x) (.ref 59) (.str name tk) name v false) Q E ⟨h, g, d, t, os⟩ := by
  obtain ⟨nm, q, N, bs, sn, sub', ab, col, dd, k0, k1, k2, k3, k5, hC⟩ := fault_cls X
  unfold storeInOwnDict ownDictForStores instanceDict
  repeat (first | with_reducible refine wpAny_loadPart_at hx ?_ | with_reducible refine wpAny_loadPart_at hC ?_ | wp_step)
  refine wpAny_askSetting (wpAny_pure (wpAny_bind (wpAny_mkText (wpAny_bind (wpAny_loadPart hdx ?_)))))
  have e1 := putName_dict name (PyData.keyHash w.params name) (.str name t) v es n
  have hgd₂ := Heap.get?_update_self (Obj.putName name (PyData.keyHash w.params name) (.str name t) v) hdx (by rw [e1]; rfl)
  rw [e1] at hgd₂
  have c : aRefKeyMayBeTheName name es.toArray = false := by
    have hk' : es.toArray.any (·.refKey) = false := by rw [List.any_toArray]; exact hk
    rw [aRefKeyMayBeTheName_at, hk', Bool.and_false]
  show wpAny _ _ (if aRefKeyMayBeTheName name es.toArray = true then _ else _) _ _ _
  rw [c]
  refine wpAny_updatePart hdx ?_
  refine wpAny_bind (wpAny_lookBehind hgd₂ (pastItsLine_dict (by rw [sizeLine_eq, List.size_toArray]; omega)) ?_)
  exact wpAny_pure (hq _ ((Heap.get?_update_ne _ _ _ _ hne).trans hx) hgd₂ fun b o hb hb' => (Heap.get?_update_ne _ _ _ _ hb).trans hb')
theorem set_fault {s : Shared} {ox : Obj} {od : Option Obj} (X : (hd.heap_39 w.params).In s.heap) (I : InstAt s.heap x ox 59 od) (hf : findIn (hd.heap_39 w.params) (.ref 59) name = some none) {Q : Unit → Shared → Prop}
    (hq : wpAny (model PR w) A.in1 (storeInOwnDict (.ref x) (.ref 59) (.str name s.toks) name v false) (fun fin s' => match fin with | .done (.ret _) => Q () s' | _ => False) (fun e s' => E e s') { s with toks := s.toks + 1 }) :
    wpAny (model PR w) A (setAttr (.ref x) name v) Q E s := by
  refine set_plain (C := 59) X I (by k_is) ?_
  refine osa_fault (h := s.heap) X I hf (wpAny_mono hq (fun fin s' hh => ?_) fun _ _ y => y)
  cases fin with
  | done f => cases f <;> first | exact hh | exact hh.elim
  | again c => exact hh.elim
variable {s : Shared} {h₀ : Heap} {L : Addr} {m : Str → Option Value}
theorem set_first {t₀ : Addr} (F : Fr h₀ L s.heap m) (X₀ : (hd.heap_39 w.params).In h₀) (N : News h₀ L s.heap [(x, faultObj t₀)]) (hf : findIn (hd.heap_39 w.params) (.ref 59) name = some none) {Q : Unit → Shared → Prop}
    (hq : ∀ dx tk h', @Ne Nat x dx → Fr h₀ L h' m → News h₀ L h' [(x, faultD t₀ dx), (dx, dictOf [⟨PyData.keyHash w.params name, .str name tk, v⟩] 1)] → Q () { s with heap := h', toks := s.toks + 1 + 1 }) :
    wpAny (model PR w) A (setAttr (.ref x) name v) Q E s := by
  have Nx := N _ (.head _)
  refine set_fault (X₀.keeps F.keep) (ox := faultObj t₀) (od := none) ⟨Nx.1, rfl, rfl, trivial⟩ hf (store_new (h := s.heap) (t := s.toks + 1) (X₀.keeps F.keep) Nx.1 fun h' e1 e2 e3 => ?_)
  have hxs : x ≠ s.heap.objs.size := Nat.ne_of_lt (Heap.lt_size Nx.1)
  obtain ⟨oL, es, ep, hL, r⟩ := F.ns
  have F' : Fr h₀ L h' m := ⟨⟨oL, es, ep, e3 L oL (Ne.symm Nx.2.1) hL, r⟩, fun b o e => e3 b o (fun q => by rw [q, Nx.2.2] at e; cases e) (F.keep b o e), F.above⟩
  show Q () _
  refine hq s.heap.objs.size (s.toks + 1) h' hxs F' fun p hp => ?_
  rcases List.mem_cons.mp hp with rfl | hp
  · exact ⟨e1, Nx.2.1, Nx.2.2⟩
  · obtain rfl := List.mem_singleton.mp hp
    exact ⟨e2, Nat.ne_of_gt (Heap.lt_size hL), next_is_new F⟩
theorem set_second {t₀ dx : Addr} {es es' : List DictEntry} {n n' : Nat} (F : Fr h₀ L s.heap m) (X₀ : (hd.heap_39 w.params).In h₀) (hne : @Ne Nat x dx) (N : News h₀ L s.heap [(x, faultD t₀ dx), (dx, dictOf es n)]) (hf : findIn (hd.heap_39 w.params) (.ref 59) name = some none) (hk : es.any (·.refKey) = false)
    (e : (putL name (PyData.keyHash w.params name) (.str name (s.toks + 1)) v es, putN name es n) = (es', n')) (hz : es'.length ≤ 1000) {Q : Unit → Shared → Prop}
    (hq : ∀ h', Fr h₀ L h' m → News h₀ L h' [(x, faultD t₀ dx), (dx, dictOf es' n')] → Q () { s with heap := h', toks := s.toks + 1 + 1 }) :
    wpAny (model PR w) A (setAttr (.ref x) name v) Q E s := by
  have Nx := N _ (.head _)
  have Nd := N _ (.tail _ (.head _))
  obtain ⟨rfl, rfl⟩ := Prod.mk.inj e
  refine set_fault (X₀.keeps F.keep) (ox := faultD t₀ dx) (od := some (dictOf es n)) ⟨Nx.1, rfl, rfl, Nd.1⟩ hf (store_old (h := s.heap) (t := s.toks + 1) (X₀.keeps F.keep) Nx.1 Nd.1 hne hk hz fun h' e1 e2 e3 => ?_)
  obtain ⟨oL, es, ep, hL, r⟩ := F.ns
  have F' : Fr h₀ L h' m := ⟨⟨oL, es, ep, e3 L oL (Ne.symm Nd.2.1) hL, r⟩, fun b o e => e3 b o (fun q => by rw [q, Nd.2.2] at e; cases e) (F.keep b o e), F.above⟩
  show Q () _
  refine hq h' F' fun p hp => ?_
  rcases List.mem_cons.mp hp with rfl | hp
  · exact ⟨e1, Nx.2.1, Nx.2.2⟩
  · obtain rfl := List.mem_singleton.mp hp
    exact ⟨e2, Nd.2.1, Nd.2.2⟩
theorem init_exc {t₀ : Addr} {y : Value} (F : Fr h₀ L s.heap m) (X₀ : (hd.heap_39 w.params).In h₀) (N : News h₀ L s.heap [(x, faultObj t₀)]) {Q : Value → Shared → Prop}
    (hq : ∀ t' h', Fr h₀ L h' m → News h₀ L h' [(x, faultObj t')] → Q .none { s with heap := h' }) :
    wpAny (model PR w) A (call (.builtin "Exception.__init__") [.ref x, y]) Q E s := by
  have Nx := N _ (.head _)
  have FB := PySem.F.excBase_Exception
  obtain ⟨nm, q, NN, bs, sn, sub', ab, col, dd, k0, k1, k2, k3, k5, hC⟩ := fault_cls (X₀.keeps F.keep)
  have b1 : (Value.ref 59 :: bmF).contains (.type "Exception") = true := by decide +kernel
  have hshort := FB.noStar
  obtain ⟨h, g, d, t, os⟩ := s
  have he := Nx.1
  refine wpAny_call (codeAny_call_builtin FB.init.plain FB.initEntry ?_)
  simp only [checkBuiltinCall, FB.initKind, FB.initSplit, FB.initRow]
  repeat (first | with_reducible refine wpAny_loadPart_at he ?_ | with_reducible refine wpAny_loadPart_at hC ?_ | (with_reducible refine wpAny_isSubtype_exc hC ?_; rw [b1]) | wp_step)
  show Q .none _
  have hxs : x ≠ h.objs.size := Nat.ne_of_lt (Heap.lt_size he)
  have hx₁ : (h.push { cls := .type "tuple", data := .seq #[y] }).get? x = some (faultObj t₀) := Heap.get?_push_of_some _ he
  have hx₂ : ((h.push { cls := .type "tuple", data := .seq #[y] }).update x (Obj.mapFields fun z => z.setIfInBounds 0 (.ref h.objs.size))).get? x = some (faultObj h.objs.size) := Heap.get?_update_self _ hx₁ rfl
  have keep : ∀ b o, b ≠ x → h.get? b = some o → ((h.push { cls := .type "tuple", data := .seq #[y] }).update x (Obj.mapFields fun z => z.setIfInBounds 0 (.ref h.objs.size))).get? b = some o :=
    fun b o hb hb' => (Heap.get?_update_ne _ _ _ _ hb).trans (Heap.get?_push_of_some _ hb')
  obtain ⟨oL, es, ep, hL, r⟩ := F.ns
  refine hq h.objs.size _ ⟨⟨oL, es, ep, keep L oL (Ne.symm Nx.2.1) hL, r⟩, fun b o e => keep b o (fun q => by rw [q, Nx.2.2] at e; cases e) (F.keep b o e), F.above⟩ fun p hp => ?_
  obtain rfl := List.mem_singleton.mp hp
  exact ⟨hx₂, Nx.2.1, Nx.2.2⟩
end
section
variable {w : World} {dp un : Nat} {gd : Option (List Code)} {cn : Str} {cs : Scope} {a : Addr} {ccd : Value} {cl : List (Str × Addr)} {outer : List Env} {A₀ A : Around} {base h₀ : Heap} {L : Addr} {m : Str → Option Value} {s : Shared} {p : Program} {loose : List Str} {mean : ExcName → Option Value} {mg mb : Str → Option Value} {Q E : Value → Shared → Prop}
theorem init_c (B : Below A₀ base outer h₀) (F : Fr h₀ L s.heap m) (X : (hd.heap_39 w.params).In h₀) (T : Top p loose mean mg mb h₀) (hk : cs.kind = .function) (hdp : A.depth + 3 < recursionLimit) (hA : A.frames = some (envX cn cs L a ccd cl :: outer))
    {e t : Addr} {y : Str} {n : Int} {t1 t2 : Tok} (N : News h₀ L s.heap [(e, faultObj t)])
    (ret : ∀ t' de k1 k2 t1 t2 h' tk', Fr h₀ L h' m → News h₀ L h' [(e, faultD t' de), (de, dictOf [ent w "what" k1 (.str y t1), ent w "at" k2 (.int n t2)] 2)] → Q .none { s with heap := h', toks := tk' }) :
    wpAny (model PR w) A (call (.ref 36) [.ref e, .str y t1, .int n t2]) Q E s := by
  w_on
  w_top on
  k_with_none
  k_with "getMethod type:Exception" => (k_here; refine' method_type ?F ?X ?m (by decide +kernel) ?e ?h ?_; (case F => k_asm); (case X => k_asm); (case m => kernel_rfl); (case e => k_dflt k_is); (case h => k_handed))
  k_with "call builtin:Exception.__init__" => (k_here; k_dflt (refine' Mine.init_exc ?F ?X ?N ?_; (case F => k_asm); (case X => k_asm); (case N => k_asm)); intro t' h' F' N'; (try k_sweep))
  k_with "setAttr ref" => (k_here; k_dflt (first | (refine' Mine.set_first ?F ?X ?N ?f ?_; (case F => k_asm); (case X => k_asm); (case N => k_asm); (case f => k_is); intro d' tk' h' hne' F' N') | (refine' Mine.set_second ?F ?X ?n ?N ?f ?k ?e ?z ?_; (case F => k_asm); (case X => k_asm); (case N => k_asm); (case n => assumption); (case f => k_is); (case k => rfl); (case e => k_put); (case z => exact Nat.le_of_ble_eq_true rfl); intro h' F' N')); (try k_sweep))
  refine wpAny_call ?_
  k_dflt (refine' code_def ?k1 ?k2 ?k3 ?k4 ?k5 ?kA ?kF ?kK ?k6 ?k7 ?k8 ?k9 ?kB ?_ ?c2 ?c3 ?c4 ?c5; (case kA => exact hA); (case kF => exact rfl); (case kK => assumption); (case k1 => k_asm); (case k2 => k_asm); (case k3 => k_asm); (case k4 => k_asm); (case k5 => k_asm); (case k6 => k_is); (case k7 => k_is); (case k8 => ktr_room); (case k9 => exact binds_K (by k_in) rfl (by k_is) rfl rfl rfl); (case c5 => decide); (case kB => exact locs rfl); (case c2 => exact rfl); (case c3 => exact rfl); (case c4 => exact rfl); k_whole; intro g' L' h' FG' F' N' B' X' T'; (try dsimp only); (try k_lift B'); (try k_fold))
  k_steps
  all_goals exact ret _ _ _ _ _ _ _ _ (by assumption) (by assumption)
/-- what a made fault leaves: the object, its dict with the number -/
def RaisF (w : World) (h₀ : Heap) (L : Addr) (m : Str → Option Value) (n : Int) (E : Value → Shared → Prop) (v : Value) (s₁ : Shared) : Prop :=
  ∃ e t' de k1 k2 t1 t2 y, v = .ref e ∧ Fr h₀ L s₁.heap m ∧ News h₀ L s₁.heap [(e, faultD t' de), (de, dictOf [ent w "what" k1 (.str y t1), ent w "at" k2 (.int n t2)] 2)] ∧ E (.ref e) s₁
theorem fault_c (B : Below A₀ base outer h₀) (F : Fr h₀ L s.heap m) (X : (hd.heap_39 w.params).In h₀) (T : Top p loose mean mg mb h₀) (hk : cs.kind = .function) (hdp : A.depth + 9 < recursionLimit) (hA : A.frames = some (envX cn cs L a ccd cl :: outer))
    {y : Str} {n : Int} {t1 t2 : Tok} (ret : ∀ v h' tk', RaisF w h₀ L m n (fun _ _ => True) v { s with heap := h', toks := tk' } → Q v { s with heap := h', toks := tk' }) :
    wpAny (model PR w) A (call (.ref 59) [.str y t1, .int n t2]) Q E s := by
  obtain ⟨h, g, d, t, os⟩ := s
  refine fault_call (X.keeps F.keep) (by rw [sizeLine_eq]; show 2 ≤ _; omega) ?_
  have hd1 : (A.under (.builtin "type.__call__" ⟨.ref 59 :: [.str y t1, .int n t2], []⟩)).depth + 3 < recursionLimit := by
    simp only [depth_under_make]
    omega
  have Fx : Fr h₀ L ((h.push { cls := .type "tuple", data := .seq [Value.str y t1, Value.int n t2].toArray }).push (faultObj h.objs.size)) m := (F.push _).push _
  have Nx : News h₀ L ((h.push { cls := .type "tuple", data := .seq [Value.str y t1, Value.int n t2].toArray }).push (faultObj h.objs.size)) [(h.objs.size + 1, faultObj h.objs.size)] := fun p hp => by
    obtain rfl := List.mem_singleton.mp hp
    have hs := F.ns.lt
    refine ⟨by heap_get, Nat.ne_of_gt (Nat.lt_succ_of_lt hs), Heap.get?_none_of_le ?_⟩
    exact Nat.le_of_lt (Nat.lt_of_le_of_lt F.above (Nat.lt_succ_of_lt hs))
  exact init_c (A₀ := A₀) B Fx X T hk hd1 hA Nx (fun t' de k1 k2 u1 u2 h' tk' F' N' => ⟨rfl, ret _ h' tk' ⟨_, t', de, k1, k2, u1, u2, y, rfl, F', N', trivial⟩⟩)
end
end Mine

/-! part X3 -/
namespace Mine
open PySem PySem.W PySem.Calls PyProof.Rows
/-- the fault on its way: its object with its dict, its newest mark of a frame -/
def TrX (h B : Heap) (e de : Addr) (fl : Value) : Prop :=
  ∃ vs sl T oT ts, h.get? e = some (⟨.ref 59, some de, .fields vs, sl⟩ : Obj) ∧ vs[1]? = some (.ref T) ∧ B.get? T = none ∧ T ≠ e ∧ h.get? T = some oT ∧ oT.data = .fields ts ∧ ts[3]? = some fl
def FlyE (B : Heap) (l : List Env) (e de : Addr) (fl : Value) (h : Heap) : Prop := B.StaysIn h ∧ B.get? e = none ∧ h.FunFrames B l ∧ TrX h B e de fl
/-- a record of the way's own turns: the ground, the frames and all else stay -/
theorem rec_turns {h B : Heap} {l : List Env} {a : Addr} {o : Obj} {xs : Array Value} (i : Nat) (v : Value) (ha : h.get? a = some o) (hd : o.data = .fields xs) (hB : B.get? a = none) (hs : B.StaysIn h) (hl : h.FunFrames B l) :
    B.StaysIn (h.update a (Obj.mapFields (·.setIfInBounds i v))) ∧ (h.update a (Obj.mapFields (·.setIfInBounds i v))).FunFrames B l ∧ h.UpToSlots (h.update a (Obj.mapFields (·.setIfInBounds i v))) ∧
      (∀ b o, b ≠ a → h.get? b = some o → (h.update a (Obj.mapFields (·.setIfInBounds i v))).get? b = some o) ∧
      (h.update a (Obj.mapFields (·.setIfInBounds i v))).get? a = some (Obj.mapFields (·.setIfInBounds i v) o) := by
  have off : ∀ b o, b ≠ a → h.get? b = some o → (h.update a (Obj.mapFields (·.setIfInBounds i v))).get? b = some o := fun b o hb ho => by
    rw [Heap.get?_update_other _ _ (Ne.symm hb), ho]
  have plain : ∀ b o, h.get? b = some o → (∀ vs, o.data ≠ .fields vs) → (h.update a (Obj.mapFields (·.setIfInBounds i v))).get? b = some o := fun b o₁ ho hn => off b o₁ (fun q => by
    subst q
    exact hn xs (Option.some.inj (ho.symm.trans ha) ▸ hd)) ho
  refine ⟨fun b o₁ ho => off b o₁ (fun q => ?_) (hs b o₁ ho), hl.of_keeps fun b o₁ ho hn => ⟨o₁, plain b o₁ ho hn, rfl⟩, fun b o₁ ho hn => ⟨o₁.slots, plain b o₁ ho hn⟩, off, ?_⟩
  · subst q
    rw [hB] at ho
    cases ho
  · exact Heap.get?_update_self _ ha (Obj.isFreed_of_fields (Obj.data_mapFields hd _))
section
variable {M : Model} {A : Around} {E : Value → Shared → Prop} {s : Shared} {B : Heap} {env : Env} {outer l : List Env} {L e de : Addr} {fl : Value}
/-- the mark's own cell is written -/
theorem mark_x {v : Value} {T : Addr} {oT : Obj} {vs ts : Array Value} {sl : Array (Option Value)} {Q : Unit → Shared → Prop} (hs : B.StaysIn s.heap) (hen : B.get? e = none) (hl : s.heap.FunFrames B l)
    (he : s.heap.get? e = some (⟨.ref 59, some de, .fields vs, sl⟩ : Obj)) (h1 : vs[1]? = some (.ref T)) (hnT : B.get? T = none) (hTe : T ≠ e) (hT : s.heap.get? T = some oT) (hdT : oT.data = .fields ts) (h3 : 3 < ts.size)
    (h : ∀ h', FlyE B l e de v h' → s.heap.UpToSlots h' → Q () { s with heap := h' }) : wpAny M A (setField (.ref T) 3 v) Q E s := by
  obtain ⟨r1, r2, r3, r4, r5⟩ := rec_turns 3 v hT hdT hnT hs hl
  exact wpAny_setField hT hdT h3 (h _ ⟨r1, hen, r2, vs, sl, T, _, _, r4 e _ (Ne.symm hTe) he, h1, hnT, hTe, r5, Obj.data_mapFields hdT _, by simp [h3]⟩ r3)
/-- the fault is pointed at a new mark -/
theorem point_x {T : Addr} {oT : Obj} {vs ts : Array Value} {sl : Array (Option Value)} {Q : Unit → Shared → Prop} (hs : B.StaysIn s.heap) (hen : B.get? e = none) (hl : s.heap.FunFrames B l)
    (he : s.heap.get? e = some (⟨.ref 59, some de, .fields vs, sl⟩ : Obj)) (h1 : 1 < vs.size) (hnT : B.get? T = none) (hTe : T ≠ e) (hT : s.heap.get? T = some oT) (hdT : oT.data = .fields ts) (h3 : ts[3]? = some fl)
    (h : ∀ h', FlyE B l e de fl h' → s.heap.UpToSlots h' → Q () { s with heap := h' }) : wpAny M A (setField (.ref e) 1 (.ref T)) Q E s := by
  obtain ⟨r1, r2, r3, r4, r5⟩ := rec_turns 1 (.ref T) he rfl hen hs hl
  exact wpAny_setField he rfl h1 (h _ ⟨r1, hen, r2, _, sl, T, oT, ts, r5, by simp [h1], hnT, hTe, r4 T _ hTe hT, hdT, h3⟩ r3)
theorem entry_x {vs : Array Value} {sl : Array (Option Value)} {head : Value} {hadNext : Bool} {Q : Unit → Shared → Prop}
    (hfr : A.frames = some (env :: outer)) (hl : s.heap.FunFrames B (env :: outer)) (hf : env.frame = some L) (he : s.heap.get? e = some (⟨.ref 59, some de, .fields vs, sl⟩ : Obj)) (hkb : B.StaysIn s.heap) (hen : B.get? e = none) (hsz : 1 < vs.size)
    (h : ∀ h', FlyE B (env :: outer) e de (rawInt L) h' → s.heap.UpToSlots h' → Q () { s with heap := h' }) :
    wpAny M A (do let a ← frameOf env; let pl ← entryPlaceOf L hadNext; let b ← EntryCells.newEntry head a .none (rawInt L) .none pl; setField (.ref e) 1 b) Q E s := by
  refine wpAny_bind (wpAny_frameOf_fun hfr hl hf fun h₁ hs₁ => wpAny_bind (wpAny_entryPlaceOf fun pl hpl => ?_))
  have e₁ : h₁.get? e = some (⟨.ref 59, some de, .fields vs, sl⟩ : Obj) := by
    refine (hs₁.2.1 e fun hm => ?_).trans he
    obtain ⟨o, ho, hn⟩ := (hl.mem hm).2
    exact hn vs (Option.some.inj (ho.symm.trans he) ▸ rfl)
  have b₁ : B.StaysIn h₁ := fun b o ho => (hs₁.2.1 b fun hm => nomatch ho.symm.trans (hl.mem hm).1).trans (hkb b o ho)
  have u₁ : s.heap.UpToSlots h₁ := fun b o ho _ => hs₁.2.2 b o ho
  have l₁ : h₁.FunFrames B (env :: outer) := hl.of_keeps fun b o ho _ => by
    obtain ⟨sl', q⟩ := hs₁.2.2 b o ho
    exact ⟨_, q, rfl⟩
  unfold EntryCells.newEntry newFields
  refine wpAny_bind (wpAny_newObj_type ?_ (hpl.sizeOk5 _ _ _ _ _))
  generalize hob : ({ cls := .type "traceback", dict := none, data := .fields ([head, .ref L, .none, rawInt L, .none] ++ (if pl.isEmpty then List.replicate 6 Value.none else pl)).toArray } : Obj) = ob
  have hod : ob.data = .fields ([head, .ref L, .none, rawInt L, .none] ++ (if pl.isEmpty then List.replicate 6 Value.none else pl)).toArray := by rw [← hob]
  have up : ∀ b o, h₁.get? b = some o → (h₁.push ob).get? b = some o := fun b o ho => Heap.get?_push_of_some _ ho
  refine point_x (s := { s with heap := h₁.push ob }) (fun b o ho => up b o (b₁ b o ho)) hen (l₁.of_keeps fun b o ho _ => ⟨o, up b o ho, rfl⟩) (up e _ e₁) hsz b₁.fresh (Nat.ne_of_gt (Heap.lt_size e₁))
    (Heap.get?_push_size h₁ (Obj.isFreed_of_fields hod)) hod ?_ fun h' f u => h h' f (u₁.trans ((Heap.UpToSlots.of_keeps up).trans u))
  first | (simp; done) | (rcases hpl with rfl | ⟨_, _, _, _, _, _, _, rfl⟩ <;> simp)
theorem note_first {vs : Array Value} {sl : Array (Option Value)} {Q : Unit → Shared → Prop}
    (hfr : A.frames = some (env :: outer)) (hl : s.heap.FunFrames B (env :: outer)) (hf : env.frame = some L) (he : s.heap.get? e = some (⟨.ref 59, some de, .fields vs, sl⟩ : Obj)) (hkb : B.StaysIn s.heap) (hen : B.get? e = none) (h1 : vs[1]? = some .none)
    (h : ∀ h', FlyE B (env :: outer) e de (rawInt L) h' → s.heap.UpToSlots h' → Q () { s with heap := h' }) : wpAny M A (noteFrame (.ref e) env) Q E s := by
  unfold noteFrame
  simp only [hf]
  refine wpAny_bind (wpAny_field he rfl h1 ?_)
  rw [if_neg (by decide)]
  exact entry_x hfr hl hf he hkb hen (Array.getElem?_eq_some_iff.mp h1).1 h
theorem note_next {Q : Unit → Shared → Prop} (hfr : A.frames = some (env :: outer)) (hf : env.frame = some L) (x : FlyE B (env :: outer) e de .none s.heap)
    (h : ∀ h', FlyE B (env :: outer) e de (rawInt L) h' → s.heap.UpToSlots h' → Q () { s with heap := h' }) : wpAny M A (noteFrame (.ref e) env) Q E s := by
  obtain ⟨hkb, hen, hl, vs, sl, T, oT, ts, he, h1, hnT, hTe, hT, hdT, h3⟩ := x
  unfold noteFrame
  simp only [hf]
  refine wpAny_bind (wpAny_field he rfl h1 ?_)
  rw [if_pos (by rfl)]
  refine wpAny_bind (wpAny_field hT hdT h3 ?_)
  rw [if_neg (by simp [rawInt])]
  refine wpAny_bind (mark_x hkb hen hl he h1 hnT hTe hT hdT (Array.getElem?_eq_some_iff.mp h3).1 fun h₁ f u => ?_)
  obtain ⟨g1, g2, g3, vs', sl', T', _, _, k1, k2, _⟩ := f
  exact entry_x (s := { s with heap := h₁ }) hfr g3 hf k1 g1 g2 (Array.getElem?_eq_some_iff.mp k2).1 fun h' f' u' => h h' f' (u.trans u')
theorem flight_x {Q : Unit → Shared → Prop} (x : FlyE B l e de fl s.heap) (h : ∀ h', FlyE B l e de .none h' → s.heap.UpToSlots h' → Q () { s with heap := h' }) : wpAny M A (setFlight (.ref e) none) Q E s := by
  obtain ⟨hkb, hen, hl, vs, sl, T, oT, ts, he, h1, hnT, hTe, hT, hdT, h3⟩ := x
  unfold setFlight
  refine wpAny_bind (wpAny_field he rfl h1 ?_)
  rw [if_pos (by rfl)]
  exact mark_x hkb hen hl he h1 hnT hTe hT hdT (Array.getElem?_eq_some_iff.mp h3).1 h
theorem FlyE.pop {h : Heap} (x : FlyE B (env :: outer) e de fl h) : FlyE B outer e de fl h := by
  obtain ⟨k1, k2, ⟨_, _, k3⟩, k4⟩ := x
  exact ⟨k1, k2, k3, k4⟩
theorem leave_first {vs : Array Value} {sl : Array (Option Value)} {Q : Unit → Shared → Prop}
    (hfr : A.frames = some (env :: outer)) (hl : s.heap.FunFrames B (env :: outer)) (hf : env.frame = some L) (he : s.heap.get? e = some (⟨.ref 59, some de, .fields vs, sl⟩ : Obj)) (hkb : B.StaysIn s.heap) (hen : B.get? e = none) (h1 : vs[1]? = some .none)
    (h : ∀ h', FlyE B outer e de .none h' → s.heap.UpToSlots h' → Q () { s with heap := h' }) : wpAny M A (leaving env (.ref e)) Q E s := by
  unfold leaving
  exact wpAny_bind (note_first hfr hl hf he hkb hen h1 fun h₁ f1 u1 => flight_x (s := { s with heap := h₁ }) f1 fun h₂ f2 u2 => h h₂ f2.pop (u1.trans u2))
theorem leave_next {Q : Unit → Shared → Prop} (hfr : A.frames = some (env :: outer)) (hf : env.frame = some L) (x : FlyE B (env :: outer) e de .none s.heap)
    (h : ∀ h', FlyE B outer e de .none h' → s.heap.UpToSlots h' → Q () { s with heap := h' }) : wpAny M A (leaving env (.ref e)) Q E s := by
  unfold leaving
  exact wpAny_bind (note_next hfr hf x fun h₁ f1 u1 => flight_x (s := { s with heap := h₁ }) f1 fun h₂ f2 u2 => h h₂ f2.pop (u1.trans u2))
end
end Mine

/-! part X4 -/
namespace Mine
open PySem PySem.W PySem.Calls PyProof.Rows
abbrev faultDict (w : World) (k1 k2 : Tok) (y : Str) (t1 : Tok) (n : Int) (t2 : Tok) : Obj := dictOf [ent w "what" k1 (.str y t1), ent w "at" k2 (.int n t2)] 2
def RX (w : World) (E : Value → Shared → Prop) (v : Value) (s₁ : Shared) : Prop :=
  ∃ e t de, v = .ref e ∧ (hd.heap_39 w.params).In s₁.heap ∧ s₁.heap.get? e = some (faultD t de) ∧ E (.ref e) s₁
section
variable {w : World} {cn : Str} {cs : Scope} {a : Addr} {ccd : Value} {cl : List (Str × Addr)} {outer : List Env} {A₀ A : Around} {base h₀ : Heap} {L : Addr} {m : Str → Option Value} {s : Shared} {p : Program} {loose : List Str} {mean : ExcName → Option Value} {mg mb : Str → Option Value} {E : Value → Shared → Prop}
theorem fault_k {Q : Value → Shared → Prop} (B : Below A₀ base outer h₀) (F : Fr h₀ L s.heap m) (X : (hd.heap_39 w.params).In h₀) (T : Top p loose mean mg mb h₀) (hk : cs.kind = .function) (hdp : A.depth + 9 < recursionLimit) (hA : A.frames = some (envX cn cs L a ccd cl :: outer))
    {y : Str} {n : Int} {t1 t2 : Tok} (ret : ∀ e t de k1 k2 u1 u2 z h' tk', Fr h₀ L h' m → News h₀ L h' [(e, faultD t de), (de, faultDict w k1 k2 z u1 n u2)] → Q (.ref e) { s with heap := h', toks := tk' }) :
    wpAny (model PR w) A (call (.ref 59) [.str y t1, .int n t2]) Q E s :=
  fault_c B F X T hk hdp hA fun v h' tk' ⟨e, t, de, k1, k2, u1, u2, z, hv, F', N', _⟩ => hv ▸ ret e t de k1 k2 u1 u2 z h' tk' F' N'
theorem rx_intro {e t de : Addr} {n : Int} {k1 k2 u1 u2 : Tok} {z : Str} {s₁ : Shared} (F : Fr h₀ L s₁.heap m) (X : (hd.heap_39 w.params).In h₀) (N : News h₀ L s₁.heap [(e, faultD t de), (de, faultDict w k1 k2 z u1 n u2)]) (h : E (.ref e) s₁) : RX w E (.ref e) s₁ :=
  ⟨e, t, de, rfl, X.keeps F.keep, (N _ (.head _)).1, h⟩
theorem raise_fault {Q : Flow → Shared → Prop} {env : Env} {e : Expr} {pos : Pos} (hh : A.handled = none) (h : wpAny (model PR w) A (eval e env) (RX w E) E s) :
    wpAny (model PR w) A (exec (.Raise (some e) none pos) env) Q E s := by
  show wpAny (model PR w) A (do standAt pos; raiseStmt env (some (do let v ← eval e env; standAt pos; pure v)) none) Q E s
  refine wpAny_bind (wpAny_standAt ?_)
  unfold raiseStmt
  dsimp only
  refine wpAny_bind (wpAny_bind (wpAny_mono h (fun v s₁ h₁ => wpAny_bind (wpAny_standAt (wpAny_pure ?_))) fun _ _ x => x))
  obtain ⟨x, t, de, rfl, X, hx, hE⟩ := h₁
  have L1 : Looks (model PR w) s₁.heap (typeOf (.ref x)) (.ref 59) := (Looks.ld hx).andThen .now
  have L2 : Looks (model PR w) s₁.heap (typeOf (.ref 59)) (.type "type") := looks_typeIn X (by k_is)
  have L3 : Looks (model PR w) s₁.heap (isSubtype (.ref 59) (.type "BaseException")) true := looks_subIn X (by k_is)
  have hnt : ∀ {Q' : Bool → Shared → Prop}, Q' false s₁ → wpAny (model PR w) A (isType (.ref x)) Q' E s₁ := by
    intro Q' hq
    simp only [isType, loadHead]
    exact wpAny_bind (wpAny_loadPart hx (wpAny_pure hq))
  refine wpAny_bind (wpAny_pure ?_)
  dsimp only
  refine wpAny_bind (wpAny_holding ?_)
  unfold excFromValue isExcClass
  refine wpAny_bind (wpAny_bind (hnt ?_))
  simp only [Bool.false_eq_true, if_false]
  refine wpAny_pure ?_
  simp only [Bool.false_eq_true, if_false]
  refine wpAny_bind ((L1.andThen L3).here ?_)
  simp only [if_true]
  refine wpAny_pure ?_
  refine wpAny_bind (hnt ?_)
  simp only [Bool.false_eq_true, if_false]
  unfold raisedInstance
  refine wpAny_bind (wpAny_bind (L1.here (wpAny_bind (L2.here ?_))))
  rw [if_pos (by rfl)]
  refine wpAny_pure ?_
  unfold setFlight raiseNew
  refine wpAny_bind (wpAny_bind (wpAny_field hx rfl (x := .none) rfl ?_))
  rw [if_neg (by decide)]
  refine wpAny_pure (wpAny_bind (wpAny_handled ?_))
  rw [hh]
  first
    | exact wpAny_throw hE
    | exact wpAny_bind (wpAny_pure (wpAny_throw hE))
/-- the fault with its number, behind the frames that it has left -/
def RaisX (w : World) (base : Heap) (l : List Env) (e : Addr) (n : Int) (h : Heap) : Prop :=
  ∃ B de k1 k2 z u1 u2, base.StaysIn B ∧ B.get? de = some (faultDict w k1 k2 z u1 n u2) ∧ base.get? de = none ∧ FlyE B l e de .none h
end
section
variable {w : World} {M : Model} {A : Around} {E : Value → Shared → Prop} {s' : Shared} {base g g₂ : Heap} {outer : List Env} {L a e de t : Addr} {m : Str → Option Value} {name : Str} {scope : Scope} {cd : Value} {Q : Unit → Shared → Prop} {n : Int} {k1 k2 u1 u2 : Tok} {z : Str}
theorem leave_raiseX (K : Below A base outer g) (F : Fr g L s'.heap m) (N : News g L s'.heap [(e, faultD t de), (de, faultDict w k1 k2 z u1 n u2)])
    (hQ : ∀ h', RaisX w base outer e n h' → g.UpToSlots h' → Q () { s' with heap := h' }) (hk : scope.kind = .function := by rfl) :
    wpAny M (A.deeper (envOf name scope L a cd)) (leaving (envOf name scope L a cd) (.ref e)) Q E s' := by
  have K' := K.push (name := name) (a := a) (cd := cd) F hk
  have Ne := N _ (.head _)
  have Nd := N _ (.tail _ (.head _))
  have hin : ∀ env ∈ (envOf name scope L a cd :: outer), ∀ b, env.frame = some b → b ∈ e :: (envOf name scope L a cd :: outer).filterMap (·.frame) := fun env he b hb => .tail _ (List.mem_filterMap.mpr ⟨env, he, hb⟩)
  have be : base.get? e = none := fresh_of_stays K.stays Ne.2.2
  have bd : base.get? de = none := fresh_of_stays K.stays Nd.2.2
  have hde : de ≠ e := by
    intro q
    have h1 := Ne.1
    have h2 := Nd.1
    simp only at h1 h2
    rw [q, h1] at h2
    have := congrArg (Option.map Obj.cls) h2
    simp at this
  have st : base.StaysIn (hideAll s'.heap (e :: (envOf name scope L a cd :: outer).filterMap (·.frame))) := fun b o q => hideAll_get _ (K'.stays b o q) fun hm => by
    rcases List.mem_cons.mp hm with rfl | hm
    · rw [be] at q; cases q
    · rw [(K'.frames.mem hm).1] at q; cases q
  have hd1 : (hideAll s'.heap (e :: (envOf name scope L a cd :: outer).filterMap (·.frame))).get? de = some (faultDict w k1 k2 z u1 n u2) := hideAll_get _ Nd.1 fun hm => by
    rcases List.mem_cons.mp hm with q | hm
    · exact hde q
    · obtain ⟨env, he, hf⟩ := List.mem_filterMap.mp hm
      rcases List.mem_cons.mp he with rfl | he
      · exact Nd.2.1 (Option.some.inj hf).symm
      · obtain ⟨o, ho, _⟩ := (K.frames.mem (List.mem_filterMap.mpr ⟨env, he, hf⟩)).2
        have := Nd.2.2
        simp only at this
        rw [this] at ho
        cases ho
  exact leave_first (B := hideAll s'.heap (e :: (envOf name scope L a cd :: outer).filterMap (·.frame))) (de := de) K'.stack (funFrames_hide K'.frames hin) rfl Ne.1 (fun b o q => of_hideAll _ q) (hideAll_none _ (.head _)) rfl
    fun h' f u => hQ h' ⟨_, de, k1, k2, z, u1, u2, st, hd1, bd, f⟩ ((Heap.UpToSlots.of_keeps F.keep).trans u)
theorem leave_onX (K : Below A base outer g) (F : Fr g L g₂ m) (R : RaisX w base (envOf name scope L a cd :: outer) e n s'.heap) (hsm : g₂.UpToSlots s'.heap)
    (hQ : ∀ h', RaisX w base outer e n h' → g.UpToSlots h' → Q () { s' with heap := h' }) :
    wpAny M (A.deeper (envOf name scope L a cd)) (leaving (envOf name scope L a cd) (.ref e)) Q E s' := by
  obtain ⟨B, de, k1, k2, z, u1, u2, st, hd1, bd, f⟩ := R
  exact leave_next (Around.frames_deeper K.stack) rfl f fun h' f' u => hQ h' ⟨B, de, k1, k2, z, u1, u2, st, hd1, bd, f'⟩ ((Heap.UpToSlots.of_keeps F.keep).trans (hsm.trans u))
end
end Mine

/-! part C6 -/
namespace Mine
open PySem PySem.W PyProof.Rows
abbrev TakeRet (w : World) (h₀ : Heap) (L : Addr) (m : Str → Option Value) (own : List (Addr × Obj)) (x dx r : Addr) (k0 k1 k2 k3 k4 k5 k6 k7 k8 k9 : Tok) (vb vf : Value) (o : Bool) (v n t c : Int) (ro : Bool) (s : Shared) (Q : Value → Shared → Prop) : Prop :=
  ∀ k ok tv tn tt tc h' tk', EmptyD w k ok → Fr h₀ L h' m →
    News h₀ L h' ((x, instObj 137 dx) :: (dx, cpD w k0 k1 k2 k3 k4 k5 k6 k7 k8 k9 vb vf r k o v n t c ro tv tn tt tc) :: (k, ok) :: own) → Q .none { s with heap := h', toks := tk' }
abbrev TakeExc (w : World) (base h₀ : Heap) (L : Addr) (m : Str → Option Value) (l : List Env) (f : Int) (s : Shared) (E : Value → Shared → Prop) : Prop :=
  ∀ e h' tk' g, RaisX w base l e f h' → Fr h₀ L g m → g.UpToSlots h' → E (.ref e) { s with heap := h', toks := tk' }
section
variable {w : World} {h₀ h' : Heap} {L : Addr} {m : Str → Option Value} {own big : List (Addr × Obj)} {x dx l r k : Addr} {ok : Obj} {k0 k1 k2 k3 k4 k5 k6 k7 k8 k9 : Tok} {vb vf : Value} {o ro : Bool} {v n t c : Int} {s : Shared} {Q : Value → Shared → Prop} {tk' : Nat} {tv tn tt tc : Tok}
theorem take_end (ret : TakeRet w h₀ L m own x dx r k0 k1 k2 k3 k4 k5 k6 k7 k8 k9 vb vf o v n t c ro s Q) (F : Fr h₀ L h' m) (kN : News h₀ L h' big) (m1 : (x, instObj 137 dx) ∈ big) (m2 : (dx, cpD w k0 k1 k2 k3 k4 k5 k6 k7 k8 k9 vb vf r k o v n t c ro tv tn tt tc) ∈ big)
    (m5 : (k, ok) ∈ big) (ho : ∀ p ∈ own, p ∈ big) (hk : EmptyD w k ok) : Q .none { s with heap := h', toks := tk' } :=
  ret k ok tv tn tt tc h' tk' hk F (sub_news kN fun p hp => by
    rcases List.mem_cons.mp hp with rfl | hp
    · exact m1
    rcases List.mem_cons.mp hp with rfl | hp
    · exact m2
    rcases List.mem_cons.mp hp with rfl | hp
    · exact m5
    exact ho p hp)
end
section
variable {w : World} {dp un : Nat} {gd : Option (List Code)} {cn : Str} {cs : Scope} {a : Addr} {ccd : Value} {cl : List (Str × Addr)} {outer : List Env} {A₀ : Around} {base h₀ : Heap} {L : Addr} {m : Str → Option Value} {own : List (Addr × Obj)} {s : Shared} {p : Program} {loose : List Str} {mean : ExcName → Option Value} {mg mb : Str → Option Value} {Q E : Value → Shared → Prop}
theorem take_c (B : Below A₀ base outer h₀) (F : Fr h₀ L s.heap m) (X : (hd.heap_39 w.params).In h₀) (T : Top p loose mean mg mb h₀) (hk : cs.kind = .function) (hdp : dp + 12 < recursionLimit) (hu : un + 400 < cLine)
    {x dx r k : Addr} {ok : Obj} {cv : Value} {W : Str} {N : Int} {res : Option Int} {o ro tg ro' : Bool} {v n t c v' n' t' c' : Int} {tv tn tt tc k0 k1 k2 k3 k4 k5 k6 k7 k8 k9 : Tok} {vb vf : Value}
    (N₀ : News h₀ L s.heap ((x, instObj 137 dx) :: (dx, cpD w k0 k1 k2 k3 k4 k5 k6 k7 k8 k9 vb vf r k o v n t c ro tv tn tt tc) :: (k, ok) :: own)) (hO : OwnOff own [dx]) (hE : EmptyD w k ok) (hc : CodeIs w own cv W N) (n1 : @Ne Nat x dx) (n2 : @Ne Nat k dx)
    (hT : Tr o v n t c ro W N tg res v' n' t' c' ro')
    (ret : res = none → TakeRet w h₀ L m own x dx r k0 k1 k2 k3 k4 k5 k6 k7 k8 k9 vb vf o v' n' t' c' ro' s Q)
    (exc : ∀ f, res = some f → TakeExc w base h₀ L m (envX cn cs L a ccd cl :: outer) f s E) :
    wpAny (model PR w) (ktrTop dp un gd cn cs L a ccd cl outer) (call (.ref 176) [.ref x, .bool tg, cv]) Q E s := by
  w_on
  w_top on
  k_with_none
  k_with "call ref" => (k_here; k_dflt (first | (refine' Mine.word_c ?k1 ?k2 ?k3 ?k4 ?k5 ?k6 ?k7 ?k8 ?k9 ?_; (case k1 => k_asm); (case k2 => k_asm); (case k3 => k_asm); (case k4 => k_asm); (case k5 => k_asm); (case k6 => first | exact rfl | assumption); (case k7 => ktr_room); (case k8 => ktr_units); (case k9 => ((rename Mine.CodeIs _ _ _ _ _ => hcX); exact Mine.CodeIs.mono (fun p hp => by repeat (first | exact hp | refine List.Mem.tail _ ?_)) hcX))) | (refine' Mine.num_c ?k1 ?k2 ?k3 ?k4 ?k5 ?k6 ?k7 ?k8 ?k9 ?kW ?_; (case k1 => k_asm); (case k2 => k_asm); (case k3 => k_asm); (case k4 => k_asm); (case k5 => k_asm); (case k6 => first | exact rfl | assumption); (case k7 => ktr_room); (case k8 => ktr_units); (case k9 => ((rename Mine.CodeIs _ _ _ _ _ => hcX); exact Mine.CodeIs.mono (fun p hp => by repeat (first | exact hp | refine List.Mem.tail _ ?_)) hcX)); (case kW => decide +kernel))); intro tk' h' tk' F' N'; (try k_sweep))
  k_with "exec Raise some none" => (k_here; k_dflt (refine' Mine.raise_fault ?h ?_; (case h => rfl)))
  k_with "call ref" => (k_here; k_dflt (refine' Mine.fault_k ?k1 ?k2 ?k3 ?k4 ?k5 ?k6 ?k7 ?_; (case k7 => exact rfl); (case k1 => k_asm); (case k2 => k_asm); (case k3 => k_asm); (case k4 => k_asm); (case k5 => first | exact rfl | assumption); (case k6 => ktr_room)); intro ex' tx' dx' kx1 kx2 ux1 ux2 zx h' tk' F' N'; refine' Mine.rx_intro F' ?k1 N' ?_; (case k1 => k_asm))
  k_with "leaving ref" => (k_here; first | (refine' Mine.leave_raiseX ?k1 ?k2 ?k3 ?_; (case k1 => assumption); (case k2 => assumption); (case k3 => assumption); k_whole; intro h' R' U'; (try dsimp only at R' U' ⊢)) | (refine' Mine.leave_onX ?k1 ?k2 ?k3 ?k4 ?_; (case k3 => assumption); (case k4 => assumption); (case k1 => assumption); (case k2 => assumption); k_whole; intro h' R' U'; (try dsimp only at R' U' ⊢)))
  dsimp only [cpD, ent] at N₀
  obtain ⟨hs', hi', lo'⟩ := hE
  cases hT
  all_goals
    refine wpAny_call ?_
    k_dflt cell_enter
    k_steps
  all_goals first
    | (exfalso; rename @Ne Int _ _ => q1; first | exact q1 rfl | (rename @Eq Int _ _ => q2; first | exact q1 q2 | exact q1 q2.symm))
    | (rename Mine.RaisX _ _ _ _ _ _ => kR; rename Heap.UpToSlots _ _ => kU; refine' exc _ rfl _ _ _ _ kR ?f kU; (case f => assumption))
    | (rename Fr h₀ L _ m => kF; rename News h₀ L _ _ => kN; refine' Mine.take_end (ret rfl) kF kN ?m1 ?m2 ?m5 ?ho ?hk; (case m1 => k_mem); (case m2 => k_mem); (case m5 => k_mem); (case ho => exact (fun p hp => by repeat (first | exact hp | refine List.Mem.tail _ ?_))); (case hk => exact ⟨by assumption, by assumption, by assumption⟩))
end
end Mine

/-! part Y1 -/
namespace Mine
open PySem PySem.W PySem.Calls PyProof.Rows
section
variable {w : World} {A : Around} {E : Value → Shared → Prop} {s : Shared} {x : Addr} {ox : Obj} {od : Option Obj} {name : Str} {v : Value} {expr : Bool} {Q : Value → Shared → Prop}
theorem oga_fault {h : Heap} {g : Array GenState} {d : Drawn} {t : Nat} {os : OsState} {tk : Tok} {R : Result → Shared → Prop} (X : (hd.heap_39 w.params).In h) (I : InstAt h x ox 59 od)
    (hf : findObj (hd.heap_39 w.params) 59 od name = some (.value v)) (hq : R (.ok (.ret v)) ⟨h, g, d, t, os⟩) :
    codeAny (model PR w) A (.call (.builtin "BaseException.__getattribute__") ⟨[.ref x, .str name tk], []⟩) R ⟨h, g, d, t, os⟩ := by
  have sub : Looks (model PR w) h (isInstance (.ref x) (.type "BaseException")) true := I.type.andThen (looks_subIn X (by k_is))
  refine codeAny_call_builtin PySem.F.excAttr_ValueError.ga.plain PySem.F.entry_bexc_ga (@check_slot (model PR w) _ _ ⟨h, g, d, t, os⟩ "BaseException.__getattribute__" "BaseException" "__getattribute__" (.ref x) [.str name tk] [] _ (by decide +kernel) (by decide +kernel) sub (PySem.F.args_bexc_ga (.ref x) (.str name tk)) ?_)
  have L1 := looks_find (M := model PR w) X I hf
  refine wpAny_bind (wpAny_pure (wpAny_bind (wpAny_pure (wpAny_bind (I.type.at (wpAny_bind (L1.at ?_)))))))
  exact wpAny_pure hq
theorem get_fault (X : (hd.heap_39 w.params).In s.heap) (I : InstAt s.heap x ox 59 od) (hf : findObj (hd.heap_39 w.params) 59 od name = some (.value v)) (hv : handedIn v = true) (h : Q v { s with toks := s.toks + 1 }) :
    wpAny (model PR w) A (getAttr (.ref x) name expr) Q E s := by
  obtain ⟨hh, g, d, t, os⟩ := s
  have L0 := I.type (M := model PR w)
  have L1 := looks_findIn (M := model PR w) X (t := .ref 59) (name := "__getattribute__") (r := some (.builtin "BaseException.__getattribute__")) (by k_is)
  have L2 := looks_findIn (M := model PR w) X (t := .ref 59) (name := "__getattr__") (r := none) (by k_is)
  have hx2 : (Value.builtin "BaseException.__getattribute__" == Value.builtin "object.__getattribute__") = false := by decide +kernel
  have hx0 : (expr && onTheHeap (Value.builtin "BaseException.__getattribute__")) = false := by cases expr <;> rfl
  unfold getAttr getAttrBy
  refine wpAny_bind (wpAny_mkText (wpAny_holding (wpAny_bind (L0.at (wpAny_bind (L1.at ?_))))))
  dsimp only
  rw [hx2, Bool.and_false, if_neg (by decide)]
  unfold getAttrByItsOwn
  refine wpAny_bind (show wpAny _ _ (hookBefore _) _ _ _ from ?_)
  unfold hookBefore
  rw [if_pos (by rfl)]
  refine L2.at (wpAny_bind (wpAny_attempt (wpAny_holding ?_)))
  unfold callGetattribute
  rw [hx0, if_neg (by decide)]
  unfold boundAndCalled
  rw [PySem.F.excAttr_ValueError.ga.bind]
  refine wpAny_bind (wpAny_pure (wpAny_call (oga_fault X I hf ?_)))
  dsimp only
  rw [handedOut_of hv]
  exact wpAny_pure h
end
section
variable {w : World} {A : Around} {E : Value → Shared → Prop} {s : Shared} {h₀ : Heap} {L : Addr} {m : Str → Option Value} {Q : Value → Shared → Prop} {news : List (Addr × Obj)} {e de : Addr} {oe : Obj} {k1 k2 u1 u2 : Tok} {z : Str} {n : Int} {expr : Bool}
structure IsFault (oe : Obj) (de : Addr) : Prop where
  cls : oe.cls = .ref 59
  dict : oe.dict = some de
  data : ∃ vs, oe.data = .fields vs
theorem get_at (F : Fr h₀ L s.heap m) (X : (hd.heap_39 w.params).In h₀) (N : News h₀ L s.heap news) (he : (e, oe) ∈ news) (hd' : (de, faultDict w k1 k2 z u1 n u2) ∈ news) (hi : IsFault oe de)
    (hq : Q (.int n u2) { s with toks := s.toks + 1 }) : wpAny (model PR w) A (getAttr (.ref e) "at" expr) Q E s := by
  obtain ⟨hc, hdd, vs, hv⟩ := hi
  refine get_fault (X.keeps F.keep) (ox := oe) (od := some (faultDict w k1 k2 z u1 n u2)) ⟨(N _ he).1, hc, ?_, ?_⟩ (findObj_own (attr := none) (by k_is) (by k_is) rfl ?_) rfl hq
  · unfold notCls; rw [hv]
  · rw [hdd]; exact (N _ hd').1
  · show lookIn _ (dictOf _ _) = _
    rw [lookIn_dict]
    rfl
end
end Mine

/-! part Y2 -/
namespace Mine
open PySem PySem.W PySem.Calls PyProof.Rows
section
variable {w : World} {A₀ : Around} {E : Value → Shared → Prop} {Q : Flow → Shared → Prop} {s' : Shared} {h₀ h : Heap} {outer : List Env} {L a e : Addr} {m : Str → Option Value} {name : Str} {scope : Scope} {cd : Value} {f : Int}
  {p : Program} {loose : List Str} {mg mb : Str → Option Value} {nx : Str} {np pos : Pos} {b₀ : Stmt} {suite : List Stmt} {rest : List ExceptHandler}
theorem caught_X (K : Below A₀ h₀ outer h₀) (F : Fr h₀ L h m) (hsm : h.UpToSlots s'.heap) (R : RaisX w h₀ (envOf name scope L a cd :: outer) e f s'.heap) (X : (hd.heap_39 w.params).In h₀) (T : TopRead p loose mg mb h₀)
    (k : ∀ h' de oe k1 k2 z u1 u2 tk, Fr h₀ L h' (fun y => if y = nx then some (.ref e) else m y) → IsFault oe de → News h₀ L h' [(e, oe), (de, faultDict w k1 k2 z u1 f u2)] →
      wpAny (model PR w) ((A₀.deeper (envOf name scope L a cd)).mark (some (.ref e))) (execs (b₀ :: suite) (envOf name scope L a cd))
        (fun fl s₄ => wpAny (model PR w) (A₀.deeper (envOf name scope L a cd)) (do bindName (envOf name scope L a cd) nx .none; unbindBehindTheSuite (envOf name scope L a cd) nx pos) (fun _ s₅ => Q fl s₅) E s₄)
        (AsSuiteRaised (model PR w) ((A₀.deeper (envOf name scope L a cd)).mark (some (.ref e))) (envOf name scope L a cd) nx pos (notedBy (model PR w) ((A₀.deeper (envOf name scope L a cd)).mark (some (.ref e))) (envOf name scope L a cd) (cameBackBy (model PR w) (A₀.deeper (envOf name scope L a cd)) (envOf name scope L a cd) E)))
        { s' with heap := h', toks := tk })
    (hk : scope.kind = .function := by rfl) (hlo : (envOf name scope L a cd).kindOf nx = some .local := by rfl) (hx : (envOf name scope L a cd).kindOf (Str.ofString "ClientFault") = some .globalImplicit := by rfl) :
    wpAny (model PR w) (A₀.deeper (envOf name scope L a cd)) (noteFrame (.ref e) (envOf name scope L a cd))
      (fun _ s₂ => wpAny (model PR w) (A₀.deeper (envOf name scope L a cd)) (setFlight (.ref e) none) (fun _ s₃ =>
        wpAny (model PR w) (A₀.deeper (envOf name scope L a cd)) (handleBy (.ref e) (envOf name scope L a cd) (.ExceptHandler (some (.Name (Str.ofString "ClientFault") np)) (some nx) (b₀ :: suite) pos :: rest)) Q E s₃) E s₂) E s' := by
  obtain ⟨B, de, k1, k2, z, u1, u2, hB, hde, hdb, fly⟩ := R
  have hL : B.get? L = none := by
    obtain ⟨_, ⟨L', _, hf, hn', _⟩, _⟩ := fly.2.2.1
    obtain rfl : L = L' := Option.some.inj hf
    exact hn'
  refine note_next (Around.frames_deeper K.stack) rfl fly fun h₄ f₄ u₄ => ?_
  refine flight_x (s := { s' with heap := h₄ }) f₄ fun h₅ f₅ u₅ => ?_
  have F₅ : Fr h₀ L h₅ m := F.of_stays (fun b o q => f₅.1 b o (hB b o q)) (hsm.trans (u₄.trans u₅))
  obtain ⟨nm, q', N, bs, sn, sub, ab, col, dd, k0, k1', k2', k3, k5, hC⟩ := fault_cls X
  have hC₅ := F₅.keep _ _ hC
  obtain ⟨vs, sl, T₁, oT, ts, he₅, _⟩ := f₅.2.2.2
  refine wpAny_handleBy_cons (codeAny_handlers_test (name_K (s := { s' with heap := h₅ }) (v := .ref 59) F₅ X T (by k_is) ?_ hk hx (by decide))) (by intro q; cases q)
  refine wpAny_excMatches_sub_self hC₅ he₅ rfl (by decide +kernel) (codeAny_handlers_suite_as ?_)
  refine flight_x (s := { s' with heap := h₅ }) f₅ fun h₆ f₆ u₆ => ?_
  have F₆ : Fr h₀ L h₆ m := F.of_stays (fun b o q => f₆.1 b o (hB b o q)) (hsm.trans (u₄.trans (u₅.trans u₆)))
  obtain ⟨vs₆, sl₆, T₆, oT₆, ts₆, he₆, _⟩ := f₆.2.2.2
  have Ne : News h₀ L h₆ [(e, (⟨.ref 59, some de, .fields vs₆, sl₆⟩ : Obj))] := News.more F₆ News.nil he₆ (fun es n q => by cases q) (fresh_of_stays hB f₆.2.1)
  have N₆ : News h₀ L h₆ [(e, (⟨.ref 59, some de, .fields vs₆, sl₆⟩ : Obj)), (de, faultDict w k1 k2 z u1 f u2)] := fun p hp => by
    rcases List.mem_cons.mp hp with rfl | hp
    · exact Ne _ (.head _)
    · obtain rfl := List.mem_singleton.mp hp
      exact ⟨f₆.1 _ _ hde, (fun q => by have h1 := hde; rw [show de = L from q, hL] at h1; cases h1), hdb⟩
  refine stN (s := { s' with heap := h₆ }) F₆ N₆ (fun h₇ F₇ N₇ => ?_) hk hlo
  exact k h₇ de _ k1 k2 z u1 u2 _ F₇ ⟨rfl, rfl, _, rfl⟩ N₇
end
/-- the step of a loop whose ledger may turn with every turn -/
def FreePost (h₀ : Heap) (L : Addr) (J : (Str → Option Value) → List (Addr × Obj) → Prop) (it : Addr × Obj) (lo : Addr × Obj) (s₁ : Shared) (Q : Flow → Shared → Prop) (f : Flow) (s₂ : Shared) : Prop :=
  match f with
  | .ret v => Q (.ret v) s₂
  | .brk => Q .next s₂
  | _ => ∃ h' tk m' nx, s₂ = { s₁ with heap := h', toks := tk } ∧ Fr h₀ L h' m' ∧ News h₀ L h' (it :: lo :: nx) ∧ J m' nx
section
variable {prog : Program} {w : World} {A : Around} {E : Value → Shared → Prop} {s : Shared} {env : Env} {h₀ : Heap} {x : Str} {body : List Stmt} {Q : Flow → Shared → Prop}
theorem iter_free {l : Addr} {vs : List Value} {ns : List Int} {nn : Nat} {m₀ : Str → Option Value} {news : List (Addr × Obj)} (J : (Str → Option Value) → List (Addr × Obj) → Prop)
    (hh : A.handled = none) (hl : (l, W.listOf vs.toArray nn) ∈ news) (hi : IntsAre vs ns) (F : Fr h₀ env.locals s.heap m₀) (N : News h₀ env.locals s.heap news) (hj : J m₀ news)
    (noIt : ∀ m nx, J m nx → ∀ p ∈ nx, p.2.cls ≠ .type "list_iterator")
    (turn : ∀ n t m₁ news₁ h tk it lo, it.2.cls = .type "list_iterator" → lo.2.cls = .type "list" → (∃ k, lo.2.data = .seq vs.toArray k) → J m₁ news₁ → Fr h₀ env.locals h (fun y => if y = x then some (.int n t) else m₁ y) → News h₀ env.locals h (it :: lo :: news₁) →
      wpAny (model prog w) A (execs body env) (FreePost h₀ env.locals J it lo { s with heap := h, toks := tk } Q) E { s with heap := h, toks := tk })
    (done : ∀ m₁ news₁ h tk, J m₁ news₁ → Fr h₀ env.locals h m₁ → News h₀ env.locals h news₁ → Q .next { s with heap := h, toks := tk }) :
    wpAny (model prog w) A (pyIter (.ref l)) (fun it s₂ => LoopAtV prog w A h₀ env x body Q E it s₂) E s := by
  have hol : s.heap.get? l = some (W.listOf vs.toArray nn) := (N _ hl).1
  have hls : s.heap.IsList l vs.toArray := ⟨_, hol, rfl, nn, rfl⟩
  have hne : l ≠ s.heap.objs.size := Nat.ne_of_lt (Heap.lt_size hol)
  refine wpAny_pyIter_list hls ?_
  have W := Walks.list (prog := prog) (w := w) hh s.heap.objs.size l hne vs.toArray
  have hlen : vs.toArray.size = ns.length := by simp [hi.length]
  rw [hlen] at W
  refine ⟨_, _, _, ns.length, _, _, m₀, news, (fun _ m nx => J m nx), rfl, W, ?_, ?_, ?_, ⟨⟨_, Heap.get?_push_size _ rfl, rfl, rfl⟩, hls.at fun o e => Heap.get?_push_of_some _ e⟩, F.push _, (fun p hp => ⟨Heap.get?_push_of_some _ (N p hp).1, (N p hp).2⟩), hj, ?_, ?_⟩
  · intro hm
    rcases List.mem_cons.mp hm with e | hm
    · exact absurd F.ns.lt (e ▸ Nat.lt_irrefl _)
    · exact (N _ hl).2.1 ((List.mem_singleton.mp hm).symm)
  · intro b hb
    rw [List.mem_singleton.mp hb]
    exact next_is_new F
  · intro p hp hI
    exact absurd (Heap.lt_size (N p hp).1) ((List.mem_singleton.mp hI) ▸ Nat.lt_irrefl _)
  · rintro i v m₁ news₁ s₁ own ⟨hh', tk', rfl⟩ hin hP hJ hoff hown hget hfp hst F₁ N₁
    have hlt' : i < ns.length := hin
    obtain ⟨t, hx⟩ := hi.get i ns[i] (by simp [hlt'])
    have hv : v = .int ns[i] t := by
      have hP' : vs[i]? = some v := by simpa using hP
      rw [hx] at hP'; exact (Option.some.inj hP').symm
    subst hv
    obtain ⟨⟨oI, hoI, hcI, hdI⟩, olL, holL, hrL⟩ := hst
    have mI : (s.heap.objs.size, oI) ∈ own := hfp _ (.head _) (next_is_new F) oI hoI
    have ml : (l, olL) ∈ own := hfp _ (.tail _ (.head _)) (N _ hl).2.2 olL holL
    obtain ⟨hclL, kL, hdL⟩ := hrL
    have N₂ : News h₀ env.locals hh' ((s.heap.objs.size, oI) :: (l, olL) :: news₁) := fun p hp => by
      rcases List.mem_cons.mp hp with rfl | hp
      · exact N₁ _ (List.mem_append_left _ mI)
      rcases List.mem_cons.mp hp with rfl | hp
      · exact N₁ _ (List.mem_append_left _ ml)
      exact N₁ _ (List.mem_append_right _ hp)
    refine wpAny_mono (turn ns[i] t m₁ news₁ hh' tk' (s.heap.objs.size, oI) (l, olL) hcI hclL ⟨kL, hdL⟩ hJ F₁ N₂) (fun f s₂ p => ?_) fun _ _ e => e
    have fin : (∃ h' tk m' nx, s₂ = { s with heap := h', toks := tk } ∧ Fr h₀ env.locals h' m' ∧ News h₀ env.locals h' ((s.heap.objs.size, oI) :: (l, olL) :: nx) ∧ J m' nx) →
        LoopStepU h₀ env.locals [s.heap.objs.size] own (fun m nx => J m nx) { s with heap := hh', toks := tk' } .next s₂ := by
      rintro ⟨h', tk, m', nx, e, F', N', hJ'⟩
      refine ⟨rfl, h', tk, m', nx, e, F', fun p hp => ?_, fun p hp => ?_, hJ'⟩
      · rcases List.mem_append.mp hp with h | h
        · rcases List.mem_cons.mp (hown p h) with h2 | h2
          · have h3 := hget p h
            have h4 : hh'.get? p.1 = some oI := h2 ▸ hoI
            have h5 : p = (s.heap.objs.size, oI) := Prod.ext h2 (Option.some.inj (h3.symm.trans h4))
            rw [h5]
            exact N' _ (.head _)
          · have h2 := List.mem_singleton.mp h2
            have h3 := hget p h
            have h4 : hh'.get? p.1 = some olL := h2 ▸ holL
            have h5 : p = (l, olL) := Prod.ext h2 (Option.some.inj (h3.symm.trans h4))
            rw [h5]
            exact N' _ (.tail _ (.head _))
        · exact N' p (.tail _ (.tail _ h))
      · intro hI
        have h1 := (N' p (.tail _ (.tail _ hp))).1
        have h2 := (N' _ (.head _)).1
        rw [List.mem_singleton.mp hI] at h1
        simp only at h2
        rw [h2] at h1
        exact noIt m' nx hJ' p hp ((Option.some.inj h1) ▸ hcI)
    cases f with
    | ret v => exact .ret p
    | brk => exact .brk p
    | next => exact .next (fin p)
    | cont => exact .cont (fin p)
  · rintro h' tk m' news' F' N' _ hJ
    exact done m' news' h' tk hJ F' N'
end
end Mine

/-! part Y3 -/
namespace Mine
open PySem PySem.W PySem.Calls PyProof.Rows
section
variable {w : World} {h₀ h h' : Heap} {L x dx l r k : Addr} {ok : Obj} {k0 k1 k2 k3 k4 k5 k6 k7 k8 k9 : Tok} {vb vf : Value} {o ro : Bool} {v n t c : Int} {tv tn tt tc sv sn st sc : Tok} {own own' big : List (Addr × Obj)}
theorem core_of (N : News h₀ L h big) (m1 : (x, instObj 137 dx) ∈ big) (m2 : (dx, cpD w k0 k1 k2 k3 k4 k5 k6 k7 k8 k9 vb vf r k o v n t c ro tv tn tt tc) ∈ big) (m3 : (l, stL o v n t c ro sv sn st sc) ∈ big) (m4 : (r, PySem.W.listOf #[] 0) ∈ big) (m5 : (k, ok) ∈ big) (mo : ∀ p ∈ own, p ∈ big) :
    News h₀ L h (core w x dx l r k ok k0 k1 k2 k3 k4 k5 k6 k7 k8 k9 vb vf o v n t c ro tv tn tt tc sv sn st sc own) := sub_news N fun p hp => by
  rcases List.mem_cons.mp hp with rfl | hp
  · exact m1
  rcases List.mem_cons.mp hp with rfl | hp
  · exact m2
  rcases List.mem_cons.mp hp with rfl | hp
  · exact m3
  rcases List.mem_cons.mp hp with rfl | hp
  · exact m4
  rcases List.mem_cons.mp hp with rfl | hp
  · exact m5
  exact mo p hp
theorem off_code (N : News h₀ L h (core w x dx l r k ok k0 k1 k2 k3 k4 k5 k6 k7 k8 k9 vb vf o v n t c ro tv tn tt tc sv sn st sc own')) (hO : OwnOff own [dx, l]) (hb : ∀ p ∈ own', p ∈ own ∨ CodeObj w p.2) : OwnOff own' [dx, l] := by
  intro p hp b hb'
  rcases hb p hp with h1 | h1
  · exact hO p h1 b hb'
  have mp : (p.1, p.2) ∈ core w x dx l r k ok k0 k1 k2 k3 k4 k5 k6 k7 k8 k9 vb vf o v n t c ro tv tn tt tc sv sn st sc own' := .tail _ (.tail _ (.tail _ (.tail _ (.tail _ hp))))
  rcases List.mem_cons.mp hb' with rfl | hb'
  · refine news_ne N mp (.tail _ (.head _)) ?_
    rcases h1 with h1 | h1 | ⟨W, k, tk, h1⟩
    · intro e; rw [e] at h1; simp at h1
    · intro e; rw [e] at h1; simp at h1
    · intro e; rw [e] at h1; have := congrArg Obj.data h1; simp at this
  · obtain rfl := List.mem_singleton.mp hb'
    refine news_ne N mp (.tail _ (.tail _ (.head _))) ?_
    rcases h1 with h1 | h1 | ⟨W, k, tk, h1⟩
    · intro e; rw [e] at h1; simp at h1
    · intro e; rw [e] at h1; simp at h1
    · intro e; rw [e] at h1; have := congrArg Obj.cls h1; simp at this
end
abbrev CodeRet' (w : World) (h₀ : Heap) (L : Addr) (m : Str → Option Value) (x dx l r k : Addr) (ok : Obj) (k0 k1 k2 k3 k4 k5 k6 k7 k8 k9 : Tok) (vb vf : Value) (o : Bool) (v n t c : Int) (ro : Bool) (tv tn tt tc sv sn st sc : Tok) (own : List (Addr × Obj)) (s : Shared) (Q : Value → Shared → Prop) : Prop :=
  ∀ cv W N h' tk' own', Fr h₀ L h' m → News h₀ L h' (core w x dx l r k ok k0 k1 k2 k3 k4 k5 k6 k7 k8 k9 vb vf o v n t c ro tv tn tt tc sv sn st sc own') → (∀ p ∈ own, p ∈ own') → OwnOff own' [dx, l] → CodeIs w own' cv W N → W ∈ wordsAll → Q cv { s with heap := h', toks := tk' }
abbrev CoreRet (w : World) (h₀ : Heap) (L : Addr) (m : Str → Option Value) (x dx l : Addr) (k0 k1 k2 k3 k4 k5 k6 k7 k8 k9 : Tok) (vb vf : Value) (o : Bool) (v n t c : Int) (ro : Bool) (o' : Bool) (v' n' t' c' : Int) (ro' : Bool) (own : List (Addr × Obj)) (s : Shared) (Q : Shared → Prop) : Prop :=
  ∀ r k ok tv tn tt tc sv sn st sc h' tk', EmptyD w k ok → Fr h₀ L h' m →
    News h₀ L h' ((x, instObj 137 dx) :: (dx, cpD w k0 k1 k2 k3 k4 k5 k6 k7 k8 k9 vb vf r k o v n t c ro tv tn tt tc) :: (l, stL o' v' n' t' c' ro' sv sn st sc) :: (r, PySem.W.listOf #[] 0) :: (k, ok) :: own) → Q { s with heap := h', toks := tk' }
section
variable {w : World} {dp un : Nat} {gd : Option (List Code)} {cn : Str} {cs : Scope} {a : Addr} {ccd : Value} {cl : List (Str × Addr)} {outer : List Env} {A₀ : Around} {base h₀ : Heap} {L : Addr} {m : Str → Option Value} {own big : List (Addr × Obj)} {s : Shared} {p : Program} {loose : List Str} {mean : ExcName → Option Value} {mg mb : Str → Option Value} {Q E : Value → Shared → Prop}
  {x dx l r k : Addr} {ok : Obj} {o ro : Bool} {v n t c : Int} {tv tn tt tc sv sn st sc k0 k1 k2 k3 k4 k5 k6 k7 k8 k9 : Tok} {vb vf : Value}
theorem turn_b {rs : Bool} (B : Below A₀ base outer h₀) (F : Fr h₀ L s.heap m) (X : (hd.heap_39 w.params).In h₀) (T : Top p loose mean mg mb h₀) (hk : cs.kind = .function) (hdp : dp + 9 < recursionLimit) (hu : un + 400 < cLine)
    (N : News h₀ L s.heap big) (m1 : (x, instObj 137 dx) ∈ big) (m2 : (dx, cpD w k0 k1 k2 k3 k4 k5 k6 k7 k8 k9 vb vf r k o v n t c ro tv tn tt tc) ∈ big) (m3 : (l, stL o v n t c ro sv sn st sc) ∈ big) (m4 : (r, PySem.W.listOf #[] 0) ∈ big) (m5 : (k, ok) ∈ big) (hO : OwnOff own [dx, l]) (mo : ∀ p ∈ own, p ∈ big) (hE : EmptyD w k ok)
    (ret : TurnRet w h₀ L m own x dx l k0 k1 k2 k3 k4 k5 k6 k7 k8 k9 vf o v n t c ro rs s Q) :
    wpAny (model PR w) (ktrTop dp un gd cn cs L a ccd cl outer) (call (.ref 224) [.ref x, .ref l, .bool rs]) Q E s :=
  turn_c B F X T hk hdp hu (core_of N m1 m2 m3 m4 m5 mo) hO hE ret
theorem code_b {i : Int} {ti : Tok} (B : Below A₀ base outer h₀) (F : Fr h₀ L s.heap m) (X : (hd.heap_39 w.params).In h₀) (T : Top p loose mean mg mb h₀) (hk : cs.kind = .function) (hdp : dp + 9 < recursionLimit) (hu : un + 300 < cLine)
    (N : News h₀ L s.heap big) (m1 : (x, instObj 137 dx) ∈ big) (m2 : (dx, cpD w k0 k1 k2 k3 k4 k5 k6 k7 k8 k9 vb vf r k o v n t c ro tv tn tt tc) ∈ big) (m3 : (l, stL o v n t c ro sv sn st sc) ∈ big) (m4 : (r, PySem.W.listOf #[] 0) ∈ big) (m5 : (k, ok) ∈ big) (hO : OwnOff own [dx, l]) (mo : ∀ p ∈ own, p ∈ big)
    (ret : CodeRet' w h₀ L m x dx l r k ok k0 k1 k2 k3 k4 k5 k6 k7 k8 k9 vb vf o v n t c ro tv tn tt tc sv sn st sc own s Q) :
    wpAny (model PR w) (ktrTop dp un gd cn cs L a ccd cl outer) (call (.ref 210) [.int i ti]) Q E s :=
  code_c B F X (core_of N m1 m2 m3 m4 m5 mo) T hk hdp hu (.cons _ (.cons _ (.cons _ (.cons _ (.cons _ (.nil own))))))
    fun cv W kk h' tk' own' F' N' hs hb hc hW => ret cv W kk h' tk' own' F' N' hs (off_code N' hO hb) hc hW
theorem due_b {cv : Value} {W : Str} {f : Int} {tg : Bool} (B : Below A₀ base outer h₀) (F : Fr h₀ L s.heap m) (X : (hd.heap_39 w.params).In h₀) (T : Top p loose mean mg mb h₀) (hk : cs.kind = .function) (hdp : dp + 9 < recursionLimit) (hu : un + 400 < cLine)
    (N : News h₀ L s.heap big) (m1 : (x, instObj 137 dx) ∈ big) (m2 : (dx, cpD w k0 k1 k2 k3 k4 k5 k6 k7 k8 k9 vb vf r k o v n t c ro tv tn tt tc) ∈ big) (m3 : (l, stL o v n t c ro sv sn st sc) ∈ big) (m4 : (r, PySem.W.listOf #[] 0) ∈ big) (m5 : (k, ok) ∈ big) (hO : OwnOff own [dx, l]) (mo : ∀ p ∈ own, p ∈ big) (hE : EmptyD w k ok)
    (hc : CodeIs w own cv W f) (hW : W ∈ wordsAll)
    (ret0 : ∀ (_ : Int) (_ : Tok) v' n' t' c' ro', Tr o v n t c ro W f tg none v' n' t' c' ro' → CoreRet w h₀ L m x dx l k0 k1 k2 k3 k4 k5 k6 k7 k8 k9 vb vf o v n t c ro o v' n' t' c' ro' own s fun s' => Q .none s')
    (ret1 : ∀ g tr v' n' t' c' ro', Tr o v n t c ro W f tg (some g) v' n' t' c' ro' → CoreRet w h₀ L m x dx l k0 k1 k2 k3 k4 k5 k6 k7 k8 k9 vb vf o v n t c ro o v' n' t' c' ro' own s fun s' => Q (.int g tr) s') :
    wpAny (model PR w) (ktrTop dp un gd cn cs L a ccd cl outer) (call (.ref 217) [.ref l, cv, .bool tg]) Q E s := by
  have NC := core_of N m1 m2 m3 m4 m5 mo
  obtain ⟨n1, n2, n3, n4, n5, n6, n7⟩ := core_ne NC hE
  have Nl : News h₀ L s.heap ((l, stL o v n t c ro sv sn st sc) :: (x, instObj 137 dx) :: (dx, cpD w k0 k1 k2 k3 k4 k5 k6 k7 k8 k9 vb vf r k o v n t c ro tv tn tt tc) :: (r, PySem.W.listOf #[] 0) :: (k, ok) :: own) := sub_news NC fun p hp => by
    rcases List.mem_cons.mp hp with rfl | hp
    · exact .tail _ (.tail _ (.head _))
    rcases List.mem_cons.mp hp with rfl | hp
    · exact .head _
    rcases List.mem_cons.mp hp with rfl | hp
    · exact .tail _ (.head _)
    exact .tail _ (.tail _ (.tail _ hp))
  refine due_c B F X Nl T hk hdp hu (hc.mono fun p hp => .tail _ (.tail _ (.tail _ (.tail _ (.tail _ hp))))) hW (.head fun p hp => ?_) fun res v' n' t' c' ro' tr tv' tn' tt' tc' h' tk' hT F' N' => ?_
  · rcases List.mem_cons.mp hp with rfl | hp
    · exact n2
    rcases List.mem_cons.mp hp with rfl | hp
    · exact n3
    rcases List.mem_cons.mp hp with rfl | hp
    · exact n5
    rcases List.mem_cons.mp hp with rfl | hp
    · exact n7
    exact hO p hp l (.tail _ (.head _))
  · rw [setL_eq] at N'
    have N₂ : News h₀ L h' ((x, instObj 137 dx) :: (dx, cpD w k0 k1 k2 k3 k4 k5 k6 k7 k8 k9 vb vf r k o v n t c ro tv tn tt tc) :: (l, stL o v' n' t' c' ro' tv' tn' tt' tc') :: (r, PySem.W.listOf #[] 0) :: (k, ok) :: own) := sub_news N' fun p hp => by
      rcases List.mem_cons.mp hp with rfl | hp
      · exact .tail _ (.head _)
      rcases List.mem_cons.mp hp with rfl | hp
      · exact .tail _ (.tail _ (.head _))
      rcases List.mem_cons.mp hp with rfl | hp
      · exact .head _
      exact .tail _ (.tail _ (.tail _ hp))
    cases res with
    | none => exact ret0 0 0 v' n' t' c' ro' hT r k ok tv tn tt tc tv' tn' tt' tc' h' tk' hE F' N₂
    | some g => exact ret1 g tr v' n' t' c' ro' hT r k ok tv tn tt tc tv' tn' tt' tc' h' tk' hE F' N₂
theorem take_b0 {cv : Value} {W : Str} {f : Int} {tg : Bool} {v' n' t' c' : Int} {ro' : Bool} (hT : Tr o v n t c ro W f tg none v' n' t' c' ro') (B : Below A₀ base outer h₀) (F : Fr h₀ L s.heap m) (X : (hd.heap_39 w.params).In h₀) (T : Top p loose mean mg mb h₀) (hk : cs.kind = .function) (hdp : dp + 12 < recursionLimit) (hu : un + 400 < cLine)
    (N : News h₀ L s.heap big) (m1 : (x, instObj 137 dx) ∈ big) (m2 : (dx, cpD w k0 k1 k2 k3 k4 k5 k6 k7 k8 k9 vb vf r k o v n t c ro tv tn tt tc) ∈ big) (m3 : (l, stL o v' n' t' c' ro' sv sn st sc) ∈ big) (m4 : (r, PySem.W.listOf #[] 0) ∈ big) (m5 : (k, ok) ∈ big) (hO : OwnOff own [dx, l]) (mo : ∀ p ∈ own, p ∈ big) (hE : EmptyD w k ok)
    (hc : CodeIs w own cv W f)
    (ret : CoreRet w h₀ L m x dx l k0 k1 k2 k3 k4 k5 k6 k7 k8 k9 vb vf o v' n' t' c' ro' o v' n' t' c' ro' own s fun s' => Q .none s') :
    wpAny (model PR w) (ktrTop dp un gd cn cs L a ccd cl outer) (call (.ref 176) [.ref x, .bool tg, cv]) Q E s := by
  have n1 : @Ne Nat x dx := news_ne N m1 m2 (by intro e; have := congrArg Obj.cls e; simp at this)
  have n2 : @Ne Nat k dx := news_ne N m5 m2 (by obtain ⟨hc, en, hd⟩ := hE.flat; intro e; rw [e] at hd; simp at hd)
  have n3 : @Ne Nat l dx := news_ne N m3 m2 (by intro e; have := congrArg Obj.cls e; simp at this)
  have n4 : @Ne Nat r dx := news_ne N m4 m2 (by intro e; have := congrArg Obj.cls e; simp at this)
  refine take_c (r := r) (tv := tv) (tn := tn) (tt := tt) (tc := tc) (k0 := k0) (k1 := k1) (k2 := k2) (k3 := k3) (k4 := k4) (k5 := k5) (k6 := k6) (k7 := k7) (k8 := k8) (k9 := k9) (vb := vb) (vf := vf) B F X T hk hdp hu (own := (l, stL o v' n' t' c' ro' sv sn st sc) :: (r, PySem.W.listOf #[] 0) :: own) (sub_news N fun p hp => ?_) (fun p hp b hb => ?_) hE (hc.mono fun p hp => .tail _ (.tail _ hp)) n1 n2 hT (fun _ k' ok' tv' tn' tt' tc' h' tk' hE' F' N' => ?_) (fun f' e => by cases e)
  · rcases List.mem_cons.mp hp with rfl | hp
    · exact m1
    rcases List.mem_cons.mp hp with rfl | hp
    · exact m2
    rcases List.mem_cons.mp hp with rfl | hp
    · exact m5
    rcases List.mem_cons.mp hp with rfl | hp
    · exact m3
    rcases List.mem_cons.mp hp with rfl | hp
    · exact m4
    exact mo p hp
  · rw [List.mem_singleton.mp hb]
    rcases List.mem_cons.mp hp with rfl | hp
    · exact n3
    rcases List.mem_cons.mp hp with rfl | hp
    · exact n4
    exact hO p hp dx (.head _)
  · refine ret r k' ok' tv' tn' tt' tc' sv sn st sc h' tk' hE' F' (sub_news N' fun p hp => ?_)
    rcases List.mem_cons.mp hp with rfl | hp
    · exact .head _
    rcases List.mem_cons.mp hp with rfl | hp
    · exact .tail _ (.head _)
    rcases List.mem_cons.mp hp with rfl | hp
    · exact .tail _ (.tail _ (.tail _ (.head _)))
    rcases List.mem_cons.mp hp with rfl | hp
    · exact .tail _ (.tail _ (.tail _ (.tail _ (.head _))))
    rcases List.mem_cons.mp hp with rfl | hp
    · exact .tail _ (.tail _ (.head _))
    exact .tail _ (.tail _ (.tail _ (.tail _ (.tail _ hp))))
theorem take_b1 {cv : Value} {W : Str} {f g : Int} {tg : Bool} {v' n' t' c' : Int} {ro' : Bool} (hT : Tr o v n t c ro W f tg (some g) v' n' t' c' ro') (B : Below A₀ base outer h₀) (F : Fr h₀ L s.heap m) (X : (hd.heap_39 w.params).In h₀) (T : Top p loose mean mg mb h₀) (hk : cs.kind = .function) (hdp : dp + 12 < recursionLimit) (hu : un + 400 < cLine)
    (N : News h₀ L s.heap big) (m1 : (x, instObj 137 dx) ∈ big) (m2 : (dx, cpD w k0 k1 k2 k3 k4 k5 k6 k7 k8 k9 vb vf r k o v n t c ro tv tn tt tc) ∈ big) (m5 : (k, ok) ∈ big) (hO : OwnOff own [dx, l]) (mo : ∀ p ∈ own, p ∈ big) (hE : EmptyD w k ok)
    (hc : CodeIs w own cv W f)
    (exc : TakeExc w base h₀ L m (envX cn cs L a ccd cl :: outer) g s E) :
    wpAny (model PR w) (ktrTop dp un gd cn cs L a ccd cl outer) (call (.ref 176) [.ref x, .bool tg, cv]) Q E s := by
  have n1 : @Ne Nat x dx := news_ne N m1 m2 (by intro e; have := congrArg Obj.cls e; simp at this)
  have n2 : @Ne Nat k dx := news_ne N m5 m2 (by obtain ⟨hc, en, hd⟩ := hE.flat; intro e; rw [e] at hd; simp at hd)
  refine take_c (r := r) (tv := tv) (tn := tn) (tt := tt) (tc := tc) (k0 := k0) (k1 := k1) (k2 := k2) (k3 := k3) (k4 := k4) (k5 := k5) (k6 := k6) (k7 := k7) (k8 := k8) (k9 := k9) (vb := vb) (vf := vf) B F X T hk hdp hu (own := own) (sub_news N fun p hp => ?_) (fun p hp b hb => ?_) hE hc n1 n2 hT (fun e => by cases e) (fun f' e => by cases e; exact exc)
  · rcases List.mem_cons.mp hp with rfl | hp
    · exact m1
    rcases List.mem_cons.mp hp with rfl | hp
    · exact m2
    rcases List.mem_cons.mp hp with rfl | hp
    · exact m5
    exact mo p hp
  · rw [List.mem_singleton.mp hb]
    exact hO p hp dx (.head _)
end
end Mine

/-! part Y4 -/
namespace Mine
open PySem PySem.W PySem.Calls PyProof.Rows
def lawLoop : List Stmt := match (fnBody 22).drop 2 with
  | .For _ _ b _ _ :: _ => b
  | _ => []
section
variable {w : World} {h₀ : Heap} {L a : Addr} {ccd : Value} {m : Str → Option Value} {own : List (Addr × Obj)} {s : Shared} {p : Program} {loose : List Str} {mean : ExcName → Option Value} {mg mb : Str → Option Value} {Q : Flow → Shared → Prop} {E : Value → Shared → Prop}
theorem body_c (B : Below callerA h₀ [] h₀) {i : Int} {ti : Tok} (F₀ : Fr h₀ L s.heap (fun y => if y = Str.ofString "cell" then some (.int i ti) else m y)) (X : (hd.heap_39 w.params).In h₀) (T : Top p loose mean mg mb h₀)
    {x dx l r k : Addr} {ok : Obj} {o ro : Bool} {v n t c : Int} {tv tn tt tc sv sn st sc k0 k1 k2 k3 k4 k5 k6 k7 k8 k9 : Tok} {vb vf : Value}
    (N : News h₀ L s.heap (core w x dx l r k ok k0 k1 k2 k3 k4 k5 k6 k7 k8 k9 vb vf o v n t c ro tv tn tt tc sv sn st sc own)) (hO : OwnOff own [dx, l]) (hE : EmptyD w k ok)
    (hx : m (Str.ofString "copy") = some (.ref x)) (hl : m (Str.ofString "state") = some (.ref l))
    (retT : ∀ m' h' tk', Fr h₀ L h' m' → Q (.ret (.bool true)) { s with heap := h', toks := tk' })
    (next : ∀ m' r k ok vb o v n t c ro tv tn tt tc sv sn st sc h' tk', m' (Str.ofString "copy") = some (.ref x) → m' (Str.ofString "state") = some (.ref l) → EmptyD w k ok → Fr h₀ L h' m' →
      News h₀ L h' (core w x dx l r k ok k0 k1 k2 k3 k4 k5 k6 k7 k8 k9 vb vf o v n t c ro tv tn tt tc sv sn st sc own) → Q .next { s with heap := h', toks := tk' }) :
    wpAny (model PR w) (callerA.deeper (envOf (Str.ofString "law") (fnScope 22) L a ccd)) (execs lawLoop (envOf (Str.ofString "law") (fnScope 22) L a ccd)) Q E s := by
  have F₁ := fr_at F₀ (x := Str.ofString "state") (v := .ref l) (by show (if _ = _ then _ else _) = _; rw [if_neg (by decide +kernel)]; exact hl)
  have F := fr_at F₁ (x := Str.ofString "copy") (v := .ref x) (by show (if _ = _ then _ else _) = _; rw [if_neg (by decide +kernel)]; show (if _ = _ then _ else _) = _; rw [if_neg (by decide +kernel)]; exact hx)
  clear F₀ F₁
  w_on
  w_top on
  k_with_none
  k_with "call ref" => (k_here; k_dflt (focus (first | (refine' Mine.turn_b ?k1 ?k2 ?k3 ?k4 ?k5 ?k6 ?k7 ?kN ?m1 ?m2 ?m3 ?m4 ?m5 ?kO ?mo ?kE ?_; (case k1 => k_asm); (case k2 => k_asm); (case k3 => k_asm); (case k4 => k_asm); (case k5 => first | exact rfl | assumption); (case k6 => k_room); (case k7 => ke_room); (case kN => k_asm); (case m1 => k_mem); (case m2 => k_mem); (case m3 => k_mem); (case m4 => k_mem); (case m5 => k_mem); (case kO => assumption); (case mo => exact (fun p hp => by repeat (first | exact hp | refine List.Mem.tail _ ?_))); (case kE => assumption); intro r' k' ok' vb' o' v' n' t' c' ro' tv' tn' tt' tc' sv' sn' st' sc' h' tk' hTu hE' F' N'; dsimp only [Mine.core, Mine.cpD, Mine.ent] at N') | (refine' Mine.code_b ?k1 ?k2 ?k3 ?k4 ?k5 ?k6 ?k7 ?kN ?m1 ?m2 ?m3 ?m4 ?m5 ?kO ?mo ?_; (case k1 => k_asm); (case k2 => k_asm); (case k3 => k_asm); (case k4 => k_asm); (case k5 => first | exact rfl | assumption); (case k6 => k_room); (case k7 => ke_room); (case kN => k_asm); (case m1 => k_mem); (case m2 => k_mem); (case m3 => k_mem); (case m4 => k_mem); (case m5 => k_mem); (case kO => assumption); (case mo => exact (fun p hp => by repeat (first | exact hp | refine List.Mem.tail _ ?_))); intro cv' W' f' h' tk' own' F' N' hsub hO' hc' hW'; dsimp only [Mine.core, Mine.cpD, Mine.ent] at N') | (refine' Mine.due_b ?k1 ?k2 ?k3 ?k4 ?k5 ?k6 ?k7 ?kN ?m1 ?m2 ?m3 ?m4 ?m5 ?kO ?mo ?kE ?hc ?hW ?_ ?_; (case k1 => k_asm); (case k2 => k_asm); (case k3 => k_asm); (case k4 => k_asm); (case k5 => first | exact rfl | assumption); (case k6 => k_room); (case k7 => ke_room); (case kN => k_asm); (case m1 => k_mem); (case m2 => k_mem); (case m3 => k_mem); (case m4 => k_mem); (case m5 => k_mem); (case kO => assumption); (case mo => exact (fun p hp => by repeat (first | exact hp | refine List.Mem.tail _ ?_))); (case kE => assumption); (case hc => assumption); (case hW => assumption); all_goals (intro g' tr' v' n' t' c' ro' hT' r' k' ok' tv' tn' tt' tc' sv' sn' st' sc' h' tk' hE' F' N'; dsimp only [Mine.core, Mine.cpD, Mine.ent] at N'; (try k_sweep))) | (refine' Mine.take_b0 ?hT ?k1 ?k2 ?k3 ?k4 ?k5 ?k6 ?k7 ?kN ?m1 ?m2 ?m3 ?m4 ?m5 ?kO ?mo ?kE ?hc ?_; (case hT => assumption); (case k1 => k_asm); (case k2 => k_asm); (case k3 => k_asm); (case k4 => k_asm); (case k5 => first | exact rfl | assumption); (case k6 => k_room); (case k7 => ke_room); (case kN => k_asm); (case m1 => k_mem); (case m2 => k_mem); (case m3 => k_mem); (case m4 => k_mem); (case m5 => k_mem); (case kO => assumption); (case mo => exact (fun p hp => by repeat (first | exact hp | refine List.Mem.tail _ ?_))); (case kE => assumption); (case hc => assumption); intro r' k' ok' tv' tn' tt' tc' sv' sn' st' sc' h' tk' hE' F' N'; dsimp only [Mine.core, Mine.cpD, Mine.ent] at N') | (refine' Mine.take_b1 ?hT ?k1 ?k2 ?k3 ?k4 ?k5 ?k6 ?k7 ?kN ?m1 ?m2 ?m5 ?kO ?mo ?kE ?hc ?_; (case hT => assumption); (case k1 => k_asm); (case k2 => k_asm); (case k3 => k_asm); (case k4 => k_asm); (case k5 => first | exact rfl | assumption); (case k6 => k_room); (case k7 => ke_room); (case kN => k_asm); (case m1 => k_mem); (case m2 => k_mem); (case m5 => k_mem); (case kO => assumption); (case mo => exact (fun p hp => by repeat (first | exact hp | refine List.Mem.tail _ ?_))); (case kE => assumption); (case hc => assumption); intro e' h' tk' g' R' F' U'))))
  k_with "noteFrame ref" => (k_here; refine' Mine.caught_X ?K ?F ?U ?R ?X ?T ?_; (case K => assumption); (case R => assumption); (case U => assumption); (case F => assumption); (case X => assumption); (case T => first | assumption | exact topRead_of (by assumption)); intro h' de' oe' k1' k2' z' u1' u2' tk' F' hi' N'; (try k_sweep))
  k_with "getAttr ref" => (k_here; refine' Mine.get_at ?F ?X ?N ?m1 ?m2 ?hi ?_; (case hi => assumption); (case F => k_asm); (case X => k_asm); (case N => k_asm); (case m1 => k_mem); (case m2 => k_mem))
  obtain ⟨e, he⟩ : ∃ e, e = lawLoop := ⟨_, rfl⟩
  obtain ⟨sce, hsc⟩ : ∃ sce, sce = fnScope 22 := ⟨_, rfl⟩
  rw [← he, ← hsc]
  conv at he => rhs; whnf
  conv at hsc => rhs; whnf
  subst he hsc
  dsimp only [core, cpD, ent] at N
  k_steps
  all_goals first
    | ((try simp only [beq_self_eq_true]); refine' retT _ _ _ ?hF; (case hF => assumption); done)
    | (rename Fr h₀ L _ _ => kF; rename News h₀ L _ _ => kN; refine' next _ _ _ _ _ _ _ _ _ _ _ _ _ _ _ _ _ _ _ _ _ ?c1 ?c2 ?kE kF (core_of kN ?m1 ?m2 ?m3 ?m4 ?m5 ?mo); (case m1 => k_mem); (case m2 => k_mem); (case m3 => k_mem); (case m4 => k_mem); (case m5 => k_mem); (case kE => assumption); (case c1 => exact rfl); (case c2 => exact rfl);
        (case mo => (intro p hp; rename ∀ p ∈ own, p ∈ _ => hsub; have hp' := hsub p hp; clear hp; (repeat (first | exact hp' | refine List.Mem.tail _ ?_)))))
end
end Mine

/-! part Z1 -/
namespace Mine
open PySem PySem.W PySem.Calls PyProof.Rows
/-- what stands between the turns: the frame's two names, the copy and the state in step -/
inductive Inv (w : World) (x dx l : Addr) (k0 k1 k2 k3 k4 k5 k6 k7 k8 k9 : Tok) (vf : Value) (own : List (Addr × Obj)) : (Str → Option Value) → List (Addr × Obj) → Prop
  | mk {m : Str → Option Value} {r k : Addr} {ok : Obj} {vb : Value} {o ro : Bool} {v n t c : Int} {tv tn tt tc sv sn st sc : Tok} : m (Str.ofString "copy") = some (.ref x) → m (Str.ofString "state") = some (.ref l) → EmptyD w k ok →
      Inv w x dx l k0 k1 k2 k3 k4 k5 k6 k7 k8 k9 vf own m (core w x dx l r k ok k0 k1 k2 k3 k4 k5 k6 k7 k8 k9 vb vf o v n t c ro tv tn tt tc sv sn st sc own)
theorem inv_noIt {w : World} {x dx l : Addr} {k0 k1 k2 k3 k4 k5 k6 k7 k8 k9 : Tok} {vf : Value} {own : List (Addr × Obj)} {m : Str → Option Value} {nx : List (Addr × Obj)} (h : Inv w x dx l k0 k1 k2 k3 k4 k5 k6 k7 k8 k9 vf own m nx)
    (ho : ∀ p ∈ own, p.2.cls ≠ .type "list_iterator") : ∀ p ∈ nx, p.2.cls ≠ .type "list_iterator" := by
  obtain ⟨_, _, hE⟩ := h
  intro p hp
  rcases List.mem_cons.mp hp with rfl | hp
  · intro e; simp at e
  rcases List.mem_cons.mp hp with rfl | hp
  · intro e; simp at e
  rcases List.mem_cons.mp hp with rfl | hp
  · intro e; simp at e
  rcases List.mem_cons.mp hp with rfl | hp
  · intro e; simp at e
  rcases List.mem_cons.mp hp with rfl | hp
  · intro e; rw [hE.flat.1] at e; simp at e
  exact ho p hp
section
variable {w : World} {h₀ : Heap} {L a : Addr} {ccd : Value} {m : Str → Option Value} {big : List (Addr × Obj)} {s : Shared} {p : Program} {loose : List Str} {mean : ExcName → Option Value} {mg mb : Str → Option Value} {Q : Flow → Shared → Prop} {E : Value → Shared → Prop}
theorem off_ints {h : Heap} {dx l : Addr} {o ro : Bool} {v n t c : Int} {sv sn st sc : Tok} {od : Obj} {q : Addr × Obj} {vs : List Value} {ns : List Int} {kk : Nat} (N : News h₀ L h big) (hq : q ∈ big) (m2 : (dx, od) ∈ big) (hd2 : od.cls = .type "dict") (m3 : (l, stL o v n t c ro sv sn st sc) ∈ big)
    (hc : q.2.cls = .type "list") (hs : q.2.data = .seq vs.toArray kk) (hi : IntsAre vs ns) : ∀ b ∈ [dx, l], q.1 ≠ b := by
  intro b hb
  rcases List.mem_cons.mp hb with rfl | hb
  · exact news_ne N (o := q.2) hq m2 (by intro e; rw [e, hd2] at hc; simp at hc)
  · obtain rfl := List.mem_singleton.mp hb
    refine news_ne N (o := q.2) hq m3 ?_
    intro e
    have e1 : Data.seq vs.toArray kk = Data.seq #[.bool o, .int v sv, .int n sn, .int t st, .int c sc, .bool ro] 0 := hs.symm.trans (congrArg Obj.data e)
    have e2 : vs.toArray = #[.bool o, .int v sv, .int n sn, .int t st, .int c sc, .bool ro] := by
      injection e1
    have e3 : vs = [.bool o, .int v sv, .int n sn, .int t st, .int c sc, .bool ro] := by
      have := congrArg Array.toList e2
      simpa using this
    subst e3
    cases hi
theorem loop_c (B : Below callerA h₀ [] h₀) (F : Fr h₀ L s.heap m) (X : (hd.heap_39 w.params).In h₀) (T : Top p loose mean mg mb h₀)
    {x dx l r k l0 : Addr} {ok : Obj} {o ro : Bool} {v n t c : Int} {tv tn tt tc sv sn st sc k0 k1 k2 k3 k4 k5 k6 k7 k8 k9 : Tok} {vb vf : Value} {vs : List Value} {ns : List Int} {nn : Nat}
    (N : News h₀ L s.heap big) (m1 : (x, instObj 137 dx) ∈ big) (m2 : (dx, cpD w k0 k1 k2 k3 k4 k5 k6 k7 k8 k9 vb vf r k o v n t c ro tv tn tt tc) ∈ big) (m3 : (l, stL o v n t c ro sv sn st sc) ∈ big) (m4 : (r, PySem.W.listOf #[] 0) ∈ big) (m5 : (k, ok) ∈ big) (hE : EmptyD w k ok)
    (h0 : (l0, PySem.W.listOf vs.toArray nn) ∈ big) (hi : IntsAre vs ns) (hx : m (Str.ofString "copy") = some (.ref x)) (hl : m (Str.ofString "state") = some (.ref l))
    (retT : ∀ m' h' tk', Fr h₀ L h' m' → Q (.ret (.bool true)) { s with heap := h', toks := tk' })
    (done : ∀ (m' : Str → Option Value) r k ok vb o v n t c ro tv tn tt tc sv sn st sc h' tk', EmptyD w k ok → Fr h₀ L h' (fun y => if y = Str.ofString "copy" then some (.ref x) else if y = Str.ofString "state" then some (.ref l) else m' y) →
      News h₀ L h' (core w x dx l r k ok k0 k1 k2 k3 k4 k5 k6 k7 k8 k9 vb vf o v n t c ro tv tn tt tc sv sn st sc []) → Q .next { s with heap := h', toks := tk' }) :
    wpAny (model PR w) (callerA.deeper (envOf (Str.ofString "law") (fnScope 22) L a ccd)) (pyIter (.ref l0))
      (fun it s₂ => LoopAtV PR w (callerA.deeper (envOf (Str.ofString "law") (fnScope 22) L a ccd)) h₀ (envOf (Str.ofString "law") (fnScope 22) L a ccd) (Str.ofString "cell") lawLoop Q E it s₂) E s := by
  have N₁ : News h₀ L s.heap (core w x dx l r k ok k0 k1 k2 k3 k4 k5 k6 k7 k8 k9 vb vf o v n t c ro tv tn tt tc sv sn st sc [(l0, PySem.W.listOf vs.toArray nn)]) := core_of N m1 m2 m3 m4 m5 fun p hp => by
    obtain rfl := List.mem_singleton.mp hp
    exact h0
  refine iter_free (env := envOf (Str.ofString "law") (fnScope 22) L a ccd) (Inv w x dx l k0 k1 k2 k3 k4 k5 k6 k7 k8 k9 vf [(l0, PySem.W.listOf vs.toArray nn)]) rfl (.tail _ (.tail _ (.tail _ (.tail _ (.tail _ (.head _)))))) hi F N₁ (.mk hx hl hE) ?_ ?_ ?_
  · intro m' nx hJ
    refine inv_noIt hJ fun p hp => ?_
    obtain rfl := List.mem_singleton.mp hp
    intro e
    simp at e
  · intro i ti m₁ news₁ h tk it lo hit hlo hlo2 hJ F₂ N₂
    obtain ⟨hx', hl', hE'⟩ := hJ
    obtain ⟨kk, hlo2⟩ := hlo2
    refine body_c (s := { s with heap := h, toks := tk }) (own := it :: lo :: [(l0, PySem.W.listOf vs.toArray nn)]) B F₂ X T (core_of N₂ (.tail _ (.tail _ (.head _))) (.tail _ (.tail _ (.tail _ (.head _)))) (.tail _ (.tail _ (.tail _ (.tail _ (.head _))))) (.tail _ (.tail _ (.tail _ (.tail _ (.tail _ (.head _)))))) (.tail _ (.tail _ (.tail _ (.tail _ (.tail _ (.tail _ (.head _))))))) fun p hp => ?_) ?_ hE' hx' hl' ?_ ?_
    · rcases List.mem_cons.mp hp with rfl | hp
      · exact .head _
      rcases List.mem_cons.mp hp with rfl | hp
      · exact .tail _ (.head _)
      obtain rfl := List.mem_singleton.mp hp
      exact .tail _ (.tail _ (.tail _ (.tail _ (.tail _ (.tail _ (.tail _ (.head _)))))))
    · intro q hq
      rcases List.mem_cons.mp hq with rfl | hq
      · intro b hb
        rcases List.mem_cons.mp hb with rfl | hb
        · exact news_ne N₂ (o := q.2) (.head _) (.tail _ (.tail _ (.tail _ (.head _)))) (by intro e; rw [e] at hit; simp at hit)
        · obtain rfl := List.mem_singleton.mp hb
          exact news_ne N₂ (o := q.2) (.head _) (.tail _ (.tail _ (.tail _ (.tail _ (.head _))))) (by intro e; rw [e] at hit; simp at hit)
      rcases List.mem_cons.mp hq with rfl | hq
      · exact off_ints N₂ (.tail _ (.head _)) (.tail _ (.tail _ (.tail _ (.head _)))) rfl (.tail _ (.tail _ (.tail _ (.tail _ (.head _))))) hlo hlo2 hi
      obtain rfl := List.mem_singleton.mp hq
      exact off_ints N₂ (.tail _ (.tail _ (.tail _ (.tail _ (.tail _ (.tail _ (.tail _ (.head _)))))))) (.tail _ (.tail _ (.tail _ (.head _)))) rfl (.tail _ (.tail _ (.tail _ (.tail _ (.head _))))) rfl rfl hi
    · intro m' h' tk' F'
      exact retT m' h' tk' F'
    · intro m' r' k' ok' vb' o' v' n' t' c' ro' tv' tn' tt' tc' sv' sn' st' sc' h' tk' hx'' hl'' hE'' F' N'
      refine ⟨h', tk', m', core w x dx l r' k' ok' k0 k1 k2 k3 k4 k5 k6 k7 k8 k9 vb' vf o' v' n' t' c' ro' tv' tn' tt' tc' sv' sn' st' sc' [(l0, PySem.W.listOf vs.toArray nn)], rfl, F', sub_news N' fun p hp => ?_, .mk hx'' hl'' hE''⟩
      rcases List.mem_cons.mp hp with rfl | hp
      · exact .tail _ (.tail _ (.tail _ (.tail _ (.tail _ (.head _)))))
      rcases List.mem_cons.mp hp with rfl | hp
      · exact .tail _ (.tail _ (.tail _ (.tail _ (.tail _ (.tail _ (.head _))))))
      rcases List.mem_cons.mp hp with rfl | hp
      · exact .head _
      rcases List.mem_cons.mp hp with rfl | hp
      · exact .tail _ (.head _)
      rcases List.mem_cons.mp hp with rfl | hp
      · exact .tail _ (.tail _ (.head _))
      rcases List.mem_cons.mp hp with rfl | hp
      · exact .tail _ (.tail _ (.tail _ (.head _)))
      rcases List.mem_cons.mp hp with rfl | hp
      · exact .tail _ (.tail _ (.tail _ (.tail _ (.head _))))
      exact .tail _ (.tail _ (.tail _ (.tail _ (.tail _ (.tail _ (.tail _ hp))))))
  · intro m₁ news₁ h tk hJ F₂ N₂
    obtain ⟨hx', hl', hE'⟩ := hJ
    refine done m₁ _ _ _ _ _ _ _ _ _ _ _ _ _ _ _ _ _ _ h tk hE' (fr_at (fr_at F₂ hl') ?_) (core_of N₂ (.head _) (.tail _ (.head _)) (.tail _ (.tail _ (.head _))) (.tail _ (.tail _ (.tail _ (.head _)))) (.tail _ (.tail _ (.tail _ (.tail _ (.head _))))) fun p hp => nomatch hp)
    show (if _ = _ then _ else _) = _
    rw [if_neg (by decide +kernel)]
    exact hx'
end
end Mine

/-! part Z2 -/
namespace Mine
open PySem PySem.W PySem.Calls PyProof.Rows
theorem ints5 {a b c d e : Int} {t1 t2 t3 t4 t5 : Tok} : IntsAre [.int a t1, .int b t2, .int c t3, .int d t4, .int e t5] [a, b, c, d, e] := .cons _ _ (.cons _ _ (.cons _ _ (.cons _ _ (.cons _ _ .nil))))
theorem law_holds : PySem.Challenge.rw_or0058_01.Holds := hd (by
  k_with_none
  k_with "call ref" => (k_here; k_dflt (focus ( (refine' Mine.turn_b (own := []) ?k1 ?k2 ?k3 ?k4 ?k5 ?k6 ?k7 ?kN ?m1 ?m2 ?m3 ?m4 ?m5 ?kO ?mo ?kE ?_; (case k1 => k_asm); (case k2 => k_asm); (case k3 => k_asm); (case k4 => k_asm); (case k5 => first | exact rfl | assumption); (case k6 => k_room); (case k7 => ke_room); (case kN => k_asm); (case m1 => k_mem); (case m2 => k_mem); (case m3 => k_mem); (case m4 => k_mem); (case m5 => k_mem); (case kO => exact (fun _ hp => nomatch hp)); (case mo => exact (fun _ hp => nomatch hp)); (case kE => first | assumption | exact ⟨by assumption, by assumption, by assumption⟩); intro r' k' ok' vb' o' v' n' t' c' ro' tv' tn' tt' tc' sv' sn' st' sc' h' tk' hTu hE' F' N'; dsimp only [Mine.core, Mine.cpD, Mine.ent] at N'; (try k_sweep)))))
  k_with "pyIter ref" => (k_here; k_dflt (focus ((rename Fr _ _ _ _ => lF'); (rename News _ _ _ _ => lN'); (with_unfolding_all refine' Mine.loop_c ?B lF' ?X ?T lN' ?m1 ?m2 ?m3 ?m4 ?m5 ?kE ?h0 ?hi ?hx ?hl ?_ ?_); (case hx => exact if_pos rfl); (case hl => exact (if_neg (by decide +kernel)).trans (if_pos rfl)); (case B => assumption); (case X => assumption); (case T => assumption); (case kE => assumption); (case h0 => k_mem); (case hi => first | assumption | exact Mine.ints5); (case m1 => k_mem); (case m2 => k_mem); (case m3 => k_mem); (case m4 => k_mem); (case m5 => k_mem); (rotate_left; (intro m' r' k' ok' vb' o' v' n' t' c' ro' tv' tn' tt' tc' sv' sn' st' sc' h' tk' hE' F' N'; dsimp only [Mine.core, Mine.cpD, Mine.ent] at F' N' ⊢; (try clear lF' lN'); (try k_sweep)); rotate_left; (intro m' h' tk' F'; (try clear lF' lN'); dsimp only)))))
  w_strict (k_go0; (all_goals try k_fold); k_steps))
end Mine

theorem PySem.Challenge.cw_or0058_01_holds : PySem.Challenge.rw_or0058_01.Holds :=
  Mine.law_holds

