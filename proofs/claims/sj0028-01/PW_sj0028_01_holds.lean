import PyProof.Rows.All
import Wide.All
import OpenK.AllK
import Wide.FinOn
import Lean
import PySem.Challenge.RW_sj0028_01
open PySem PySem.W PySem.Spec PySem.Calls PyProof.Rows PyProof.V
set_option Elab.async false
set_option compiler.extract_closed false
set_option linter.all false
set_option genInjectivity false
set_option genSizeOf false
namespace Mine
theorem hdE.tw12494769230285798860 : True := trivial
theorem hdE.tw15111228137669340951 : True := trivial
theorem hdE.tw2750122306778447029 : True := trivial
theorem hdE.tw11024868450878457903 : True := trivial
theorem hdE.tw2634815411011655440 : True := trivial
theorem hdE.tw14511149302804355525 : True := trivial
theorem hdE.tw12836244036623479183 : True := trivial
theorem hdE.tw3650698575248103904 : True := trivial
theorem hdE.tw2199748471634610857 : True := trivial
theorem hdE.tw15036517650004941988 : True := trivial
theorem hdE.tw2371271507549348742 : True := trivial
theorem hdE.tw191271434295240718 : True := trivial
theorem hdE.tw15935139006074831733 : True := trivial
theorem hdE.tw15511223655900585892 : True := trivial
theorem hdE.tw7538286974438657946 : True := trivial
theorem hdE.tw8107334650412823573 : True := trivial
theorem hdE.tw1610676659501809429 : True := trivial
theorem hdE.tw2331387673747369805 : True := trivial
theorem hdE.tw10195423245027757711 : True := trivial
theorem hdE.tw9433653023674393686 : True := trivial
theorem hdE.tw4195610925064359208 : True := trivial
theorem hdE.tw9745199554319097151 : True := trivial
theorem hdE.tw7493325774342907025 : True := trivial
theorem hdE.tw17927559415426046338 : True := trivial
theorem hdE.tw219374636027723786 : True := trivial
theorem hdE.tw1570594436230323358 : True := trivial
theorem hdE.tw12092745414818338286 : True := trivial
theorem hdE.tw9466557297272775742 : True := trivial
theorem hdE.tw9003323717993021721 : True := trivial
theorem hdE.tw8307572762634874617 : True := trivial
theorem hdE.tw10868323437941493459 : True := trivial
theorem hdE.tw5106458627730608351 : True := trivial
theorem hdE.tw12861357999465481506 : True := trivial
theorem hdE.tw16579271229039287433 : True := trivial
theorem hdE.tw9182823981877380512 : True := trivial
theorem hdE.tw840497314965931740 : True := trivial
theorem hdE.tw586508071487912172 : True := trivial
theorem hdE.tw88604930223137486 : True := trivial
theorem hdE.tw4297292301626062099 : True := trivial
theorem hdE.tw8892910622441583173 : True := trivial
theorem hdE.tw7452961232886949387 : True := trivial
theorem hdE.tw631189973150555981 : True := trivial
theorem hdE.tw3503806798137920369 : True := trivial
theorem hdE.tw7703841536931668358 : True := trivial
theorem hdE.tw2636381282217035715 : True := trivial
theorem hdE.tw13905576086351323456 : True := trivial
theorem hdE.tw3485769055365426266 : True := trivial
theorem hdE.tw2963340992325950649 : True := trivial
theorem hdE.tw15655911520642948456 : True := trivial
theorem hdE.tw16355154750753788687 : True := trivial
theorem hdE.tw11831636160943787064 : True := trivial
theorem hdE.tw6030503778874011392 : True := trivial
theorem hdE.tw17534310148151542352 : True := trivial
theorem hdE.tw665687193913302809 : True := trivial
theorem hdE.tw18374732133824083180 : True := trivial
theorem hdE.tw13218432574385370562 : True := trivial
theorem hdE.tw3080319782331269716 : True := trivial
theorem hdE.tw15106758338699277366 : True := trivial
theorem hdE.tw2622766429571255655 : True := trivial
theorem hdE.tw5841289783948232000 : True := trivial
theorem hdE.tw7724657672369719487 : True := trivial
theorem hdE.tw6063904725400874681 : True := trivial
theorem hdE.tw298831225501787463 : True := trivial
theorem hdE.tw13324053260188122187 : True := trivial
theorem hdE.tw13033395694903617728 : True := trivial
theorem hdE.tw7751293721528323559 : True := trivial
theorem hdE.tw14522024766455260920 : True := trivial
theorem hdE.tw10886658329045209513 : True := trivial
theorem hdE.tw13676612607423888179 : True := trivial
theorem hdE.tw6986546455412903466 : True := trivial
theorem hdE.tw6020306063465994880 : True := trivial
theorem hdE.tw7478285821589881453 : True := trivial
theorem hdE.tw17220613208649958307 : True := trivial
theorem hdE.tw14378572111831581411 : True := trivial
theorem hdE.tw11785595781662076080 : True := trivial
theorem hdE.tw13494579122649912849 : True := trivial
theorem hdE.tw17575381956987565611 : True := trivial
theorem hdE.tw8119883548048360203 : True := trivial
theorem hdE.tw11437254991850397262 : True := trivial
theorem hdE.tw7901791165112053280 : True := trivial
theorem hdE.tw216804966366552918 : True := trivial
theorem hdE.tw1274556213262090512 : True := trivial
theorem hdE.tw13678279988474019648 : True := trivial
theorem hdE.tw18086478170712658506 : True := trivial
theorem hdE.tw16257197769218558728 : True := trivial
theorem hdE.tw14954212578711518903 : True := trivial
theorem hdE.tw14067299354726034554 : True := trivial
theorem hdE.tw4001435594802818864 : True := trivial
theorem hdE.tw14580245486712699164 : True := trivial
theorem hdE.tw15064721733156721733 : True := trivial
theorem hdE.tw12355251278485966487 : True := trivial
theorem hdE.tw2441157351437687172 : True := trivial
theorem hdE.tw1264393216829635142 : True := trivial
theorem hdE.tw6449028271515088216 : True := trivial
theorem hdE.tw4820745241083666360 : True := trivial
theorem hdE.tw17777684749660224726 : True := trivial
theorem hdE.tw11695802796627920830 : True := trivial
theorem hdE.tw4722606240313931981 : True := trivial
theorem hdE.tw7805613374180431670 : True := trivial
theorem hdE.tw376846642707161401 : True := trivial
theorem hdE.tw16109796530732299847 : True := trivial
theorem hdE.tw12814625615857925154 : True := trivial
theorem hdE.tw15941981349284664518 : True := trivial
theorem hdE.tw7971190204958305624 : True := trivial
theorem hdE.tw7591894647361369755 : True := trivial
theorem hdE.tw3654453472128449547 : True := trivial
theorem hdE.tw9274693393574673905 : True := trivial
theorem hdE.tw8678121947771667987 : True := trivial
theorem hdE.tw5016830497639214901 : True := trivial
theorem hdE.tw6860829772890552707 : True := trivial
theorem hdE.tw5948501497260446732 : True := trivial
theorem hdE.tw14566842797531932830 : True := trivial
theorem hdE.tw4369630076080796235 : True := trivial
theorem hdE.tw5886180132858422549 : True := trivial
theorem hdE.tw18410280801236179653 : True := trivial
theorem hdE.tw4116314992695700478 : True := trivial
theorem hdE.tw294872632993994487 : True := trivial
theorem hdE.tw17599946327968577556 : True := trivial
theorem hdE.tw2087378822181939777 : True := trivial
theorem hdE.tw5665672802999176445 : True := trivial
theorem hdE.tw7029073994043118027 : True := trivial
theorem hdE.tw6191795012492259080 : True := trivial
theorem hdE.tw11077238393367726629 : True := trivial
theorem hdE.tw12171726486647765816 : True := trivial
theorem hdE.tw15962320336609405336 : True := trivial
theorem hdE.tw1900137571309322221 : True := trivial
theorem hdE.tw2074246870531719887 : True := trivial
theorem hdE.tw13946643376254838177 : True := trivial
theorem hdE.tw8376880529993868978 : True := trivial
theorem hdE.tw3306389221466214926 : True := trivial
theorem hdE.tw15339114719679263366 : True := trivial
def lite : OpenRow := { PySem.Challenge.rw_sj0028_01.row with name := Str.ofString "find", args := [.none, .str], returns := .none, pre := .lit (.bool true), post := .lit (.bool true) }
set_option maxRecDepth 100000 in
set_option maxHeartbeats 8000000 in
set_option Elab.async true in
theorem hdE : lite.Holds := by
  open_k
theorem hdE_ready : Mine.hdE.heap_1_1 = Mine.hdE.heap_1_1 := rfl
theorem digR {p q r : Prop} (f : q → r) : p ∧ q → r := fun h => f h.2
theorem neLt {a b x : Nat} {r : Prop} (h : x < b ∧ r) (d : x < b ∧ r → a < b) : a ≠ b := Nat.ne_of_lt (d h)
theorem neGt {a b x : Nat} {r : Prop} (h : x < a ∧ r) (d : x < a ∧ r → b < a) : a ≠ b := Nat.ne_of_gt (d h)
theorem neNe {a b x : Nat} {r : Prop} (h : x ≠ b ∧ r) (d : x ≠ b ∧ r → a ≠ b) : a ≠ b := d h
theorem neEn {a b x : Nat} {r : Prop} (h : x ≠ a ∧ r) (d : x ≠ a ∧ r → b ≠ a) : a ≠ b := (d h).symm
theorem ltLt {a b x : Nat} {r : Prop} (h : x < b ∧ r) (d : x < b ∧ r → a < b) : a < b := d h
theorem allDig {b x : Nat} {r : Prop} {l : List (Addr × Obj)} (h : x < b ∧ r) (d : x < b ∧ r → AllLt b l) : AllLt b l := d h
theorem Cut.out {P : Prop} (h : ∀ G : Prop, (P → G) → G) : P := h P id
theorem dLe {a b k c : Nat} (h : a ≤ b) (e : Nat.ble (b + k) c = true) : a + k ≤ c := Nat.le_trans (Nat.add_le_add_right h k) (Nat.le_of_ble_eq_true e)
theorem dL0 {a b c : Nat} (h : a ≤ b) (e : Nat.ble b c = true) : a ≤ c := Nat.le_trans h (Nat.le_of_ble_eq_true e)
theorem dLt {a b c : Nat} (h : a ≤ b) (e : Nat.blt b c = true) : a < c := Nat.lt_of_le_of_lt h (Nat.le_of_ble_eq_true e)
theorem andR {p q : Prop} (h : p ∧ q) : q := h.2
theorem allLt_ne {d : Addr} : ∀ {l : List (Addr × Obj)}, AllLt d l → ∀ p ∈ l, p.1 ≠ d
  | [], _, _, h => nomatch h
  | q :: r, ⟨h1, h2⟩, p, h => by
    rcases List.mem_cons.mp h with rfl | h
    · exact Nat.ne_of_lt h1
    · exact allLt_ne h2 p h
theorem off1_ne {d : Addr} : ∀ {l : List (Addr × Obj)}, PyProof.Rows.LCg.Off1 d l → ∀ p ∈ l, p.1 ≠ d
  | [], _, _, h => nomatch h
  | q :: r, h0, p, h => by
    rcases List.mem_cons.mp h with rfl | h
    · exact h0.1
    · exact off1_ne h0.2 p h
section
variable {M : Model} {A : Around} {E : Value → Shared → Prop} {s : Shared} {env : Env} {k : Nat} {p pos : Pos} {rest : List PySem.Expr} {Q : List Value → Shared → Prop}
theorem args_cs {x : Str} (h : wpAny M A (spliced (backTo pos (starEach rest env))) (fun vs s₂ => Q (.str x s.toks :: vs) s₂) E { s with toks := Nat.succ s.toks }) : wpAny M A (spliced (backTo pos (starEach (.Constant (.str x) k p :: rest) env))) Q E s := args_cons (Calls.Constant_str h)
theorem args_ci {x : Int} (h : wpAny M A (spliced (backTo pos (starEach rest env))) (fun vs s₂ => Q (.int x s.toks :: vs) s₂) E { s with toks := Nat.succ s.toks }) : wpAny M A (spliced (backTo pos (starEach (.Constant (.int x) k p :: rest) env))) Q E s := args_cons (wpAny_Constant_int h)
theorem args_cn (h : wpAny M A (spliced (backTo pos (starEach rest env))) (fun vs s₂ => Q (.none :: vs) s₂) E s) : wpAny M A (spliced (backTo pos (starEach (.Constant .none k p :: rest) env))) Q E s := args_cons (wpAny_Constant_none h)
theorem args_cb {b : Bool} (h : wpAny M A (spliced (backTo pos (starEach rest env))) (fun vs s₂ => Q (.bool b :: vs) s₂) E s) : wpAny M A (spliced (backTo pos (starEach (.Constant (.bool b) k p :: rest) env))) Q E s := args_cons (Constant_bool h)
end
theorem args_nm {prog : Program} {w : World} {A : Around} {E : Value → Shared → Prop} {s : Shared} {h₀ : Heap} {L : Addr} {m : Str → Option Value} {nm : Str} {sc : Scope} {fa : Addr} {cd v : Value} {x : Str} {p pos : Pos} {rest : List PySem.Expr} {Q : List Value → Shared → Prop}
    (F : Fr h₀ L s.heap m) (hv : m x = some v) (h : wpAny (model prog w) A (spliced (backTo pos (starEach rest (envOf nm sc L fa cd)))) (fun vs s₂ => Q (v :: vs) s₂) E s)
    (hk : sc.kind = .function) (hl : (envOf nm sc L fa cd).kindOf x = some .local) (hd : (x == ("__debug__" : Str)) = false) :
    wpAny (model prog w) A (spliced (backTo pos (starEach (.Name x p :: rest) (envOf nm sc L fa cd)))) Q E s := args_cons (ld F hv h hk hl hd)
section
local macro_rules | `(tactic| walk_at $s:str) => `(tactic| k_extra $s)
local macro_rules | `(tactic| k_mem) => `(tactic| k_extra "K_MEM")
local macro_rules | `(tactic| k_ne) => `(tactic| k_extra "K_NE")
local macro_rules | `(tactic| k_all) => `(tactic| k_extra "K_ALL")
local macro_rules | `(tactic| k_room) => `(tactic| k_extra "K_ROOM")
local macro_rules | `(tactic| k_units) => `(tactic| k_extra "K_UNITS")
local macro_rules | `(tactic| walk_at "pyIter ref") => `(tactic| k_extra "PYITER")
section
local macro_rules | `(tactic| walk_at "HD") => `(tactic| ((case h => with_reducible assumption); (case d => walk_at "DIG")))
section
theorem lines_L1 : True := by
  k_with_none
  k_with "shSub" => first | (((with_reducible show wpAny _ _ (subscriptTail _ _ (Value.ref _) (Value.int _ _)) _ _ _))) | fail
  k_with "DIG" => first | (repeat (first | (with_reducible exact And.left) | (with_reducible exact id) | (with_reducible refine digR ?_))) | fail
  k_with "LT9" => first | (first | with_reducible assumption | (refine' ltLt ?h ?d; walk_at "HD")) | fail
  k_with "ALLLT" => first | (first | with_reducible assumption | (refine' allDig ?h ?d; walk_at "HD")) | fail
  k_with "K_NE" => first | ((refine neN ?_; first | with_reducible assumption | (refine Ne.symm ?_; with_reducible assumption) | (refine' neLt ?h ?d; walk_at "HD") | (refine' neGt ?h ?d; walk_at "HD") | (refine' neNe ?h ?d; walk_at "HD") | (refine' neEn ?h ?d; walk_at "HD") | (refine Nat.ne_of_lt ?_; with_reducible assumption) | (refine Nat.ne_of_gt ?_; with_reducible assumption) | ((try dsimp only); omega))) | fail
  k_with "MEM" => first | (first | with_reducible assumption | with_reducible exact List.mem_cons_self | (with_reducible refine List.mem_cons_of_mem _ ?_; walk_at "MEM")) | fail
  k_with "OM" => first | (first | exact dLe (by with_reducible assumption) rfl | exact dL0 (by with_reducible assumption) rfl | exact dLt (by with_reducible assumption) rfl | omega) | fail
  k_with "K_ALL" => first | (first | with_reducible assumption | (refine allLt_ne ?_; walk_at "ALLLT") | (refine off1_ne ?_; walk_at "ALLLT")) | fail
  k_with "call builtin:list.pop" => first | ((k_here; (with_reducible show wpAny _ _ (call (Value.builtin _) [Value.ref _, Value.int _ _]) _ _ _); k_dflt (refine' pop0 (by (k_asm; done)) (by (k_asm; done)) (by (k_upd; done)) (by (first | omega | (simp only [List.length_cons] at *; omega); done)) ?_); kl_rest)) | fail
  trivial
noncomputable abbrev feedObj (cells : Addr) (c : Int) (tc : Tok) (r : Int) (tr : Tok) (n : Nat) : Obj := listOf [Value.ref cells, Value.int c tc, Value.int r tr].toArray n

theorem newsTail {h₀ h : Heap} {L : Addr} {q : Addr × Obj} {l : List (Addr × Obj)} (N : News h₀ L h (q :: l)) : News h₀ L h l := fun p hp => N p (List.mem_cons_of_mem _ hp)

theorem pop0 {prog : Program} {w : World} {A : Around} {E : Value → Shared → Prop} {s : Shared} {h₀ : Heap} {L D : Addr} {m : Str → Option Value} {news news' : List (Addr × Obj)} {u : Tok} {n : Nat} {q : List Value} {y : Value} {Q : Value → Shared → Prop}
    (F : Fr h₀ L s.heap m) (N : News h₀ L s.heap news) (U : Upd D (listOf (y :: q).toArray n) (listOf q.toArray (n + 1)) news news')
    (hz : q.length < 1000) (h : ∀ h', Fr h₀ L h' m → News h₀ L h' news' → Q y { s with heap := h' }) : wpAny (model prog w) A (call (.builtin "list.pop") [.ref D, .int 0 u]) Q E s := by
  refine kl_popAt (k := 0) (p := []) (q := q) F N rfl ?_ rfl U ?_ h
  · simp [seqIndex?]
  · rw [PySem.sizeLine_eq]; simp; omega


set_option maxRecDepth 100000 in
set_option maxHeartbeats 8000000 in
theorem pick_ok {w : World} {p : Program} {loose : List Str} {mean : ExcName → Option Value} {mg mb : Str → Option Value}
    {dp un : Nat} {gd : Option (List Code)} {cn : Str} {cs : Scope} {a : Addr} {ccd : Value} {cl : List (Str × Addr)} {outer : List Env} {A₀ : Around} {base h₀ : Heap} {L : Addr} {m : Str → Option Value} {s : Shared}
    {Q E : Value → Shared → Prop} {feed cells : Addr} {c r many : Int} {tc tr t : Tok} {nf nc : Nat} {vs : List Value} {ns : List Int} {rest : List (Addr × Obj)}
    (B : Below A₀ base outer h₀) (F : Fr h₀ L s.heap m) (X : (Mine.hdE.heap_1_1 w.params).In h₀)
    (N : News h₀ L s.heap ((feed, feedObj cells c tc r tr nf) :: (cells, listOf vs.toArray nc) :: rest))
    (T : Top p loose mean mg mb h₀) (hk : cs.kind = .function) (hi : IntsAre vs ns) (hlen : vs.length < 100)
    (hfc : @Ne Nat feed cells) (hrf : ∀ p ∈ rest, p.1 ≠ feed) (hrc : ∀ p ∈ rest, p.1 ≠ cells)
    (hm0 : 0 < many) (hm1 : many < 100) (hr0 : 0 ≤ r) (hr1 : r < 2147483647) (hd : dp + 5 < recursionLimit) (hu : un + 100 < cLine)
    (hret : ∀ found tk c' tc' r' tr' nf' vs' ns' nc' h' toks', Fr h₀ L h' m → News h₀ L h' ((feed, feedObj cells c' tc' r' tr' nf') :: (cells, listOf vs'.toArray nc') :: rest) → IntsAre vs' ns' →
      0 ≤ found → found < many → 0 ≤ r' → r' < 2147483647 → vs'.length < 100 → Q (.int found tk) { s with heap := h', toks := toks' }) :
    wpAny (model PySem.Challenge.rw_sj0028_01.row.prog w) (ktrTop dp un gd cn cs L a ccd cl outer) (call (.ref 117) [.ref feed, .int many t]) Q E s := by
  w_top off
  revert X
  k_fill
  intro X
  cases hi
  all_goals (
  refine wpAny_call ?_
  k_dflt ktr_enter
  k_steps)
  all_goals (rename News _ _ _ _ => N9; rename Fr _ _ _ _ => F9)
  all_goals (
    exact hret _ _ _ _ _ _ _ _ _ _ _ _ (by k_asm) (by first | exact N9 | exact newsTail N9) (by first | assumption | exact IntsAre.nil | exact IntsAre.cons _ _ (by assumption))
      (Int.fmod_nonneg_of_pos _ hm0) (Int.fmod_lt_of_pos _ hm0) (by first | assumption | exact Int.fmod_nonneg_of_pos _ (by decide)) (by first | assumption | exact Int.fmod_lt_of_pos _ (by decide))
      (by simp only [List.length_cons, List.length_nil] at *; omega))
end
section
theorem updF_mem {d : Addr} {o : Obj} {l : List (Addr × Obj)} {g : Obj → List (Addr × Obj)} (U : UpdF d o l g) : (d, o) ∈ l ∧ (∀ o' p, p ∈ g o' → p = (d, o') ∨ (p ∈ l ∧ p.1 ≠ d)) := by
  obtain ⟨pre, post, rfl, hg, a, b⟩ := U.split
  refine ⟨by simp, fun o' p hp => ?_⟩
  rw [hg] at hp
  simp only [List.mem_append, List.mem_cons] at hp ⊢
  rcases hp with hp | hp | hp
  · exact .inr ⟨.inl hp, a p hp⟩
  · exact .inl hp
  · exact .inr ⟨.inr (.inr hp), b p hp⟩

theorem pick_use {w : World} {p : Program} {loose : List Str} {mean : ExcName → Option Value} {mg mb : Str → Option Value}
    {dp un : Nat} {gd : Option (List Code)} {cn : Str} {cs : Scope} {a : Addr} {ccd : Value} {cl : List (Str × Addr)} {outer : List Env} {A₀ : Around} {base h₀ : Heap} {L : Addr} {m : Str → Option Value} {s : Shared}
    {Q E : Value → Shared → Prop} {feed cells : Addr} {c r many : Int} {tc tr t : Tok} {nf nc : Nat} {vs : List Value} {ns : List Int} {news : List (Addr × Obj)} {g1 : Obj → List (Addr × Obj)} {g2 : Obj → Obj → List (Addr × Obj)}
    (B : Below A₀ base outer h₀) (F : Fr h₀ L s.heap m) (X : (Mine.hdE.heap_1_1 w.params).In h₀) (N : News h₀ L s.heap news) (T : Top p loose mean mg mb h₀)
    (U1 : UpdF feed (feedObj cells c tc r tr nf) news g1) (U2 : ∀ o, UpdF cells (listOf vs.toArray nc) (g1 o) (g2 o)) (hfc : @Ne Nat feed cells)
    (hi : IntsAre vs ns) (hlen : vs.length < 100) (hr0 : 0 ≤ r) (hr1 : r < 2147483647)
    (hk : cs.kind = .function) (hm0 : 0 < many) (hm1 : many < 100) (hd : dp ≤ 400) (hu : un ≤ 400)
    (hret : ∀ found tk c' tc' r' tr' nf' vs' ns' nc' h' toks', Fr h₀ L h' m → News h₀ L h' (g2 (feedObj cells c' tc' r' tr' nf') (listOf vs'.toArray nc')) → IntsAre vs' ns' →
      0 ≤ found → found < many → 0 ≤ r' → r' < 2147483647 → vs'.length < 100 → Q (.int found tk) { s with heap := h', toks := toks' }) :
    wpAny (model PySem.Challenge.rw_sj0028_01.row.prog w) (ktrTop dp un gd cn cs L a ccd cl outer) (call (.ref 117) [.ref feed, .int many t]) Q E s := by
  obtain ⟨m1, k1⟩ := updF_mem U1
  obtain ⟨m2, k2⟩ := updF_mem (U2 (feedObj cells c tc r tr nf))
  have m2' : (cells, listOf vs.toArray nc) ∈ news := by
    rcases k1 _ _ m2 with h | h
    · exact absurd (congrArg Prod.fst h).symm hfc
    · exact h.1
  refine pick_ok (nc := nc) (nf := nf) (tc := tc) (tr := tr) (c := c) (r := r) (t := t) (rest := news.filter fun q => decide (q.1 ≠ feed) && decide (q.1 ≠ cells)) B F X ?_ T hk hi hlen hfc ?_ ?_ hm0 hm1 hr0 hr1 (by simp only [recursionLimit]; omega) (by rw [cLine_is]; omega) ?_
  · intro q hq
    simp only [List.mem_cons, List.mem_filter] at hq
    rcases hq with rfl | rfl | hq
    · exact N _ m1
    · exact N _ m2'
    · exact N _ hq.1
  · intro q hq; simp only [List.mem_filter, Bool.and_eq_true, decide_eq_true_eq] at hq; exact hq.2.1
  · intro q hq; simp only [List.mem_filter, Bool.and_eq_true, decide_eq_true_eq] at hq; exact hq.2.2
  · intro found tk c' tc' r' tr' nf' vs' ns' nc' h' toks' F' N' hi' h1 h2 h3 h4 h5
    refine hret found tk c' tc' r' tr' nf' vs' ns' nc' h' toks' F' ?_ hi' h1 h2 h3 h4 h5
    intro q hq
    obtain ⟨_, k2'⟩ := updF_mem (U2 (feedObj cells c' tc' r' tr' nf'))
    rcases k2' _ _ hq with rfl | ⟨hq, hne⟩
    · exact N' _ (by simp)
    · rcases k1 _ _ hq with rfl | ⟨hq, hne'⟩
      · exact N' _ (by simp)
      · refine N' _ ?_
        simp only [List.mem_cons, List.mem_filter, Bool.and_eq_true, decide_eq_true_eq]
        exact .inr (.inr ⟨hq, hne', hne⟩)
end
section
noncomputable abbrev tup (vs : List Value) : Obj := { cls := .type "tuple", data := .seq vs.toArray }

/-- the items of the law, as far as anything reads them -/
inductive It where
  | port (at' : Int) (dir name : Str)
  | net (at' : Int) (name : Str)
  | var (at' : Int) (name : Str)
  | ev (gen : Bool) (at' : Int) (name : Str)
  | param (at' : Int) (name : Str)
  | rout (at' : Int) (what name : Str) (dirs : List Str)
  | inst (at' : Int) (given : Option Str)
  | gate (at' : Int) (given : Option Str)
  | cas (at' : Int)

inductive PortsIn (R : List (Addr × Obj)) : List Value → List Str → Prop
  | nil : PortsIn R [] []
  | cons {b : Addr} {ws : List Value} {ds : List Str} {d : Str} {t1 t3 : Tok} {x2 x4 x5 x6 : Value} : (b, tup [.str (Str.ofString "port") t1, x2, .str d t3, x4, x5, x6]) ∈ R → PortsIn R ws ds → PortsIn R (.ref b :: ws) (d :: ds)

noncomputable def givenV (t : Tok) : Option Str → Value
  | none => .none
  | some x => .str x t

inductive ItIn (R : List (Addr × Obj)) : Value → It → Prop
  | port {a : Addr} {i : Int} {d n : Str} {t1 t2 t3 t4 : Tok} {x3 x4 : Value} : (a, tup [.str (Str.ofString "port") t1, .int i t2, .str d t3, x3, x4, .str n t4]) ∈ R → ItIn R (.ref a) (.port i d n)
  | net {a : Addr} {i : Int} {n : Str} {t1 t2 t3 : Tok} {x2 x3 x4 x5 x7 x8 x9 : Value} : (a, tup [.str (Str.ofString "net") t1, .int i t2, x2, x3, x4, x5, .str n t3, x7, x8, x9]) ∈ R → ItIn R (.ref a) (.net i n)
  | var {a : Addr} {i : Int} {n : Str} {t1 t2 t3 : Tok} {x2 x3 x4 x6 x7 : Value} : (a, tup [.str (Str.ofString "var") t1, .int i t2, x2, x3, x4, .str n t3, x6, x7]) ∈ R → ItIn R (.ref a) (.var i n)
  | event {a : Addr} {i : Int} {n : Str} {t1 t2 t3 : Tok} : (a, tup [.str (Str.ofString "event") t1, .int i t2, .str n t3]) ∈ R → ItIn R (.ref a) (.ev false i n)
  | genvar {a : Addr} {i : Int} {n : Str} {t1 t2 t3 : Tok} : (a, tup [.str (Str.ofString "genvar") t1, .int i t2, .str n t3]) ∈ R → ItIn R (.ref a) (.ev true i n)
  | param {a : Addr} {i : Int} {n : Str} {t1 t2 t3 : Tok} {x2 x3 x4 x6 : Value} : (a, tup [.str (Str.ofString "param") t1, .int i t2, x2, x3, x4, .str n t3, x6]) ∈ R → ItIn R (.ref a) (.param i n)
  | rout {a d b : Addr} {i : Int} {k n : Str} {ds : List Str} {ws : List Value} {t1 t2 t3 t4 t5 : Tok} {x3 x4 x5 x8 y1 y2 y3 y4 y5 y6 y7 : Value} : (a, tup [.str (Str.ofString "routine") t1, .int i t2, .str k t3, x3, x4, x5, .str n t4, .ref d, x8]) ∈ R →
      (d, tup (.ref b :: ws)) ∈ R → (b, tup [.str (Str.ofString "var") t5, y1, y2, y3, y4, y5, y6, y7]) ∈ R → PortsIn R ws ds → ds.length ≤ 3 → ItIn R (.ref a) (.rout i k n ds)
  | inst {a : Addr} {i : Int} {g : Option Str} {t1 t2 t3 : Tok} {x2 x3 x5 x6 : Value} : (a, tup [.str (Str.ofString "inst") t1, .int i t2, x2, x3, givenV t3 g, x5, x6]) ∈ R → ItIn R (.ref a) (.inst i g)
  | gate {a : Addr} {i : Int} {g : Option Str} {t1 t2 t3 : Tok} {x2 x3 x4 x6 x7 : Value} : (a, tup [.str (Str.ofString "gate") t1, .int i t2, x2, x3, x4, givenV t3 g, x6, x7]) ∈ R → ItIn R (.ref a) (.gate i g)
  | cas {a : Addr} {i : Int} {t1 t2 : Tok} {x2 x3 x4 x5 : Value} : (a, tup [.str (Str.ofString "cassign") t1, .int i t2, x2, x3, x4, x5]) ∈ R → ItIn R (.ref a) (.cas i)

theorem PortsIn.mono {R R' : List (Addr × Obj)} (hs : ∀ p ∈ R, p ∈ R') : ∀ {ws : List Value} {ds : List Str}, PortsIn R ws ds → PortsIn R' ws ds
  | _, _, .nil => .nil
  | _, _, .cons h r => .cons (hs _ h) (PortsIn.mono hs r)
theorem ItIn.mono {R R' : List (Addr × Obj)} (hs : ∀ p ∈ R, p ∈ R') {v : Value} {it : It} (h : ItIn R v it) : ItIn R' v it := by
  cases h with
  | port h => exact .port (hs _ h)
  | net h => exact .net (hs _ h)
  | var h => exact .var (hs _ h)
  | event h => exact .event (hs _ h)
  | genvar h => exact .genvar (hs _ h)
  | param h => exact .param (hs _ h)
  | rout h1 h2 h3 h4 h5 => exact .rout (hs _ h1) (hs _ h2) (hs _ h3) (h4.mono hs) h5
  | inst h => exact .inst (hs _ h)
  | gate h => exact .gate (hs _ h)
  | cas h => exact .cas (hs _ h)

noncomputable def It.at : It → Int
  | .port i _ _ => i | .net i _ => i | .var i _ => i | .ev _ i _ => i | .param i _ => i | .rout i _ _ _ => i | .inst i _ => i | .gate i _ => i | .cas i => i
noncomputable def It.name : It → Option Str
  | .port _ _ n => some n | .net _ n => some n | .var _ n => some n | .ev _ _ n => some n | .param _ n => some n | .rout _ _ n _ => some n | .inst _ g => g | .gate _ g => g | .cas _ => none

noncomputable abbrev names5 : List Str := [Str.ofString "a", Str.ofString "b", Str.ofString "c", Str.ofString "d", Str.ofString "z"]
noncomputable abbrev dirs3 : List Str := [Str.ofString "input", Str.ofString "output", Str.ofString "inout"]

def It.ok : It → Prop
  | .port _ d n => d ∈ dirs3 ∧ n ∈ names5
  | .rout _ k n ds => (k = Str.ofString "task" ∨ k = Str.ofString "function") ∧ n ∈ names5 ∧ ∀ d ∈ ds, d ∈ dirs3
  | it => ∀ n, it.name = some n → n ∈ names5

noncomputable def isS : Value → Bool
  | .str _ _ => true
  | _ => false
noncomputable def strsOf : List Value → List Str
  | [] => []
  | .str x _ :: r => x :: strsOf r
  | _ :: r => strsOf r
theorem strsOf_get : ∀ {vs : List Value} {v : Value}, vs.all isS = true → v ∈ vs → ∃ x t, v = .str x t ∧ x ∈ strsOf vs
  | [], _, _, h => nomatch h
  | u :: r, v, ha, h => by
    simp only [List.all_cons, Bool.and_eq_true] at ha
    rcases List.mem_cons.mp h with rfl | h
    · cases v <;> simp_all [isS, strsOf]
    · obtain ⟨x, t, e, hx⟩ := strsOf_get ha.2 h
      refine ⟨x, t, e, ?_⟩
      cases u <;> simp [strsOf, hx]

theorem menu_item {prog : Program} {w : World} {A : Around} {E : Value → Shared → Prop} {s : Shared} {h₀ : Heap} {L : Addr} {news : List (Addr × Obj)} {value slice : PySem.Expr} {l : Addr} {vs : List Value} {n : Nat} {k : Int} {u : Tok} {Q : Value → Shared → Prop}
    (N : News h₀ L s.heap news) (hm : (l, listOf vs.toArray n) ∈ news) (ha : vs.all isS = true) (h0 : 0 ≤ k) (hhi : k < vs.length) (hl9 : vs.length < 100) (h : ∀ x t, x ∈ strsOf vs → Q (.str x t) s)
    (hs : subscripted slice false (.ref l) (.int k u) = operate [.ref l, .int k u] (getItem (.ref l) (.int k u))) :
    wpAny (model prog w) A (subscriptTail value slice (.ref l) (.int k u)) Q E s := by
  have hl : s.heap.IsList l vs.toArray := ⟨_, (N _ hm).1, rfl, n, rfl⟩
  have hk : k.toNat < vs.length := by omega
  obtain ⟨x, t, e, hx⟩ := strsOf_get ha (List.getElem_mem hk)
  have hx' : vs[k.toNat]? = some (.str x t) := by rw [List.getElem?_eq_getElem hk, e]
  exact tail_any hl.typeIs PySem.F.slot_list_getitem.lookup (wpAny_getItem_list hl h0 (by omega) (by simpa using hx') (h x t hx)) hs

theorem names4_5 {x : Str} (h : x ∈ [Str.ofString "a", Str.ofString "b", Str.ofString "c", Str.ofString "d"]) : x ∈ names5 := by
  simp only [List.mem_cons, List.not_mem_nil, or_false] at h ⊢
  rcases h with h | h | h | h <;> simp [h]
theorem dirs2_3 {x : Str} (h : x ∈ [Str.ofString "output", Str.ofString "input"]) : x ∈ dirs3 := by
  simp only [List.mem_cons, List.not_mem_nil, or_false] at h ⊢
  rcases h with h | h <;> simp [h]
theorem okSome {x : Str} (h : x ∈ [Str.ofString "a", Str.ofString "b", Str.ofString "c", Str.ofString "d"]) : ∀ n, some x = some n → n ∈ names5 := by
  intro n e; cases e; exact names4_5 h
theorem okNone : ∀ n, (none : Option Str) = some n → n ∈ names5 := fun _ e => nomatch e
inductive Rem (I : Addr) (it : Obj) : List (Addr × Obj) → List (Addr × Obj) → Prop
  | head {r} : (∀ p ∈ r, p.1 ≠ I) → Rem I it ((I, it) :: r) r
  | tail {p r r'} : p.1 ≠ I → Rem I it r r' → Rem I it (p :: r) (p :: r')
theorem Rem.spec {I : Addr} {it : Obj} {l l' : List (Addr × Obj)} (h : Rem I it l l') : (∀ p ∈ (I, it) :: l', p ∈ l) ∧ ∀ p ∈ l', p.1 ≠ I := by
  induction h with
  | head h => exact ⟨fun _ hp => hp, h⟩
  | tail h _ ih =>
    refine ⟨fun q hq => ?_, fun q hq => ?_⟩
    · rcases List.mem_cons.mp hq with rfl | hq
      · exact List.mem_cons_of_mem _ (ih.1 _ List.mem_cons_self)
      · rcases List.mem_cons.mp hq with rfl | hq
        · exact List.mem_cons_self
        · exact List.mem_cons_of_mem _ (ih.1 _ (List.mem_cons_of_mem _ hq))
    · rcases List.mem_cons.mp hq with rfl | hq
      · exact h
      · exact ih.2 q hq
theorem newsRem2 {h₀ h : Heap} {L : Addr} {f c : Addr} {fo co : Obj} {l l1 R : List (Addr × Obj)} (N : News h₀ L h l) (r1 : Rem f fo l l1) (r2 : Rem c co l1 R) : News h₀ L h ((f, fo) :: (c, co) :: R) := by
  intro p hp
  refine N p ?_
  rcases List.mem_cons.mp hp with rfl | hp
  · exact r1.spec.1 _ List.mem_cons_self
  · exact r1.spec.1 _ (List.mem_cons_of_mem _ (r2.spec.1 _ hp))
theorem pair_cases {x a b : Str} {t u : Tok} (h : x ∈ strsOf [.str a t, .str b u]) : x = a ∨ x = b := by
  simpa [strsOf] using h
end
section
inductive Info where
  | neg
  | sig (d : Str) (p w : Bool)
  | dirs (ds : List Str)
structure Ent where
  what : Str
  at' : Int
  info : Info

inductive StrV : List Value → List Str → Prop
  | nil : StrV [] []
  | cons {x : Str} {t : Tok} {vs : List Value} {xs : List Str} : StrV vs xs → StrV (.str x t :: vs) (x :: xs)
inductive InfoIn (R : List (Addr × Obj)) : Value → Info → Prop
  | neg {t : Tok} : InfoIn R (.int (-1) t) .neg
  | sig {b : Addr} {d : Str} {t : Tok} {p w : Bool} : (b, tup [.str d t, .bool p, .bool w]) ∈ R → InfoIn R (.ref b) (.sig d p w)
  | dirs {b : Addr} {vs : List Value} {ds : List Str} : (b, tup vs) ∈ R → StrV vs ds → InfoIn R (.ref b) (.dirs ds)
inductive EntIn (R : List (Addr × Obj)) : Value → Ent → Prop
  | mk {a : Addr} {wh : Str} {i : Int} {t1 t2 : Tok} {iv : Value} {inf : Info} : (a, tup [.str wh t1, .int i t2, iv]) ∈ R → InfoIn R iv inf → EntIn R (.ref a) ⟨wh, i, inf⟩
inductive TabIn (R : List (Addr × Obj)) : List (Str × Value) → List (Str × Ent) → Prop
  | nil : TabIn R [] []
  | cons {k : Str} {v : Value} {e : Ent} {kvs : List (Str × Value)} {tab : List (Str × Ent)} : EntIn R v e → TabIn R kvs tab → TabIn R ((k, v) :: kvs) ((k, e) :: tab)
abbrev Row := Str × Int × Str
inductive RowsIn (R : List (Addr × Obj)) : List Value → List Row → Prop
  | nil : RowsIn R [] []
  | cons {a : Addr} {k n : Str} {i : Int} {t1 t2 t3 : Tok} {vs : List Value} {rows : List Row} : (a, tup [.str k t1, .int i t2, .str n t3]) ∈ R → RowsIn R vs rows → RowsIn R (.ref a :: vs) ((k, i, n) :: rows)

section
variable {R R' : List (Addr × Obj)}
theorem InfoIn.mono (hs : ∀ p ∈ R, p ∈ R') {v : Value} {i : Info} (h : InfoIn R v i) : InfoIn R' v i := by
  cases h with
  | neg => exact .neg
  | sig h => exact .sig (hs _ h)
  | dirs h r => exact .dirs (hs _ h) r
theorem EntIn.mono (hs : ∀ p ∈ R, p ∈ R') {v : Value} {e : Ent} (h : EntIn R v e) : EntIn R' v e := by
  cases h with
  | mk h i => exact .mk (hs _ h) (i.mono hs)
theorem TabIn.mono (hs : ∀ p ∈ R, p ∈ R') {kvs : List (Str × Value)} {tab : List (Str × Ent)} (h : TabIn R kvs tab) : TabIn R' kvs tab := by
  induction h with
  | nil => exact .nil
  | cons h _ ih => exact .cons (h.mono hs) ih
theorem RowsIn.mono (hs : ∀ p ∈ R, p ∈ R') {vs : List Value} {rows : List Row} (h : RowsIn R vs rows) : RowsIn R' vs rows := by
  induction h with
  | nil => exact .nil
  | cons h _ ih => exact .cons (hs _ h) ih
theorem RowsIn.snoc {a : Addr} {k n : Str} {i : Int} {t1 t2 t3 : Tok} {vs : List Value} {rows : List Row} (h : RowsIn R vs rows) (hm : (a, tup [.str k t1, .int i t2, .str n t3]) ∈ R) : RowsIn R (vs ++ [.ref a]) (rows ++ [(k, i, n)]) := by
  induction h with
  | nil => exact .cons hm .nil
  | cons h _ ih => exact .cons h ih
theorem RowsIn.length {vs : List Value} {rows : List Row} (h : RowsIn R vs rows) : vs.length = rows.length := by
  induction h with
  | nil => rfl
  | cons _ _ ih => simp [ih]

noncomputable def entAt (tab : List (Str × Ent)) (k : Str) : Option Ent := (tab.find? fun kv => kv.1 = k).map (·.2)
noncomputable def storedE (tab : List (Str × Ent)) (k : Str) (e : Ent) : List (Str × Ent) := if tab.any (fun kv => kv.1 = k) then tab.map (fun kv => if kv.1 = k then (kv.1, e) else kv) else tab ++ [(k, e)]

theorem TabIn.look {kvs : List (Str × Value)} {tab : List (Str × Ent)} (h : TabIn R kvs tab) (k : Str) : (valueAt kvs k = none ∧ entAt tab k = none) ∨ ∃ v e, valueAt kvs k = some v ∧ entAt tab k = some e ∧ EntIn R v e := by
  induction h with
  | nil => exact .inl ⟨rfl, rfl⟩
  | @cons k' v e kvs tab h _ ih =>
    by_cases hk : k' = k
    · exact .inr ⟨v, e, by simp [valueAt, hk], by simp [entAt, hk], h⟩
    · simpa [valueAt, entAt, hk] using ih
theorem TabIn.keys {kvs : List (Str × Value)} {tab : List (Str × Ent)} (h : TabIn R kvs tab) (k : Str) : kvs.any (fun kv => kv.1 = k) = tab.any (fun kv => kv.1 = k) := by
  induction h with
  | nil => rfl
  | cons _ _ ih => simp only [List.any_cons, ih]
theorem TabIn.len {kvs : List (Str × Value)} {tab : List (Str × Ent)} (h : TabIn R kvs tab) : kvs.length = tab.length := by
  induction h with
  | nil => rfl
  | cons _ _ ih => simp [ih]
theorem TabIn.snoc {kvs : List (Str × Value)} {tab : List (Str × Ent)} {k : Str} {v : Value} {e : Ent} (h : TabIn R kvs tab) (he : EntIn R v e) : TabIn R (kvs ++ [(k, v)]) (tab ++ [(k, e)]) := by
  induction h with
  | nil => exact .cons he .nil
  | cons h _ ih => exact .cons h ih
theorem TabIn.put {kvs : List (Str × Value)} {tab : List (Str × Ent)} {k : Str} {v : Value} {e : Ent} (h : TabIn R kvs tab) (he : EntIn R v e) :
    TabIn R (kvs.map (fun kv => if kv.1 = k then (kv.1, v) else kv)) (tab.map (fun kv => if kv.1 = k then (kv.1, e) else kv)) := by
  induction h with
  | nil => exact .nil
  | @cons k' v' e' kvs tab h _ ih =>
    simp only [List.map_cons]
    by_cases hk : k' = k
    · simp only [hk, if_true]; exact .cons he ih
    · simp only [if_neg hk]; exact .cons h ih
theorem TabIn.store {kvs : List (Str × Value)} {tab : List (Str × Ent)} {k : Str} {v : Value} {e : Ent} (h : TabIn R kvs tab) (he : EntIn R v e) : TabIn R (stored kvs k v) (storedE tab k e) := by
  unfold stored storedE
  rw [h.keys k]
  by_cases hk : tab.any (fun kv => kv.1 = k) = true
  · rw [if_pos hk, if_pos hk]; exact h.put he
  · rw [if_neg hk, if_neg hk]; exact h.snoc he
end
theorem isSome_of {kvs : List (Str × Value)} {k : Str} {v : Value} (h : valueAt kvs k = some v) : (valueAt kvs k).isSome = true := by rw [h]; rfl
theorem isNone_of {kvs : List (Str × Value)} {k : Str} (h : valueAt kvs k = none) : (valueAt kvs k).isSome = false := by rw [h]; rfl
/-- the objects of a report and a table, the list of rows and the dict of entries among them -/
noncomputable abbrev repDict (w : World) (t1 t2 t3 : Tok) (nv tv : Value) (rl : Addr) (n : Nat) : Obj :=
  dictOf [⟨PyData.keyHash w.params (Str.ofString "names"), .str (Str.ofString "names") t1, nv⟩, ⟨PyData.keyHash w.params (Str.ofString "nettype"), .str (Str.ofString "nettype") t2, tv⟩, ⟨PyData.keyHash w.params (Str.ofString "rows"), .str (Str.ofString "rows") t3, .ref rl⟩] n
noncomputable abbrev tabDict (w : World) (t1 t2 : Tok) (pv : Value) (en : Addr) (n : Nat) : Obj :=
  dictOf [⟨PyData.keyHash w.params (Str.ofString "parent"), .str (Str.ofString "parent") t1, pv⟩, ⟨PyData.keyHash w.params (Str.ofString "entries"), .str (Str.ofString "entries") t2, .ref en⟩] n

def FreshL (as : List Addr) (rest R : List (Addr × Obj)) : Prop := ∀ q ∈ R, q ∈ rest ∨ ((∀ a ∈ as, @LT.lt Nat _ a q.1) ∧ AllLt q.1 rest)
theorem FreshL.cons {as : List Addr} {rest R : List (Addr × Obj)} {q : Addr × Obj} (h1 : ∀ a ∈ as, @LT.lt Nat _ a q.1) (h3 : AllLt q.1 rest) (h : FreshL as rest R) : FreshL as rest (q :: R) := by
  intro p hp
  rcases List.mem_cons.mp hp with rfl | hp
  · exact .inr ⟨h1, h3⟩
  · exact h p hp
theorem FreshL.base {as : List Addr} {rest : List (Addr × Obj)} : FreshL as rest rest := fun _ h => .inl h
end
section
section
variable {prog : Program} {w : World} {A : Around} {E : Value → Shared → Prop} {s : Shared} {h₀ : Heap} {L : Addr} {news : List (Addr × Obj)} {m : Str → Option Value}
theorem item_tup0 {value slice : PySem.Expr} {a : Addr} {vs : List Value} {n : Nat} {k : Int} {u : Tok} {v : Value} {Q : Value → Shared → Prop}
    (N : News h₀ L s.heap news) (hm : (a, ({ cls := .type "tuple", data := .seq vs.toArray n } : Obj)) ∈ news) (hx : vs[k.toNat]? = some v) (h0 : 0 ≤ k) (hj : k < 100) (h : Q v s)
    (hs : subscripted slice false (.ref a) (.int k u) = operate [.ref a, .int k u] (getItem (.ref a) (.int k u)) := by with_unfolding_all rfl) :
    wpAny (model prog w) A (subscriptTail value slice (.ref a) (.int k u)) Q E s := by
  have hl : k.toNat < vs.length := (List.getElem?_eq_some_iff.mp hx).1
  refine item_tupleT (l := vs) (j := k.toNat) (News.isTup N hm) (by omega) (by omega) ?_ hx h hs
  unfold seqIndex?
  simp only [show ¬ (k < 0) by omega, if_false]
  rw [if_pos (by simp; omega)]
theorem item_lst0 {value slice : PySem.Expr} {a : Addr} {vs : List Value} {n : Nat} {k : Int} {u : Tok} {v : Value} {Q : Value → Shared → Prop}
    (N : News h₀ L s.heap news) (hm : (a, listOf vs.toArray n) ∈ news) (hx : vs[k.toNat]? = some v) (h0 : 0 ≤ k) (hj : k < 100) (h : Q v s)
    (hs : subscripted slice false (.ref a) (.int k u) = operate [.ref a, .int k u] (getItem (.ref a) (.int k u)) := by with_unfolding_all rfl) :
    wpAny (model prog w) A (subscriptTail value slice (.ref a) (.int k u)) Q E s := by
  have hl : s.heap.IsList a vs.toArray := ⟨_, (N _ hm).1, rfl, n, rfl⟩
  exact tail_any hl.typeIs PySem.F.slot_list_getitem.lookup (wpAny_getItem_list hl h0 (by omega) (by simpa using hx) h) hs
theorem if_str {nm : Str} {sc : Scope} {fa : Addr} {cd : Value} {x c : Str} {t : Str} {k0 : Tok} {kk : Nat} {p1 p2 p3 pos : Pos} {body orelse : List Stmt} {Q : Flow → Shared → Prop}
    (F : Fr h₀ L s.heap m) (hv : m x = some (.str t k0)) (ht : t = c) (h : wpAny (model prog w) A (execs body (envOf nm sc L fa cd)) Q E { s with toks := s.toks + 1 })
    (hk : sc.kind = .function := by rfl) (hl : (envOf nm sc L fa cd).kindOf x = some .local := by rfl) (hd : (x == ("__debug__" : Str)) = false := by decide) :
    wpAny (model prog w) A (exec (.If (.Compare (.Name x p1) [.Eq] [.Constant (.str c) kk p2] p3) body orelse pos) (envOf nm sc L fa cd)) Q E s := by
  subst ht
  refine wpAny_If (wpAny_isTrue_Compare1 ?_)
  refine ld F hv ?_ hk hl hd
  refine Calls.Constant_str ?_
  refine PyProof.Rows.eq_str ?_
  refine wpAny_truthy_bool ?_
  rw [beq_self_eq_true, if_pos rfl]
  exact h
theorem if_str_no {nm : Str} {sc : Scope} {fa : Addr} {cd : Value} {x c : Str} {t : Str} {k0 : Tok} {kk : Nat} {p1 p2 p3 pos : Pos} {body orelse : List Stmt} {Q : Flow → Shared → Prop}
    (F : Fr h₀ L s.heap m) (hv : m x = some (.str t k0)) (ht : t ≠ c) (h : wpAny (model prog w) A (execs orelse (envOf nm sc L fa cd)) Q E { s with toks := s.toks + 1 })
    (hk : sc.kind = .function := by rfl) (hl : (envOf nm sc L fa cd).kindOf x = some .local := by rfl) (hd : (x == ("__debug__" : Str)) = false := by decide) :
    wpAny (model prog w) A (exec (.If (.Compare (.Name x p1) [.Eq] [.Constant (.str c) kk p2] p3) body orelse pos) (envOf nm sc L fa cd)) Q E s := by
  refine wpAny_If (wpAny_isTrue_Compare1 ?_)
  refine ld F hv ?_ hk hl hd
  refine Calls.Constant_str ?_
  refine PyProof.Rows.eq_str ?_
  refine wpAny_truthy_bool ?_
  have : (t == c) = false := by simpa using ht
  rw [this, if_neg (by decide)]
  exact h
end
end
section
section
variable {prog : Program} {w : World} {A : Around} {E : Value → Shared → Prop} {s : Shared} {env : Env} {h₀ : Heap} {x : Str} {body : List Stmt} {Q : Flow → Shared → Prop}
theorem range_ind {I : Addr} {a : Int} {n : Nat} {m₀ : Str → Option Value} {news₀ : List (Addr × Obj)} (J : Nat → (Str → Option Value) → List (Addr × Obj) → Prop) (h0 : J 0 m₀ news₀)
    (turn : ∀ i t m news h tk, i < n → J i m news → Fr h₀ env.locals h (fun y => if y = x then some (.int (a + (i : Int)) t) else m y) →
      News h₀ env.locals h ((I, itR (a + ((i + 1 : Nat) : Int)) ((n : Int) - ((i + 1 : Nat) : Int))) :: news) →
      wpAny (model prog w) A (execs body env) (UnrPost h₀ env.locals { s with heap := h, toks := tk } I (itR (a + ((i + 1 : Nat) : Int)) ((n : Int) - ((i + 1 : Nat) : Int))) (J (i + 1)) Q) E { s with heap := h, toks := tk })
    (done : ∀ m news h tk, J n m news → Fr h₀ env.locals h m → News h₀ env.locals h news → Q .next { s with heap := h, toks := tk }) :
    RangeRest prog w A E h₀ env x body Q s I a n n 0 m₀ news₀ := by
  have key : ∀ (k i : Nat) (m : Str → Option Value) (news : List (Addr × Obj)), i + k = n → J i m news → RangeRest prog w A E h₀ env x body Q s I a n k i m news := by
    intro k
    induction k with
    | zero =>
      intro i m news hi hJ
      have e : i = n := by omega
      subst e
      exact RangeRest.zero fun h tk F N => done m news h tk hJ F N
    | succ k ih =>
      intro i m news hi hJ
      refine RangeRest.succ fun t h tk F N => ?_
      refine wpAny_mono (turn i t m news h tk (by omega) hJ F N) (fun f s₃ hp => ?_) fun _ _ e => e
      have up : UnrEnd h₀ env.locals { s with heap := h, toks := tk } I (itR (a + ((i + 1 : Nat) : Int)) ((n : Int) - ((i + 1 : Nat) : Int))) (J (i + 1)) s₃ →
          UnrEnd h₀ env.locals { s with heap := h, toks := tk } I (itR (a + ((i + 1 : Nat) : Int)) ((n : Int) - ((i + 1 : Nat) : Int))) (RangeRest prog w A E h₀ env x body Q s I a n k (i + 1)) s₃ := by
        rintro ⟨h', tk', m', news', e', F', N', off, hJ'⟩
        exact ⟨h', tk', m', news', e', F', N', off, ih (i + 1) m' news' (by omega) hJ'⟩
      cases f with
      | ret v => exact hp
      | brk => exact hp
      | next => exact up hp
      | cont => exact up hp
  exact key n 0 m₀ news₀ (by omega) h0
end
theorem Fr.one {h₀ h : Heap} {L : Addr} {m : Str → Option Value} {x : Str} {v : Value} (F : Fr h₀ L h m) (h1 : m x = some v) : Fr h₀ L h (fun y => if y = x then some v else m y) := by
  have e : (fun y => if y = x then some v else m y) = m := by
    funext y
    split
    · next hy => rw [hy, h1]
    · rfl
  rw [e]
  exact F
def Halt (P : Prop) : Prop := P
theorem Halt.out {P : Prop} (h : Halt P) : P := h
theorem lt_ne {d x : Addr} (h : @LT.lt Nat _ x d) : x ≠ d := fun e => Nat.lt_irrefl d (by subst e; exact h)
section
variable {h₀ h : Heap} {L : Addr} {m : Str → Option Value} {x1 x2 x3 x4 x5 x6 : Str} {v1 v2 v3 v4 v5 v6 : Value}
theorem Fr.two (F : Fr h₀ L h m) (h1 : m x1 = some v1) (h2 : m x2 = some v2) : Fr h₀ L h (fun y => if y = x1 then some v1 else if y = x2 then some v2 else m y) := by
  have e : (fun y => if y = x1 then some v1 else if y = x2 then some v2 else m y) = m := funext fun y => if g1 : y = x1 then (by rw [if_pos g1, g1, h1]) else (by rw [if_neg g1]; exact (if g2 : y = x2 then (by rw [if_pos g2, g2, h2]) else (by rw [if_neg g2])))
  rw [e]
  exact F
theorem Fr.three (F : Fr h₀ L h m) (h1 : m x1 = some v1) (h2 : m x2 = some v2) (h3 : m x3 = some v3) : Fr h₀ L h (fun y => if y = x1 then some v1 else if y = x2 then some v2 else if y = x3 then some v3 else m y) := by
  have e : (fun y => if y = x1 then some v1 else if y = x2 then some v2 else if y = x3 then some v3 else m y) = m := funext fun y => if g1 : y = x1 then (by rw [if_pos g1, g1, h1]) else (by rw [if_neg g1]; exact (if g2 : y = x2 then (by rw [if_pos g2, g2, h2]) else (by rw [if_neg g2]; exact (if g3 : y = x3 then (by rw [if_pos g3, g3, h3]) else (by rw [if_neg g3])))))
  rw [e]
  exact F
theorem Fr.five (F : Fr h₀ L h m) (h1 : m x1 = some v1) (h2 : m x2 = some v2) (h3 : m x3 = some v3) (h4 : m x4 = some v4) (h5 : m x5 = some v5) : Fr h₀ L h (fun y => if y = x1 then some v1 else if y = x2 then some v2 else if y = x3 then some v3 else if y = x4 then some v4 else if y = x5 then some v5 else m y) := by
  have e : (fun y => if y = x1 then some v1 else if y = x2 then some v2 else if y = x3 then some v3 else if y = x4 then some v4 else if y = x5 then some v5 else m y) = m := funext fun y => if g1 : y = x1 then (by rw [if_pos g1, g1, h1]) else (by rw [if_neg g1]; exact (if g2 : y = x2 then (by rw [if_pos g2, g2, h2]) else (by rw [if_neg g2]; exact (if g3 : y = x3 then (by rw [if_pos g3, g3, h3]) else (by rw [if_neg g3]; exact (if g4 : y = x4 then (by rw [if_pos g4, g4, h4]) else (by rw [if_neg g4]; exact (if g5 : y = x5 then (by rw [if_pos g5, g5, h5]) else (by rw [if_neg g5])))))))))
  rw [e]
  exact F
theorem Fr.six (F : Fr h₀ L h m) (h1 : m x1 = some v1) (h2 : m x2 = some v2) (h3 : m x3 = some v3) (h4 : m x4 = some v4) (h5 : m x5 = some v5) (h6 : m x6 = some v6) : Fr h₀ L h (fun y => if y = x1 then some v1 else if y = x2 then some v2 else if y = x3 then some v3 else if y = x4 then some v4 else if y = x5 then some v5 else if y = x6 then some v6 else m y) := by
  have e : (fun y => if y = x1 then some v1 else if y = x2 then some v2 else if y = x3 then some v3 else if y = x4 then some v4 else if y = x5 then some v5 else if y = x6 then some v6 else m y) = m := funext fun y => if g1 : y = x1 then (by rw [if_pos g1, g1, h1]) else (by rw [if_neg g1]; exact (if g2 : y = x2 then (by rw [if_pos g2, g2, h2]) else (by rw [if_neg g2]; exact (if g3 : y = x3 then (by rw [if_pos g3, g3, h3]) else (by rw [if_neg g3]; exact (if g4 : y = x4 then (by rw [if_pos g4, g4, h4]) else (by rw [if_neg g4]; exact (if g5 : y = x5 then (by rw [if_pos g5, g5, h5]) else (by rw [if_neg g5]; exact (if g6 : y = x6 then (by rw [if_pos g6, g6, h6]) else (by rw [if_neg g6])))))))))))
  rw [e]
  exact F
end
noncomputable def It.spot : It → Int
  | .port _ _ _ => 5 | .net _ _ => 6 | .var _ _ => 5 | .param _ _ => 5 | .ev _ _ _ => 2 | .rout _ _ _ _ => 6 | .inst _ _ => 4 | .gate _ _ => 5 | .cas _ => -1
noncomputable def It.tag : It → Str
  | .port _ _ _ => Str.ofString "port" | .net _ _ => Str.ofString "net" | .var _ _ => Str.ofString "var" | .param _ _ => Str.ofString "param" | .ev false _ _ => Str.ofString "event" | .ev true _ _ => Str.ofString "genvar" | .rout _ _ _ _ => Str.ofString "routine" | .inst _ _ => Str.ofString "inst" | .gate _ _ => Str.ofString "gate" | .cas _ => Str.ofString "cassign"
theorem ItIn.second {R : List (Addr × Obj)} {v : Value} {it : It} (h : ItIn R v it) : ∃ a t t2 xs, v = .ref a ∧ (a, tup (.str it.tag t :: .int it.at t2 :: xs)) ∈ R := by
  cases h with
  | port h => exact ⟨_, _, _, _, rfl, h⟩
  | net h => exact ⟨_, _, _, _, rfl, h⟩
  | var h => exact ⟨_, _, _, _, rfl, h⟩
  | event h => exact ⟨_, _, _, _, rfl, h⟩
  | genvar h => exact ⟨_, _, _, _, rfl, h⟩
  | param h => exact ⟨_, _, _, _, rfl, h⟩
  | rout h => exact ⟨_, _, _, _, rfl, h⟩
  | inst h => exact ⟨_, _, _, _, rfl, h⟩
  | gate h => exact ⟨_, _, _, _, rfl, h⟩
  | cas h => exact ⟨_, _, _, _, rfl, h⟩
theorem PortsIn.len {R : List (Addr × Obj)} {ws : List Value} {ds : List Str} (h : PortsIn R ws ds) : ws.length = ds.length := by
  induction h with
  | nil => rfl
  | cons _ _ ih => simp [ih]
theorem PortsIn.get {R : List (Addr × Obj)} {ws : List Value} {ds : List Str} (h : PortsIn R ws ds) : ∀ {i : Nat} {v : Value}, ws[i]? = some v → ∃ b d t1 t3 x2 x4 x5 x6, v = .ref b ∧ ds[i]? = some d ∧ (b, tup [.str (Str.ofString "port") t1, x2, .str d t3, x4, x5, x6]) ∈ R := by
  induction h with
  | nil => intro i v e; simp at e
  | cons hm _ ih =>
    intro i v e
    cases i with
    | zero => simp at e; subst e; exact ⟨_, _, _, _, _, _, _, _, rfl, rfl, hm⟩
    | succ i => simp at e; simpa using ih e
section
variable {prog : Program} {w : World} {A : Around} {E : Value → Shared → Prop} {s : Shared} {env : Env} {h₀ : Heap} {target : Expr} {body : List Stmt} {Q : Flow → Shared → Prop}
theorem items_ind {I : Addr} {c : String} {keep : List (Addr × Obj)} {xs : List Value} {m₀ : Str → Option Value} {news₀ : List (Addr × Obj)} (J : Nat → (Str → Option Value) → List (Addr × Obj) → Prop) (h0 : J 0 m₀ news₀)
    (turn : ∀ i v m news h tk o, xs[i]? = some v → J i m news → o.cls = .type c → Fr h₀ env.locals h m → News h₀ env.locals h ((I, o) :: news) →
      wpAny (model prog w) A (assign target env v) (fun _ s₂ => wpAny (model prog w) A (execs body env) (UnrPostW h₀ env.locals { s with heap := h, toks := tk } [(I, o)] (fun m' n' => SubL keep n' ∧ J (i + 1) m' n') Q) E s₂) E { s with heap := h, toks := tk })
    (done : ∀ m news h tk, J xs.length m news → Fr h₀ env.locals h m → News h₀ env.locals h news → Q .next { s with heap := h, toks := tk }) :
    ItemsRest prog w A E h₀ env target body Q s [(I, c)] keep (xs.map .val) m₀ news₀ := by
  have key : ∀ (ys : List Value) (i : Nat) (m : Str → Option Value) (news : List (Addr × Obj)), xs.drop i = ys → i ≤ xs.length → J i m news → ItemsRest prog w A E h₀ env target body Q s [(I, c)] keep (ys.map .val) m news := by
    intro ys
    induction ys with
    | nil =>
      intro i m news e hi hJ
      have : i = xs.length := by
        have := List.drop_eq_nil_iff.mp e
        omega
      subst this
      exact ItemsRest.zero fun h tk F N => done m news h tk hJ F N
    | cons v ys ih =>
      intro i m news e hi hJ
      have hlt : i < xs.length := by
        apply Nat.lt_of_le_of_ne hi
        intro hh
        rw [hh, List.drop_length] at e
        cases e
      have hv : xs[i]? = some v := by
        rw [List.drop_eq_getElem_cons hlt] at e
        rw [List.getElem?_eq_getElem hlt]
        exact congrArg some (List.cons.inj e).1
      have hd : xs.drop (i + 1) = ys := by
        rw [List.drop_eq_getElem_cons hlt] at e
        exact (List.cons.inj e).2
      refine ItemsRest.val fun h tk F => AllObj.cons fun o hc => AllObj.nil fun N => ?_
      refine wpAny_mono (turn i v m news h tk o hv hJ hc F N) (fun _ s₂ hq => ?_) fun _ _ e => e
      refine wpAny_mono hq (fun f s₃ hp => ?_) fun _ _ e => e
      have up : UnrEndW h₀ env.locals { s with heap := h, toks := tk } [(I, o)] (fun m' n' => SubL keep n' ∧ J (i + 1) m' n') s₃ →
          UnrEndW h₀ env.locals { s with heap := h, toks := tk } [(I, o)] (fun m' n' => SubL keep n' ∧ ItemsRest prog w A E h₀ env target body Q s [(I, c)] keep (ys.map .val) m' n') s₃ := by
        rintro ⟨h', tk', m', news', e', F', N', off, hk, hJ'⟩
        exact ⟨h', tk', m', news', e', F', N', off, hk, ih (i + 1) m' news' hd hlt hJ'⟩
      cases f with
      | ret v => exact hp
      | brk => exact hp
      | next => exact up hp
      | cont => exact up hp
  exact key xs 0 m₀ news₀ rfl (Nat.zero_le _) h0
end
theorem tupleOfL {prog : Program} {w : World} {A : Around} {E : Value → Shared → Prop} {s : Shared} {h₀ : Heap} {L l : Addr} {m : Str → Option Value} {news : List (Addr × Obj)} {vs : List Value} {n : Nat} {Q : Value → Shared → Prop} (F : Fr h₀ L s.heap m) (N : News h₀ L s.heap news) (hm : (l, listOf vs.toArray n) ∈ news) (hz : vs.length < 200)
    (h : ∀ D h', Fr h₀ L h' m → News h₀ L h' ((D, tup vs) :: news) → (∀ p ∈ news, p.1 < D) → Q (.ref D) { s with heap := h' }) : wpAny (model prog w) A (call (.type "tuple") [.ref l]) Q E s :=
  kde_tupleOf F N (⟨_, (N _ hm).1, rfl, n, rfl⟩ : s.heap.IsList l vs.toArray) (by simp; omega) List.toList_toArray h
end
section
local macro_rules | `(tactic| k_updF) => `(tactic| first | (refine' Rem.head ?a; (case a => k_all)) | (refine' Rem.tail ?a ?b; (case a => k_ne); (case b => k_updF)))
section
theorem lines_L2b : True := by
  k_with_none
  k_with "shSub" => first | (((with_reducible show wpAny _ _ (subscriptTail _ _ (Value.ref _) (Value.int _ _)) _ _ _))) | fail
  k_with "DIG" => first | (repeat (first | (with_reducible exact And.left) | (with_reducible exact id) | (with_reducible refine digR ?_))) | fail
  k_with "LT9" => first | (first | with_reducible assumption | (refine' ltLt ?h ?d; walk_at "HD")) | fail
  k_with "ALLLT" => first | (first | with_reducible assumption | (refine' allDig ?h ?d; walk_at "HD")) | fail
  k_with "K_NE" => first | ((refine neN ?_; first | with_reducible assumption | (refine Ne.symm ?_; with_reducible assumption) | (refine' neLt ?h ?d; walk_at "HD") | (refine' neGt ?h ?d; walk_at "HD") | (refine' neNe ?h ?d; walk_at "HD") | (refine' neEn ?h ?d; walk_at "HD") | (refine Nat.ne_of_lt ?_; with_reducible assumption) | (refine Nat.ne_of_gt ?_; with_reducible assumption) | ((try dsimp only); omega))) | fail
  k_with "MEM" => first | (first | with_reducible assumption | with_reducible exact List.mem_cons_self | (with_reducible refine List.mem_cons_of_mem _ ?_; walk_at "MEM")) | fail
  k_with "OM" => first | (first | exact dLe (by with_reducible assumption) rfl | exact dL0 (by with_reducible assumption) rfl | exact dLt (by with_reducible assumption) rfl | omega) | fail
  k_with "K_ALL" => first | (first | with_reducible assumption | (refine allLt_ne ?_; walk_at "ALLLT") | (refine off1_ne ?_; walk_at "ALLLT")) | fail
  k_with "TAIL" => first | ((intro p9 hp9; repeat (first | exact hp9 | refine List.mem_cons_of_mem _ ?_))) | fail
  k_with "K_ROOM" => first | (((simp only [depth_mark, depth_under_make, depth_under_kw, depth_in1, depth_deeper, depth_caller, ktrTop, recursionLimit]); walk_at "OM")) | fail
  k_with "K_UNITS" => first | ((have hcL := cLine_is; (simp only [units_in1, units_deeper, Around.mark_units, units_caller, ktrTop]); walk_at "OM")) | fail
  k_with "K_MEM" => first | (((fail_if_success refine' List.Mem.tail _ ?_); (show (_ : Addr × Obj) ∈ (_ : List (Addr × Obj))); with_reducible assumption)) | fail
  k_with "subscriptTail Name Constant ref int" => first | ((k_here; walk_at "shSub"; k_dflt (first | (refine' item_tup0 (by (k_asm; done)) (by (k_mem; done)) (by (exact rfl; done)) (by (decide; done)) (by (decide; done)) ?_ (by (with_unfolding_all rfl; done))) | (refine' item_lst0 (by (k_asm; done)) (by (k_mem; done)) (by (exact rfl; done)) (by (decide; done)) (by (decide; done)) ?_ (by (with_unfolding_all rfl; done)))))) | fail
  k_with "subscriptTail Subscript Name Constant Constant ref int" => first | ((k_here; walk_at "shSub"; k_dflt (first | (refine' item_tup0 (by (k_asm; done)) (by (k_mem; done)) (by (exact rfl; done)) (by (decide; done)) (by (decide; done)) ?_ (by (with_unfolding_all rfl; done))) | (refine' item_lst0 (by (k_asm; done)) (by (k_mem; done)) (by (exact rfl; done)) (by (decide; done)) (by (decide; done)) ?_ (by (with_unfolding_all rfl; done)))))) | fail
  k_with "callWith builtin:list.append cons nil" => first | ((refine callWith_method1 ?_)) | fail
  k_with "execs nil" => first | ((with_reducible refine wpAny_execs_nil ?_)) | fail
  k_with "EC" => first | (first | k_fold | k_gentoks | (with_reducible refine wpAny_execs_cons ?_; try dsimp only)) | fail
  k_with "execs cons If nil" => first | (walk_at "EC") | fail
  k_with "execs cons If cons" => first | (walk_at "EC") | fail
  k_with "execs cons Assign cons" => first | (walk_at "EC") | fail
  k_with "execs cons Assign nil" => first | (walk_at "EC") | fail
  k_with "execs cons Return nil" => first | (walk_at "EC") | fail
  k_with "execs cons Return cons" => first | (walk_at "EC") | fail
  k_with "execs cons Expr nil" => first | (walk_at "EC") | fail
  k_with "execs cons Expr cons" => first | (walk_at "EC") | fail
  k_with "exec If Compare cons nil" => first | ((with_reducible refine wpAny_If ?_)) | fail
  k_with "spliced" => first | ((k_here; with_reducible first | refine args_cs ?_ | refine args_cn ?_ | refine args_ci ?_ | refine args_cb ?_)) | fail
  k_with "spliced" => first | ((k_here; (with_reducible show wpAny _ _ (spliced (backTo _ (starEach (Expr.Name _ _ :: _) _))) _ _ _); k_dflt (refine' args_nm (by (k_asm; done)) (by (exact rfl; done)) ?_ (by rfl) (by rfl) (by decide)))) | fail
  k_with "call ref" => first | ((k_here; (with_reducible show wpAny _ _ (call (Value.ref 117) _) _ _ _); k_dflt (refine' pick_use (by (k_asm; done)) (by (k_asm; done)) (by (k_asm; done)) (by (k_asm; done)) (by (k_asm; done)) (by (k_updF; done)) (by ((intro o9; (try dsimp only); k_updF); done)) (by (k_ne; done)) (by (k_asm; done)) (by (with_reducible assumption; done)) (by (with_reducible assumption; done)) (by (with_reducible assumption; done)) (by (first | rfl | assumption; done)) (by (decide; done)) (by (decide; done)) (by (first | with_reducible assumption | ((simp only [depth_mark, depth_under_make, depth_under_kw, depth_in1, depth_deeper, depth_caller, ktrTop]); walk_at "OM"); done)) (by (first | with_reducible assumption | ((simp only [units_in1, units_deeper, Around.mark_units, units_caller, ktrTop]); walk_at "OM"); done)) ?_); (intro fnd' tk' c' tc' r' tr' nf' vs' ns' nc' h' toks' F' N' hi' hf0' hf1' hr0' hr1' hl'); (try dsimp only at N'))) | fail
  k_with "subscriptTail" => first | ((k_here; walk_at "shSub"; k_dflt (refine' menu_drop (by (k_asm; done)) (by (rfl; done)) (by (first | with_reducible assumption | exact (fm2 _).1; done)) (by (first | exact (fm2 _).2 | (simp only [List.length_cons, List.length_nil]; omega); done)) (by ((simp only [List.length_cons, List.length_nil]; omega); done)) ?_ (by (with_unfolding_all rfl; done))); (intro N' x' t' hx'))) | fail
  k_with "UnrEnd" => first | ((refine Halt.out ?_)) | fail
  k_with "call type:range" => first | ((k_here; (with_reducible show wpAny _ _ (call (Value.type "range") [Value.int _ _]) _ _ _); (refine range1_rows (by k_asm) (by k_asm) ?_); intro h' tk' t' u' v' hr' F' N' hk')) | fail
  k_with "PYITER" => first | ((k_here; (with_reducible show wpAny _ _ (pyIter (Value.ref _)) (fun it s₂ => LoopAtV _ _ _ _ _ _ _ _ _ it s₂) _ _); (refine Halt.out ?_))) | fail
  k_with "call type:tuple" => first | ((k_here; (with_reducible show wpAny _ _ (call (Value.type _) [Value.ref _]) _ _ _); k_dflt (refine' tupleOfL (by (k_asm; done)) (by (k_asm; done)) (by (k_mem; done)) (by (((try simp only [List.length_cons]); omega); done)) ?_); intro D' h' F' N' l1; (replace l1 := allLt_of l1; dsimp only [AllLt] at l1))) | fail
  k_with "ITEMIN" => first | (first | exact ItIn.port (List.Mem.head _) | exact ItIn.net (List.Mem.head _) | exact ItIn.var (List.Mem.head _) | exact ItIn.event (List.Mem.head _) | exact ItIn.genvar (List.Mem.head _) | exact ItIn.param (List.Mem.head _) | exact ItIn.inst (g := none) (t3 := 0) (List.Mem.head _) | exact ItIn.inst (g := some _) (List.Mem.head _) | exact ItIn.gate (g := none) (t3 := 0) (List.Mem.head _) | exact ItIn.gate (g := some _) (List.Mem.head _) | exact ItIn.cas (List.Mem.head _)) | fail
  k_with "ITEMOK" => first | (first | exact okNone | exact okSome (by assumption) | exact ⟨by assumption, names4_5 (by assumption)⟩) | fail
  trivial



theorem menu_drop {prog : Program} {w : World} {A : Around} {E : Value → Shared → Prop} {s : Shared} {h₀ : Heap} {L : Addr} {news : List (Addr × Obj)} {value slice : PySem.Expr} {l : Addr} {vs : List Value} {n : Nat} {k : Int} {u : Tok} {Q : Value → Shared → Prop}
    (N : News h₀ L s.heap ((l, listOf vs.toArray n) :: news)) (ha : vs.all isS = true) (h0 : 0 ≤ k) (hhi : k < vs.length) (hl9 : vs.length < 100) (h : News h₀ L s.heap news → ∀ x t, x ∈ strsOf vs → Q (.str x t) s)
    (hs : subscripted slice false (.ref l) (.int k u) = operate [.ref l, .int k u] (getItem (.ref l) (.int k u))) :
    wpAny (model prog w) A (subscriptTail value slice (.ref l) (.int k u)) Q E s :=
  menu_item N List.mem_cons_self ha h0 hhi hl9 (h fun p hp => N p (List.mem_cons_of_mem _ hp)) hs
theorem fm2 (a : Int) : 0 ≤ a.fmod 2 ∧ a.fmod 2 < 2 := ⟨Int.fmod_nonneg_of_pos a (by decide), Int.fmod_lt_of_pos a (by decide)⟩
theorem small4 {x : Int} (h0 : 0 ≤ x) (h1 : x < 4) : Builtin.Range.small 0 x 1 = true := by
  obtain ⟨n, rfl⟩ := Int.eq_ofNat_of_zero_le h0
  exact (by decide : ∀ n < 4, Builtin.Range.small 0 ((n : Nat) : Int) 1 = true) n (Int.ofNat_lt.mp h1)
theorem PortsIn.snoc {R : List (Addr × Obj)} {ws : List Value} {ds : List Str} {b : Addr} {d : Str} {t1 t3 : Tok} {x2 x4 x5 x6 : Value} (h : PortsIn R ws ds) (hm : (b, tup [.str (Str.ofString "port") t1, x2, .str d t3, x4, x5, x6]) ∈ R) : PortsIn R (ws ++ [.ref b]) (ds ++ [d]) := by
  induction h with
  | nil => exact .cons hm .nil
  | cons h _ ih => exact .cons h ih
def Offs (R : List (Addr × Obj)) (feed cells D I : Addr) : Prop := ∀ p ∈ R, p.1 ≠ feed ∧ p.1 ≠ cells ∧ p.1 ≠ D ∧ p.1 ≠ I
def VarAt (R : List (Addr × Obj)) (b : Addr) : Prop := ∃ t5 y1 y2 y3 y4 y5 y6 y7, (b, tup [.str (Str.ofString "var") t5, y1, y2, y3, y4, y5, y6, y7]) ∈ R
theorem VarAt.mono {R R' : List (Addr × Obj)} {b : Addr} (hs : ∀ p ∈ R, p ∈ R') (h : VarAt R b) : VarAt R' b := by
  obtain ⟨a1, a2, a3, a4, a5, a6, a7, a8, a9⟩ := h
  exact ⟨a1, a2, a3, a4, a5, a6, a7, a8, hs _ a9⟩
theorem ItIn.rout' {R : List (Addr × Obj)} {a d b : Addr} {i : Int} {k n : Str} {ds : List Str} {ws : List Value} {t1 t2 t3 t4 : Tok} {x3 x4 x5 x8 : Value} (h1 : (a, tup [.str (Str.ofString "routine") t1, .int i t2, .str k t3, x3, x4, x5, .str n t4, .ref d, x8]) ∈ R)
    (h2 : (d, tup (.ref b :: ws)) ∈ R) (h3 : VarAt R b) (h4 : PortsIn R ws ds) (h5 : ds.length ≤ 3) : ItIn R (.ref a) (.rout i k n ds) := by
  obtain ⟨_, _, _, _, _, _, _, _, h3⟩ := h3
  exact .rout h1 h2 h3 h4 h5
def IJ (feed cells D I b : Addr) (mark : Int) (tm : Tok) (nm : Str) (tn : Tok) (rest : List (Addr × Obj)) (i : Nat) (m : Str → Option Value) (nx : List (Addr × Obj)) : Prop :=
  ∃ c tc r tr nf vs ns nc nd ws ds R, nx = (feed, feedObj cells c tc r tr nf) :: (cells, listOf (vs : List Value).toArray nc) :: (D, listOf (.ref b :: ws : List Value).toArray nd) :: R ∧ (∀ p ∈ rest, p ∈ R) ∧ Offs R feed cells D I ∧ IntsAre vs ns ∧ vs.length < 100 ∧ 0 ≤ r ∧ r < 2147483647 ∧
    VarAt R b ∧ PortsIn R ws ds ∧ (∀ d ∈ ds, d ∈ dirs3) ∧ ds.length = i ∧ nm ∈ names5 ∧ m (Str.ofString "feed") = some (.ref feed) ∧ m (Str.ofString "mark") = some (.int mark tm) ∧ m (Str.ofString "name") = some (.str nm tn) ∧ m (Str.ofString "decls") = some (.ref D)
theorem ij_end {g h' : Heap} {L I feed cells D b T : Addr} {m' : Str → Option Value} {all rest R : List (Addr × Obj)} {oI : Obj} {s₁ : Shared} {tk nf nc nd i : Nat} {c r mark : Int} {tc tr tm t1 t3 : Tok} {vs ws : List Value} {ds : List Str} {ns : List Int} {x2 x4 x5 x6 : Value} {d nm : Str} {tn : Tok}
    (F : Fr g L h' m') (N : News g L h' all) (mI : (I, oI) ∈ all) (mf : (feed, feedObj cells c tc r tr nf) ∈ all) (mc : (cells, listOf vs.toArray nc) ∈ all) (md : (D, ({ cls := .type "list", data := .seq ((.ref b :: ws).toArray.push (.ref T)) nd } : Obj)) ∈ all)
    (mT : (T, tup [.str (Str.ofString "port") t1, x2, .str d t3, x4, x5, x6]) ∈ all) (sR : ∀ p ∈ R, p ∈ all) (hs : ∀ p ∈ rest, p ∈ R) (hO : Offs R feed cells D I) (i1 : @Ne Nat I feed) (i2 : @Ne Nat I cells) (i3 : @Ne Nat I D) (u1 : @Ne Nat T feed) (u2 : @Ne Nat T cells) (u3 : @Ne Nat T D) (u4 : @Ne Nat T I)
    (hi : IntsAre vs ns) (hlen : vs.length < 100) (hr0 : 0 ≤ r) (hr1 : r < 2147483647) (hv : VarAt R b) (hp : PortsIn R ws ds) (hd : ∀ d ∈ ds, d ∈ dirs3) (hn : ds.length = i) (hN : nm ∈ names5) (hd' : d ∈ strsOf [.str (Str.ofString "output") 0, .str (Str.ofString "input") 0])
    (m1 : m' (Str.ofString "feed") = some (.ref feed)) (m2 : m' (Str.ofString "mark") = some (.int mark tm)) (m3 : m' (Str.ofString "name") = some (.str nm tn)) (m4 : m' (Str.ofString "decls") = some (.ref D)) :
    UnrEnd g L s₁ I oI (IJ feed cells D I b mark tm nm tn rest (i + 1)) { s₁ with heap := h', toks := tk } := by
  have st : ∀ p ∈ R, p ∈ (T, tup [.str (Str.ofString "port") t1, x2, .str d t3, x4, x5, x6]) :: R := fun p hp => List.mem_cons_of_mem _ hp
  rw [List.push_toArray, List.cons_append] at md
  refine ⟨h', tk, m', (feed, feedObj cells c tc r tr nf) :: (cells, listOf vs.toArray nc) :: (D, listOf (.ref b :: (ws ++ [Value.ref T])).toArray nd) :: (T, tup [.str (Str.ofString "port") t1, x2, .str d t3, x4, x5, x6]) :: R, rfl, F,
    List.forall_mem_cons.mpr ⟨N _ mI, List.forall_mem_cons.mpr ⟨N _ mf, List.forall_mem_cons.mpr ⟨N _ mc, List.forall_mem_cons.mpr ⟨N _ md, List.forall_mem_cons.mpr ⟨N _ mT, fun p hp => N p (sR p hp)⟩⟩⟩⟩⟩,
    List.forall_mem_cons.mpr ⟨Ne.symm i1, List.forall_mem_cons.mpr ⟨Ne.symm i2, List.forall_mem_cons.mpr ⟨Ne.symm i3, List.forall_mem_cons.mpr ⟨u4, fun p hp => (hO p hp).2.2.2⟩⟩⟩⟩,
    c, tc, r, tr, nf, vs, ns, nc, nd, ws ++ [Value.ref T], ds ++ [d], _ :: R, rfl, fun p hp => st p (hs p hp), List.forall_mem_cons.mpr ⟨⟨u1, u2, u3, u4⟩, hO⟩, hi, hlen, hr0, hr1, ?_, (hp.mono st).snoc List.mem_cons_self, ?_, by simp [hn], hN, m1, m2, m3, m4⟩
  · exact hv.mono st
  · intro x hx
    rcases List.mem_append.mp hx with hx | hx
    · exact hd x hx
    · rw [List.mem_singleton.mp hx]; exact dirs2_3 (by simpa [strsOf] using hd')
theorem range_ij {prog : Program} {w : World} {A : Around} {E : Value → Shared → Prop} {s : Shared} {env : Env} {h₀ : Heap} {x : Str} {body : List Stmt} {Q : Flow → Shared → Prop} {I feed cells : Addr} {a mark : Int} {n : Nat} {m₀ : Str → Option Value} {news₀ rest : List (Addr × Obj)}
    (h0 : ∃ D b tm nm tn, @Ne Nat I D ∧ @Ne Nat feed D ∧ @Ne Nat cells D ∧ IJ feed cells D I b mark tm nm tn rest 0 m₀ news₀)
    (turn : ∀ D b tm nm tn, @Ne Nat I D → @Ne Nat feed D → @Ne Nat cells D → ∀ i t m news h tk, i < n → IJ feed cells D I b mark tm nm tn rest i m news → Fr h₀ env.locals h (fun y => if y = x then some (.int (a + (i : Int)) t) else m y) →
      News h₀ env.locals h ((I, itR (a + ((i + 1 : Nat) : Int)) ((n : Int) - ((i + 1 : Nat) : Int))) :: news) →
      wpAny (model prog w) A (execs body env) (UnrPost h₀ env.locals { s with heap := h, toks := tk } I (itR (a + ((i + 1 : Nat) : Int)) ((n : Int) - ((i + 1 : Nat) : Int))) (IJ feed cells D I b mark tm nm tn rest (i + 1)) Q) E { s with heap := h, toks := tk })
    (done : ∀ D b tm nm tn, @Ne Nat feed D → @Ne Nat cells D → ∀ m news h tk, IJ feed cells D I b mark tm nm tn rest n m news → Fr h₀ env.locals h m → News h₀ env.locals h news → Q .next { s with heap := h, toks := tk }) :
    RangeRest prog w A E h₀ env x body Q s I a n n 0 m₀ news₀ := by
  obtain ⟨D, b, tm, nm, tn, i1, i2, i3, h⟩ := h0
  exact range_ind _ h (turn D b tm nm tn i1 i2 i3) (done D b tm nm tn i2 i3)
theorem rout_ok {n k : Str} {i : Int} {ds : List Str} (hn : n ∈ names5) (hk : k ∈ strsOf [.str (Str.ofString "task") 0, .str (Str.ofString "function") 0]) (hd : ∀ d ∈ ds, d ∈ dirs3) : (It.rout i k n ds).ok :=
  ⟨pair_cases hk, hn, hd⟩
set_option maxRecDepth 100000 in
set_option maxHeartbeats 8000000 in
theorem item_ok {w : World} {p : Program} {loose : List Str} {mean : ExcName → Option Value} {mg mb : Str → Option Value}
    {dp un : Nat} {gd : Option (List Code)} {cn : Str} {cs : Scope} {a : Addr} {ccd : Value} {cl : List (Str × Addr)} {outer : List Env} {A₀ : Around} {base h₀ : Heap} {L : Addr} {m : Str → Option Value} {s : Shared}
    {Q E : Value → Shared → Prop} {feed cells : Addr} {c r mark : Int} {tc tr t : Tok} {nf nc : Nat} {vs : List Value} {ns : List Int} {rest : List (Addr × Obj)}
    (B : Below A₀ base outer h₀) (F : Fr h₀ L s.heap m) (X : (Mine.hdE.heap_1_1 w.params).In h₀)
    (N : News h₀ L s.heap ((feed, feedObj cells c tc r tr nf) :: (cells, listOf vs.toArray nc) :: rest))
    (T : Top p loose mean mg mb h₀) (hk : cs.kind = .function) (hi : IntsAre vs ns) (hlen : vs.length < 100)
    (hfc : @Ne Nat feed cells) (hrf : ∀ p ∈ rest, p.1 ≠ feed) (hrc : ∀ p ∈ rest, p.1 ≠ cells)
    (hr0 : 0 ≤ r) (hr1 : r < 2147483647) (hd : dp ≤ 390) (hu : un ≤ 390)
    (hret : ∀ v it R c' tc' r' tr' nf' vs' ns' nc' h' toks', Fr h₀ L h' m → News h₀ L h' R → (feed, feedObj cells c' tc' r' tr' nf') ∈ R → (cells, listOf (vs' : List Value).toArray nc') ∈ R → (∀ p ∈ rest, p ∈ R) → IntsAre vs' ns' →
      ItIn R v it → it.ok → it.at = mark → 0 ≤ r' → r' < 2147483647 → vs'.length < 100 → Q v { s with heap := h', toks := toks' }) :
    wpAny (model PySem.Challenge.rw_sj0028_01.row.prog w) (ktrTop dp un gd cn cs L a ccd cl outer) (call (.ref 124) [.ref feed, .int mark t]) Q E s := by
  w_top off
  revert X
  k_fill
  intro X
  refine wpAny_call ?_
  k_dflt ktr_enter
  k_steps
  all_goals try ((rename (_ ∈ strsOf [_, _]) => hx9); (with_reducible rename News _ _ _ ((_, { cls := Value.type "tuple", data := Data.seq #[Value.str _ _, Value.int _ _, Value.str _ _] }) :: _) => hN9); (rcases pair_cases hx9 with rfl | rfl))
  all_goals try (exact hret _ _ _ _ _ _ _ _ _ _ _ _ _ (by k_asm) (by k_asm) (by k_mem) (by k_mem) (by walk_at "TAIL") (by with_reducible assumption) (by walk_at "ITEMIN") (by walk_at "ITEMOK") rfl (by with_reducible assumption) (by with_reducible assumption) (by with_reducible assumption))
  unfold Halt
  rename IsRange _ _ _ _ _ _ _ _ => hr9
  with_reducible rename News _ _ _ _ => lN
  refine iter_rangeUnr (by rfl) hr9 (small4 (by with_reducible assumption) (by with_reducible assumption)) (rangeSize_nat _ _) (by k_asm) (newsRem2 (f := feed) (c := cells) lN (by k_dflt k_updF) (by k_dflt k_updF)) ?_
  intro I9 hlt9
  have i1 : @Ne Nat I9 feed := Ne.symm (lt_ne (hlt9 _ List.mem_cons_self))
  have i2 : @Ne Nat I9 cells := Ne.symm (lt_ne (hlt9 _ (List.mem_cons_of_mem _ List.mem_cons_self)))
  have i3 := Ne.symm (lt_ne (hlt9 _ (List.mem_cons_of_mem _ (List.mem_cons_of_mem _ List.mem_cons_self))))
  dsimp only at i3
  have oI9 : ∀ p ∈ rest, p.1 ≠ I9 := fun p hp => lt_ne (hlt9 p (by walk_at "MEM"))
  have q1 := lt_ne (hlt9 _ (List.mem_cons_of_mem _ (List.mem_cons_of_mem _ (List.mem_cons_of_mem _ List.mem_cons_self))))
  have q2 := lt_ne (hlt9 _ (List.mem_cons_of_mem _ (List.mem_cons_of_mem _ (List.mem_cons_of_mem _ (List.mem_cons_of_mem _ List.mem_cons_self)))))
  refine range_ij (feed := feed) (cells := cells) (mark := mark) (rest := rest) ?h0 ?turn ?done
  case h0 =>
    refine ⟨_, _, _, _, _, i3, (by k_ne), (by k_ne), _, _, _, _, _, _, _, _, _, [], [], _, rfl, (by walk_at "TAIL"), ?_, (by k_asm), (by with_reducible assumption), (by with_reducible assumption), (by with_reducible assumption), ⟨_, _, _, _, _, _, _, _, by walk_at "MEM"⟩, .nil, List.forall_mem_nil _, rfl, names4_5 (by assumption), by with_unfolding_all rfl, by with_unfolding_all rfl, by with_unfolding_all rfl, by with_unfolding_all rfl⟩
    exact List.forall_mem_cons.mpr ⟨⟨by dsimp only; k_ne, by dsimp only; k_ne, by dsimp only; k_ne, q1⟩, List.forall_mem_cons.mpr ⟨⟨by dsimp only; k_ne, by dsimp only; k_ne, by dsimp only; k_ne, q2⟩, fun p hp => ⟨hrf p hp, hrc p hp, allLt_ne (by walk_at "ALLLT") p hp, oI9 p hp⟩⟩⟩
  case done =>
    clear lN hlt9 q1 q2 i3 oI9
    intro D9 b9 tm9 nm9 tn9 j2 j3 m₁ nx h tk hJ F N
    k_sweep
    refine Cut.out ?_
    intro G9 hG9
    obtain ⟨c2, tc2, r2, tr2, nf2, vs2, ns2, nc2, nd2, ws2, ds2, R2, hnx, hs2, hO2, hi2, hl2, h02, h12, hv2, hp2, hd2, hn2, hN2, f1, f2, f3, f4⟩ := hJ
    subst hnx
    refine hG9 ?_
    clear hG9
    have Fm := Fr.five F f1 f2 f3 f4 f1
    have hws : ws2.length ≤ 100 := by rw [hp2.len]; omega
    have oF : ∀ p ∈ R2, p.1 ≠ feed := fun p hp => (hO2 p hp).1
    have oC : ∀ p ∈ R2, p.1 ≠ cells := fun p hp => (hO2 p hp).2.1
    have oD := fun p (hp : p ∈ R2) => (hO2 p hp).2.2.1
    clear F
    k_steps
    refine hret _ _ _ _ _ _ _ _ _ _ _ _ _ (by k_asm) (by k_asm) (by k_mem) (by k_mem) (fun p hp => (show ∀ p ∈ R2, p ∈ _ from by walk_at "TAIL") p (hs2 p hp)) (by with_reducible assumption)
      (ItIn.rout' List.mem_cons_self (by k_mem) (VarAt.mono (by walk_at "TAIL") hv2) (hp2.mono (by walk_at "TAIL")) (by omega)) (rout_ok hN2 (by assumption) hd2) rfl (by with_reducible assumption) (by with_reducible assumption) (by with_reducible assumption)
  case turn =>
    clear lN hlt9 q1 q2 i3 oI9
    intro D9 b9 tm9 nm9 tn9 j1 j2 j3 i t m₁ nx h tk hi8 hJ F N
    k_sweep
    refine Cut.out ?_
    intro G9 hG9
    obtain ⟨c2, tc2, r2, tr2, nf2, vs2, ns2, nc2, nd2, ws2, ds2, R2, hnx, hs2, hO2, hi2, hl2, h02, h12, hv2, hp2, hd2, hn2, hN2, f1, f2, f3, f4⟩ := hJ
    subst hnx
    refine hG9 ?_
    clear hG9
    have Fm := Fr.five (x5 := Str.ofString "turn") F ((if_neg (by decide)).trans f1) ((if_neg (by decide)).trans f2) ((if_neg (by decide)).trans f3) ((if_neg (by decide)).trans f4) (if_pos rfl)
    have oF : ∀ p ∈ R2, p.1 ≠ feed := fun p hp => (hO2 p hp).1
    have oC : ∀ p ∈ R2, p.1 ≠ cells := fun p hp => (hO2 p hp).2.1
    have oD := fun p (hp : p ∈ R2) => (hO2 p hp).2.2.1
    have oI : ∀ p ∈ R2, p.1 ≠ I9 := fun p hp => (hO2 p hp).2.2.2
    have hws : ws2.length ≤ 100 := by rw [hp2.len]; omega
    clear F
    k_steps
    all_goals (unfold Halt)
    refine ij_end (by k_asm) (by k_asm) (by k_mem) (by k_mem) (by k_mem) (by k_mem) (by k_mem) (by walk_at "TAIL") hs2 hO2 i1 i2 j1 (by k_ne) (by k_ne) (by k_ne) (by k_ne) (by k_asm) (by with_reducible assumption) (by with_reducible assumption) (by with_reducible assumption) hv2 hp2 hd2 hn2 hN2 (by assumption) (by with_unfolding_all rfl) (by with_unfolding_all rfl) (by with_unfolding_all rfl) (by with_unfolding_all rfl)
end
section
theorem lines_L3a : True := by
  k_with_none
  k_with "shSub" => first | (((with_reducible show wpAny _ _ (subscriptTail _ _ (Value.ref _) (Value.int _ _)) _ _ _))) | fail
  k_with "DIG" => first | (repeat (first | (with_reducible exact And.left) | (with_reducible exact id) | (with_reducible refine digR ?_))) | fail
  k_with "LT9" => first | (first | with_reducible assumption | (refine' ltLt ?h ?d; walk_at "HD")) | fail
  k_with "ALLLT" => first | (first | with_reducible assumption | (refine' allDig ?h ?d; walk_at "HD")) | fail
  k_with "K_NE" => first | ((refine neN ?_; first | with_reducible assumption | (refine Ne.symm ?_; with_reducible assumption) | (refine' neLt ?h ?d; walk_at "HD") | (refine' neGt ?h ?d; walk_at "HD") | (refine' neNe ?h ?d; walk_at "HD") | (refine' neEn ?h ?d; walk_at "HD") | (refine Nat.ne_of_lt ?_; with_reducible assumption) | (refine Nat.ne_of_gt ?_; with_reducible assumption) | ((try dsimp only); omega))) | fail
  k_with "MEM" => first | (first | with_reducible assumption | with_reducible exact List.mem_cons_self | (with_reducible refine List.mem_cons_of_mem _ ?_; walk_at "MEM")) | fail
  k_with "OM" => first | (first | exact dLe (by with_reducible assumption) rfl | exact dL0 (by with_reducible assumption) rfl | exact dLt (by with_reducible assumption) rfl | omega) | fail
  k_with "K_ALL" => first | (first | with_reducible assumption | (refine allLt_ne ?_; walk_at "ALLLT") | (refine off1_ne ?_; walk_at "ALLLT")) | fail
  k_with "TAIL" => first | ((intro p9 hp9; repeat (first | exact hp9 | refine List.mem_cons_of_mem _ ?_))) | fail
  k_with "K_ROOM" => first | (((simp only [depth_mark, depth_under_make, depth_under_kw, depth_in1, depth_deeper, depth_caller, ktrTop, recursionLimit]); walk_at "OM")) | fail
  k_with "K_UNITS" => first | ((have hcL := cLine_is; (simp only [units_in1, units_deeper, Around.mark_units, units_caller, ktrTop]); walk_at "OM")) | fail
  k_with "K_MEM" => first | (((fail_if_success refine' List.Mem.tail _ ?_); (show (_ : Addr × Obj) ∈ (_ : List (Addr × Obj))); with_reducible assumption)) | fail
  k_with "compareOp In str ref" => first | ((k_here; k_dflt (first | (refine' kd_in_some (by (k_asm; done)) (by (k_mem; done)) (by (with_reducible assumption; done)) (by (with_reducible assumption; done)) (by (with_reducible assumption; done)) ?_) | (refine' kd_in_none (by (k_asm; done)) (by (k_mem; done)) (by (with_reducible assumption; done)) (by (with_reducible assumption; done)) (by (with_reducible assumption; done)) ?_)))) | fail
  k_with "compareOp NotIn str ref" => first | ((k_here; k_dflt (first | (refine' kd_nin_some (by (k_asm; done)) (by (k_mem; done)) (by (with_reducible assumption; done)) (by (with_reducible assumption; done)) (by (with_reducible assumption; done)) ?_) | (refine' kd_nin_none (by (k_asm; done)) (by (k_mem; done)) (by (with_reducible assumption; done)) (by (with_reducible assumption; done)) (by (with_reducible assumption; done)) ?_) | (refine' nin2_f (by (k_asm; done)) (by (k_mem; done)) (by (with_reducible assumption; done)) ?_) | (refine' nin2_t (by (k_asm; done)) (by (k_mem; done)) (by (with_reducible assumption; done)) ?_)))) | fail
  k_with "subscriptTail" => first | ((k_here; (with_reducible show wpAny _ _ (subscriptTail _ _ (Value.ref _) (Value.str _ _)) _ _ _); k_dflt (refine' kd_item (by (k_asm; done)) (by (k_mem; done)) (by (with_reducible assumption; done)) (by (with_reducible assumption; done)) ?_ (by (with_unfolding_all rfl; done)) (by (intro _; with_unfolding_all rfl; done))))) | fail
  k_with "setItem ref str" => first | ((k_here; k_dflt (refine' kd_set (by (k_asm; done)) (by (k_asm; done)) (by (k_updF; done)) (by (with_reducible assumption; done)) (by (with_reducible assumption; done)) ?_); (intro h' o' F' N' hd'); (try dsimp only at N'))) | fail
  k_with "getItem ref" => first | ((k_here; (with_reducible show wpAny _ _ (getItem (Value.ref _) (Value.str _ _)) _ _ _); k_dflt (refine' kd_get (by (k_asm; done)) (by (k_mem; done)) (by (with_reducible assumption; done)) (by (with_reducible assumption; done)) ?_))) | fail
  k_with "compareOp NotEq str str" => first | ((k_here; first | (refine ne_str_t (by with_reducible assumption) ?_) | (refine ne_str_f (by with_reducible assumption) ?_))) | fail
  k_with "compareOp Eq str str" => first | ((k_here; first | (refine eq_str_f (by with_reducible assumption) ?_) | (refine eq_str_t (by with_reducible assumption) ?_))) | fail
  k_with "subscriptTail Name Constant ref int" => first | ((k_here; walk_at "shSub"; k_dflt (first | (refine' item_tup0 (by (k_asm; done)) (by (k_mem; done)) (by (exact rfl; done)) (by (decide; done)) (by (decide; done)) ?_ (by (with_unfolding_all rfl; done))) | (refine' item_lst0 (by (k_asm; done)) (by (k_mem; done)) (by (exact rfl; done)) (by (decide; done)) (by (decide; done)) ?_ (by (with_unfolding_all rfl; done)))))) | fail
  k_with "subscriptTail Subscript Name Constant Constant ref int" => first | ((k_here; walk_at "shSub"; k_dflt (first | (refine' item_tup0 (by (k_asm; done)) (by (k_mem; done)) (by (exact rfl; done)) (by (decide; done)) (by (decide; done)) ?_ (by (with_unfolding_all rfl; done))) | (refine' item_lst0 (by (k_asm; done)) (by (k_mem; done)) (by (exact rfl; done)) (by (decide; done)) (by (decide; done)) ?_ (by (with_unfolding_all rfl; done)))))) | fail
  k_with "callWith builtin:list.append cons nil" => first | ((refine callWith_method1 ?_)) | fail
  k_with "execs nil" => first | ((with_reducible refine wpAny_execs_nil ?_)) | fail
  k_with "EC" => first | (first | k_fold | k_gentoks | (with_reducible refine wpAny_execs_cons ?_; try dsimp only)) | fail
  k_with "execs cons If nil" => first | (walk_at "EC") | fail
  k_with "execs cons If cons" => first | (walk_at "EC") | fail
  k_with "execs cons Assign cons" => first | (walk_at "EC") | fail
  k_with "execs cons Assign nil" => first | (walk_at "EC") | fail
  k_with "execs cons Return nil" => first | (walk_at "EC") | fail
  k_with "execs cons Return cons" => first | (walk_at "EC") | fail
  k_with "execs cons Expr nil" => first | (walk_at "EC") | fail
  k_with "execs cons Expr cons" => first | (walk_at "EC") | fail
  k_with "exec If Compare cons nil" => first | ((with_reducible refine wpAny_If ?_)) | fail
  k_with "spliced" => first | ((k_here; with_reducible first | refine args_cs ?_ | refine args_cn ?_ | refine args_ci ?_ | refine args_cb ?_)) | fail
  k_with "spliced" => first | ((k_here; (with_reducible show wpAny _ _ (spliced (backTo _ (starEach (Expr.Name _ _ :: _) _))) _ _ _); k_dflt (refine' args_nm (by (k_asm; done)) (by (exact rfl; done)) ?_ (by rfl) (by rfl) (by decide)))) | fail
  trivial
theorem kd_in_some {prog : Program} {w : World} {A : Around} {E : Value → Shared → Prop} {s : Shared} {h₀ : Heap} {L d : Addr} {news : List (Addr × Obj)} {o : Obj} {kvs : List (Str × Value)} {k : Str} {t : Tok} {v : Value} {Q : Value → Shared → Prop}
    (N : News h₀ L s.heap news) (hp : (d, o) ∈ news) (hd : o.IsDictOf (PySem.strKind prog w) kvs) (lo : (d == sysModules) = false) (hv : valueAt kvs k = some v) (h : Q (.bool true) { s with toks := s.toks + 1 }) :
    wpAny (model prog w) A (compareOp .In (.str k t) (.ref d)) Q E s := kda_in (knd := PySem.strKind prog w) N hp hd lo (strKind_is _ _ _ _) true (isSome_of hv) h
theorem kd_in_none {prog : Program} {w : World} {A : Around} {E : Value → Shared → Prop} {s : Shared} {h₀ : Heap} {L d : Addr} {news : List (Addr × Obj)} {o : Obj} {kvs : List (Str × Value)} {k : Str} {t : Tok} {Q : Value → Shared → Prop}
    (N : News h₀ L s.heap news) (hp : (d, o) ∈ news) (hd : o.IsDictOf (PySem.strKind prog w) kvs) (lo : (d == sysModules) = false) (hv : valueAt kvs k = none) (h : Q (.bool false) { s with toks := s.toks + 1 }) :
    wpAny (model prog w) A (compareOp .In (.str k t) (.ref d)) Q E s := kda_in (knd := PySem.strKind prog w) N hp hd lo (strKind_is _ _ _ _) false (isNone_of hv) h
theorem kd_nin_some {prog : Program} {w : World} {A : Around} {E : Value → Shared → Prop} {s : Shared} {h₀ : Heap} {L d : Addr} {news : List (Addr × Obj)} {o : Obj} {kvs : List (Str × Value)} {k : Str} {t : Tok} {v : Value} {Q : Value → Shared → Prop}
    (N : News h₀ L s.heap news) (hp : (d, o) ∈ news) (hd : o.IsDictOf (PySem.strKind prog w) kvs) (lo : (d == sysModules) = false) (hv : valueAt kvs k = some v) (h : Q (.bool false) { s with toks := s.toks + 1 }) :
    wpAny (model prog w) A (compareOp .NotIn (.str k t) (.ref d)) Q E s := kdg_notin (knd := PySem.strKind prog w) N hp hd lo (strKind_is _ _ _ _) true (isSome_of hv) h
theorem kd_nin_none {prog : Program} {w : World} {A : Around} {E : Value → Shared → Prop} {s : Shared} {h₀ : Heap} {L d : Addr} {news : List (Addr × Obj)} {o : Obj} {kvs : List (Str × Value)} {k : Str} {t : Tok} {Q : Value → Shared → Prop}
    (N : News h₀ L s.heap news) (hp : (d, o) ∈ news) (hd : o.IsDictOf (PySem.strKind prog w) kvs) (lo : (d == sysModules) = false) (hv : valueAt kvs k = none) (h : Q (.bool true) { s with toks := s.toks + 1 }) :
    wpAny (model prog w) A (compareOp .NotIn (.str k t) (.ref d)) Q E s := kdg_notin (knd := PySem.strKind prog w) N hp hd lo (strKind_is _ _ _ _) false (isNone_of hv) h
theorem kd_item {prog : Program} {w : World} {A : Around} {E : Value → Shared → Prop} {s : Shared} {h₀ : Heap} {L d : Addr} {news : List (Addr × Obj)} {o : Obj} {kvs : List (Str × Value)} {k : Str} {t : Tok} {v : Value} {Q : Value → Shared → Prop} {value slice : PySem.Expr}
    (N : News h₀ L s.heap news) (hp : (d, o) ∈ news) (hd : o.IsDictOf (PySem.strKind prog w) kvs) (hv : valueAt kvs k = some v) (h : Q v { s with toks := s.toks + 1 })
    (hs : subscripted slice false (.ref d) (.str k t) = operate [.ref d, (.str k t)] (getItem (.ref d) (.str k t))) (hg : ∀ r, letTemporaryGo value (.ref d) r = pure ()) :
    wpAny (model prog w) A (subscriptTail value slice (.ref d) (.str k t)) Q E s := kda_item (knd := PySem.strKind prog w) N hp hd (strKind_is _ _ _ _) hv h hs hg
theorem kd_get {prog : Program} {w : World} {A : Around} {E : Value → Shared → Prop} {s : Shared} {h₀ : Heap} {L d : Addr} {news : List (Addr × Obj)} {o : Obj} {kvs : List (Str × Value)} {k : Str} {t : Tok} {v : Value} {Q : Value → Shared → Prop}
    (N : News h₀ L s.heap news) (hp : (d, o) ∈ news) (hd : o.IsDictOf (PySem.strKind prog w) kvs) (hv : valueAt kvs k = some v) (h : Q v { s with toks := s.toks + 1 }) :
    wpAny (model prog w) A (getItem (.ref d) (.str k t)) Q E s := wpAny_getItem_of (strKind_is _ _ _ _) (kda_dict N hp hd).mapOf hv h
theorem kd_set {prog : Program} {w : World} {A : Around} {E : Value → Shared → Prop} {s : Shared} {h₀ : Heap} {L d : Addr} {m : Str → Option Value} {news : List (Addr × Obj)} {g : Obj → List (Addr × Obj)} {o : Obj} {kvs : List (Str × Value)} {k : Str} {t : Tok} {v : Value} {Q : Unit → Shared → Prop}
    (F : Fr h₀ L s.heap m) (N : News h₀ L s.heap news) (U : UpdF d o news g) (hd : o.IsDictOf (PySem.strKind prog w) kvs) (hsz : kvs.length ≤ 1000)
    (h : ∀ h' o', Fr h₀ L h' m → News h₀ L h' (g o') → o'.IsDictOf (PySem.strKind prog w) (stored kvs k v) → Q () { s with heap := h', toks := s.toks + 1 }) : wpAny (model prog w) A (setItem (.ref d) (.str k t) v) Q E s :=
  kda_set (knd := PySem.strKind prog w) F N U hd (strKind_is _ _ _ _) (by rw [sizeLine_eq]; omega) h
abbrev St := List Row × List (Str × Ent)
noncomputable def addName (st : St) (nm wh : Str) (i : Int) (inf : Info) : St := match entAt st.2 nm with
  | none => (st.1, storedE st.2 nm ⟨wh, i, inf⟩)
  | some _ => (st.1 ++ [(Str.ofString "duplicate", i, nm)], st.2)
theorem addName_none {rows : List Row} {tab : List (Str × Ent)} {nm wh : Str} {i : Int} {inf : Info} (h : entAt tab nm = none) : addName (rows, tab) nm wh i inf = (rows, storedE tab nm ⟨wh, i, inf⟩) := by simp only [addName, h]
theorem addName_some {rows : List Row} {tab : List (Str × Ent)} {nm wh : Str} {i : Int} {inf : Info} {e : Ent} (h : entAt tab nm = some e) : addName (rows, tab) nm wh i inf = (rows ++ [(Str.ofString "duplicate", i, nm)], tab) := by simp only [addName, h]
def Ent.ok (e : Ent) : Prop := (e.what = Str.ofString "net" ∨ e.what = Str.ofString "var") → ∃ d p w, e.info = .sig d p w
def TabOk (tab : List (Str × Ent)) : Prop := ∀ k e, entAt tab k = some e → e.ok
noncomputable def addPort (st : St) (nm : Str) (i : Int) (d : Str) (inR : Bool) : St := match entAt st.2 nm with
  | none => (st.1, storedE st.2 nm ⟨if inR then Str.ofString "var" else Str.ofString "net", i, .sig d true false⟩)
  | some e => match e.info with
    | .sig _ p _ => if (e.what = Str.ofString "net" ∨ e.what = Str.ofString "var") ∧ p = false then
        (if e.what = Str.ofString "var" ∧ d ≠ Str.ofString "output" ∧ inR = false then st.1 ++ [(Str.ofString "variable_port_input", i, nm)] else st.1, storedE st.2 nm ⟨e.what, e.at', .sig d true true⟩)
      else (st.1 ++ [(Str.ofString "duplicate", i, nm)], st.2)
    | _ => (st.1 ++ [(Str.ofString "duplicate", i, nm)], st.2)
noncomputable def addSignal (st : St) (nm wh : Str) (i : Int) (inR : Bool) : St := match entAt st.2 nm with
  | none => (st.1, storedE st.2 nm ⟨wh, i, .sig (Str.ofString "") false true⟩)
  | some e => match e.info with
    | .sig d _ w => if (e.what = Str.ofString "net" ∨ e.what = Str.ofString "var") ∧ w = false then
        (if wh = Str.ofString "var" ∧ d ≠ Str.ofString "output" ∧ inR = false then st.1 ++ [(Str.ofString "variable_port_input", i, nm)] else st.1, storedE st.2 nm ⟨wh, e.at', .sig d true true⟩)
      else (st.1 ++ [(Str.ofString "duplicate", i, nm)], st.2)
    | _ => (st.1 ++ [(Str.ofString "duplicate", i, nm)], st.2)
theorem bne_t {x y : Str} (h : (x != y) = true) : x ≠ y := by simpa using h
theorem bne_f {x y : Str} (h : (x != y) = false) : x = y := by simpa using h
theorem net_ne_var : Str.ofString "net" ≠ Str.ofString "var" := by decide +kernel

theorem strs2 {a b : Str} {t u : Tok} : StrsAre [Value.str a t, Value.str b u] [a, b] := .cons _ _ (.cons _ _ .nil)
theorem nin2_f {prog : Program} {w : World} {A : Around} {E : Value → Shared → Prop} {s : Shared} {h₀ : Heap} {L d : Addr} {news : List (Addr × Obj)} {a b x : Str} {t u v : Tok} {Q : Value → Shared → Prop}
    (N : News h₀ L s.heap news) (hm : (d, tup [.str a t, .str b u]) ∈ news) (hx : x = a ∨ x = b) (h : Q (.bool false) s) : wpAny (model prog w) A (compareOp .NotIn (.str x v) (.ref d)) Q E s := by
  refine notin_tuple_strs (News.isTup N hm) strs2 ?_
  have : ([a, b].any (· == x)) = true := by rcases hx with rfl | rfl <;> simp
  rw [this]; exact h
theorem nin2_t {prog : Program} {w : World} {A : Around} {E : Value → Shared → Prop} {s : Shared} {h₀ : Heap} {L d : Addr} {news : List (Addr × Obj)} {a b x : Str} {t u v : Tok} {Q : Value → Shared → Prop}
    (N : News h₀ L s.heap news) (hm : (d, tup [.str a t, .str b u]) ∈ news) (hx : x ≠ a ∧ x ≠ b) (h : Q (.bool true) s) : wpAny (model prog w) A (compareOp .NotIn (.str x v) (.ref d)) Q E s := by
  refine notin_tuple_strs (News.isTup N hm) strs2 ?_
  have : ([a, b].any (· == x)) = false := by simp [Ne.symm hx.1, Ne.symm hx.2]
  rw [this]; exact h
theorem ne_str_t {prog : Program} {w : World} {A : Around} {E : Value → Shared → Prop} {s : Shared} {x y : Str} {t u : Tok} {Q : Value → Shared → Prop} (hx : x ≠ y) (h : Q (.bool true) s) : wpAny (model prog w) A (compareOp .NotEq (.str x t) (.str y u)) Q E s := by
  refine PyProof.Rows.ne_str ?_
  have : (x != y) = true := by simpa using hx
  rw [this]; exact h
theorem ne_str_f {prog : Program} {w : World} {A : Around} {E : Value → Shared → Prop} {s : Shared} {x y : Str} {t u : Tok} {Q : Value → Shared → Prop} (hx : x = y) (h : Q (.bool false) s) : wpAny (model prog w) A (compareOp .NotEq (.str x t) (.str y u)) Q E s := by
  refine PyProof.Rows.ne_str ?_
  have : (x != y) = false := by simpa using hx
  rw [this]; exact h
theorem eq_str_f {prog : Program} {w : World} {A : Around} {E : Value → Shared → Prop} {s : Shared} {x y : Str} {t u : Tok} {Q : Value → Shared → Prop} (hx : x ≠ y) (h : Q (.bool false) s) : wpAny (model prog w) A (compareOp .Eq (.str x t) (.str y u)) Q E s := by
  refine PyProof.Rows.eq_str ?_
  have : (x == y) = false := by simpa using hx
  rw [this]; exact h
theorem eq_str_t {prog : Program} {w : World} {A : Around} {E : Value → Shared → Prop} {s : Shared} {x y : Str} {t u : Tok} {Q : Value → Shared → Prop} (hx : x = y) (h : Q (.bool true) s) : wpAny (model prog w) A (compareOp .Eq (.str x t) (.str y u)) Q E s := by
  refine PyProof.Rows.eq_str ?_
  have : (x == y) = true := by simpa using hx
  rw [this]; exact h
theorem rot2 {a b c : Addr × Obj} {r : List (Addr × Obj)} {p : Addr × Obj} (h : p ∈ b :: c :: a :: r) : p ∈ a :: b :: c :: r := by
  simp only [List.mem_cons] at h ⊢
  rcases h with h | h | h | h
  · exact .inr (.inl h)
  · exact .inr (.inr (.inl h))
  · exact .inl h
  · exact .inr (.inr (.inr h))
section
variable {prog : Program} {w : World} {A : Around} {E : Value → Shared → Prop} {s : Shared} {env : Env} {h₀ : Heap} {L : Addr} {news : List (Addr × Obj)} {m : Str → Option Value}
theorem notin2 {x a b : Str} {t : Tok} {k1 k2 k : Nat} {p1 p2 pp : Pos} {Q : Value → Shared → Prop} (F : Fr h₀ L s.heap m) (N : News h₀ L s.heap news)
    (h1 : x = a ∨ x = b → ∀ h' tk, Fr h₀ L h' m → News h₀ L h' news → Q (.bool false) { s with heap := h', toks := tk }) (h2 : x ≠ a ∧ x ≠ b → ∀ h' tk, Fr h₀ L h' m → News h₀ L h' news → Q (.bool true) { s with heap := h', toks := tk }) :
    wpAny (model prog w) A (eval (.Tuple [.Constant (.str a) k1 p1, .Constant (.str b) k2 p2] k pp) env) (fun w' s2 => wpAny (model prog w) A (compareOp .NotIn (.str x t) w') Q E s2) E s := by
  refine Tuple_ (args_cons (Calls.Constant_str (args_cons (Calls.Constant_str (args_nil (kup_newTuple (news := news) F N (fun D h' F' N' _ => ?_) ?_))))))
  · have N2 : News h₀ L h' news := fun p hp => N' p (List.mem_cons_of_mem _ hp)
    by_cases hx : x = a ∨ x = b
    · exact nin2_f N' List.mem_cons_self hx (h1 hx _ _ F' N2)
    · exact nin2_t N' List.mem_cons_self (not_or.mp hx) (h2 (not_or.mp hx) _ _ F' N2)
  · rw [PySem.sizeLine_eq]; exact Nat.le_of_ble_eq_true rfl
def JoinP (g : Heap) (L : Addr) (m : Str → Option Value) (s0 : Shared) (J : List (Addr × Obj) → Prop) (s' : Shared) : Prop :=
  ∃ h' tk all', s' = { s0 with heap := h', toks := tk } ∧ Fr g L h' m ∧ News g L h' all' ∧ J all'
theorem if_join {st : Stmt} {rest : List Stmt} {Q : Flow → Shared → Prop} (_F : Fr h₀ env.locals s.heap m) (J : List (Addr × Obj) → Prop) (h1 : wpAny (model prog w) A (exec st env) (fun f s' => f = .next ∧ JoinP h₀ env.locals m s J s') E s)
    (h2 : ∀ h' tk all', Fr h₀ env.locals h' m → News h₀ env.locals h' all' → J all' → wpAny (model prog w) A (execs rest env) Q E { s with heap := h', toks := tk }) : wpAny (model prog w) A (execs (st :: rest) env) Q E s := by
  refine wpAny_execs_cons (wpAny_mono h1 (fun f s' hp => ?_) fun _ _ e => e)
  obtain ⟨rfl, h', tk, all', rfl, F', N', hJ⟩ := hp
  exact h2 h' tk all' F' N' hJ
theorem joinEnd {J : List (Addr × Obj) → Prop} {h' : Heap} {tk : Nat} {all' : List (Addr × Obj)} (F : Fr h₀ L h' m) (N : News h₀ L h' all') (hJ : J all') : JoinP h₀ L m s J { s with heap := h', toks := tk } := ⟨h', tk, all', rfl, F, N, hJ⟩
end
/-- what the two ends of a join agree on: the list of rows, the dict of entries, and more of what cannot change -/
def RowsJ (rl en : Addr) (oe : Obj) (rest : List (Addr × Obj)) (rows : List Row) (all : List (Addr × Obj)) : Prop :=
  ∃ rs' nr' R', all = (rl, listOf (rs' : List Value).toArray nr') :: (en, oe) :: R' ∧ (∀ p ∈ rest, p ∈ R') ∧ (∀ p ∈ R', p.1 ≠ rl) ∧ (∀ p ∈ R', p.1 ≠ en) ∧ RowsIn R' rs' rows
theorem InfoIn.sig_inv {R : List (Addr × Obj)} {v : Value} {d : Str} {p w : Bool} (h : InfoIn R v (.sig d p w)) : ∃ b t, v = .ref b ∧ (b, tup [.str d t, .bool p, .bool w]) ∈ R := by
  cases h with
  | sig h => exact ⟨_, _, rfl, h⟩
theorem EntIn.inv {R : List (Addr × Obj)} {v : Value} {e : Ent} (h : EntIn R v e) : ∃ b t1 t2 iv, v = .ref b ∧ (b, tup [.str e.what t1, .int e.at' t2, iv]) ∈ R ∧ InfoIn R iv e.info := by
  cases h with
  | mk h1 h2 => exact ⟨_, _, _, _, rfl, h1, h2⟩
theorem addPort_dup {rows : List Row} {tab : List (Str × Ent)} {nm d : Str} {i : Int} {inR : Bool} {e : Ent} (hv : entAt tab nm = some e) (h : (e.what ≠ Str.ofString "net" ∧ e.what ≠ Str.ofString "var") ∨ ∃ d' w', e.info = .sig d' true w') : addPort (rows, tab) nm i d inR = (rows ++ [(Str.ofString "duplicate", i, nm)], tab) := by
  simp only [addPort, hv]
  split
  · next d2 p2 w2 he =>
    rw [if_neg]
    rintro ⟨h1, h2⟩
    rcases h with h | ⟨d', w', h⟩
    · exact h1.elim h.1 h.2
    · rw [h] at he; injection he with _ h3 _; rw [h2] at h3; exact nomatch h3
  · rfl
theorem addPort_in {rows : List Row} {tab : List (Str × Ent)} {nm d : Str} {i : Int} {inR : Bool} {e : Ent} {d' : Str} {w' : Bool} (hv : entAt tab nm = some e) (h : e.what = Str.ofString "net" ∨ e.what = Str.ofString "var") (he : e.info = .sig d' false w') :
    addPort (rows, tab) nm i d inR = (if e.what = Str.ofString "var" ∧ d ≠ Str.ofString "output" ∧ inR = false then rows ++ [(Str.ofString "variable_port_input", i, nm)] else rows, storedE tab nm ⟨e.what, e.at', .sig d true true⟩) := by
  simp only [addPort, hv, he]
  rw [if_pos ⟨h, trivial⟩]
theorem addSignal_dup {rows : List Row} {tab : List (Str × Ent)} {nm wh : Str} {i : Int} {inR : Bool} {e : Ent} (hv : entAt tab nm = some e) (h : (e.what ≠ Str.ofString "net" ∧ e.what ≠ Str.ofString "var") ∨ ∃ d' p', e.info = .sig d' p' true) : addSignal (rows, tab) nm wh i inR = (rows ++ [(Str.ofString "duplicate", i, nm)], tab) := by
  simp only [addSignal, hv]
  split
  · next d2 p2 w2 he =>
    rw [if_neg]
    rintro ⟨h1, h2⟩
    rcases h with h | ⟨d', p', h⟩
    · exact h1.elim h.1 h.2
    · rw [h] at he; injection he with _ _ h3; rw [h2] at h3; exact nomatch h3
  · rfl
theorem addSignal_in {rows : List Row} {tab : List (Str × Ent)} {nm wh : Str} {i : Int} {inR : Bool} {e : Ent} {d' : Str} {p' : Bool} (hv : entAt tab nm = some e) (h : e.what = Str.ofString "net" ∨ e.what = Str.ofString "var") (he : e.info = .sig d' p' false) :
    addSignal (rows, tab) nm wh i inR = (if wh = Str.ofString "var" ∧ d' ≠ Str.ofString "output" ∧ inR = false then rows ++ [(Str.ofString "variable_port_input", i, nm)] else rows, storedE tab nm ⟨wh, e.at', .sig d' true true⟩) := by
  simp only [addSignal, hv, he]
  rw [if_pos ⟨h, trivial⟩]




set_option maxRecDepth 100000 in
set_option maxHeartbeats 8000000 in
theorem rep_add_ok {w : World} {p : Program} {loose : List Str} {mean : ExcName → Option Value} {mg mb : Str → Option Value}
    {dp un : Nat} {gd : Option (List Code)} {cn : Str} {cs : Scope} {a : Addr} {ccd : Value} {cl : List (Str × Addr)} {outer : List Env} {A₀ : Around} {base h₀ : Heap} {L : Addr} {m : Str → Option Value} {s : Shared}
    {Q E : Value → Shared → Prop} {rep repd rl en : Addr} {t1 t2 t3 z1 z2 z3 : Tok} {nv tv : Value} {nn nr : Nat} {rs : List Value} {oe : Obj} {rest : List (Addr × Obj)} {kd nm : Str} {i : Int}
    (B : Below A₀ base outer h₀) (F : Fr h₀ L s.heap m) (X : (Mine.hdE.heap_1_1 w.params).In h₀) (N : News h₀ L s.heap ((rl, listOf rs.toArray nr) :: (en, oe) :: rest)) (T : Top p loose mean mg mb h₀) (hk : cs.kind = .function)
    (m1 : (rep, instObj 38 repd) ∈ rest) (m2 : (repd, repDict w t1 t2 t3 nv tv rl nn) ∈ rest) (hne : @Ne Nat en rl) (hr1 : ∀ p ∈ rest, p.1 ≠ rl) (hzr : rs.length ≤ 1000) (hd : dp ≤ 410) (hu : un ≤ 410)
    (hret : ∀ D nr' h' toks', Fr h₀ L h' m → News h₀ L h' ((rl, listOf (rs ++ [Value.ref D]).toArray nr') :: (en, oe) :: (D, tup [.str kd z1, .int i z2, .str nm z3]) :: rest) → @Ne Nat D rl → @Ne Nat D en → Q .none { s with heap := h', toks := toks' }) :
    wpAny (model PySem.Challenge.rw_sj0028_01.row.prog w) (ktrTop dp un gd cn cs L a ccd cl outer) (call (.ref 35) [.ref rep, .str kd z1, .int i z2, .str nm z3]) Q E s := by
  w_top off
  revert X
  k_fill
  intro X
  refine wpAny_call ?_
  k_dflt ktr_enter
  k_steps
  (rename News _ _ _ _ => hN9)
  simp only [List.push_toArray] at hN9
  exact hret _ _ _ _ (by k_asm) (fun p hp => hN9 p (rot2 hp)) (by k_ne) (by k_ne)
end
section
theorem lines_L3b : True := by
  k_with_none
  k_with "shSub" => first | (((with_reducible show wpAny _ _ (subscriptTail _ _ (Value.ref _) (Value.int _ _)) _ _ _))) | fail
  k_with "DIG" => first | (repeat (first | (with_reducible exact And.left) | (with_reducible exact id) | (with_reducible refine digR ?_))) | fail
  k_with "LT9" => first | (first | with_reducible assumption | (refine' ltLt ?h ?d; walk_at "HD")) | fail
  k_with "ALLLT" => first | (first | with_reducible assumption | (refine' allDig ?h ?d; walk_at "HD")) | fail
  k_with "K_NE" => first | ((refine neN ?_; first | with_reducible assumption | (refine Ne.symm ?_; with_reducible assumption) | (refine' neLt ?h ?d; walk_at "HD") | (refine' neGt ?h ?d; walk_at "HD") | (refine' neNe ?h ?d; walk_at "HD") | (refine' neEn ?h ?d; walk_at "HD") | (refine Nat.ne_of_lt ?_; with_reducible assumption) | (refine Nat.ne_of_gt ?_; with_reducible assumption) | ((try dsimp only); omega))) | fail
  k_with "MEM" => first | (first | with_reducible assumption | with_reducible exact List.mem_cons_self | (with_reducible refine List.mem_cons_of_mem _ ?_; walk_at "MEM")) | fail
  k_with "OM" => first | (first | exact dLe (by with_reducible assumption) rfl | exact dL0 (by with_reducible assumption) rfl | exact dLt (by with_reducible assumption) rfl | omega) | fail
  k_with "K_ALL" => first | (first | with_reducible assumption | (refine allLt_ne ?_; walk_at "ALLLT") | (refine off1_ne ?_; walk_at "ALLLT")) | fail
  k_with "TAIL" => first | ((intro p9 hp9; repeat (first | exact hp9 | refine List.mem_cons_of_mem _ ?_))) | fail
  k_with "K_ROOM" => first | (((simp only [depth_mark, depth_under_make, depth_under_kw, depth_in1, depth_deeper, depth_caller, ktrTop, recursionLimit]); walk_at "OM")) | fail
  k_with "K_UNITS" => first | ((have hcL := cLine_is; (simp only [units_in1, units_deeper, Around.mark_units, units_caller, ktrTop]); walk_at "OM")) | fail
  k_with "K_MEM" => first | (((fail_if_success refine' List.Mem.tail _ ?_); (show (_ : Addr × Obj) ∈ (_ : List (Addr × Obj))); with_reducible assumption)) | fail
  k_with "compareOp In str ref" => first | ((k_here; k_dflt (first | (refine' kd_in_some (by (k_asm; done)) (by (k_mem; done)) (by (with_reducible assumption; done)) (by (with_reducible assumption; done)) (by (with_reducible assumption; done)) ?_) | (refine' kd_in_none (by (k_asm; done)) (by (k_mem; done)) (by (with_reducible assumption; done)) (by (with_reducible assumption; done)) (by (with_reducible assumption; done)) ?_)))) | fail
  k_with "compareOp NotIn str ref" => first | ((k_here; k_dflt (first | (refine' kd_nin_some (by (k_asm; done)) (by (k_mem; done)) (by (with_reducible assumption; done)) (by (with_reducible assumption; done)) (by (with_reducible assumption; done)) ?_) | (refine' kd_nin_none (by (k_asm; done)) (by (k_mem; done)) (by (with_reducible assumption; done)) (by (with_reducible assumption; done)) (by (with_reducible assumption; done)) ?_) | (refine' nin2_f (by (k_asm; done)) (by (k_mem; done)) (by (with_reducible assumption; done)) ?_) | (refine' nin2_t (by (k_asm; done)) (by (k_mem; done)) (by (with_reducible assumption; done)) ?_)))) | fail
  k_with "subscriptTail" => first | ((k_here; (with_reducible show wpAny _ _ (subscriptTail _ _ (Value.ref _) (Value.str _ _)) _ _ _); k_dflt (refine' kd_item (by (k_asm; done)) (by (k_mem; done)) (by (with_reducible assumption; done)) (by (with_reducible assumption; done)) ?_ (by (with_unfolding_all rfl; done)) (by (intro _; with_unfolding_all rfl; done))))) | fail
  k_with "setItem ref str" => first | ((k_here; k_dflt (refine' kd_set (by (k_asm; done)) (by (k_asm; done)) (by (k_updF; done)) (by (with_reducible assumption; done)) (by (with_reducible assumption; done)) ?_); (intro h' o' F' N' hd'); (try dsimp only at N'))) | fail
  k_with "getItem ref" => first | ((k_here; (with_reducible show wpAny _ _ (getItem (Value.ref _) (Value.str _ _)) _ _ _); k_dflt (refine' kd_get (by (k_asm; done)) (by (k_mem; done)) (by (with_reducible assumption; done)) (by (with_reducible assumption; done)) ?_))) | fail
  k_with "compareOp NotEq str str" => first | ((k_here; first | (refine ne_str_t (by with_reducible assumption) ?_) | (refine ne_str_f (by with_reducible assumption) ?_))) | fail
  k_with "compareOp Eq str str" => first | ((k_here; first | (refine eq_str_f (by with_reducible assumption) ?_) | (refine eq_str_t (by with_reducible assumption) ?_))) | fail
  k_with "subscriptTail Name Constant ref int" => first | ((k_here; walk_at "shSub"; k_dflt (first | (refine' item_tup0 (by (k_asm; done)) (by (k_mem; done)) (by (exact rfl; done)) (by (decide; done)) (by (decide; done)) ?_ (by (with_unfolding_all rfl; done))) | (refine' item_lst0 (by (k_asm; done)) (by (k_mem; done)) (by (exact rfl; done)) (by (decide; done)) (by (decide; done)) ?_ (by (with_unfolding_all rfl; done)))))) | fail
  k_with "subscriptTail Subscript Name Constant Constant ref int" => first | ((k_here; walk_at "shSub"; k_dflt (first | (refine' item_tup0 (by (k_asm; done)) (by (k_mem; done)) (by (exact rfl; done)) (by (decide; done)) (by (decide; done)) ?_ (by (with_unfolding_all rfl; done))) | (refine' item_lst0 (by (k_asm; done)) (by (k_mem; done)) (by (exact rfl; done)) (by (decide; done)) (by (decide; done)) ?_ (by (with_unfolding_all rfl; done)))))) | fail
  k_with "callWith builtin:list.append cons nil" => first | ((refine callWith_method1 ?_)) | fail
  k_with "execs nil" => first | ((with_reducible refine wpAny_execs_nil ?_)) | fail
  k_with "EC" => first | (first | k_fold | k_gentoks | (with_reducible refine wpAny_execs_cons ?_; try dsimp only)) | fail
  k_with "execs cons If nil" => first | (walk_at "EC") | fail
  k_with "execs cons If cons" => first | (walk_at "EC") | fail
  k_with "execs cons Assign cons" => first | (walk_at "EC") | fail
  k_with "execs cons Assign nil" => first | (walk_at "EC") | fail
  k_with "execs cons Return nil" => first | (walk_at "EC") | fail
  k_with "execs cons Return cons" => first | (walk_at "EC") | fail
  k_with "execs cons Expr nil" => first | (walk_at "EC") | fail
  k_with "execs cons Expr cons" => first | (walk_at "EC") | fail
  k_with "exec If Compare cons nil" => first | ((with_reducible refine wpAny_If ?_)) | fail
  k_with "spliced" => first | ((k_here; with_reducible first | refine args_cs ?_ | refine args_cn ?_ | refine args_ci ?_ | refine args_cb ?_)) | fail
  k_with "spliced" => first | ((k_here; (with_reducible show wpAny _ _ (spliced (backTo _ (starEach (Expr.Name _ _ :: _) _))) _ _ _); k_dflt (refine' args_nm (by (k_asm; done)) (by (exact rfl; done)) ?_ (by rfl) (by rfl) (by decide)))) | fail
  k_with "call ref" => first | ((k_here; (with_reducible show wpAny _ _ (call (Value.ref 35) _) _ _ _); k_dflt (refine' rep_add_ok (by (k_asm; done)) (by (k_asm; done)) (by (k_asm; done)) (by (k_asm; done)) (by (k_asm; done)) (by (first | rfl | assumption; done)) (by (k_mem; done)) (by (k_mem; done)) (by (with_reducible assumption; done)) (by (k_all; done)) (by (with_reducible assumption; done)) (by (first | with_reducible assumption | ((simp only [depth_mark, depth_under_make, depth_under_kw, depth_in1, depth_deeper, depth_caller, ktrTop]); walk_at "OM"); done)) (by (first | with_reducible assumption | ((simp only [units_in1, units_deeper, Around.mark_units, units_caller, ktrTop]); walk_at "OM"); done)) ?_); (intro D' nr' h' toks' F' N' n1' n2'))) | fail
  k_with "eval Tuple" => first | ((k_here; (with_reducible show wpAny _ _ (eval (Expr.Tuple [Expr.Constant _ _ _, Expr.Constant _ _ _] _ _) _) (fun w2 s2 => wpAny _ _ (compareOp CmpOp.NotIn (Value.str _ _) w2) _ _ s2) _ _); k_dflt (refine' notin2 (by (k_asm; done)) (by (k_asm; done)) (fun hc' h' tk' F' N' => Halt.out ?_) (fun hc' h' tk' F' N' => ?_)))) | fail
  k_with "execs cons If cons" => first | (((with_reducible show wpAny _ _ (execs (Stmt.If (Expr.BoolOp BoolOp.And _ _) _ _ _ :: _) _) _ _ _); refine Halt.out ?_)) | fail
  trivial





set_option maxRecDepth 100000 in
set_option maxHeartbeats 8000000 in
theorem add_name_ok {w : World} {p : Program} {loose : List Str} {mean : ExcName → Option Value} {mg mb : Str → Option Value}
    {dp un : Nat} {gd : Option (List Code)} {cn : Str} {cs : Scope} {a : Addr} {ccd : Value} {cl : List (Str × Addr)} {outer : List Env} {A₀ : Around} {base h₀ : Heap} {L : Addr} {m : Str → Option Value} {s : Shared}
    {Q E : Value → Shared → Prop} {rep repd rl tb tbd en : Addr} {t1 t2 t3 u1 u2 z1 z2 z3 : Tok} {nv tv pv iv : Value} {nn mm nr : Nat} {rs : List Value} {oe : Obj} {kvs : List (Str × Value)} {tab : List (Str × Ent)} {rows : List Row} {rest : List (Addr × Obj)}
    {nm wh : Str} {i : Int} {inf : Info}
    (B : Below A₀ base outer h₀) (F : Fr h₀ L s.heap m) (X : (Mine.hdE.heap_1_1 w.params).In h₀)
    (N : News h₀ L s.heap ((rl, listOf rs.toArray nr) :: (en, oe) :: rest)) (T : Top p loose mean mg mb h₀) (hk : cs.kind = .function)
    (m1 : (rep, instObj 38 repd) ∈ rest) (m2 : (repd, repDict w t1 t2 t3 nv tv rl nn) ∈ rest) (m3 : (tb, instObj 59 tbd) ∈ rest) (m4 : (tbd, tabDict w u1 u2 pv en mm) ∈ rest) (hne : @Ne Nat en rl)
    (hr1 : ∀ p ∈ rest, p.1 ≠ rl) (hr2 : ∀ p ∈ rest, p.1 ≠ en) (hlo : (en == sysModules) = false) (hD : oe.IsDictOf (PySem.strKind PySem.Challenge.rw_sj0028_01.row.prog w) kvs) (hz : kvs.length ≤ 1000) (hzr : rs.length ≤ 1000)
    (hT : TabIn rest kvs tab) (hR : RowsIn rest rs rows) (hI : InfoIn rest iv inf) (hd : dp ≤ 400) (hu : un ≤ 400)
    (hret : ∀ rs' nr' oe' kvs' R h' toks', Fr h₀ L h' m → News h₀ L h' R → (rl, listOf (rs' : List Value).toArray nr') ∈ R → (en, oe') ∈ R → (∀ p ∈ rest, p ∈ R) → oe'.IsDictOf (PySem.strKind PySem.Challenge.rw_sj0028_01.row.prog w) kvs' →
      TabIn R kvs' (addName (rows, tab) nm wh i inf).2 → RowsIn R rs' (addName (rows, tab) nm wh i inf).1 → Q .none { s with heap := h', toks := toks' }) :
    wpAny (model PySem.Challenge.rw_sj0028_01.row.prog w) (ktrTop dp un gd cn cs L a ccd cl outer) (call (.ref 84) [.ref rep, .ref tb, .str nm z1, .str wh z2, .int i z3, iv]) Q E s := by
  w_top off
  revert X
  k_fill
  intro X
  refine wpAny_call ?_
  k_dflt ktr_enter
  k_steps
  k_sweep
  refine Cut.out ?_
  intro G9 hG9
  rcases hT.look nm with ⟨hv1, hv2⟩ | ⟨v, e, hv1, hv2, hEnt⟩
  · refine hG9 ?_
    clear hG9
    k_steps
    exact hret _ _ _ _ _ _ _ (by k_asm) (by k_asm) (by k_mem) (by k_mem) (by walk_at "TAIL") (by with_reducible assumption) (by rw [addName_none hv2]; exact (hT.mono (by walk_at "TAIL")).store (EntIn.mk (by k_dflt k_mem) (hI.mono (by walk_at "TAIL")))) (by rw [addName_none hv2]; exact hR.mono (by walk_at "TAIL"))
  · refine hG9 ?_
    clear hG9
    k_steps
    exact hret _ _ _ _ _ _ _ (by k_asm) (by k_asm) (by k_mem) (by k_mem) (by walk_at "TAIL") (by with_reducible assumption) (by rw [addName_some hv2]; exact hT.mono (by walk_at "TAIL")) (by rw [addName_some hv2]; exact (hR.mono (by walk_at "TAIL")).snoc (by k_dflt k_mem))
end
section

section
theorem lines_L3c : True := by
  k_with_none
  k_with "shSub" => first | (((with_reducible show wpAny _ _ (subscriptTail _ _ (Value.ref _) (Value.int _ _)) _ _ _))) | fail
  k_with "DIG" => first | (repeat (first | (with_reducible exact And.left) | (with_reducible exact id) | (with_reducible refine digR ?_))) | fail
  k_with "LT9" => first | (first | with_reducible assumption | (refine' ltLt ?h ?d; walk_at "HD")) | fail
  k_with "ALLLT" => first | (first | with_reducible assumption | (refine' allDig ?h ?d; walk_at "HD")) | fail
  k_with "K_NE" => first | ((refine neN ?_; first | with_reducible assumption | (refine Ne.symm ?_; with_reducible assumption) | (refine' neLt ?h ?d; walk_at "HD") | (refine' neGt ?h ?d; walk_at "HD") | (refine' neNe ?h ?d; walk_at "HD") | (refine' neEn ?h ?d; walk_at "HD") | (refine Nat.ne_of_lt ?_; with_reducible assumption) | (refine Nat.ne_of_gt ?_; with_reducible assumption) | ((try dsimp only); omega))) | fail
  k_with "MEM" => first | (first | with_reducible assumption | with_reducible exact List.mem_cons_self | (with_reducible refine List.mem_cons_of_mem _ ?_; walk_at "MEM")) | fail
  k_with "OM" => first | (first | exact dLe (by with_reducible assumption) rfl | exact dL0 (by with_reducible assumption) rfl | exact dLt (by with_reducible assumption) rfl | omega) | fail
  k_with "K_ALL" => first | (first | with_reducible assumption | (refine allLt_ne ?_; walk_at "ALLLT") | (refine off1_ne ?_; walk_at "ALLLT")) | fail
  k_with "TAIL" => first | ((intro p9 hp9; repeat (first | exact hp9 | refine List.mem_cons_of_mem _ ?_))) | fail
  k_with "K_ROOM" => first | (((simp only [depth_mark, depth_under_make, depth_under_kw, depth_in1, depth_deeper, depth_caller, ktrTop, recursionLimit]); walk_at "OM")) | fail
  k_with "K_UNITS" => first | ((have hcL := cLine_is; (simp only [units_in1, units_deeper, Around.mark_units, units_caller, ktrTop]); walk_at "OM")) | fail
  k_with "K_MEM" => first | (((fail_if_success refine' List.Mem.tail _ ?_); (show (_ : Addr × Obj) ∈ (_ : List (Addr × Obj))); with_reducible assumption)) | fail
  k_with "compareOp In str ref" => first | ((k_here; k_dflt (first | (refine' kd_in_some (by (k_asm; done)) (by (k_mem; done)) (by (with_reducible assumption; done)) (by (with_reducible assumption; done)) (by (with_reducible assumption; done)) ?_) | (refine' kd_in_none (by (k_asm; done)) (by (k_mem; done)) (by (with_reducible assumption; done)) (by (with_reducible assumption; done)) (by (with_reducible assumption; done)) ?_)))) | fail
  k_with "compareOp NotIn str ref" => first | ((k_here; k_dflt (first | (refine' kd_nin_some (by (k_asm; done)) (by (k_mem; done)) (by (with_reducible assumption; done)) (by (with_reducible assumption; done)) (by (with_reducible assumption; done)) ?_) | (refine' kd_nin_none (by (k_asm; done)) (by (k_mem; done)) (by (with_reducible assumption; done)) (by (with_reducible assumption; done)) (by (with_reducible assumption; done)) ?_) | (refine' nin2_f (by (k_asm; done)) (by (k_mem; done)) (by (with_reducible assumption; done)) ?_) | (refine' nin2_t (by (k_asm; done)) (by (k_mem; done)) (by (with_reducible assumption; done)) ?_)))) | fail
  k_with "subscriptTail" => first | ((k_here; (with_reducible show wpAny _ _ (subscriptTail _ _ (Value.ref _) (Value.str _ _)) _ _ _); k_dflt (refine' kd_item (by (k_asm; done)) (by (k_mem; done)) (by (with_reducible assumption; done)) (by (with_reducible assumption; done)) ?_ (by (with_unfolding_all rfl; done)) (by (intro _; with_unfolding_all rfl; done))))) | fail
  k_with "setItem ref str" => first | ((k_here; k_dflt (refine' kd_set (by (k_asm; done)) (by (k_asm; done)) (by (k_updF; done)) (by (with_reducible assumption; done)) (by (with_reducible assumption; done)) ?_); (intro h' o' F' N' hd'); (try dsimp only at N'))) | fail
  k_with "getItem ref" => first | ((k_here; (with_reducible show wpAny _ _ (getItem (Value.ref _) (Value.str _ _)) _ _ _); k_dflt (refine' kd_get (by (k_asm; done)) (by (k_mem; done)) (by (with_reducible assumption; done)) (by (with_reducible assumption; done)) ?_))) | fail
  k_with "compareOp NotEq str str" => first | ((k_here; first | (refine ne_str_t (by with_reducible assumption) ?_) | (refine ne_str_f (by with_reducible assumption) ?_))) | fail
  k_with "compareOp Eq str str" => first | ((k_here; first | (refine eq_str_f (by with_reducible assumption) ?_) | (refine eq_str_t (by with_reducible assumption) ?_))) | fail
  k_with "subscriptTail Name Constant ref int" => first | ((k_here; walk_at "shSub"; k_dflt (first | (refine' item_tup0 (by (k_asm; done)) (by (k_mem; done)) (by (exact rfl; done)) (by (decide; done)) (by (decide; done)) ?_ (by (with_unfolding_all rfl; done))) | (refine' item_lst0 (by (k_asm; done)) (by (k_mem; done)) (by (exact rfl; done)) (by (decide; done)) (by (decide; done)) ?_ (by (with_unfolding_all rfl; done)))))) | fail
  k_with "subscriptTail Subscript Name Constant Constant ref int" => first | ((k_here; walk_at "shSub"; k_dflt (first | (refine' item_tup0 (by (k_asm; done)) (by (k_mem; done)) (by (exact rfl; done)) (by (decide; done)) (by (decide; done)) ?_ (by (with_unfolding_all rfl; done))) | (refine' item_lst0 (by (k_asm; done)) (by (k_mem; done)) (by (exact rfl; done)) (by (decide; done)) (by (decide; done)) ?_ (by (with_unfolding_all rfl; done)))))) | fail
  k_with "callWith builtin:list.append cons nil" => first | ((refine callWith_method1 ?_)) | fail
  k_with "execs nil" => first | ((with_reducible refine wpAny_execs_nil ?_)) | fail
  k_with "EC" => first | (first | k_fold | k_gentoks | (with_reducible refine wpAny_execs_cons ?_; try dsimp only)) | fail
  k_with "execs cons If nil" => first | (walk_at "EC") | fail
  k_with "execs cons If cons" => first | (walk_at "EC") | fail
  k_with "execs cons Assign cons" => first | (walk_at "EC") | fail
  k_with "execs cons Assign nil" => first | (walk_at "EC") | fail
  k_with "execs cons Return nil" => first | (walk_at "EC") | fail
  k_with "execs cons Return cons" => first | (walk_at "EC") | fail
  k_with "execs cons Expr nil" => first | (walk_at "EC") | fail
  k_with "execs cons Expr cons" => first | (walk_at "EC") | fail
  k_with "exec If Compare cons nil" => first | ((with_reducible refine wpAny_If ?_)) | fail
  k_with "spliced" => first | ((k_here; with_reducible first | refine args_cs ?_ | refine args_cn ?_ | refine args_ci ?_ | refine args_cb ?_)) | fail
  k_with "spliced" => first | ((k_here; (with_reducible show wpAny _ _ (spliced (backTo _ (starEach (Expr.Name _ _ :: _) _))) _ _ _); k_dflt (refine' args_nm (by (k_asm; done)) (by (exact rfl; done)) ?_ (by rfl) (by rfl) (by decide)))) | fail
  k_with "call ref" => first | ((k_here; (with_reducible show wpAny _ _ (call (Value.ref 35) _) _ _ _); k_dflt (refine' rep_add_ok (by (k_asm; done)) (by (k_asm; done)) (by (k_asm; done)) (by (k_asm; done)) (by (k_asm; done)) (by (first | rfl | assumption; done)) (by (k_mem; done)) (by (k_mem; done)) (by (with_reducible assumption; done)) (by (k_all; done)) (by (with_reducible assumption; done)) (by (first | with_reducible assumption | ((simp only [depth_mark, depth_under_make, depth_under_kw, depth_in1, depth_deeper, depth_caller, ktrTop]); walk_at "OM"); done)) (by (first | with_reducible assumption | ((simp only [units_in1, units_deeper, Around.mark_units, units_caller, ktrTop]); walk_at "OM"); done)) ?_); (intro D' nr' h' toks' F' N' n1' n2'))) | fail
  k_with "eval Tuple" => first | ((k_here; (with_reducible show wpAny _ _ (eval (Expr.Tuple [Expr.Constant _ _ _, Expr.Constant _ _ _] _ _) _) (fun w2 s2 => wpAny _ _ (compareOp CmpOp.NotIn (Value.str _ _) w2) _ _ s2) _ _); k_dflt (refine' notin2 (by (k_asm; done)) (by (k_asm; done)) (fun hc' h' tk' F' N' => Halt.out ?_) (fun hc' h' tk' F' N' => ?_)))) | fail
  k_with "execs cons If cons" => first | (((with_reducible show wpAny _ _ (execs (Stmt.If (Expr.BoolOp BoolOp.And _ _) _ _ _ :: _) _) _ _ _); refine Halt.out ?_)) | fail
  trivial




set_option maxRecDepth 100000 in
set_option maxHeartbeats 8000000 in
theorem add_port_ok {w : World} {p : Program} {loose : List Str} {mean : ExcName → Option Value} {mg mb : Str → Option Value}
    {dp un : Nat} {gd : Option (List Code)} {cn : Str} {cs : Scope} {a : Addr} {ccd : Value} {cl : List (Str × Addr)} {outer : List Env} {A₀ : Around} {base h₀ : Heap} {L : Addr} {m : Str → Option Value} {s : Shared}
    {Q E : Value → Shared → Prop} {rep repd rl tb tbd en : Addr} {t1 t2 t3 u1 u2 z1 z2 z3 : Tok} {nv tv pv : Value} {nn mm nr : Nat} {rs : List Value} {oe : Obj} {kvs : List (Str × Value)} {tab : List (Str × Ent)} {rows : List Row} {rest : List (Addr × Obj)}
    {nm d : Str} {i : Int} {inR : Bool}
    (B : Below A₀ base outer h₀) (F : Fr h₀ L s.heap m) (X : (Mine.hdE.heap_1_1 w.params).In h₀)
    (N : News h₀ L s.heap ((rl, listOf rs.toArray nr) :: (en, oe) :: rest)) (T : Top p loose mean mg mb h₀) (hk : cs.kind = .function)
    (m1 : (rep, instObj 38 repd) ∈ rest) (m2 : (repd, repDict w t1 t2 t3 nv tv rl nn) ∈ rest) (m3 : (tb, instObj 59 tbd) ∈ rest) (m4 : (tbd, tabDict w u1 u2 pv en mm) ∈ rest) (hne : @Ne Nat en rl)
    (hr1 : ∀ p ∈ rest, p.1 ≠ rl) (hr2 : ∀ p ∈ rest, p.1 ≠ en) (hlo : (en == sysModules) = false) (hD : oe.IsDictOf (PySem.strKind PySem.Challenge.rw_sj0028_01.row.prog w) kvs) (hz : kvs.length ≤ 1000) (hzr : rs.length ≤ 1000)
    (hT : TabIn rest kvs tab) (hR : RowsIn rest rs rows) (hO : TabOk tab) (hd : dp ≤ 400) (hu : un ≤ 400)
    (hret : ∀ rs' nr' oe' kvs' R h' toks', Fr h₀ L h' m → News h₀ L h' R → (rl, listOf (rs' : List Value).toArray nr') ∈ R → (en, oe') ∈ R → (∀ p ∈ rest, p ∈ R) → oe'.IsDictOf (PySem.strKind PySem.Challenge.rw_sj0028_01.row.prog w) kvs' →
      TabIn R kvs' (addPort (rows, tab) nm i d inR).2 → RowsIn R rs' (addPort (rows, tab) nm i d inR).1 → Q .none { s with heap := h', toks := toks' }) :
    wpAny (model PySem.Challenge.rw_sj0028_01.row.prog w) (ktrTop dp un gd cn cs L a ccd cl outer) (call (.ref 91) [.ref rep, .ref tb, .str nm z1, .int i z2, .str d z3, .bool inR]) Q E s := by
  w_top off
  revert X
  k_fill
  intro X
  refine wpAny_call ?_
  k_dflt ktr_enter
  k_steps
  k_sweep
  refine Cut.out ?_
  intro G9 hG9
  rcases hT.look nm with ⟨hv1, hv2⟩ | ⟨v, e, hv1, hv2, hEnt⟩
  · refine hG9 ?_
    clear hG9
    cases inR
    all_goals k_steps
    all_goals (exact hret _ _ _ _ _ _ _ (by k_asm) (by k_asm) (by k_mem) (by k_mem) (by walk_at "TAIL") (by with_reducible assumption) (by simp only [addPort, hv2]; exact (hT.mono (by walk_at "TAIL")).store (EntIn.mk (by k_dflt k_mem) (InfoIn.sig (by k_dflt k_mem)))) (by simp only [addPort, hv2]; exact hR.mono (by walk_at "TAIL")))
  · refine hG9 ?_
    clear hG9
    k_sweep
    refine Cut.out ?_
    intro G9 hG9
    obtain ⟨b9, t9, t9b, iv9, rfl, hm1, hinf⟩ := hEnt.inv
    refine hG9 ?_
    clear hG9
    k_steps
    · unfold Halt
      rename e.what = _ ∨ _ => hc9
      obtain ⟨d', p', w', he9⟩ := hO _ _ hv2 hc9
      rw [he9] at hinf
      obtain ⟨b8, t8, rfl, hm2⟩ := hinf.sig_inv
      cases p'
      case true =>
        k_steps
        exact hret _ _ _ _ _ _ _ (by k_asm) (by k_asm) (by k_mem) (by k_mem) (by walk_at "TAIL") (by with_reducible assumption) (by rw [addPort_dup hv2 (.inr ⟨_, _, he9⟩)]; exact hT.mono (by walk_at "TAIL")) (by rw [addPort_dup hv2 (.inr ⟨_, _, he9⟩)]; exact (hR.mono (by walk_at "TAIL")).snoc (by k_dflt k_mem))
      case false =>
        k_steps
        unfold Halt
        k_dflt refine if_join (by k_asm) (RowsJ rl en oe rest (if e.what = Str.ofString "var" ∧ d ≠ Str.ofString "output" ∧ inR = false then rows ++ [(Str.ofString "variable_port_input", i, nm)] else rows)) ?_ ?_
        · by_cases hvv : e.what = Str.ofString "var"
          · by_cases hdo : d = Str.ofString "output"
            · k_steps
              exact joinEnd (by k_asm) (by k_asm) ⟨_, _, _, rfl, by walk_at "TAIL", hr1, hr2, by rw [if_neg (fun h => h.2.1 hdo)]; exact hR⟩
            · cases inR
              · k_steps
                exact joinEnd (by k_asm) (by k_asm) ⟨_, _, _, rfl, by walk_at "TAIL", List.forall_mem_cons.mpr ⟨by with_reducible assumption, hr1⟩, List.forall_mem_cons.mpr ⟨by with_reducible assumption, hr2⟩, by rw [if_pos ⟨hvv, hdo, rfl⟩]; exact (hR.mono (by walk_at "TAIL")).snoc List.mem_cons_self⟩
              · k_steps
                exact joinEnd (by k_asm) (by k_asm) ⟨_, _, _, rfl, by walk_at "TAIL", hr1, hr2, by rw [if_neg (fun h => nomatch h.2.2)]; exact hR⟩
          · k_steps
            exact joinEnd (by k_asm) (by k_asm) ⟨_, _, _, rfl, by walk_at "TAIL", hr1, hr2, by rw [if_neg (fun h => hvv h.1)]; exact hR⟩
        · rename Fr _ _ _ _ => lF9
          rename News _ _ _ _ => lN9
          clear lF9 lN9 F N
          intro h8 tk8 all8 F8 N8 hJ8
          k_sweep
          refine Cut.out ?_
          intro G9 hG9
          obtain ⟨rs8, nr8, R8, rfl, hs8, q1, q2, hR8⟩ := hJ8
          refine hG9 ?_
          clear hG9
          have m3' := hs8 _ m3
          have m4' := hs8 _ m4
          have hm1' := hs8 _ hm1
          clear m1 m2 m3 m4 hr1 hr2
          k_steps
          exact hret _ _ _ _ _ _ _ (by k_asm) (by k_asm) (by k_mem) (by k_mem) (fun p hp => (show ∀ p ∈ R8, p ∈ _ by walk_at "TAIL") p (hs8 p hp)) (by with_reducible assumption) (by rw [addPort_in hv2 hc9 he9]; exact (hT.mono (fun p hp => (show ∀ p ∈ R8, p ∈ _ by walk_at "TAIL") p (hs8 p hp))).store (EntIn.mk (by k_dflt k_mem) (InfoIn.sig (by k_dflt k_mem)))) (by rw [addPort_in hv2 hc9 he9]; exact hR8.mono (by walk_at "TAIL"))
    · exact hret _ _ _ _ _ _ _ (by k_asm) (by k_asm) (by k_mem) (by k_mem) (by walk_at "TAIL") (by with_reducible assumption) (by rw [addPort_dup hv2 (.inl (by with_reducible assumption))]; exact hT.mono (by walk_at "TAIL")) (by rw [addPort_dup hv2 (.inl (by with_reducible assumption))]; exact (hR.mono (by walk_at "TAIL")).snoc (by k_dflt k_mem))
end
section
theorem lines_L3d : True := by
  k_with_none
  k_with "shSub" => first | (((with_reducible show wpAny _ _ (subscriptTail _ _ (Value.ref _) (Value.int _ _)) _ _ _))) | fail
  k_with "DIG" => first | (repeat (first | (with_reducible exact And.left) | (with_reducible exact id) | (with_reducible refine digR ?_))) | fail
  k_with "LT9" => first | (first | with_reducible assumption | (refine' ltLt ?h ?d; walk_at "HD")) | fail
  k_with "ALLLT" => first | (first | with_reducible assumption | (refine' allDig ?h ?d; walk_at "HD")) | fail
  k_with "K_NE" => first | ((refine neN ?_; first | with_reducible assumption | (refine Ne.symm ?_; with_reducible assumption) | (refine' neLt ?h ?d; walk_at "HD") | (refine' neGt ?h ?d; walk_at "HD") | (refine' neNe ?h ?d; walk_at "HD") | (refine' neEn ?h ?d; walk_at "HD") | (refine Nat.ne_of_lt ?_; with_reducible assumption) | (refine Nat.ne_of_gt ?_; with_reducible assumption) | ((try dsimp only); omega))) | fail
  k_with "MEM" => first | (first | with_reducible assumption | with_reducible exact List.mem_cons_self | (with_reducible refine List.mem_cons_of_mem _ ?_; walk_at "MEM")) | fail
  k_with "OM" => first | (first | exact dLe (by with_reducible assumption) rfl | exact dL0 (by with_reducible assumption) rfl | exact dLt (by with_reducible assumption) rfl | omega) | fail
  k_with "K_ALL" => first | (first | with_reducible assumption | (refine allLt_ne ?_; walk_at "ALLLT") | (refine off1_ne ?_; walk_at "ALLLT")) | fail
  k_with "TAIL" => first | ((intro p9 hp9; repeat (first | exact hp9 | refine List.mem_cons_of_mem _ ?_))) | fail
  k_with "K_ROOM" => first | (((simp only [depth_mark, depth_under_make, depth_under_kw, depth_in1, depth_deeper, depth_caller, ktrTop, recursionLimit]); walk_at "OM")) | fail
  k_with "K_UNITS" => first | ((have hcL := cLine_is; (simp only [units_in1, units_deeper, Around.mark_units, units_caller, ktrTop]); walk_at "OM")) | fail
  k_with "K_MEM" => first | (((fail_if_success refine' List.Mem.tail _ ?_); (show (_ : Addr × Obj) ∈ (_ : List (Addr × Obj))); with_reducible assumption)) | fail
  k_with "compareOp In str ref" => first | ((k_here; k_dflt (first | (refine' kd_in_some (by (k_asm; done)) (by (k_mem; done)) (by (with_reducible assumption; done)) (by (with_reducible assumption; done)) (by (with_reducible assumption; done)) ?_) | (refine' kd_in_none (by (k_asm; done)) (by (k_mem; done)) (by (with_reducible assumption; done)) (by (with_reducible assumption; done)) (by (with_reducible assumption; done)) ?_)))) | fail
  k_with "compareOp NotIn str ref" => first | ((k_here; k_dflt (first | (refine' kd_nin_some (by (k_asm; done)) (by (k_mem; done)) (by (with_reducible assumption; done)) (by (with_reducible assumption; done)) (by (with_reducible assumption; done)) ?_) | (refine' kd_nin_none (by (k_asm; done)) (by (k_mem; done)) (by (with_reducible assumption; done)) (by (with_reducible assumption; done)) (by (with_reducible assumption; done)) ?_) | (refine' nin2_f (by (k_asm; done)) (by (k_mem; done)) (by (with_reducible assumption; done)) ?_) | (refine' nin2_t (by (k_asm; done)) (by (k_mem; done)) (by (with_reducible assumption; done)) ?_)))) | fail
  k_with "subscriptTail" => first | ((k_here; (with_reducible show wpAny _ _ (subscriptTail _ _ (Value.ref _) (Value.str _ _)) _ _ _); k_dflt (refine' kd_item (by (k_asm; done)) (by (k_mem; done)) (by (with_reducible assumption; done)) (by (with_reducible assumption; done)) ?_ (by (with_unfolding_all rfl; done)) (by (intro _; with_unfolding_all rfl; done))))) | fail
  k_with "setItem ref str" => first | ((k_here; k_dflt (refine' kd_set (by (k_asm; done)) (by (k_asm; done)) (by (k_updF; done)) (by (with_reducible assumption; done)) (by (with_reducible assumption; done)) ?_); (intro h' o' F' N' hd'); (try dsimp only at N'))) | fail
  k_with "getItem ref" => first | ((k_here; (with_reducible show wpAny _ _ (getItem (Value.ref _) (Value.str _ _)) _ _ _); k_dflt (refine' kd_get (by (k_asm; done)) (by (k_mem; done)) (by (with_reducible assumption; done)) (by (with_reducible assumption; done)) ?_))) | fail
  k_with "compareOp NotEq str str" => first | ((k_here; first | (refine ne_str_t (by with_reducible assumption) ?_) | (refine ne_str_f (by with_reducible assumption) ?_))) | fail
  k_with "compareOp Eq str str" => first | ((k_here; first | (refine eq_str_f (by with_reducible assumption) ?_) | (refine eq_str_t (by with_reducible assumption) ?_))) | fail
  k_with "subscriptTail Name Constant ref int" => first | ((k_here; walk_at "shSub"; k_dflt (first | (refine' item_tup0 (by (k_asm; done)) (by (k_mem; done)) (by (exact rfl; done)) (by (decide; done)) (by (decide; done)) ?_ (by (with_unfolding_all rfl; done))) | (refine' item_lst0 (by (k_asm; done)) (by (k_mem; done)) (by (exact rfl; done)) (by (decide; done)) (by (decide; done)) ?_ (by (with_unfolding_all rfl; done)))))) | fail
  k_with "subscriptTail Subscript Name Constant Constant ref int" => first | ((k_here; walk_at "shSub"; k_dflt (first | (refine' item_tup0 (by (k_asm; done)) (by (k_mem; done)) (by (exact rfl; done)) (by (decide; done)) (by (decide; done)) ?_ (by (with_unfolding_all rfl; done))) | (refine' item_lst0 (by (k_asm; done)) (by (k_mem; done)) (by (exact rfl; done)) (by (decide; done)) (by (decide; done)) ?_ (by (with_unfolding_all rfl; done)))))) | fail
  k_with "callWith builtin:list.append cons nil" => first | ((refine callWith_method1 ?_)) | fail
  k_with "execs nil" => first | ((with_reducible refine wpAny_execs_nil ?_)) | fail
  k_with "EC" => first | (first | k_fold | k_gentoks | (with_reducible refine wpAny_execs_cons ?_; try dsimp only)) | fail
  k_with "execs cons If nil" => first | (walk_at "EC") | fail
  k_with "execs cons If cons" => first | (walk_at "EC") | fail
  k_with "execs cons Assign cons" => first | (walk_at "EC") | fail
  k_with "execs cons Assign nil" => first | (walk_at "EC") | fail
  k_with "execs cons Return nil" => first | (walk_at "EC") | fail
  k_with "execs cons Return cons" => first | (walk_at "EC") | fail
  k_with "execs cons Expr nil" => first | (walk_at "EC") | fail
  k_with "execs cons Expr cons" => first | (walk_at "EC") | fail
  k_with "exec If Compare cons nil" => first | ((with_reducible refine wpAny_If ?_)) | fail
  k_with "spliced" => first | ((k_here; with_reducible first | refine args_cs ?_ | refine args_cn ?_ | refine args_ci ?_ | refine args_cb ?_)) | fail
  k_with "spliced" => first | ((k_here; (with_reducible show wpAny _ _ (spliced (backTo _ (starEach (Expr.Name _ _ :: _) _))) _ _ _); k_dflt (refine' args_nm (by (k_asm; done)) (by (exact rfl; done)) ?_ (by rfl) (by rfl) (by decide)))) | fail
  k_with "call ref" => first | ((k_here; (with_reducible show wpAny _ _ (call (Value.ref 35) _) _ _ _); k_dflt (refine' rep_add_ok (by (k_asm; done)) (by (k_asm; done)) (by (k_asm; done)) (by (k_asm; done)) (by (k_asm; done)) (by (first | rfl | assumption; done)) (by (k_mem; done)) (by (k_mem; done)) (by (with_reducible assumption; done)) (by (k_all; done)) (by (with_reducible assumption; done)) (by (first | with_reducible assumption | ((simp only [depth_mark, depth_under_make, depth_under_kw, depth_in1, depth_deeper, depth_caller, ktrTop]); walk_at "OM"); done)) (by (first | with_reducible assumption | ((simp only [units_in1, units_deeper, Around.mark_units, units_caller, ktrTop]); walk_at "OM"); done)) ?_); (intro D' nr' h' toks' F' N' n1' n2'))) | fail
  k_with "eval Tuple" => first | ((k_here; (with_reducible show wpAny _ _ (eval (Expr.Tuple [Expr.Constant _ _ _, Expr.Constant _ _ _] _ _) _) (fun w2 s2 => wpAny _ _ (compareOp CmpOp.NotIn (Value.str _ _) w2) _ _ s2) _ _); k_dflt (refine' notin2 (by (k_asm; done)) (by (k_asm; done)) (fun hc' h' tk' F' N' => Halt.out ?_) (fun hc' h' tk' F' N' => ?_)))) | fail
  k_with "execs cons If cons" => first | (((with_reducible show wpAny _ _ (execs (Stmt.If (Expr.BoolOp BoolOp.And _ _) _ _ _ :: _) _) _ _ _); refine Halt.out ?_)) | fail
  trivial




set_option maxRecDepth 100000 in
set_option maxHeartbeats 8000000 in
theorem add_signal_ok {w : World} {p : Program} {loose : List Str} {mean : ExcName → Option Value} {mg mb : Str → Option Value}
    {dp un : Nat} {gd : Option (List Code)} {cn : Str} {cs : Scope} {a : Addr} {ccd : Value} {cl : List (Str × Addr)} {outer : List Env} {A₀ : Around} {base h₀ : Heap} {L : Addr} {m : Str → Option Value} {s : Shared}
    {Q E : Value → Shared → Prop} {rep repd rl tb tbd en : Addr} {t1 t2 t3 u1 u2 z1 z2 z3 : Tok} {nv tv pv : Value} {nn mm nr : Nat} {rs : List Value} {oe : Obj} {kvs : List (Str × Value)} {tab : List (Str × Ent)} {rows : List Row} {rest : List (Addr × Obj)}
    {nm wh : Str} {i : Int} {inR : Bool}
    (B : Below A₀ base outer h₀) (F : Fr h₀ L s.heap m) (X : (Mine.hdE.heap_1_1 w.params).In h₀)
    (N : News h₀ L s.heap ((rl, listOf rs.toArray nr) :: (en, oe) :: rest)) (T : Top p loose mean mg mb h₀) (hk : cs.kind = .function)
    (m1 : (rep, instObj 38 repd) ∈ rest) (m2 : (repd, repDict w t1 t2 t3 nv tv rl nn) ∈ rest) (m3 : (tb, instObj 59 tbd) ∈ rest) (m4 : (tbd, tabDict w u1 u2 pv en mm) ∈ rest) (hne : @Ne Nat en rl)
    (hr1 : ∀ p ∈ rest, p.1 ≠ rl) (hr2 : ∀ p ∈ rest, p.1 ≠ en) (hlo : (en == sysModules) = false) (hD : oe.IsDictOf (PySem.strKind PySem.Challenge.rw_sj0028_01.row.prog w) kvs) (hz : kvs.length ≤ 1000) (hzr : rs.length ≤ 1000)
    (hT : TabIn rest kvs tab) (hR : RowsIn rest rs rows) (hO : TabOk tab) (hwh : wh = Str.ofString "net" ∨ wh = Str.ofString "var") (hd : dp ≤ 400) (hu : un ≤ 400)
    (hret : ∀ rs' nr' oe' kvs' R h' toks', Fr h₀ L h' m → News h₀ L h' R → (rl, listOf (rs' : List Value).toArray nr') ∈ R → (en, oe') ∈ R → (∀ p ∈ rest, p ∈ R) → oe'.IsDictOf (PySem.strKind PySem.Challenge.rw_sj0028_01.row.prog w) kvs' →
      TabIn R kvs' (addSignal (rows, tab) nm wh i inR).2 → RowsIn R rs' (addSignal (rows, tab) nm wh i inR).1 → Q .none { s with heap := h', toks := toks' }) :
    wpAny (model PySem.Challenge.rw_sj0028_01.row.prog w) (ktrTop dp un gd cn cs L a ccd cl outer) (call (.ref 98) [.ref rep, .ref tb, .str nm z1, .str wh z2, .int i z3, .bool inR]) Q E s := by
  w_top off
  revert X
  k_fill
  intro X
  refine wpAny_call ?_
  k_dflt ktr_enter
  k_steps
  k_sweep
  refine Cut.out ?_
  intro G9 hG9
  rcases hT.look nm with ⟨hv1, hv2⟩ | ⟨v, e, hv1, hv2, hEnt⟩
  · refine hG9 ?_
    clear hG9
    have hp : addSignal (rows, tab) nm wh i inR = (rows, storedE tab nm ⟨wh, i, .sig (Str.ofString "") false true⟩) := by simp only [addSignal, hv2]
    k_steps
    exact hret _ _ _ _ _ _ _ (by k_asm) (by k_asm) (by k_mem) (by k_mem) (by walk_at "TAIL") (by with_reducible assumption) (by rw [hp]; exact (hT.mono (by walk_at "TAIL")).store (EntIn.mk (by k_dflt k_mem) (InfoIn.sig (by k_dflt k_mem)))) (by rw [hp]; exact hR.mono (by walk_at "TAIL"))
  · refine hG9 ?_
    clear hG9
    k_sweep
    refine Cut.out ?_
    intro G9 hG9
    obtain ⟨b9, t9, t9b, iv9, rfl, hm1, hinf⟩ := hEnt.inv
    refine hG9 ?_
    clear hG9
    k_steps
    · unfold Halt
      rename e.what = _ ∨ _ => hc9
      obtain ⟨d', p', w', he9⟩ := hO _ _ hv2 hc9
      rw [he9] at hinf
      obtain ⟨b8, t8, rfl, hm2⟩ := hinf.sig_inv
      cases w'
      case true =>
        k_steps
        exact hret _ _ _ _ _ _ _ (by k_asm) (by k_asm) (by k_mem) (by k_mem) (by walk_at "TAIL") (by with_reducible assumption) (by rw [addSignal_dup hv2 (.inr ⟨_, _, he9⟩)]; exact hT.mono (by walk_at "TAIL")) (by rw [addSignal_dup hv2 (.inr ⟨_, _, he9⟩)]; exact (hR.mono (by walk_at "TAIL")).snoc (by k_dflt k_mem))
      case false =>
        k_steps
        unfold Halt
        k_dflt refine if_join (by k_asm) (RowsJ rl en oe rest (if wh = Str.ofString "var" ∧ d' ≠ Str.ofString "output" ∧ inR = false then rows ++ [(Str.ofString "variable_port_input", i, nm)] else rows)) ?_ ?_
        · by_cases hvv : wh = Str.ofString "var"
          · by_cases hdo : d' = Str.ofString "output"
            · k_steps
              exact joinEnd (by k_asm) (by k_asm) ⟨_, _, _, rfl, by walk_at "TAIL", hr1, hr2, by rw [if_neg (fun h => h.2.1 hdo)]; exact hR⟩
            · cases inR
              · k_steps
                exact joinEnd (by k_asm) (by k_asm) ⟨_, _, _, rfl, by walk_at "TAIL", List.forall_mem_cons.mpr ⟨by with_reducible assumption, hr1⟩, List.forall_mem_cons.mpr ⟨by with_reducible assumption, hr2⟩, by rw [if_pos ⟨hvv, hdo, rfl⟩]; exact (hR.mono (by walk_at "TAIL")).snoc List.mem_cons_self⟩
              · k_steps
                exact joinEnd (by k_asm) (by k_asm) ⟨_, _, _, rfl, by walk_at "TAIL", hr1, hr2, by rw [if_neg (fun h => nomatch h.2.2)]; exact hR⟩
          · k_steps
            exact joinEnd (by k_asm) (by k_asm) ⟨_, _, _, rfl, by walk_at "TAIL", hr1, hr2, by rw [if_neg (fun h => hvv h.1)]; exact hR⟩
        · rename Fr _ _ _ _ => lF9
          rename News _ _ _ _ => lN9
          clear lF9 lN9 F N
          intro h8 tk8 all8 F8 N8 hJ8
          k_sweep
          refine Cut.out ?_
          intro G9 hG9
          obtain ⟨rs8, nr8, R8, rfl, hs8, q1, q2, hR8⟩ := hJ8
          refine hG9 ?_
          clear hG9
          have m3' := hs8 _ m3
          have m4' := hs8 _ m4
          have hm1' := hs8 _ hm1
          clear m1 m2 m3 m4 hr1 hr2
          k_steps
          exact hret _ _ _ _ _ _ _ (by k_asm) (by k_asm) (by k_mem) (by k_mem) (fun p hp => (show ∀ p ∈ R8, p ∈ _ by walk_at "TAIL") p (hs8 p hp)) (by with_reducible assumption) (by rw [addSignal_in hv2 hc9 he9]; exact (hT.mono (fun p hp => (show ∀ p ∈ R8, p ∈ _ by walk_at "TAIL") p (hs8 p hp))).store (EntIn.mk (by k_dflt k_mem) (InfoIn.sig (by k_dflt k_mem)))) (by rw [addSignal_in hv2 hc9 he9]; exact hR8.mono (by walk_at "TAIL"))
    · exact hret _ _ _ _ _ _ _ (by k_asm) (by k_asm) (by k_mem) (by k_mem) (by walk_at "TAIL") (by with_reducible assumption) (by rw [addSignal_dup hv2 (.inl (by with_reducible assumption))]; exact hT.mono (by walk_at "TAIL")) (by rw [addSignal_dup hv2 (.inl (by with_reducible assumption))]; exact (hR.mono (by walk_at "TAIL")).snoc (by k_dflt k_mem))
end
section
theorem lines_L3f : True := by
  k_with_none
  k_with "shSub" => first | (((with_reducible show wpAny _ _ (subscriptTail _ _ (Value.ref _) (Value.int _ _)) _ _ _))) | fail
  k_with "DIG" => first | (repeat (first | (with_reducible exact And.left) | (with_reducible exact id) | (with_reducible refine digR ?_))) | fail
  k_with "LT9" => first | (first | with_reducible assumption | (refine' ltLt ?h ?d; walk_at "HD")) | fail
  k_with "ALLLT" => first | (first | with_reducible assumption | (refine' allDig ?h ?d; walk_at "HD")) | fail
  k_with "K_NE" => first | ((refine neN ?_; first | with_reducible assumption | (refine Ne.symm ?_; with_reducible assumption) | (refine' neLt ?h ?d; walk_at "HD") | (refine' neGt ?h ?d; walk_at "HD") | (refine' neNe ?h ?d; walk_at "HD") | (refine' neEn ?h ?d; walk_at "HD") | (refine Nat.ne_of_lt ?_; with_reducible assumption) | (refine Nat.ne_of_gt ?_; with_reducible assumption) | ((try dsimp only); omega))) | fail
  k_with "MEM" => first | (first | with_reducible assumption | with_reducible exact List.mem_cons_self | (with_reducible refine List.mem_cons_of_mem _ ?_; walk_at "MEM")) | fail
  k_with "OM" => first | (first | exact dLe (by with_reducible assumption) rfl | exact dL0 (by with_reducible assumption) rfl | exact dLt (by with_reducible assumption) rfl | omega) | fail
  k_with "K_ALL" => first | (first | with_reducible assumption | (refine allLt_ne ?_; walk_at "ALLLT") | (refine off1_ne ?_; walk_at "ALLLT")) | fail
  k_with "TAIL" => first | ((intro p9 hp9; repeat (first | exact hp9 | refine List.mem_cons_of_mem _ ?_))) | fail
  k_with "K_ROOM" => first | (((simp only [depth_mark, depth_under_make, depth_under_kw, depth_in1, depth_deeper, depth_caller, ktrTop, recursionLimit]); walk_at "OM")) | fail
  k_with "K_UNITS" => first | ((have hcL := cLine_is; (simp only [units_in1, units_deeper, Around.mark_units, units_caller, ktrTop]); walk_at "OM")) | fail
  k_with "K_MEM" => first | (((fail_if_success refine' List.Mem.tail _ ?_); (show (_ : Addr × Obj) ∈ (_ : List (Addr × Obj))); with_reducible assumption)) | fail
  k_with "compareOp In str ref" => first | ((k_here; k_dflt (first | (refine' kd_in_some (by (k_asm; done)) (by (k_mem; done)) (by (with_reducible assumption; done)) (by (with_reducible assumption; done)) (by (with_reducible assumption; done)) ?_) | (refine' kd_in_none (by (k_asm; done)) (by (k_mem; done)) (by (with_reducible assumption; done)) (by (with_reducible assumption; done)) (by (with_reducible assumption; done)) ?_)))) | fail
  k_with "compareOp NotIn str ref" => first | ((k_here; k_dflt (first | (refine' kd_nin_some (by (k_asm; done)) (by (k_mem; done)) (by (with_reducible assumption; done)) (by (with_reducible assumption; done)) (by (with_reducible assumption; done)) ?_) | (refine' kd_nin_none (by (k_asm; done)) (by (k_mem; done)) (by (with_reducible assumption; done)) (by (with_reducible assumption; done)) (by (with_reducible assumption; done)) ?_) | (refine' nin2_f (by (k_asm; done)) (by (k_mem; done)) (by (with_reducible assumption; done)) ?_) | (refine' nin2_t (by (k_asm; done)) (by (k_mem; done)) (by (with_reducible assumption; done)) ?_)))) | fail
  k_with "subscriptTail" => first | ((k_here; (with_reducible show wpAny _ _ (subscriptTail _ _ (Value.ref _) (Value.str _ _)) _ _ _); k_dflt (refine' kd_item (by (k_asm; done)) (by (k_mem; done)) (by (with_reducible assumption; done)) (by (with_reducible assumption; done)) ?_ (by (with_unfolding_all rfl; done)) (by (intro _; with_unfolding_all rfl; done))))) | fail
  k_with "setItem ref str" => first | ((k_here; k_dflt (refine' kd_set (by (k_asm; done)) (by (k_asm; done)) (by (k_updF; done)) (by (with_reducible assumption; done)) (by (with_reducible assumption; done)) ?_); (intro h' o' F' N' hd'); (try dsimp only at N'))) | fail
  k_with "getItem ref" => first | ((k_here; (with_reducible show wpAny _ _ (getItem (Value.ref _) (Value.str _ _)) _ _ _); k_dflt (refine' kd_get (by (k_asm; done)) (by (k_mem; done)) (by (with_reducible assumption; done)) (by (with_reducible assumption; done)) ?_))) | fail
  k_with "compareOp NotEq str str" => first | ((k_here; first | (refine ne_str_t (by with_reducible assumption) ?_) | (refine ne_str_f (by with_reducible assumption) ?_))) | fail
  k_with "compareOp Eq str str" => first | ((k_here; first | (refine eq_str_f (by with_reducible assumption) ?_) | (refine eq_str_t (by with_reducible assumption) ?_))) | fail
  k_with "call ref" => first | ((k_here; (with_reducible show wpAny _ _ (call (Value.ref 84) _) _ _ _); k_dflt (refine' add_name_ok (by (k_asm; done)) (by (k_asm; done)) (by (k_asm; done)) (by (first | k_asm | exact newsRot (by k_asm); done)) (by (k_asm; done)) (by (first | rfl | assumption; done)) (by (k_mem; done)) (by (k_mem; done)) (by (k_mem; done)) (by (k_mem; done)) (by (with_reducible assumption; done)) (by (first | with_reducible assumption | exact List.forall_mem_cons.mpr ⟨by (dsimp only; k_ne), by with_reducible assumption⟩; done)) (by (first | with_reducible assumption | exact List.forall_mem_cons.mpr ⟨by (dsimp only; k_ne), by with_reducible assumption⟩; done)) (by (with_reducible assumption; done)) (by (with_reducible assumption; done)) (by (with_reducible assumption; done)) (by (with_reducible assumption; done)) (by (first | with_reducible assumption | exact TabIn.up (by with_reducible assumption); done)) (by (first | with_reducible assumption | exact RowsIn.up (by with_reducible assumption); done)) (by (first | exact InfoIn.neg | exact InfoIn.dirs (by k_mem) (by with_reducible assumption); done)) (by (first | with_reducible assumption | ((simp only [depth_mark, depth_under_make, depth_under_kw, depth_in1, depth_deeper, depth_caller, ktrTop]); walk_at "OM"); done)) (by (first | with_reducible assumption | ((simp only [units_in1, units_deeper, Around.mark_units, units_caller, ktrTop]); walk_at "OM"); done)) ?_); (intro rs' nr' oe' kvs' R' h' toks' F' N' mr' me' hs' hd' hT' hR'))) | fail
  k_with "call ref" => first | ((k_here; (with_reducible show wpAny _ _ (call (Value.ref 91) _) _ _ _); k_dflt (refine' add_port_ok (by (k_asm; done)) (by (k_asm; done)) (by (k_asm; done)) (by (first | k_asm | exact newsRot (by k_asm); done)) (by (k_asm; done)) (by (first | rfl | assumption; done)) (by (k_mem; done)) (by (k_mem; done)) (by (k_mem; done)) (by (k_mem; done)) (by (with_reducible assumption; done)) (by (first | with_reducible assumption | exact List.forall_mem_cons.mpr ⟨by (dsimp only; k_ne), by with_reducible assumption⟩; done)) (by (first | with_reducible assumption | exact List.forall_mem_cons.mpr ⟨by (dsimp only; k_ne), by with_reducible assumption⟩; done)) (by (with_reducible assumption; done)) (by (with_reducible assumption; done)) (by (with_reducible assumption; done)) (by (with_reducible assumption; done)) (by (first | with_reducible assumption | exact TabIn.up (by with_reducible assumption); done)) (by (first | with_reducible assumption | exact RowsIn.up (by with_reducible assumption); done)) (by (with_reducible assumption; done)) (by (first | with_reducible assumption | ((simp only [depth_mark, depth_under_make, depth_under_kw, depth_in1, depth_deeper, depth_caller, ktrTop]); walk_at "OM"); done)) (by (first | with_reducible assumption | ((simp only [units_in1, units_deeper, Around.mark_units, units_caller, ktrTop]); walk_at "OM"); done)) ?_); (intro rs' nr' oe' kvs' R' h' toks' F' N' mr' me' hs' hd' hT' hR'))) | fail
  k_with "call ref" => first | ((k_here; (with_reducible show wpAny _ _ (call (Value.ref 98) _) _ _ _); k_dflt (refine' add_signal_ok (by (k_asm; done)) (by (k_asm; done)) (by (k_asm; done)) (by (first | k_asm | exact newsRot (by k_asm); done)) (by (k_asm; done)) (by (first | rfl | assumption; done)) (by (k_mem; done)) (by (k_mem; done)) (by (k_mem; done)) (by (k_mem; done)) (by (with_reducible assumption; done)) (by (first | with_reducible assumption | exact List.forall_mem_cons.mpr ⟨by (dsimp only; k_ne), by with_reducible assumption⟩; done)) (by (first | with_reducible assumption | exact List.forall_mem_cons.mpr ⟨by (dsimp only; k_ne), by with_reducible assumption⟩; done)) (by (with_reducible assumption; done)) (by (with_reducible assumption; done)) (by (with_reducible assumption; done)) (by (with_reducible assumption; done)) (by (first | with_reducible assumption | exact TabIn.up (by with_reducible assumption); done)) (by (first | with_reducible assumption | exact RowsIn.up (by with_reducible assumption); done)) (by (with_reducible assumption; done)) (by (first | exact Or.inl rfl | exact Or.inr rfl; done)) (by (first | with_reducible assumption | ((simp only [depth_mark, depth_under_make, depth_under_kw, depth_in1, depth_deeper, depth_caller, ktrTop]); walk_at "OM"); done)) (by (first | with_reducible assumption | ((simp only [units_in1, units_deeper, Around.mark_units, units_caller, ktrTop]); walk_at "OM"); done)) ?_); (intro rs' nr' oe' kvs' R' h' toks' F' N' mr' me' hs' hd' hT' hR'))) | fail
  k_with "exec For Name Subscript cons nil" => first | ((k_here; (rename Fr _ _ _ _ => lF'); (with_unfolding_all refine' For_turns lF' ?_; k_whole))) | fail
  k_with "PYITER" => first | ((k_here; (with_reducible show wpAny _ _ (pyIter (Value.ref _)) (fun it s₂ => TurnsAt _ _ _ _ _ _ _ _ _ it s₂) _ _); k_dflt (refine' iter_tupTurns (by (rfl; done)) (by (k_asm; done)) (by (k_asm; done)) (by (k_mem; done)) (by (exact rfl; done)) (by (exact rfl; done)) ?_); (intro I' l1; refine Halt.out ?_))) | fail
  k_with "UnrEndW" => first | ((refine Halt.out ?_)) | fail
  k_with "exec If BoolOp cons nil" => first | (((rename It => it9); refine Halt.out ?_)) | fail
  k_with "call type:tuple" => first | ((k_here; (with_reducible show wpAny _ _ (call (Value.type _) [Value.ref _]) _ _ _); k_dflt (refine' tupleOfL (by (k_asm; done)) (by (k_asm; done)) (by (k_mem; done)) (by (((try simp only [List.length_cons]); omega); done)) ?_); intro D' h' F' N' l1; (replace l1 := allLt_of l1; dsimp only [AllLt] at l1))) | fail
  k_with "exec If Compare cons cons" => first | ((k_here; (with_reducible show wpAny _ _ (exec (Stmt.If (Expr.Compare (Expr.Name _ _) [CmpOp.Eq] [Expr.Constant (Const.str _) _ _] _) _ [_] _) _) _ _ _); k_dflt (refine' if_str_tree (by (k_asm; done)) (by (exact rfl; done)) (fun ht9 tk9 => Halt.out ?_) (fun ht9 tk9 => ?_) (by rfl) (by rfl) (by decide)))) | fail
  k_with "exec If Compare cons cons" => first | ((k_here; (with_reducible show wpAny _ _ (exec (Stmt.If (Expr.Compare (Expr.Name _ _) [CmpOp.Eq] [Expr.Constant (Const.str _) _ _] _) _ _ _) _) _ _ _); k_dflt (refine' if_str_no (by (k_asm; done)) (by (exact rfl; done)) (by (decide +kernel; done)) ?_))) | fail
  k_with "exec If Compare cons cons" => first | ((k_here; (with_reducible show wpAny _ _ (exec (Stmt.If (Expr.Compare (Expr.Name _ _) [CmpOp.Eq] [Expr.Constant (Const.str _) _ _] _) _ _ _) _) _ _ _); k_dflt (refine' if_str (by (k_asm; done)) (by (exact rfl; done)) (by (exact rfl; done)) ?_))) | fail
  k_with "subscriptTail Name Constant ref int" => first | ((k_here; walk_at "shSub"; k_dflt (first | (refine' item_tup0 (by (k_asm; done)) (by (k_mem; done)) (by (exact rfl; done)) (by (decide; done)) (by (decide; done)) ?_ (by (with_unfolding_all rfl; done))) | (refine' item_lst0 (by (k_asm; done)) (by (k_mem; done)) (by (exact rfl; done)) (by (decide; done)) (by (decide; done)) ?_ (by (with_unfolding_all rfl; done)))))) | fail
  k_with "subscriptTail Subscript Name Constant Constant ref int" => first | ((k_here; walk_at "shSub"; k_dflt (first | (refine' item_tup0 (by (k_asm; done)) (by (k_mem; done)) (by (exact rfl; done)) (by (decide; done)) (by (decide; done)) ?_ (by (with_unfolding_all rfl; done))) | (refine' item_lst0 (by (k_asm; done)) (by (k_mem; done)) (by (exact rfl; done)) (by (decide; done)) (by (decide; done)) ?_ (by (with_unfolding_all rfl; done)))))) | fail
  k_with "callWith builtin:list.append cons nil" => first | ((refine callWith_method1 ?_)) | fail
  k_with "execs nil" => first | ((with_reducible refine wpAny_execs_nil ?_)) | fail
  k_with "EC" => first | (first | k_fold | k_gentoks | (with_reducible refine wpAny_execs_cons ?_; try dsimp only)) | fail
  k_with "execs cons If nil" => first | (walk_at "EC") | fail
  k_with "execs cons If cons" => first | (walk_at "EC") | fail
  k_with "execs cons Assign cons" => first | (walk_at "EC") | fail
  k_with "execs cons Assign nil" => first | (walk_at "EC") | fail
  k_with "execs cons Return nil" => first | (walk_at "EC") | fail
  k_with "execs cons Return cons" => first | (walk_at "EC") | fail
  k_with "execs cons Expr nil" => first | (walk_at "EC") | fail
  k_with "execs cons Expr cons" => first | (walk_at "EC") | fail
  k_with "exec If Compare cons nil" => first | ((with_reducible refine wpAny_If ?_)) | fail
  k_with "spliced" => first | ((k_here; with_reducible first | refine args_cs ?_ | refine args_cn ?_ | refine args_ci ?_ | refine args_cb ?_)) | fail
  k_with "spliced" => first | ((k_here; (with_reducible show wpAny _ _ (spliced (backTo _ (starEach (Expr.Name _ _ :: _) _))) _ _ _); k_dflt (refine' args_nm (by (k_asm; done)) (by (exact rfl; done)) ?_ (by rfl) (by rfl) (by decide)))) | fail
  trivial
/-- the state of a report and a table through one call -/
noncomputable def declare (st : St) (it : It) (inR : Bool) : St := match it with
  | .port i d n => addPort st n i d inR
  | .net i n => addSignal st n (Str.ofString "net") i inR
  | .var i n => addSignal st n (Str.ofString "var") i inR
  | .ev false i n => addName st n (Str.ofString "event") i .neg
  | .ev true i n => addName st n (Str.ofString "genvar") i .neg
  | .param i n => addName st n (Str.ofString "param") i .neg
  | .rout i k n ds => addName st n k i (.dirs ds)
  | .inst i (some n) => addName st n (Str.ofString "instance") i .neg
  | .gate i (some n) => addName st n (Str.ofString "instance") i .neg
  | _ => st

theorem allLt_of_mem {d : Addr} : ∀ {l : List (Addr × Obj)}, (∀ p ∈ l, @LT.lt Nat _ p.1 d) → AllLt d l
  | [], _ => trivial
  | p :: _, h => ⟨h p List.mem_cons_self, allLt_of_mem fun q hq => h q (List.mem_cons_of_mem _ hq)⟩
theorem allLt_mem {d : Addr} : ∀ {l : List (Addr × Obj)}, AllLt d l → ∀ p ∈ l, @LT.lt Nat _ p.1 d
  | [], _, _, h => nomatch h
  | q :: r, ⟨h1, h2⟩, p, h => by
    rcases List.mem_cons.mp h with rfl | h
    · exact h1
    · exact allLt_mem h2 p h
theorem if_str_tree {prog : Program} {w : World} {A : Around} {E : Value → Shared → Prop} {s : Shared} {h₀ : Heap} {L : Addr} {m : Str → Option Value} {nm : Str} {sc : Scope} {fa : Addr} {cd : Value} {x c : Str} {t : Str} {k0 : Tok} {kk : Nat} {p1 p2 p3 pos : Pos} {body : List Stmt} {st2 : Stmt} {Q : Flow → Shared → Prop} {hp : Heap} {tk0 : Nat}
    (F : Fr h₀ L hp m) (hv : m x = some (.str t k0)) (hy : t = c → ∀ tk, wpAny (model prog w) A (execs body (envOf nm sc L fa cd)) Q E { s with heap := hp, toks := tk }) (hn : t ≠ c → ∀ tk, wpAny (model prog w) A (exec st2 (envOf nm sc L fa cd)) Q E { s with heap := hp, toks := tk })
    (hk : sc.kind = .function) (hl : (envOf nm sc L fa cd).kindOf x = some .local) (hd : (x == ("__debug__" : Str)) = false) :
    wpAny (model prog w) A (exec (.If (.Compare (.Name x p1) [.Eq] [.Constant (.str c) kk p2] p3) body [st2] pos) (envOf nm sc L fa cd)) Q E { s with heap := hp, toks := tk0 } := by
  by_cases hx : t = c
  · exact if_str F hv hx (hy hx _) hk hl hd
  · refine if_str_no F hv hx ?_ hk hl hd
    refine wpAny_execs_cons (wpAny_mono (hn hx _) (fun f s' hp => ?_) fun _ _ e => e)
    cases f with
    | next => exact wpAny_execs_nil hp
    | ret v => exact hp
    | brk => exact hp
    | cont => exact hp
theorem ItIn.param_inv {R : List (Addr × Obj)} {a : Addr} {it : It} (h : ItIn R (.ref a) it) (ht : it.tag = Str.ofString "param") : ∃ i n t1 t2 t3 x2 x3 x4 x6, it = .param i n ∧ (a, tup [.str (Str.ofString "param") t1, .int i t2, x2, x3, x4, .str n t3, x6]) ∈ R := by
  cases h <;> first | exact ⟨_, _, _, _, _, _, _, _, _, rfl, by assumption⟩ | exact absurd ht (by simp only [It.tag]; decide)
theorem ItIn.port_inv {R : List (Addr × Obj)} {a : Addr} {it : It} (h : ItIn R (.ref a) it) (ht : it.tag = Str.ofString "port") : ∃ i d n t1 t2 t3 t4 x3 x4, it = .port i d n ∧ (a, tup [.str (Str.ofString "port") t1, .int i t2, .str d t3, x3, x4, .str n t4]) ∈ R := by
  cases h <;> first | exact ⟨_, _, _, _, _, _, _, _, _, rfl, by assumption⟩ | exact absurd ht (by simp only [It.tag]; decide)
theorem ItIn.net_inv {R : List (Addr × Obj)} {a : Addr} {it : It} (h : ItIn R (.ref a) it) (ht : it.tag = Str.ofString "net") : ∃ i n t1 t2 t3 x2 x3 x4 x5 x7 x8 x9, it = .net i n ∧ (a, tup [.str (Str.ofString "net") t1, .int i t2, x2, x3, x4, x5, .str n t3, x7, x8, x9]) ∈ R := by
  cases h <;> first | exact ⟨_, _, _, _, _, _, _, _, _, _, _, _, rfl, by assumption⟩ | exact absurd ht (by simp only [It.tag]; decide)
theorem ItIn.var_inv {R : List (Addr × Obj)} {a : Addr} {it : It} (h : ItIn R (.ref a) it) (ht : it.tag = Str.ofString "var") : ∃ i n t1 t2 t3 x2 x3 x4 x6 x7, it = .var i n ∧ (a, tup [.str (Str.ofString "var") t1, .int i t2, x2, x3, x4, .str n t3, x6, x7]) ∈ R := by
  cases h <;> first | exact ⟨_, _, _, _, _, _, _, _, _, _, rfl, by assumption⟩ | exact absurd ht (by simp only [It.tag]; decide)
theorem ItIn.event_inv {R : List (Addr × Obj)} {a : Addr} {it : It} (h : ItIn R (.ref a) it) (ht : it.tag = Str.ofString "event") : ∃ i n t1 t2 t3, it = .ev false i n ∧ (a, tup [.str (Str.ofString "event") t1, .int i t2, .str n t3]) ∈ R := by
  cases h <;> first | exact ⟨_, _, _, _, _, rfl, by assumption⟩ | exact absurd ht (by simp only [It.tag]; decide)
theorem ItIn.genvar_inv {R : List (Addr × Obj)} {a : Addr} {it : It} (h : ItIn R (.ref a) it) (ht : it.tag = Str.ofString "genvar") : ∃ i n t1 t2 t3, it = .ev true i n ∧ (a, tup [.str (Str.ofString "genvar") t1, .int i t2, .str n t3]) ∈ R := by
  cases h <;> first | exact ⟨_, _, _, _, _, rfl, by assumption⟩ | exact absurd ht (by simp only [It.tag]; decide)
theorem ItIn.rout_inv {R : List (Addr × Obj)} {a : Addr} {it : It} (h : ItIn R (.ref a) it) (ht : it.tag = Str.ofString "routine") : ∃ i k n ds d b ws t1 t2 t3 t4 t5 x3 x4 x5 x8 y1 y2 y3 y4 y5 y6 y7, it = .rout i k n ds ∧ (a, tup [.str (Str.ofString "routine") t1, .int i t2, .str k t3, x3, x4, x5, .str n t4, .ref d, x8]) ∈ R ∧
    (d, tup (.ref b :: ws)) ∈ R ∧ (b, tup [.str (Str.ofString "var") t5, y1, y2, y3, y4, y5, y6, y7]) ∈ R ∧ PortsIn R ws ds ∧ ds.length ≤ 3 := by
  cases h <;> first | exact ⟨_, _, _, _, _, _, _, _, _, _, _, _, _, _, _, _, _, _, _, _, _, _, _, rfl, by assumption, by assumption, by assumption, by assumption, by assumption⟩ | exact absurd ht (by simp only [It.tag]; decide)
theorem ItIn.last_inv {R : List (Addr × Obj)} {a : Addr} {it : It} (h : ItIn R (.ref a) it) (h1 : it.tag ≠ Str.ofString "param") (h2 : it.tag ≠ Str.ofString "port") (h3 : it.tag ≠ Str.ofString "net") (h4 : it.tag ≠ Str.ofString "var") (h5 : it.tag ≠ Str.ofString "event") (h6 : it.tag ≠ Str.ofString "genvar") (h7 : it.tag ≠ Str.ofString "routine") :
    (∃ i g t1 t2 t3 x2 x3 x5 x6, it = .inst i g ∧ (a, tup [.str (Str.ofString "inst") t1, .int i t2, x2, x3, givenV t3 g, x5, x6]) ∈ R) ∨ (∃ i g t1 t2 t3 x2 x3 x4 x6 x7, it = .gate i g ∧ (a, tup [.str (Str.ofString "gate") t1, .int i t2, x2, x3, x4, givenV t3 g, x6, x7]) ∈ R) ∨ ∃ i, it = .cas i := by
  cases h with
  | inst h => exact .inl ⟨_, _, _, _, _, _, _, _, _, rfl, h⟩
  | gate h => exact .inr (.inl ⟨_, _, _, _, _, _, _, _, _, _, rfl, h⟩)
  | cas h => exact .inr (.inr ⟨_, rfl⟩)
  | param h => exact absurd rfl h1
  | port h => exact absurd rfl h2
  | net h => exact absurd rfl h3
  | var h => exact absurd rfl h4
  | event h => exact absurd rfl h5
  | genvar h => exact absurd rfl h6
  | rout _ _ _ _ _ => exact absurd rfl h7
theorem lastTags (i : Int) (g : Option Str) : ((It.inst i g).tag = Str.ofString "inst" ∧ (It.inst i g).tag ≠ Str.ofString "gate") ∧ (It.gate i g).tag = Str.ofString "gate" ∧ (It.gate i g).tag ≠ Str.ofString "inst" ∧ (It.cas i).tag ≠ Str.ofString "gate" ∧ (It.cas i).tag ≠ Str.ofString "inst" :=
  ⟨⟨rfl, by simp only [It.tag]; decide⟩, rfl, by simp only [It.tag]; decide, by simp only [It.tag]; decide, by simp only [It.tag]; decide⟩
theorem StrV.snoc {vs : List Value} {xs : List Str} {x : Str} {t : Tok} (h : StrV vs xs) : StrV (vs ++ [.str x t]) (xs ++ [x]) := by
  induction h with
  | nil => exact .cons .nil
  | cons _ ih => exact .cons ih
theorem StrV.len {vs : List Value} {xs : List Str} (h : StrV vs xs) : vs.length = xs.length := by
  induction h with
  | nil => rfl
  | cons _ ih => exact congrArg Nat.succ ih
theorem newsRot {h₀ h : Heap} {L : Addr} {x d b c : Addr × Obj} {r : List (Addr × Obj)} (N : News h₀ L h (x :: d :: b :: c :: r)) : News h₀ L h (b :: c :: x :: r) := by
  intro p hp
  refine N p ?_
  simp only [List.mem_cons] at hp ⊢
  rcases hp with h | h | h | h <;> simp [h]
theorem TabIn.up {R : List (Addr × Obj)} {x : Addr × Obj} {kvs : List (Str × Value)} {tab : List (Str × Ent)} (h : TabIn R kvs tab) : TabIn (x :: R) kvs tab := h.mono fun _ h => List.mem_cons_of_mem _ h
theorem RowsIn.up {R : List (Addr × Obj)} {x : Addr × Obj} {rs : List Value} {rows : List Row} (h : RowsIn R rs rows) : RowsIn (x :: R) rs rows := h.mono fun _ h => List.mem_cons_of_mem _ h
/-- directions of a routine's ports: the loop -/
def KJ (D rl en a9 rep tb : Addr) (rs : List Value) (nr : Nat) (oe : Obj) (rest : List (Addr × Obj)) (ds : List Str) (ati : Int) (ta : Tok) (i : Nat) (m : Str → Option Value) (nx : List (Addr × Obj)) : Prop :=
  ∃ us n, nx = (D, listOf (us : List Value).toArray n) :: (rl, listOf rs.toArray nr) :: (en, oe) :: rest ∧ StrV us (ds.take (i - 1)) ∧ m (Str.ofString "directions") = some (.ref D) ∧ m (Str.ofString "report") = some (.ref rep) ∧ m (Str.ofString "table") = some (.ref tb) ∧ m (Str.ofString "item") = some (.ref a9) ∧ m (Str.ofString "at") = some (.int ati ta)
theorem items_dirs {prog : Program} {w : World} {A : Around} {E : Value → Shared → Prop} {s : Shared} {env : Env} {h₀ : Heap} {target : Expr} {body : List Stmt} {Q : Flow → Shared → Prop} {I rl en a9 rep tb : Addr} {rs : List Value} {nr : Nat} {oe : Obj} {rest : List (Addr × Obj)} {ds : List Str} {ati : Int} {ta : Tok} {c : String} {keep : List (Addr × Obj)} {xs : List Value} {m₀ : Str → Option Value} {news₀ : List (Addr × Obj)}
    (h0 : ∃ D, @Ne Nat D I ∧ @Ne Nat rl D ∧ @Ne Nat en D ∧ (∀ p ∈ rest, p.1 ≠ D) ∧ KJ D rl en a9 rep tb rs nr oe rest ds ati ta 0 m₀ news₀)
    (turn : ∀ D, @Ne Nat D I → @Ne Nat rl D → @Ne Nat en D → (∀ p ∈ rest, p.1 ≠ D) → ∀ i v m news h tk o, xs[i]? = some v → KJ D rl en a9 rep tb rs nr oe rest ds ati ta i m news → o.cls = .type c → Fr h₀ env.locals h m → News h₀ env.locals h ((I, o) :: news) →
      wpAny (model prog w) A (assign target env v) (fun _ s₂ => wpAny (model prog w) A (execs body env) (UnrPostW h₀ env.locals { s with heap := h, toks := tk } [(I, o)] (fun m' n' => SubL keep n' ∧ KJ D rl en a9 rep tb rs nr oe rest ds ati ta (i + 1) m' n') Q) E s₂) E { s with heap := h, toks := tk })
    (done : ∀ D, @Ne Nat rl D → @Ne Nat en D → ∀ m news h tk, KJ D rl en a9 rep tb rs nr oe rest ds ati ta xs.length m news → Fr h₀ env.locals h m → News h₀ env.locals h news → Q .next { s with heap := h, toks := tk }) :
    ItemsRest prog w A E h₀ env target body Q s [(I, c)] keep (xs.map .val) m₀ news₀ := by
  obtain ⟨D, i1, i2, i3, i4, h⟩ := h0
  exact items_ind _ h (turn D i1 i2 i3 i4) (done D i2 i3)
theorem take_snoc {ds : List Str} {d : Str} {j : Nat} (h : ds[j]? = some d) : ds.take j ++ [d] = ds.take (j + 1) := by
  rw [List.take_add_one, h]; rfl
theorem kj_end {g h' : Heap} {L I D rl en a9 rep tb : Addr} {m' : Str → Option Value} {rs us : List Value} {nr n i : Nat} {oe oI : Obj} {rest all : List (Addr × Obj)} {kp : Addr × Obj} {ds : List Str} {ati : Int} {ta : Tok} {s₁ : Shared} {tk : Nat}
    (F : Fr g L h' m') (N : News g L h' all) (mI : (I, oI) ∈ all) (mD : (D, listOf us.toArray n) ∈ all) (ml : (rl, listOf rs.toArray nr) ∈ all) (me : (en, oe) ∈ all) (sR : ∀ p ∈ rest, p ∈ all) (k : kp ∈ rest) (i1 : @Ne Nat D I) (i2 : @Ne Nat rl I) (i3 : @Ne Nat en I) (i4 : ∀ p ∈ rest, p.1 ≠ I)
    (hs : StrV us (ds.take i)) (f1 : m' (Str.ofString "directions") = some (.ref D)) (f2 : m' (Str.ofString "report") = some (.ref rep)) (f3 : m' (Str.ofString "table") = some (.ref tb)) (f4 : m' (Str.ofString "item") = some (.ref a9)) (f5 : m' (Str.ofString "at") = some (.int ati ta)) :
    UnrEndW g L s₁ [(I, oI)] (fun m' n' => SubL [kp] n' ∧ KJ D rl en a9 rep tb rs nr oe rest ds ati ta (i + 1) m' n') { s₁ with heap := h', toks := tk } := by
  refine ⟨h', tk, m', (D, listOf us.toArray n) :: (rl, listOf rs.toArray nr) :: (en, oe) :: rest, rfl, F, ?_, ?_, ?_, us, n, rfl, hs, f1, f2, f3, f4, f5⟩
  · exact List.forall_mem_cons.mpr ⟨N _ mI, List.forall_mem_cons.mpr ⟨N _ mD, List.forall_mem_cons.mpr ⟨N _ ml, List.forall_mem_cons.mpr ⟨N _ me, fun p hp => N p (sR p hp)⟩⟩⟩⟩
  · intro p hp q hq
    rw [List.mem_singleton.mp hq]
    rcases List.mem_cons.mp hp with rfl | hp
    · exact i1
    · rcases List.mem_cons.mp hp with rfl | hp
      · exact i2
      · rcases List.mem_cons.mp hp with rfl | hp
        · exact i3
        · exact i4 p hp
  · exact ⟨List.mem_cons_of_mem _ (List.mem_cons_of_mem _ (List.mem_cons_of_mem _ k)), trivial⟩





set_option maxRecDepth 100000 in
set_option maxHeartbeats 8000000 in
theorem declare_ok {w : World} {p : Program} {loose : List Str} {mean : ExcName → Option Value} {mg mb : Str → Option Value}
    {dp un : Nat} {gd : Option (List Code)} {cn : Str} {cs : Scope} {a : Addr} {ccd : Value} {cl : List (Str × Addr)} {outer : List Env} {A₀ : Around} {base h₀ : Heap} {L : Addr} {m : Str → Option Value} {s : Shared}
    {Q E : Value → Shared → Prop} {rep repd rl tb tbd en : Addr} {t1 t2 t3 u1 u2 : Tok} {nv tv pv : Value} {nn mm nr : Nat} {rs : List Value} {oe : Obj} {kvs : List (Str × Value)} {tab : List (Str × Ent)} {rows : List Row} {rest : List (Addr × Obj)}
    {it : It} {itv : Value} {inR : Bool}
    (B : Below A₀ base outer h₀) (F : Fr h₀ L s.heap m) (X : (Mine.hdE.heap_1_1 w.params).In h₀)
    (N : News h₀ L s.heap ((rl, listOf rs.toArray nr) :: (en, oe) :: rest)) (T : Top p loose mean mg mb h₀) (hk : cs.kind = .function)
    (m1 : (rep, instObj 38 repd) ∈ rest) (m2 : (repd, repDict w t1 t2 t3 nv tv rl nn) ∈ rest) (m3 : (tb, instObj 59 tbd) ∈ rest) (m4 : (tbd, tabDict w u1 u2 pv en mm) ∈ rest) (hne : @Ne Nat en rl)
    (hr1 : ∀ p ∈ rest, p.1 ≠ rl) (hr2 : ∀ p ∈ rest, p.1 ≠ en) (hlo : (en == sysModules) = false) (hD : oe.IsDictOf (PySem.strKind PySem.Challenge.rw_sj0028_01.row.prog w) kvs) (hz : kvs.length ≤ 1000) (hzr : rs.length ≤ 1000)
    (hT : TabIn rest kvs tab) (hR : RowsIn rest rs rows) (hO : TabOk tab) (hit : ItIn rest itv it) (hd : dp ≤ 390) (hu : un ≤ 390)
    (hret : ∀ rs' nr' oe' kvs' R h' toks', Fr h₀ L h' m → News h₀ L h' R → (rl, listOf (rs' : List Value).toArray nr') ∈ R → (en, oe') ∈ R → (∀ p ∈ rest, p ∈ R) → oe'.IsDictOf (PySem.strKind PySem.Challenge.rw_sj0028_01.row.prog w) kvs' →
      TabIn R kvs' (declare (rows, tab) it inR).2 → RowsIn R rs' (declare (rows, tab) it inR).1 → Q .none { s with heap := h', toks := toks' }) :
    wpAny (model PySem.Challenge.rw_sj0028_01.row.prog w) (ktrTop dp un gd cn cs L a ccd cl outer) (call (.ref 105) [.ref rep, .ref tb, itv, .bool inR]) Q E s := by
  w_top off
  revert X
  k_fill
  intro X
  k_sweep
  refine Cut.out ?_
  intro G9 hG9
  obtain ⟨a9, t9, t9b, xs9, rfl, hm9⟩ := hit.second
  refine hG9 ?_
  clear hG9
  refine wpAny_call ?_
  k_dflt ktr_enter
  k_steps
  · unfold Halt
    k_sweep
    refine Cut.out ?_
    intro G9 hG9
    obtain ⟨i, n, t1, t2, t3, x2, x3, x4, x6, rfl, hm⟩ := hit.param_inv (by with_reducible assumption)
    refine hG9 ?_
    clear hG9
    clear hit hm9
    k_steps
    all_goals (exact hret _ _ _ _ _ _ _ (by k_asm) (by k_asm) (by with_reducible assumption) (by with_reducible assumption) (fun p hp => (by with_reducible assumption : ∀ p ∈ _, p ∈ _) p hp) (by with_reducible assumption) (by assumption) (by assumption))
  · unfold Halt
    k_sweep
    refine Cut.out ?_
    intro G9 hG9
    obtain ⟨i, d, n, t1, t2, t3, t4, x3, x4, rfl, hm⟩ := hit.port_inv (by with_reducible assumption)
    refine hG9 ?_
    clear hG9
    clear hit hm9
    k_steps
    all_goals (exact hret _ _ _ _ _ _ _ (by k_asm) (by k_asm) (by with_reducible assumption) (by with_reducible assumption) (fun p hp => (by with_reducible assumption : ∀ p ∈ _, p ∈ _) p hp) (by with_reducible assumption) (by assumption) (by assumption))
  · unfold Halt
    k_sweep
    refine Cut.out ?_
    intro G9 hG9
    obtain ⟨i, n, t1, t2, t3, x2, x3, x4, x5, x7, x8, x9, rfl, hm⟩ := hit.net_inv (by with_reducible assumption)
    refine hG9 ?_
    clear hG9
    clear hit hm9
    k_steps
    all_goals (exact hret _ _ _ _ _ _ _ (by k_asm) (by k_asm) (by with_reducible assumption) (by with_reducible assumption) (fun p hp => (by with_reducible assumption : ∀ p ∈ _, p ∈ _) p hp) (by with_reducible assumption) (by assumption) (by assumption))
  · unfold Halt
    k_sweep
    refine Cut.out ?_
    intro G9 hG9
    obtain ⟨i, n, t1, t2, t3, x2, x3, x4, x6, x7, rfl, hm⟩ := hit.var_inv (by with_reducible assumption)
    refine hG9 ?_
    clear hG9
    clear hit hm9
    k_steps
    all_goals (exact hret _ _ _ _ _ _ _ (by k_asm) (by k_asm) (by with_reducible assumption) (by with_reducible assumption) (fun p hp => (by with_reducible assumption : ∀ p ∈ _, p ∈ _) p hp) (by with_reducible assumption) (by assumption) (by assumption))
  · unfold Halt
    k_sweep
    refine Cut.out ?_
    intro G9 hG9
    obtain ⟨i, n, t1, t2, t3, rfl, hm⟩ := hit.event_inv (by with_reducible assumption)
    refine hG9 ?_
    clear hG9
    clear hit hm9
    k_steps
    all_goals (exact hret _ _ _ _ _ _ _ (by k_asm) (by k_asm) (by with_reducible assumption) (by with_reducible assumption) (fun p hp => (by with_reducible assumption : ∀ p ∈ _, p ∈ _) p hp) (by with_reducible assumption) (by assumption) (by assumption))
  · unfold Halt
    k_sweep
    refine Cut.out ?_
    intro G9 hG9
    obtain ⟨i, n, t1, t2, t3, rfl, hm⟩ := hit.genvar_inv (by with_reducible assumption)
    refine hG9 ?_
    clear hG9
    clear hit hm9
    k_steps
    all_goals (exact hret _ _ _ _ _ _ _ (by k_asm) (by k_asm) (by with_reducible assumption) (by with_reducible assumption) (fun p hp => (by with_reducible assumption : ∀ p ∈ _, p ∈ _) p hp) (by with_reducible assumption) (by assumption) (by assumption))
  · unfold Halt
    k_sweep
    refine Cut.out ?_
    intro G9 hG9
    obtain ⟨i, k, n, ds, d, b, ws, t1, t2, t3, t4, t5, x3, x4, x5, x8, y1, y2, y3, y4, y5, y6, y7, rfl, hm, hmd, hmb, hp, hds⟩ := hit.rout_inv (by with_reducible assumption)
    refine hG9 ?_
    clear hG9
    clear hit hm9
    k_steps
    unfold Halt
    have l9 := l1
    refine items_dirs (rl := rl) (en := en) (a9 := a9) (rep := rep) (tb := tb) (rs := rs) (nr := nr) (oe := oe) (rest := rest) (ds := ds) (ati := i) (ta := t9b) ?h0 ?turn ?done
    case h0 =>
      exact ⟨_, Nat.ne_of_lt (l9 _ List.mem_cons_self), (by k_ne), (by k_ne), allLt_ne (by walk_at "ALLLT"), [], _, rfl, .nil, by with_unfolding_all rfl, by with_unfolding_all rfl, by with_unfolding_all rfl, by with_unfolding_all rfl, by with_unfolding_all rfl⟩
    case done =>
      clear l9
      intro D j2 j3 m₁ nx h tk hJ F8 N8
      k_sweep
      refine Cut.out ?_
      intro G9 hG9
      obtain ⟨us, nu, rfl, hsv, f1, f2, f3, f4, f5⟩ := hJ
      refine hG9 ?_
      clear hG9
      rw [show ds.take ((Value.ref b :: ws).length - 1) = ds by rw [List.length_cons, Nat.add_sub_cancel, hp.len, List.take_length]] at hsv
      have Fm := Fr.five F8 f1 f2 f3 f4 f5
      have hul : us.length ≤ 100 := by rw [hsv.len]; omega
      clear F8 F N
      k_steps
      all_goals (exact hret _ _ _ _ _ _ _ (by k_asm) (by k_asm) (by with_reducible assumption) (by with_reducible assumption) (fun p hp => (by with_reducible assumption : ∀ p ∈ _ :: rest, p ∈ _) p (List.mem_cons_of_mem _ hp)) (by with_reducible assumption) (by assumption) (by assumption))
    case turn =>
      have k1 : @Ne Nat rl _ := Nat.ne_of_lt (l9 _ (List.mem_cons_of_mem _ List.mem_cons_self))
      have k2 : @Ne Nat en _ := Nat.ne_of_lt (l9 _ (List.mem_cons_of_mem _ (List.mem_cons_of_mem _ List.mem_cons_self)))
      have k3 := fun p (hp : p ∈ rest) => Nat.ne_of_lt (l9 p (List.mem_cons_of_mem _ (List.mem_cons_of_mem _ (List.mem_cons_of_mem _ hp))))
      clear l9
      intro D j1 j2 j3 j4 i9 v m₁ nx h tk o hv hJ hc F8 N8
      k_sweep
      refine Cut.out ?_
      intro G9 hG9
      obtain ⟨us, nu, rfl, hsv, f1, f2, f3, f4, f5⟩ := hJ
      refine hG9 ?_
      clear hG9
      have Fm := Fr.five F8 f1 f2 f3 f4 f5
      have hul : us.length ≤ 100 := by rw [hsv.len, List.length_take]; omega
      clear F8 F N
      cases i9 with
      | zero =>
        cases hv
        k_steps
        unfold Halt
        exact kj_end (by k_asm) (by k_asm) (by k_mem) (by k_mem) (by k_mem) (by k_mem) (by walk_at "TAIL") hmd j1 k1 k2 k3 hsv (by with_unfolding_all rfl) (by with_unfolding_all rfl) (by with_unfolding_all rfl) (by with_unfolding_all rfl) (by with_unfolding_all rfl)
      | succ j =>
        k_sweep
        refine Cut.out ?_
        intro G9 hG9
        obtain ⟨b8, d8, t8, t8b, z2, z4, z5, z6, rfl, hd8, hm8⟩ := hp.get hv
        refine hG9 ?_
        clear hG9
        k_steps
        unfold Halt
        (rename News _ _ _ _ => hN9)
        simp only [List.push_toArray] at hN9
        exact kj_end (by k_asm) (by k_asm) (by k_mem) (by k_mem) (by k_mem) (by k_mem) (by walk_at "TAIL") hmd j1 k1 k2 k3 (by rw [← take_snoc hd8]; exact hsv.snoc) (by with_unfolding_all rfl) (by with_unfolding_all rfl) (by with_unfolding_all rfl) (by with_unfolding_all rfl) (by with_unfolding_all rfl)
  · unfold Halt
    have hl := hit.last_inv (by with_reducible assumption) (by with_reducible assumption) (by with_reducible assumption) (by with_reducible assumption) (by with_reducible assumption) (by with_reducible assumption) (by with_reducible assumption)
    clear hit
    rcases hl with ⟨i, g, t1, t2, t3, x2, x3, x5, x6, rfl, hm⟩ | ⟨i, g, t1, t2, t3, x2, x3, x4, x6, x7, rfl, hm⟩ | ⟨i, rfl⟩
    · obtain ⟨⟨g1, g2⟩, -⟩ := lastTags i g
      clear hm9
      cases g
      all_goals (dsimp only [givenV] at hm)
      all_goals k_steps
      · exact hret rs nr oe kvs _ _ _ (by k_asm) (by k_asm) (by k_mem) (by k_mem) (by walk_at "TAIL") hD (hT.mono (by walk_at "TAIL")) (hR.mono (by walk_at "TAIL"))
      · exact hret _ _ _ _ _ _ _ (by k_asm) (by k_asm) (by with_reducible assumption) (by with_reducible assumption) (fun p hp => (by with_reducible assumption : ∀ p ∈ _, p ∈ _) p hp) (by with_reducible assumption) (by assumption) (by assumption)
    · obtain ⟨-, g1, g2, -⟩ := lastTags i g
      clear hm9
      cases g
      all_goals (dsimp only [givenV] at hm)
      all_goals k_steps
      · exact hret rs nr oe kvs _ _ _ (by k_asm) (by k_asm) (by k_mem) (by k_mem) (by walk_at "TAIL") hD (hT.mono (by walk_at "TAIL")) (hR.mono (by walk_at "TAIL"))
      · exact hret _ _ _ _ _ _ _ (by k_asm) (by k_asm) (by with_reducible assumption) (by with_reducible assumption) (fun p hp => (by with_reducible assumption : ∀ p ∈ _, p ∈ _) p hp) (by with_reducible assumption) (by assumption) (by assumption)
    · obtain ⟨-, -, -, g1, g2⟩ := lastTags i none
      k_steps
      exact hret rs nr oe kvs _ _ _ (by k_asm) (by k_asm) (by k_mem) (by k_mem) (by walk_at "TAIL") hD (hT.mono (by walk_at "TAIL")) (hR.mono (by walk_at "TAIL"))
end
section
theorem lines_L5 : True := by
  k_with_none
  k_with "shSub" => first | (((with_reducible show wpAny _ _ (subscriptTail _ _ (Value.ref _) (Value.int _ _)) _ _ _))) | fail
  k_with "DIG" => first | (repeat (first | (with_reducible exact And.left) | (with_reducible exact id) | (with_reducible refine digR ?_))) | fail
  k_with "LT9" => first | (first | with_reducible assumption | (refine' ltLt ?h ?d; walk_at "HD")) | fail
  k_with "ALLLT" => first | (first | with_reducible assumption | (refine' allDig ?h ?d; walk_at "HD")) | fail
  k_with "K_NE" => first | ((refine neN ?_; first | with_reducible assumption | (refine Ne.symm ?_; with_reducible assumption) | (refine' neLt ?h ?d; walk_at "HD") | (refine' neGt ?h ?d; walk_at "HD") | (refine' neNe ?h ?d; walk_at "HD") | (refine' neEn ?h ?d; walk_at "HD") | (refine Nat.ne_of_lt ?_; with_reducible assumption) | (refine Nat.ne_of_gt ?_; with_reducible assumption) | ((try dsimp only); omega))) | fail
  k_with "MEM" => first | (first | with_reducible assumption | with_reducible exact List.mem_cons_self | (with_reducible refine List.mem_cons_of_mem _ ?_; walk_at "MEM")) | fail
  k_with "OM" => first | (first | exact dLe (by with_reducible assumption) rfl | exact dL0 (by with_reducible assumption) rfl | exact dLt (by with_reducible assumption) rfl | omega) | fail
  k_with "K_ALL" => first | (first | with_reducible assumption | (refine allLt_ne ?_; walk_at "ALLLT") | (refine off1_ne ?_; walk_at "ALLLT")) | fail
  k_with "TAIL" => first | ((intro p9 hp9; repeat (first | exact hp9 | refine List.mem_cons_of_mem _ ?_))) | fail
  k_with "K_ROOM" => first | (((simp only [depth_mark, depth_under_make, depth_under_kw, depth_in1, depth_deeper, depth_caller, ktrTop, recursionLimit]); walk_at "OM")) | fail
  k_with "K_UNITS" => first | ((have hcL := cLine_is; (simp only [units_in1, units_deeper, Around.mark_units, units_caller, ktrTop]); walk_at "OM")) | fail
  k_with "K_MEM" => first | (((fail_if_success refine' List.Mem.tail _ ?_); (show (_ : Addr × Obj) ∈ (_ : List (Addr × Obj))); with_reducible assumption)) | fail
  k_with "compareOp In str ref" => first | ((k_here; k_dflt (first | (refine' kd_in_some (by (k_asm; done)) (by (k_mem; done)) (by (with_reducible assumption; done)) (by (with_reducible assumption; done)) (by (with_reducible assumption; done)) ?_) | (refine' kd_in_none (by (k_asm; done)) (by (k_mem; done)) (by (with_reducible assumption; done)) (by (with_reducible assumption; done)) (by (with_reducible assumption; done)) ?_)))) | fail
  k_with "compareOp NotIn str ref" => first | ((k_here; k_dflt (first | (refine' kd_nin_some (by (k_asm; done)) (by (k_mem; done)) (by (with_reducible assumption; done)) (by (with_reducible assumption; done)) (by (with_reducible assumption; done)) ?_) | (refine' kd_nin_none (by (k_asm; done)) (by (k_mem; done)) (by (with_reducible assumption; done)) (by (with_reducible assumption; done)) (by (with_reducible assumption; done)) ?_) | (refine' nin2_f (by (k_asm; done)) (by (k_mem; done)) (by (with_reducible assumption; done)) ?_) | (refine' nin2_t (by (k_asm; done)) (by (k_mem; done)) (by (with_reducible assumption; done)) ?_)))) | fail
  k_with "subscriptTail" => first | ((k_here; (with_reducible show wpAny _ _ (subscriptTail _ _ (Value.ref _) (Value.str _ _)) _ _ _); k_dflt (refine' kd_item (by (k_asm; done)) (by (k_mem; done)) (by (with_reducible assumption; done)) (by (with_reducible assumption; done)) ?_ (by (with_unfolding_all rfl; done)) (by (intro _; with_unfolding_all rfl; done))))) | fail
  k_with "setItem ref str" => first | ((k_here; k_dflt (refine' kd_set (by (k_asm; done)) (by (k_asm; done)) (by (k_updF; done)) (by (with_reducible assumption; done)) (by (with_reducible assumption; done)) ?_); (intro h' o' F' N' hd'); (try dsimp only at N'))) | fail
  k_with "getItem ref" => first | ((k_here; (with_reducible show wpAny _ _ (getItem (Value.ref _) (Value.str _ _)) _ _ _); k_dflt (refine' kd_get (by (k_asm; done)) (by (k_mem; done)) (by (with_reducible assumption; done)) (by (with_reducible assumption; done)) ?_))) | fail
  k_with "compareOp NotEq str str" => first | ((k_here; first | (refine ne_str_t (by with_reducible assumption) ?_) | (refine ne_str_f (by with_reducible assumption) ?_))) | fail
  k_with "compareOp Eq str str" => first | ((k_here; first | (refine eq_str_f (by with_reducible assumption) ?_) | (refine eq_str_t (by with_reducible assumption) ?_))) | fail
  k_with "exec If Compare cons cons" => first | ((k_here; (with_reducible show wpAny _ _ (exec (Stmt.If (Expr.Compare (Expr.Name _ _) [CmpOp.Eq] [Expr.Constant (Const.str _) _ _] _) _ _ _) _) _ _ _); k_dflt (refine' if_str_no (by (k_asm; done)) (by (exact rfl; done)) (by (decide +kernel; done)) ?_))) | fail
  k_with "exec If Compare cons cons" => first | ((k_here; (with_reducible show wpAny _ _ (exec (Stmt.If (Expr.Compare (Expr.Name _ _) [CmpOp.Eq] [Expr.Constant (Const.str _) _ _] _) _ _ _) _) _ _ _); k_dflt (refine' if_str (by (k_asm; done)) (by (exact rfl; done)) (by (exact rfl; done)) ?_))) | fail
  k_with "subscriptTail Name Constant ref int" => first | ((k_here; walk_at "shSub"; k_dflt (first | (refine' item_tup0 (by (k_asm; done)) (by (k_mem; done)) (by (exact rfl; done)) (by (decide; done)) (by (decide; done)) ?_ (by (with_unfolding_all rfl; done))) | (refine' item_lst0 (by (k_asm; done)) (by (k_mem; done)) (by (exact rfl; done)) (by (decide; done)) (by (decide; done)) ?_ (by (with_unfolding_all rfl; done)))))) | fail
  k_with "subscriptTail Subscript Name Constant Constant ref int" => first | ((k_here; walk_at "shSub"; k_dflt (first | (refine' item_tup0 (by (k_asm; done)) (by (k_mem; done)) (by (exact rfl; done)) (by (decide; done)) (by (decide; done)) ?_ (by (with_unfolding_all rfl; done))) | (refine' item_lst0 (by (k_asm; done)) (by (k_mem; done)) (by (exact rfl; done)) (by (decide; done)) (by (decide; done)) ?_ (by (with_unfolding_all rfl; done)))))) | fail
  k_with "callWith builtin:list.append cons nil" => first | ((refine callWith_method1 ?_)) | fail
  k_with "execs nil" => first | ((with_reducible refine wpAny_execs_nil ?_)) | fail
  k_with "EC" => first | (first | k_fold | k_gentoks | (with_reducible refine wpAny_execs_cons ?_; try dsimp only)) | fail
  k_with "execs cons If nil" => first | (walk_at "EC") | fail
  k_with "execs cons If cons" => first | (walk_at "EC") | fail
  k_with "execs cons Assign cons" => first | (walk_at "EC") | fail
  k_with "execs cons Assign nil" => first | (walk_at "EC") | fail
  k_with "execs cons Return nil" => first | (walk_at "EC") | fail
  k_with "execs cons Return cons" => first | (walk_at "EC") | fail
  k_with "execs cons Expr nil" => first | (walk_at "EC") | fail
  k_with "execs cons Expr cons" => first | (walk_at "EC") | fail
  k_with "exec If Compare cons nil" => first | ((with_reducible refine wpAny_If ?_)) | fail
  k_with "spliced" => first | ((k_here; with_reducible first | refine args_cs ?_ | refine args_cn ?_ | refine args_ci ?_ | refine args_cb ?_)) | fail
  k_with "spliced" => first | ((k_here; (with_reducible show wpAny _ _ (spliced (backTo _ (starEach (Expr.Name _ _ :: _) _))) _ _ _); k_dflt (refine' args_nm (by (k_asm; done)) (by (exact rfl; done)) ?_ (by rfl) (by rfl) (by decide)))) | fail
  k_with "call builtin:dict.get" => first | ((k_here; k_dflt (refine' kd_getD (by (k_asm; done)) (by (k_mem; done)) (by (k_asm; done)) (by (k_asm; done)) ?_))) | fail
  trivial




theorem ItIn.head {R : List (Addr × Obj)} {v : Value} {it : It} (h : ItIn R v it) : ∃ a t xs, v = .ref a ∧ (a, tup (.str it.tag t :: xs)) ∈ R := by
  cases h with
  | port h => exact ⟨_, _, _, rfl, h⟩
  | net h => exact ⟨_, _, _, rfl, h⟩
  | var h => exact ⟨_, _, _, rfl, h⟩
  | event h => exact ⟨_, _, _, rfl, h⟩
  | genvar h => exact ⟨_, _, _, rfl, h⟩
  | param h => exact ⟨_, _, _, rfl, h⟩
  | rout h => exact ⟨_, _, _, rfl, h⟩
  | inst h => exact ⟨_, _, _, rfl, h⟩
  | gate h => exact ⟨_, _, _, rfl, h⟩
  | cas h => exact ⟨_, _, _, rfl, h⟩
theorem kd_getD {prog : Program} {w : World} {A : Around} {E : Value → Shared → Prop} {s : Shared} {h₀ : Heap} {L d : Addr} {news : List (Addr × Obj)} {o : Obj} {kvs : List (Str × Value)} {k : Str} {t : Tok} {dflt : Value} {Q : Value → Shared → Prop}
    (N : News h₀ L s.heap news) (hp : (d, o) ∈ news) (hd : o.IsDictOf (PySem.strKind prog w) kvs) (lo : (d == sysModules) = false) (h : Q ((valueAt kvs k).getD dflt) { s with toks := s.toks + 1 }) :
    wpAny (model prog w) A (call (.builtin "dict.get") [.ref d, .str k t, dflt]) Q E s := kdg_get2 (knd := PySem.strKind prog w) N hp hd lo (strKind_is _ _ _ _) _ rfl h

set_option maxRecDepth 100000 in
set_option maxHeartbeats 8000000 in
theorem spot_ok {w : World} {p : Program} {loose : List Str} {mean : ExcName → Option Value} {mg mb : Str → Option Value}
    {dp un : Nat} {gd : Option (List Code)} {cn : Str} {cs : Scope} {a : Addr} {ccd : Value} {cl : List (Str × Addr)} {outer : List Env} {A₀ : Around} {base h₀ : Heap} {L : Addr} {m : Str → Option Value} {s : Shared}
    {Q E : Value → Shared → Prop} {rest : List (Addr × Obj)} {itv : Value} {it : It}
    (B : Below A₀ base outer h₀) (F : Fr h₀ L s.heap m) (X : (Mine.hdE.heap_1_1 w.params).In h₀) (N : News h₀ L s.heap rest) (T : Top p loose mean mg mb h₀) (hk : cs.kind = .function)
    (hit : ItIn rest itv it) (hd : dp ≤ 390) (hu : un ≤ 390)
    (hret : ∀ t h' toks', Fr h₀ L h' m → News h₀ L h' rest → Q (.int it.spot t) { s with heap := h', toks := toks' }) :
    wpAny (model PySem.Challenge.rw_sj0028_01.row.prog w) (ktrTop dp un gd cn cs L a ccd cl outer) (call (.ref 131) [itv]) Q E s := by
  w_top off
  revert X
  k_fill
  intro X
  obtain ⟨a0, t0, xs, hv, hm⟩ := hit.head
  subst hv
  (refine wpAny_call ?_; k_dflt ktr_enter; k_steps)
  cases it <;> (try (rename_i b9 _ _; cases b9)) <;> exact hret _ _ _ (by k_asm) (newsTail (by k_asm))
end
section
theorem lines_L6 : True := by
  k_with_none
  k_with "shSub" => first | (((with_reducible show wpAny _ _ (subscriptTail _ _ (Value.ref _) (Value.int _ _)) _ _ _))) | fail
  k_with "DIG" => first | (repeat (first | (with_reducible exact And.left) | (with_reducible exact id) | (with_reducible refine digR ?_))) | fail
  k_with "LT9" => first | (first | with_reducible assumption | (refine' ltLt ?h ?d; walk_at "HD")) | fail
  k_with "ALLLT" => first | (first | with_reducible assumption | (refine' allDig ?h ?d; walk_at "HD")) | fail
  k_with "K_NE" => first | ((refine neN ?_; first | with_reducible assumption | (refine Ne.symm ?_; with_reducible assumption) | (refine' neLt ?h ?d; walk_at "HD") | (refine' neGt ?h ?d; walk_at "HD") | (refine' neNe ?h ?d; walk_at "HD") | (refine' neEn ?h ?d; walk_at "HD") | (refine Nat.ne_of_lt ?_; with_reducible assumption) | (refine Nat.ne_of_gt ?_; with_reducible assumption) | ((try dsimp only); omega))) | fail
  k_with "MEM" => first | (first | with_reducible assumption | with_reducible exact List.mem_cons_self | (with_reducible refine List.mem_cons_of_mem _ ?_; walk_at "MEM")) | fail
  k_with "OM" => first | (first | exact dLe (by with_reducible assumption) rfl | exact dL0 (by with_reducible assumption) rfl | exact dLt (by with_reducible assumption) rfl | omega) | fail
  k_with "K_ALL" => first | (first | with_reducible assumption | (refine allLt_ne ?_; walk_at "ALLLT") | (refine off1_ne ?_; walk_at "ALLLT")) | fail
  k_with "TAIL" => first | ((intro p9 hp9; repeat (first | exact hp9 | refine List.mem_cons_of_mem _ ?_))) | fail
  k_with "K_ROOM" => first | (((simp only [depth_mark, depth_under_make, depth_under_kw, depth_in1, depth_deeper, depth_caller, ktrTop, recursionLimit]); walk_at "OM")) | fail
  k_with "K_UNITS" => first | ((have hcL := cLine_is; (simp only [units_in1, units_deeper, Around.mark_units, units_caller, ktrTop]); walk_at "OM")) | fail
  k_with "K_MEM" => first | (((fail_if_success refine' List.Mem.tail _ ?_); (show (_ : Addr × Obj) ∈ (_ : List (Addr × Obj))); with_reducible assumption)) | fail
  k_with "compareOp In str ref" => first | ((k_here; k_dflt (first | (refine' kd_in_some (by (k_asm; done)) (by (k_mem; done)) (by (with_reducible assumption; done)) (by (with_reducible assumption; done)) (by (with_reducible assumption; done)) ?_) | (refine' kd_in_none (by (k_asm; done)) (by (k_mem; done)) (by (with_reducible assumption; done)) (by (with_reducible assumption; done)) (by (with_reducible assumption; done)) ?_)))) | fail
  k_with "compareOp NotIn str ref" => first | ((k_here; k_dflt (first | (refine' kd_nin_some (by (k_asm; done)) (by (k_mem; done)) (by (with_reducible assumption; done)) (by (with_reducible assumption; done)) (by (with_reducible assumption; done)) ?_) | (refine' kd_nin_none (by (k_asm; done)) (by (k_mem; done)) (by (with_reducible assumption; done)) (by (with_reducible assumption; done)) (by (with_reducible assumption; done)) ?_) | (refine' nin2_f (by (k_asm; done)) (by (k_mem; done)) (by (with_reducible assumption; done)) ?_) | (refine' nin2_t (by (k_asm; done)) (by (k_mem; done)) (by (with_reducible assumption; done)) ?_)))) | fail
  k_with "subscriptTail" => first | ((k_here; (with_reducible show wpAny _ _ (subscriptTail _ _ (Value.ref _) (Value.str _ _)) _ _ _); k_dflt (refine' kd_item (by (k_asm; done)) (by (k_mem; done)) (by (with_reducible assumption; done)) (by (with_reducible assumption; done)) ?_ (by (with_unfolding_all rfl; done)) (by (intro _; with_unfolding_all rfl; done))))) | fail
  k_with "setItem ref str" => first | ((k_here; k_dflt (refine' kd_set (by (k_asm; done)) (by (k_asm; done)) (by (k_updF; done)) (by (with_reducible assumption; done)) (by (with_reducible assumption; done)) ?_); (intro h' o' F' N' hd'); (try dsimp only at N'))) | fail
  k_with "getItem ref" => first | ((k_here; (with_reducible show wpAny _ _ (getItem (Value.ref _) (Value.str _ _)) _ _ _); k_dflt (refine' kd_get (by (k_asm; done)) (by (k_mem; done)) (by (with_reducible assumption; done)) (by (with_reducible assumption; done)) ?_))) | fail
  k_with "compareOp NotEq str str" => first | ((k_here; first | (refine ne_str_t (by with_reducible assumption) ?_) | (refine ne_str_f (by with_reducible assumption) ?_))) | fail
  k_with "compareOp Eq str str" => first | ((k_here; first | (refine eq_str_f (by with_reducible assumption) ?_) | (refine eq_str_t (by with_reducible assumption) ?_))) | fail
  k_with "exec If Compare cons cons" => first | ((k_here; (with_reducible show wpAny _ _ (exec (Stmt.If (Expr.Compare (Expr.Name _ _) [CmpOp.Eq] [Expr.Constant (Const.str _) _ _] _) _ _ _) _) _ _ _); k_dflt (refine' if_str_no (by (k_asm; done)) (by (exact rfl; done)) (by (decide +kernel; done)) ?_))) | fail
  k_with "exec If Compare cons cons" => first | ((k_here; (with_reducible show wpAny _ _ (exec (Stmt.If (Expr.Compare (Expr.Name _ _) [CmpOp.Eq] [Expr.Constant (Const.str _) _ _] _) _ _ _) _) _ _ _); k_dflt (refine' if_str (by (k_asm; done)) (by (exact rfl; done)) (by (exact rfl; done)) ?_))) | fail
  k_with "subscriptTail Name Constant ref int" => first | ((k_here; walk_at "shSub"; k_dflt (first | (refine' item_tup0 (by (k_asm; done)) (by (k_mem; done)) (by (exact rfl; done)) (by (decide; done)) (by (decide; done)) ?_ (by (with_unfolding_all rfl; done))) | (refine' item_lst0 (by (k_asm; done)) (by (k_mem; done)) (by (exact rfl; done)) (by (decide; done)) (by (decide; done)) ?_ (by (with_unfolding_all rfl; done)))))) | fail
  k_with "subscriptTail Subscript Name Constant Constant ref int" => first | ((k_here; walk_at "shSub"; k_dflt (first | (refine' item_tup0 (by (k_asm; done)) (by (k_mem; done)) (by (exact rfl; done)) (by (decide; done)) (by (decide; done)) ?_ (by (with_unfolding_all rfl; done))) | (refine' item_lst0 (by (k_asm; done)) (by (k_mem; done)) (by (exact rfl; done)) (by (decide; done)) (by (decide; done)) ?_ (by (with_unfolding_all rfl; done)))))) | fail
  k_with "callWith builtin:list.append cons nil" => first | ((refine callWith_method1 ?_)) | fail
  k_with "execs nil" => first | ((with_reducible refine wpAny_execs_nil ?_)) | fail
  k_with "EC" => first | (first | k_fold | k_gentoks | (with_reducible refine wpAny_execs_cons ?_; try dsimp only)) | fail
  k_with "execs cons If nil" => first | (walk_at "EC") | fail
  k_with "execs cons If cons" => first | (walk_at "EC") | fail
  k_with "execs cons Assign cons" => first | (walk_at "EC") | fail
  k_with "execs cons Assign nil" => first | (walk_at "EC") | fail
  k_with "execs cons Return nil" => first | (walk_at "EC") | fail
  k_with "execs cons Return cons" => first | (walk_at "EC") | fail
  k_with "execs cons Expr nil" => first | (walk_at "EC") | fail
  k_with "execs cons Expr cons" => first | (walk_at "EC") | fail
  k_with "exec If Compare cons nil" => first | ((with_reducible refine wpAny_If ?_)) | fail
  k_with "spliced" => first | ((k_here; with_reducible first | refine args_cs ?_ | refine args_cn ?_ | refine args_ci ?_ | refine args_cb ?_)) | fail
  k_with "spliced" => first | ((k_here; (with_reducible show wpAny _ _ (spliced (backTo _ (starEach (Expr.Name _ _ :: _) _))) _ _ _); k_dflt (refine' args_nm (by (k_asm; done)) (by (exact rfl; done)) ?_ (by rfl) (by rfl) (by decide)))) | fail
  trivial




inductive ChainT (w : World) (R : List (Addr × Obj)) : Value → List (List (Str × Ent)) → Prop
  | nil : ChainT w R .none []
  | cons {tb tbd en : Addr} {u1 u2 : Tok} {pv : Value} {mm : Nat} {oe : Obj} {kvs : List (Str × Value)} {tab : List (Str × Ent)} {tabs : List (List (Str × Ent))} : (tb, instObj 59 tbd) ∈ R → (tbd, tabDict w u1 u2 pv en mm) ∈ R → (en, oe) ∈ R →
      oe.IsDictOf (PySem.strKind PySem.Challenge.rw_sj0028_01.row.prog w) kvs → (en == sysModules) = false → TabIn R kvs tab → ChainT w R pv tabs → ChainT w R (.ref tb) (tab :: tabs)
theorem ChainT.handed {w : World} {R : List (Addr × Obj)} {v : Value} {tabs : List (List (Str × Ent))} (h : ChainT w R v tabs) : handedIn v = true := by cases h <;> rfl
noncomputable def findE : List (List (Str × Ent)) → Str → Option Ent
  | [], _ => none
  | tab :: tabs, nm => match entAt tab nm with
    | some e => some e
    | none => findE tabs nm
noncomputable def Ent.isR (e : Ent) : Bool := e.what == Str.ofString "task" || e.what == Str.ofString "function"
noncomputable def findR : List (List (Str × Ent)) → Str → Option Ent
  | [], _ => none
  | tab :: tabs, nm => match entAt tab nm with
    | some e => if e.isR then some e else findR tabs nm
    | none => findR tabs nm
def FoundIn (R : List (Addr × Obj)) (v : Value) (o : Option Ent) : Prop := (o = none ∧ v = .none) ∨ ∃ e, o = some e ∧ EntIn R v e
theorem findE_none {tab : List (Str × Ent)} {tabs : List (List (Str × Ent))} {nm : Str} (h : entAt tab nm = none) : findE (tab :: tabs) nm = findE tabs nm := by simp only [findE, h]
theorem findE_some {tab : List (Str × Ent)} {tabs : List (List (Str × Ent))} {nm : Str} {e : Ent} (h : entAt tab nm = some e) : findE (tab :: tabs) nm = some e := by simp only [findE, h]
theorem findR_none {tab : List (Str × Ent)} {tabs : List (List (Str × Ent))} {nm : Str} (h : entAt tab nm = none) : findR (tab :: tabs) nm = findR tabs nm := by simp only [findR, h]
theorem findR_yes {tab : List (Str × Ent)} {tabs : List (List (Str × Ent))} {nm : Str} {e : Ent} (h : entAt tab nm = some e) (hr : e.isR = true) : findR (tab :: tabs) nm = some e := by simp only [findR, h, hr, if_true]
theorem findR_no {tab : List (Str × Ent)} {tabs : List (List (Str × Ent))} {nm : Str} {e : Ent} (h : entAt tab nm = some e) (hr : e.isR = false) : findR (tab :: tabs) nm = findR tabs nm := by simp [findR, h, hr]
set_option maxRecDepth 100000 in
set_option maxHeartbeats 8000000 in
theorem find_ok {w : World} {p : Program} {loose : List Str} {mean : ExcName → Option Value} {mg mb : Str → Option Value}
    {dp un : Nat} {gd : Option (List Code)} {cn : Str} {cs : Scope} {a : Addr} {ccd : Value} {cl : List (Str × Addr)} {outer : List Env} {A₀ : Around} {base h₀ : Heap} {L : Addr} {m : Str → Option Value} {s : Shared}
    {Q E : Value → Shared → Prop} {rest : List (Addr × Obj)} {v : Value} {tabs : List (List (Str × Ent))} {nm : Str} {z : Tok}
    (B : Below A₀ base outer h₀) (F : Fr h₀ L s.heap m) (X : (Mine.hdE.heap_1_1 w.params).In h₀) (N : News h₀ L s.heap rest) (T : Top p loose mean mg mb h₀) (hk : cs.kind = .function)
    (hch : ChainT w rest v tabs) (hd : dp ≤ 390) (hu : un ≤ 390)
    (hret : ∀ v' h' toks', Fr h₀ L h' m → News h₀ L h' rest → FoundIn rest v' (findE tabs nm) → Q v' { s with heap := h', toks := toks' }) :
    wpAny (model PySem.Challenge.rw_sj0028_01.row.prog w) (ktrTop dp un gd cn cs L a ccd cl outer) (call (.ref 70) [v, .str nm z]) Q E s := by
  w_top off
  revert X
  k_fill
  intro X
  (refine wpAny_call ?_; k_dflt ktr_enter)
  walk1
  walk1
  (rename Fr _ _ _ _ => lF; rename News _ _ _ _ => lN)
  with_unfolding_all refine' kwd_while0 (Rel := ChainT w) (y := Str.ofString "table") [] List.length (fun d0 d => findE d nm = findE d0 nm) lF lN (by rfl) hch rfl ?turn
  case turn =>
    intro v1 d1 u1 h1 tk1 hR1 hI1 F1 N1
    clear lF lN hch
    cases hR1 with
    | nil =>
      k_steps
      exact hret _ _ _ (by k_asm) (by k_asm) (.inl ⟨hI1.symm, rfl⟩)
    | cons ht1 ht2 ht3 hD hlo hT hch' =>
      have hh9 := hch'.handed
      rcases hT.look nm with ⟨hv1, hv2⟩ | ⟨v2, e2, hv1, hv2, hEnt⟩
      · have hfin := (findE_none hv2).symm.trans hI1
        k_steps
        all_goals exact KwdEnd0.intro (by k_asm) (by k_asm) (fun _ h => h) (by rfl) hch' ((findE_none hv2).symm.trans hI1) (Nat.lt_succ_self _) (by intro x h1 _; simp [h1])
      · cases hEnt with
        | mk hm1 hinf =>
          k_steps
          exact hret _ _ _ (by k_asm) (by k_asm) (.inr ⟨_, hI1.symm.trans (findE_some hv2), EntIn.mk hm1 hinf⟩)
set_option maxRecDepth 100000 in
set_option maxHeartbeats 8000000 in
theorem findr_ok {w : World} {p : Program} {loose : List Str} {mean : ExcName → Option Value} {mg mb : Str → Option Value}
    {dp un : Nat} {gd : Option (List Code)} {cn : Str} {cs : Scope} {a : Addr} {ccd : Value} {cl : List (Str × Addr)} {outer : List Env} {A₀ : Around} {base h₀ : Heap} {L : Addr} {m : Str → Option Value} {s : Shared}
    {Q E : Value → Shared → Prop} {rest : List (Addr × Obj)} {v : Value} {tabs : List (List (Str × Ent))} {nm : Str} {z : Tok}
    (B : Below A₀ base outer h₀) (F : Fr h₀ L s.heap m) (X : (Mine.hdE.heap_1_1 w.params).In h₀) (N : News h₀ L s.heap rest) (T : Top p loose mean mg mb h₀) (hk : cs.kind = .function)
    (hch : ChainT w rest v tabs) (hd : dp ≤ 390) (hu : un ≤ 390)
    (hret : ∀ v' h' toks', Fr h₀ L h' m → News h₀ L h' rest → FoundIn rest v' (findR tabs nm) → Q v' { s with heap := h', toks := toks' }) :
    wpAny (model PySem.Challenge.rw_sj0028_01.row.prog w) (ktrTop dp un gd cn cs L a ccd cl outer) (call (.ref 77) [v, .str nm z]) Q E s := by
  w_top off
  revert X
  k_fill
  intro X
  (refine wpAny_call ?_; k_dflt ktr_enter)
  walk1
  walk1
  (rename Fr _ _ _ _ => lF; rename News _ _ _ _ => lN)
  with_unfolding_all refine' kwd_while0 (Rel := ChainT w) (y := Str.ofString "table") [Str.ofString "entry"] List.length (fun d0 d => findR d nm = findR d0 nm) lF lN (by rfl) hch rfl ?turn
  case turn =>
    intro v1 d1 u1 h1 tk1 hR1 hI1 F1 N1
    clear lF lN hch
    cases hR1 with
    | nil =>
      k_steps
      exact hret _ _ _ (by k_asm) (by k_asm) (.inl ⟨hI1.symm, rfl⟩)
    | cons ht1 ht2 ht3 hD hlo hT hch' =>
      have hh9 := hch'.handed
      rcases hT.look nm with ⟨hv1, hv2⟩ | ⟨v2, e2, hv1, hv2, hEnt⟩
      · have hfin := (findR_none hv2).symm.trans hI1
        k_steps
        all_goals exact KwdEnd0.intro (by k_asm) (by k_asm) (fun _ h => h) (by rfl) hch' hfin (Nat.lt_succ_self _) (by intro x h1 h2; have h2' := (by simpa using h2 : ¬ x = Str.ofString "entry"); simp [h1, h2'])
      · cases hEnt with
        | @mk a0 wh0 i0 tk1 tk2 iv0 inf0 hm1 hinf =>
          by_cases hw1 : wh0 = Str.ofString "task"
          · have hr : (Ent.mk wh0 i0 inf0).isR = true := by simp [Ent.isR, hw1]
            k_steps
            exact hret _ _ _ (by k_asm) (by k_asm) (.inr ⟨_, hI1.symm.trans (findR_yes hv2 hr), EntIn.mk hm1 hinf⟩)
          · by_cases hw2 : wh0 = Str.ofString "function"
            · have hr : (Ent.mk wh0 i0 inf0).isR = true := by simp [Ent.isR, hw2]
              k_steps
              exact hret _ _ _ (by k_asm) (by k_asm) (.inr ⟨_, hI1.symm.trans (findR_yes hv2 hr), EntIn.mk hm1 hinf⟩)
            · have hr : (Ent.mk wh0 i0 inf0).isR = false := by simp [Ent.isR, hw1, hw2]
              have hfin := (findR_no hv2 hr).symm.trans hI1
              k_steps
              all_goals exact KwdEnd0.intro (by k_asm) (by k_asm) (fun _ h => h) (by rfl) hch' ((findR_no hv2 hr).symm.trans hI1) (Nat.lt_succ_self _) (by intro x h1 h2; have h2' := (by simpa using h2 : ¬ x = Str.ofString "entry"); simp [h1, h2'])
end
section
inductive ItsIn (R : List (Addr × Obj)) : List Value → List It → Prop
  | nil : ItsIn R [] []
  | cons {v : Value} {it : It} {vs : List Value} {its : List It} : ItIn R v it → ItsIn R vs its → ItsIn R (v :: vs) (it :: its)
section
variable {R R' : List (Addr × Obj)}
theorem ItsIn.mono (hs : ∀ p ∈ R, p ∈ R') {vs : List Value} {its : List It} (h : ItsIn R vs its) : ItsIn R' vs its := by
  induction h with
  | nil => exact .nil
  | cons h _ ih => exact .cons (h.mono hs) ih
theorem ItsIn.len {vs : List Value} {its : List It} (h : ItsIn R vs its) : vs.length = its.length := by
  induction h with
  | nil => rfl
  | cons _ _ ih => simp [ih]
theorem ItsIn.snoc {vs : List Value} {its : List It} {v : Value} {it : It} (h : ItsIn R vs its) (hi : ItIn R v it) : ItsIn R (vs ++ [v]) (its ++ [it]) := by
  induction h with
  | nil => exact .cons hi .nil
  | cons h _ ih => exact .cons h ih
theorem ItsIn.get {vs : List Value} {its : List It} (h : ItsIn R vs its) : ∀ {i : Nat} {v : Value}, vs[i]? = some v → ∃ it, its[i]? = some it ∧ ItIn R v it := by
  induction h with
  | nil => intro i v e; simp at e
  | cons h _ ih =>
    intro i v e
    cases i with
    | zero => simp at e; subst e; exact ⟨_, rfl, h⟩
    | succ i => simp at e; simpa using ih e
end
section
open PyProof.Rows.LCt PyProof.Rows.LCg
variable {prog : Program} {w : World} {A : Around} {h₀ : Heap} {L : Addr} {m : Str → Option Value} {env : Env} {ct elt : Expr} {x : Str} {scope : Scope} {cl : List (Str × Addr)} {s : Shared} {S : List (Addr × Obj) → Prop} {P : Nat → Value → Prop} {Fin : List Value → List (Addr × Obj) → Prop} {news : List (Addr × Obj)}
theorem cf_rest {n : Nat} (J : Nat → List Value → Prop) (h0 : J 0 [])
    (turn : ∀ i v I oI C oC D m₂ ys h tk (E' : Value → Shared → Prop), i < n → P i v → J i ys → NsObj oC m₂ → m₂ x = some v → Fr h₀ L h m → News h₀ L h ((I, oI) :: (C, oC) :: (D, lst ys) :: news) → Off3 I C D news → ((@Ne Nat I C) ∧ (@Ne Nat I D) ∧ (@Ne Nat C D)) →
      wpAny (model prog w) A (isTrue ct (compEnvC scope cl C env) (eval ct (compEnvC scope cl C env))) (fun b s' => if b = true then wpAny (model prog w) A (eval elt (compEnvC scope cl C env)) (CompEnd h₀ L m { s with heap := h, toks := tk } I oI C oC D (lst ys) S (fun y news' => news' = news ∧ J (i + 1) (ys ++ [y]))) E' s'
        else CompEnd h₀ L m { s with heap := h, toks := tk } I oI C oC D (lst ys) S (fun _ news' => news' = news ∧ J (i + 1) ys) Value.none s') E' { s with heap := h, toks := tk })
    (fin : ∀ ys, J n ys → Fin ys news) : CompRestT prog w A h₀ L m env ct elt x scope cl s S P Fin n 0 [] news := by
  have key : ∀ (j i : Nat) (ys : List Value), i + j = n → J i ys → CompRestT prog w A h₀ L m env ct elt x scope cl s S P Fin j i ys news := by
    intro j
    induction j with
    | zero =>
      intro i ys hi hy
      have e : i = n := by omega
      subst e
      exact CompRestT.zero (fin ys hy)
    | succ j ih =>
      intro i ys hi hy
      refine CompRestT.succ ?_
      intro v I oI C oC D m₂ h tk E' hv hC hx F N off ne
      refine wpAny_mono (turn i v I oI C oC D m₂ ys h tk E' (by omega) hv hy hC hx F N off ne) (fun b s₂ hq => ?_) fun _ _ e => e
      cases b with
      | true =>
        simp only [if_true] at hq ⊢
        refine wpAny_mono hq (fun y s₃ hr => ?_) fun _ _ e => e
        obtain ⟨h', tk', nw, e, F', N', off', hS, hn, hJ⟩ := hr
        rw [hn] at N' off' hS
        exact ⟨h', tk', news, e, F', N', off', hS, ih (i + 1) _ (by omega) hJ⟩
      | false =>
        simp only [Bool.false_eq_true, if_false] at hq ⊢
        obtain ⟨h', tk', nw, e, F', N', off', hS, hn, hJ⟩ := hq
        rw [hn] at N' off' hS
        exact ⟨h', tk', news, e, F', N', off', hS, ih (i + 1) _ (by omega) hJ⟩
  exact key n 0 [] (by omega) h0
def CfYes (p : It → Bool) (it : It) (v : Value) (news : List (Addr × Obj)) (y : Value) (news' : List (Addr × Obj)) : Prop := news' = news ∧ y = v ∧ p it = true
def CfNo (p : It → Bool) (it : It) (news : List (Addr × Obj)) (_ : Value) (news' : List (Addr × Obj)) : Prop := news' = news ∧ p it = false
theorem cf_items {n : Nat} {R : List (Addr × Obj)} {vs : List Value} {its : List It} (p : It → Bool) (hits : ItsIn R vs its) (hn : vs.length = n) (hP : ∀ i v, P i v → vs[i]? = some v)
    (turn : ∀ it v I oI C oC D m₂ ys h tk (E' : Value → Shared → Prop), ItIn R v it → NsObj oC m₂ → m₂ x = some v → Fr h₀ L h m → News h₀ L h ((I, oI) :: (C, oC) :: (D, lst ys) :: news) → Off3 I C D news → ((@Ne Nat I C) ∧ (@Ne Nat I D) ∧ (@Ne Nat C D)) →
      wpAny (model prog w) A (isTrue ct (compEnvC scope cl C env) (eval ct (compEnvC scope cl C env))) (fun b s' => if b = true then wpAny (model prog w) A (eval elt (compEnvC scope cl C env)) (CompEnd h₀ L m { s with heap := h, toks := tk } I oI C oC D (lst ys) S (CfYes p it v news)) E' s'
        else CompEnd h₀ L m { s with heap := h, toks := tk } I oI C oC D (lst ys) S (CfNo p it news) Value.none s') E' { s with heap := h, toks := tk })
    (fin : ∀ ys, ItsIn R ys (its.filter p) → Fin ys news) : CompRestT prog w A h₀ L m env ct elt x scope cl s S P Fin n 0 [] news := by
  refine cf_rest (fun i ys => ItsIn R ys ((its.take i).filter p)) ItsIn.nil ?_ ?_
  · intro i v I oI C oC D m₂ ys h tk E' hi hPv hJ hC hx F N off ne
    obtain ⟨it, hit, hI⟩ := hits.get (hP i v hPv)
    have hs : its.take (i + 1) = its.take i ++ [it] := by simp [List.take_add_one, hit]
    refine wpAny_mono (turn it v I oI C oC D m₂ ys h tk E' hI hC hx F N off ne) (fun b s₂ hq => ?_) fun _ _ e => e
    cases b with
    | true =>
      simp only [if_true] at hq ⊢
      refine wpAny_mono hq (fun y s₃ hr => ?_) fun _ _ e => e
      obtain ⟨h', tk', nw, e, F', N', off', hS, hn', hy, hp⟩ := hr
      refine ⟨h', tk', nw, e, F', N', off', hS, hn', ?_⟩
      rw [hs, List.filter_append, List.filter_cons_of_pos (by simpa using hp), List.filter_nil, hy]
      exact hJ.snoc hI
    | false =>
      simp only [Bool.false_eq_true, if_false] at hq ⊢
      obtain ⟨h', tk', nw, e, F', N', off', hS, hn', hp⟩ := hq
      refine ⟨h', tk', nw, e, F', N', off', hS, hn', ?_⟩
      rw [hs, List.filter_append, List.filter_cons_of_neg (by simpa using hp), List.filter_nil, List.append_nil]
      exact hJ
  · intro ys hJ
    have : its.take n = its := by rw [← hn, hits.len]; exact List.take_length
    rw [this] at hJ
    exact fin ys hJ
end
noncomputable def It.isPort (it : It) : Bool := it.tag == Str.ofString "port"
noncomputable def It.isWire (it : It) : Bool := [Str.ofString "net", Str.ofString "var"].any (fun x => x == it.tag)
end
section
theorem pick1 (v : Value) (vs : List Value) : kms_pick (v :: vs) (some 1) none = vs := by
  simp [kms_pick, kms_lo, kms_hi]
structure LoopMark : Prop where
  intro ::
inductive TwoIn (R : List (Addr × Obj)) : List Value → List (Str × Int) → Prop
  | nil : TwoIn R [] []
  | cons {a : Addr} {k : Str} {i : Int} {t1 t2 : Tok} {vs : List Value} {rows : List (Str × Int)} : (a, tup [.str k t1, .int i t2]) ∈ R → TwoIn R vs rows → TwoIn R (.ref a :: vs) ((k, i) :: rows)
section
variable {R R' : List (Addr × Obj)}
theorem TwoIn.mono (hs : ∀ p ∈ R, p ∈ R') {vs : List Value} {rows : List (Str × Int)} (h : TwoIn R vs rows) : TwoIn R' vs rows := by
  induction h with
  | nil => exact .nil
  | cons h _ ih => exact .cons (hs _ h) ih
theorem TwoIn.snoc {a : Addr} {k : Str} {i : Int} {t1 t2 : Tok} {vs : List Value} {rows : List (Str × Int)} (h : TwoIn R vs rows) (hm : (a, tup [.str k t1, .int i t2]) ∈ R) : TwoIn R (vs ++ [.ref a]) (rows ++ [(k, i)]) := by
  induction h with
  | nil => exact .cons hm .nil
  | cons h _ ih => exact .cons h ih
theorem TwoIn.len {vs : List Value} {rows : List (Str × Int)} (h : TwoIn R vs rows) : vs.length = rows.length := by
  induction h with
  | nil => rfl
  | cons _ _ ih => simp [ih]
end
abbrev PSt := List It × List (Str × Int)
noncomputable def pairStep (st : PSt) (it : It) : PSt :=
  if st.1.length = 1 ∧ ((st.1 ++ [it]).filter It.isPort).length = 1 ∧ ((st.1 ++ [it]).filter It.isWire).length = 1 then (st.1 ++ [it], st.2) else (st.1, st.2 ++ [(Str.ofString "duplicate", it.at)])
theorem cfYes {p : It → Bool} {it : It} {v : Value} {news : List (Addr × Obj)} (h : p it = true) : CfYes p it v news v news := ⟨rfl, rfl, h⟩
theorem cfNo {p : It → Bool} {it : It} {news : List (Addr × Obj)} {y : Value} (h : p it = false) : CfNo p it news y news := ⟨rfl, h⟩
end
section
theorem arrP {vs : List Value} : ∀ (i : Nat) (v : Value), (vs.toArray)[i]? = some v → vs[i]? = some v := fun i v h => by simpa using h
section
open PyProof.Rows.LCt PyProof.Rows.LCg
theorem compEnd3 {h₀ : Heap} {L I C D : Addr} {m : Str → Option Value} {s₁ : Shared} {oI oC oD : Obj} {S : List (Addr × Obj) → Prop} {rest : Value → List (Addr × Obj) → Prop} {y : Value} {h' : Heap} {tk : Nat} {news' : List (Addr × Obj)}
    (F : Fr h₀ L h' m) (N : News h₀ L h' ((I, oI) :: (C, oC) :: (D, oD) :: news')) (off : Off3 I C D news') (hS : S news') (r : rest y news') :
    CompEnd h₀ L m s₁ I oI C oC D oD S rest y { s₁ with heap := h', toks := tk } := ⟨h', tk, news', rfl, F, N, off, hS, r⟩
theorem compEnd2 {h₀ : Heap} {L I C D : Addr} {m : Str → Option Value} {s₁ : Shared} {oI oC oD : Obj} {S : List (Addr × Obj) → Prop} {rest : Value → List (Addr × Obj) → Prop} {y : Value} {h' : Heap} {tk : Nat} {all news' : List (Addr × Obj)}
    (F : Fr h₀ L h' m) (N : News h₀ L h' all) (r : rest y news') (off : Off3 I C D news') (hS : S news') (sub : ∀ p ∈ (I, oI) :: (C, oC) :: (D, oD) :: news', p ∈ all) :
    CompEnd h₀ L m s₁ I oI C oC D oD S rest y { s₁ with heap := h', toks := tk } := ⟨h', tk, news', rfl, F, fun p hp => N p (sub p hp), off, hS, r⟩
end
def EJ (rest : List (Addr × Obj)) (I td pl D : Addr) (sl : Obj) (f : It) (its : List It) (fv : Value) (own : Bool) (i : Nat) (m : Str → Option Value) (nx : List (Addr × Obj)) : Prop :=
  ∃ ps n1 ts n2 R, nx = (D, sl) :: (pl, listOf ps.toArray n1) :: (td, listOf ts.toArray n2) :: R ∧ ItsIn R ps ((its.take i).foldl pairStep ([f], [])).1 ∧ TwoIn R ts ((its.take i).foldl pairStep ([f], [])).2 ∧
    (∀ p ∈ rest, p ∈ R) ∧ (∀ p ∈ R, p.1 ≠ pl) ∧ (∀ p ∈ R, p.1 ≠ td) ∧ (∀ p ∈ R, p.1 ≠ D) ∧ (∀ p ∈ R, p.1 ≠ I) ∧ FreshL [td] rest R ∧ ts.length ≤ i ∧ (ps.length = 1 ∨ ps.length = 2) ∧
    m (Str.ofString "pair") = some (.ref pl) ∧ m (Str.ofString "told") = some (.ref td) ∧ m (Str.ofString "own") = some (.bool own) ∧ m (Str.ofString "first") = some fv
section
variable {prog : Program} {w : World} {A : Around} {E : Value → Shared → Prop} {s : Shared} {env : Env} {h₀ : Heap} {target : Expr} {body : List Stmt} {Q : Flow → Shared → Prop}
theorem ej_items {I : Addr} {c : String} {keep : List (Addr × Obj)} {xs : List Value} {m₀ : Str → Option Value} {news₀ : List (Addr × Obj)} {g1 h1 : Heap} {L1 : Addr} {rest : List (Addr × Obj)} {td pl D : Addr} {sl lo tl : Obj} {f : It} {its : List It} {fv : Value} {own : Bool}
    (_ : News g1 L1 h1 ((D, sl) :: (pl, lo) :: (td, tl) :: rest)) (_ : ItsIn rest xs its) (_ : ItIn rest fv f) (ho : m₀ (Str.ofString "own") = some (.bool own))
    (h0 : EJ rest I td pl D sl f its fv own 0 m₀ news₀)
    (turn : ∀ i v m news h tk o, xs[i]? = some v → EJ rest I td pl D sl f its fv own i m news → o.cls = .type c → Fr h₀ env.locals h m → News h₀ env.locals h ((I, o) :: news) →
      wpAny (model prog w) A (assign target env v) (fun _ s₂ => wpAny (model prog w) A (execs body env) (UnrPostW h₀ env.locals { s with heap := h, toks := tk } [(I, o)] (fun m' n' => SubL keep n' ∧ EJ rest I td pl D sl f its fv own (i + 1) m' n') Q) E s₂) E { s with heap := h, toks := tk })
    (done : ∀ m news h tk, EJ rest I td pl D sl f its fv own xs.length m news → Fr h₀ env.locals h m → News h₀ env.locals h news → Q .next { s with heap := h, toks := tk }) :
    ItemsRest prog w A E h₀ env target body Q s [(I, c)] keep (xs.map .val) m₀ news₀ := items_ind (EJ rest I td pl D sl f its fv own) h0 turn done
end
section
variable {g h' : Heap} {L : Addr} {m' : Str → Option Value} {all rest R : List (Addr × Obj)} {I td pl D : Addr} {o sl : Obj} {f it : It} {its : List It} {fv : Value} {own : Bool} {i n1 n2 tk : Nat} {ps ts : List Value} {s₁ : Shared}
theorem ej_end {P : PSt} (hP : (its.take (i + 1)).foldl pairStep ([f], []) = P) (F : Fr g L h' m') (N : News g L h' all) (mI : (I, o) ∈ all) (mp : (pl, listOf ps.toArray n1) ∈ all) (mt : (td, listOf ts.toArray n2) ∈ all) (mD : (D, sl) ∈ all) (sR : ∀ p ∈ R, p ∈ all)
    (i1 : @Ne Nat pl I) (i2 : @Ne Nat td I) (i3 : @Ne Nat D I) (o4 : ∀ p ∈ R, p.1 ≠ I) (hp : ItsIn R ps P.1) (ht : TwoIn R ts P.2) (hsub : ∀ p ∈ rest, p ∈ R) (o1 : ∀ p ∈ R, p.1 ≠ pl) (o2 : ∀ p ∈ R, p.1 ≠ td) (o3 : ∀ p ∈ R, p.1 ≠ D)
    (hfr : FreshL [td] rest R) (hti : ts.length ≤ i + 1) (hpl : ps.length = 1 ∨ ps.length = 2) (m1 : m' (Str.ofString "pair") = some (.ref pl)) (m2 : m' (Str.ofString "told") = some (.ref td)) (m3 : m' (Str.ofString "own") = some (.bool own)) (m4 : m' (Str.ofString "first") = some fv) :
    UnrEndW g L s₁ [(I, o)] (fun m' n' => SubL [(D, sl)] n' ∧ EJ rest I td pl D sl f its fv own (i + 1) m' n') { s₁ with heap := h', toks := tk } := by
  refine ⟨h', tk, m', (D, sl) :: (pl, listOf ps.toArray n1) :: (td, listOf ts.toArray n2) :: R, rfl, F, ?_, ?_, ?_, ps, n1, ts, n2, R, rfl, by rw [hP]; exact hp, by rw [hP]; exact ht, hsub, o1, o2, o3, o4, hfr, hti, hpl, m1, m2, m3, m4⟩
  · intro p hp
    refine N p ?_
    simp only [List.cons_append, List.nil_append, List.mem_cons] at hp
    rcases hp with rfl | rfl | rfl | rfl | hp
    · exact mI
    · exact mD
    · exact mp
    · exact mt
    · exact sR p hp
  · intro p hp q hq
    rw [List.mem_singleton.mp hq]
    simp only [List.mem_cons] at hp
    rcases hp with rfl | rfl | rfl | hp
    · exact i3
    · exact i1
    · exact i2
    · exact o4 p hp
  · exact ⟨List.mem_cons_self, trivial⟩
theorem take_fold (hit : its[i]? = some it) (st : PSt) : (its.take (i + 1)).foldl pairStep st = pairStep ((its.take i).foldl pairStep st) it := by
  simp [List.take_add_one, hit, List.foldl_append]
theorem ej_yes {v : Value} (hp : ItsIn R ps ((its.take i).foldl pairStep ([f], [])).1) (ht : TwoIn R ts ((its.take i).foldl pairStep ([f], [])).2) (hv : ItIn R v it) (hsub : ∀ p ∈ rest, p ∈ R) (o1 : ∀ p ∈ R, p.1 ≠ pl) (o2 : ∀ p ∈ R, p.1 ≠ td) (o3 : ∀ p ∈ R, p.1 ≠ D) (o4 : ∀ p ∈ R, p.1 ≠ I)
    (hfr : FreshL [td] rest R) (hti : ts.length ≤ i) (hit : its[i]? = some it)
    (e1 : ((((its.take i).foldl pairStep ([f], [])).1.length : Nat) : Int) = 1) (e2 : ((((((its.take i).foldl pairStep ([f], [])).1 ++ [it]).filter It.isPort).length : Nat) : Int) = 1) (e3 : ((((((its.take i).foldl pairStep ([f], [])).1 ++ [it]).filter It.isWire).length : Nat) : Int) = 1)
    (F : Fr g L h' m') (N : News g L h' all) (mI : (I, o) ∈ all) (mp : (pl, ({ cls := .type "list", data := .seq (ps.toArray.push v) n1 } : Obj)) ∈ all) (mt : (td, listOf ts.toArray n2) ∈ all) (mD : (D, sl) ∈ all) (sR : ∀ p ∈ R, p ∈ all)
    (i1 : @Ne Nat pl I) (i2 : @Ne Nat td I) (i3 : @Ne Nat D I) (m1 : m' (Str.ofString "pair") = some (.ref pl)) (m2 : m' (Str.ofString "told") = some (.ref td)) (m3 : m' (Str.ofString "own") = some (.bool own)) (m4 : m' (Str.ofString "first") = some fv) :
    UnrEndW g L s₁ [(I, o)] (fun m' n' => SubL [(D, sl)] n' ∧ EJ rest I td pl D sl f its fv own (i + 1) m' n') { s₁ with heap := h', toks := tk } := by
  have hl := hp.len
  refine ej_end (P := (((its.take i).foldl pairStep ([f], [])).1 ++ [it], ((its.take i).foldl pairStep ([f], [])).2)) ?_ F N mI (by rw [List.push_toArray] at mp; exact mp) mt mD sR i1 i2 i3 o4 (hp.snoc hv) ht hsub o1 o2 o3 hfr (by omega) (.inr (by simp; omega)) m1 m2 m3 m4
  rw [take_fold hit, pairStep, if_pos ⟨by omega, by omega, by omega⟩]
theorem ej_no {T : Addr} {t1 t2 : Tok} (hp : ItsIn R ps ((its.take i).foldl pairStep ([f], [])).1) (ht : TwoIn R ts ((its.take i).foldl pairStep ([f], [])).2) (hsub : ∀ p ∈ rest, p ∈ R) (o1 : ∀ p ∈ R, p.1 ≠ pl) (o2 : ∀ p ∈ R, p.1 ≠ td) (o3 : ∀ p ∈ R, p.1 ≠ D) (o4 : ∀ p ∈ R, p.1 ≠ I)
    (hfr : FreshL [td] rest R) (hti : ts.length ≤ i) (hpl : ps.length = 1 ∨ ps.length = 2) (hit : its[i]? = some it)
    (hno : ¬ (((its.take i).foldl pairStep ([f], [])).1.length = 1 ∧ ((((its.take i).foldl pairStep ([f], [])).1 ++ [it]).filter It.isPort).length = 1 ∧ ((((its.take i).foldl pairStep ([f], [])).1 ++ [it]).filter It.isWire).length = 1))
    (F : Fr g L h' m') (N : News g L h' all) (mI : (I, o) ∈ all) (mp : (pl, listOf ps.toArray n1) ∈ all) (mt : (td, ({ cls := .type "list", data := .seq (ts.toArray.push (Value.ref T)) n2 } : Obj)) ∈ all) (mD : (D, sl) ∈ all) (mT : (T, tup [.str (Str.ofString "duplicate") t1, .int it.at t2]) ∈ all) (sR : ∀ p ∈ R, p ∈ all)
    (i1 : @Ne Nat pl I) (i2 : @Ne Nat td I) (i3 : @Ne Nat D I) (lT : AllLt T R) (lI : @LT.lt Nat _ I T) (lp : @LT.lt Nat _ pl T) (lt : @LT.lt Nat _ td T) (lD : @LT.lt Nat _ D T)
    (m1 : m' (Str.ofString "pair") = some (.ref pl)) (m2 : m' (Str.ofString "told") = some (.ref td)) (m3 : m' (Str.ofString "own") = some (.bool own)) (m4 : m' (Str.ofString "first") = some fv) :
    UnrEndW g L s₁ [(I, o)] (fun m' n' => SubL [(D, sl)] n' ∧ EJ rest I td pl D sl f its fv own (i + 1) m' n') { s₁ with heap := h', toks := tk } := by
  have mono : ∀ p ∈ R, p ∈ (T, tup [.str (Str.ofString "duplicate") t1, .int it.at t2]) :: R := fun p hp => List.mem_cons_of_mem _ hp
  have ext : ∀ (x : Addr), @LT.lt Nat _ x T → (∀ p ∈ R, p.1 ≠ x) → ∀ p ∈ (T, tup [.str (Str.ofString "duplicate") t1, .int it.at t2]) :: R, p.1 ≠ x := by
    intro x hx hr p hp
    rcases List.mem_cons.mp hp with rfl | hp
    · exact Ne.symm (Nat.ne_of_lt hx)
    · exact hr p hp
  refine ej_end (R := (T, tup [.str (Str.ofString "duplicate") t1, .int it.at t2]) :: R) (P := (((its.take i).foldl pairStep ([f], [])).1, ((its.take i).foldl pairStep ([f], [])).2 ++ [(Str.ofString "duplicate", it.at)])) ?_ F N mI mp (by rw [List.push_toArray] at mt; exact mt) mD ?_ i1 i2 i3 (ext _ lI o4) (hp.mono mono) ((ht.mono mono).snoc List.mem_cons_self) (fun p hp => mono p (hsub p hp)) (ext _ lp o1) (ext _ lt o2) (ext _ lD o3) (FreshL.cons ?_ (allLt_of_mem fun p hp => allLt_mem lT p (hsub p hp)) hfr) (by simp; omega) hpl m1 m2 m3 m4
  · rw [take_fold hit, pairStep, if_neg hno]
  · intro p hp
    rcases List.mem_cons.mp hp with rfl | hp
    · exact mT
    · exact sR p hp
  · intro a ha
    rw [List.mem_singleton.mp ha]
    exact lt
end
theorem Fr.four {h₀ h : Heap} {L : Addr} {m : Str → Option Value} {v1 v2 v3 v4 : Value} (F : Fr h₀ L h m) (h1 : m (Str.ofString "pair") = some v1) (h2 : m (Str.ofString "told") = some v2) (h3 : m (Str.ofString "own") = some v3) (h4 : m (Str.ofString "first") = some v4) :
    Fr h₀ L h (fun x => if x = Str.ofString "pair" then some v1 else if x = Str.ofString "told" then some v2 else if x = Str.ofString "own" then some v3 else if x = Str.ofString "first" then some v4 else m x) := by
  have e : (fun x => if x = Str.ofString "pair" then some v1 else if x = Str.ofString "told" then some v2 else if x = Str.ofString "own" then some v3 else if x = Str.ofString "first" then some v4 else m x) = m := by
    funext x
    split
    · next h => rw [h, h1]
    · split
      · next h => rw [h, h2]
      · split
        · next h => rw [h, h3]
        · split
          · next h => rw [h, h4]
          · rfl
  rw [e]
  exact F
theorem addE {α : Type} (a b : List α) : a.toArray.toList ++ b.toArray.toList = a ++ b := rfl
theorem len_its {prog : Program} {w : World} {A : Around} {E : Value → Shared → Prop} {s : Shared} {Q : Value → Shared → Prop} {h₀ : Heap} {L l : Addr} {news R : List (Addr × Obj)} {vs : List Value} {its : List It} {n : Nat}
    (N : News h₀ L s.heap news) (hm : (l, listOf vs.toArray n) ∈ news) (hi : ItsIn R vs its) (hz : its.length < 1000) (h : Q (.int its.length (s.toks + 1)) { s with toks := s.toks + 1 + 1 }) :
    wpAny (model prog w) A (call (.builtin "len") [.ref l]) Q E s := by
  have e := hi.len
  refine PyProof.Rows.len_list (News.isList N hm) (by simp; omega) ?_
  simpa [e] using h
theorem strs3 {a b c : Str} {t u v : Tok} : StrsAre [Value.str a t, Value.str b u, Value.str c v] [a, b, c] := .cons _ _ (.cons _ _ (.cons _ _ .nil))
section
variable {prog : Program} {w : World} {A : Around} {E : Value → Shared → Prop} {s : Shared} {h₀ : Heap} {L d : Addr} {news : List (Addr × Obj)} {a b c x : Str} {t u v z : Tok} {r : Bool} {Q : Value → Shared → Prop}
theorem in2_c (N : News h₀ L s.heap news) (hm : (d, tup [.str a t, .str b u]) ∈ news) (hx : [a, b].any (· == x) = r) (h : Q (.bool r) s) : wpAny (model prog w) A (compareOp .In (.str x v) (.ref d)) Q E s := by
  refine in_tuple_strs (News.isTup N hm) strs2 ?_
  rw [hx]; exact h
theorem in3_c (N : News h₀ L s.heap news) (hm : (d, tup [.str a t, .str b u, .str c z]) ∈ news) (hx : [a, b, c].any (· == x) = r) (h : Q (.bool r) s) : wpAny (model prog w) A (compareOp .In (.str x v) (.ref d)) Q E s := by
  refine in_tuple_strs (News.isTup N hm) strs3 ?_
  rw [hx]; exact h
end
end
section
def Shape (f : It) (l : List It) : Prop := l = [f] ∨ ∃ g, l = [f, g] ∧ ((f.isPort = true ∧ g.isWire = true) ∨ (f.isWire = true ∧ g.isPort = true))
theorem port_not_wire {x : It} (h : x.isPort = true) : x.isWire = false := by
  cases x with
  | port i d n => rfl
  | net i n => exact absurd (show false = true from h) (by decide)
  | var i n => exact absurd (show false = true from h) (by decide)
  | ev g i n => cases g <;> exact absurd (show false = true from h) (by decide)
  | param i n => exact absurd (show false = true from h) (by decide)
  | rout i k n ds => exact absurd (show false = true from h) (by decide)
  | inst i g => exact absurd (show false = true from h) (by decide)
  | gate i g => exact absurd (show false = true from h) (by decide)
  | cas i => exact absurd (show false = true from h) (by decide)
theorem shape_step {f : It} {st : PSt} {it : It} (h : Shape f st.1) : Shape f (pairStep st it).1 := by
  unfold pairStep
  split
  · next hc =>
    obtain ⟨h1, h2, h3⟩ := hc
    rcases h with e | ⟨g, e, _⟩
    · rw [e] at h2 h3 ⊢
      refine .inr ⟨it, rfl, ?_⟩
      cases a : f.isPort <;> cases b : it.isPort <;> cases c : f.isWire <;> cases d : it.isWire <;>
        first
        | (rw [port_not_wire a] at c; exact absurd c (by decide))
        | (rw [port_not_wire b] at d; exact absurd d (by decide))
        | (simp [a, b] at h2; done)
        | (simp [c, d] at h3; done)
        | simp
    · rw [e] at h1
      simp at h1
  · exact h
theorem pair_shape (f : It) (its : List It) : Shape f (its.foldl pairStep ([f], [])).1 := by
  have : ∀ (l : List It) (st : PSt), Shape f st.1 → Shape f (l.foldl pairStep st).1 := by
    intro l
    induction l with
    | nil => exact fun _ h => h
    | cons x r ih => exact fun st h => ih _ (shape_step h)
  exact this its _ (.inl rfl)
noncomputable def entryEnt (own : Bool) : List It → Ent
  | [.port i d _] => ⟨if own then Str.ofString "var" else Str.ofString "net", i, .sig d true false⟩
  | [.net i _] => ⟨Str.ofString "net", i, .sig (Str.ofString "") false true⟩
  | [.var i _] => ⟨Str.ofString "var", i, .sig (Str.ofString "") false true⟩
  | [.ev false i _] => ⟨Str.ofString "event", i, .neg⟩
  | [.ev true i _] => ⟨Str.ofString "genvar", i, .neg⟩
  | [.param i _] => ⟨Str.ofString "param", i, .neg⟩
  | [.rout i k _ ds] => ⟨k, i, .dirs ds⟩
  | [.inst i _] => ⟨Str.ofString "instance", i, .neg⟩
  | [.gate i _] => ⟨Str.ofString "instance", i, .neg⟩
  | [.cas i] => ⟨Str.ofString "cassign", i, .neg⟩
  | [.port i d _, .net _ _] => ⟨Str.ofString "net", i, .sig d true true⟩
  | [.port i d _, .var _ _] => ⟨Str.ofString "var", i, .sig d true true⟩
  | [.net i _, .port _ d _] => ⟨Str.ofString "net", i, .sig d true true⟩
  | [.var i _, .port _ d _] => ⟨Str.ofString "var", i, .sig d true true⟩
  | _ => ⟨Str.ofString "", 0, .neg⟩
noncomputable def entryRows (own : Bool) : List It → List (Str × Int)
  | [.port _ d _, .var i _] => if own = false ∧ d ≠ Str.ofString "output" then [(Str.ofString "variable_port_input", i)] else []
  | [.var _ _, .port i d _] => if own = false ∧ d ≠ Str.ofString "output" then [(Str.ofString "variable_port_input", i)] else []
  | _ => []
end
section
section
variable {prog : Program} {w : World} {A : Around} {E : Value → Shared → Prop} {s : Shared} {h₀ : Heap} {L d e : Addr} {news : List (Addr × Obj)} {xs ys : List Value} {n n2 : Nat} {Q : Value → Shared → Prop}
theorem ne_len_t (N : News h₀ L s.heap news) (hm1 : (d, listOf xs.toArray n) ∈ news) (hm2 : (e, listOf ys.toArray n2) ∈ news) (hz : (xs.length != ys.length) = true) (hu : A.units < cLine) (h : Q (.bool true) s) : wpAny (model prog w) A (compareOp .NotEq (.ref d) (.ref e)) Q E s :=
  PySem.SeqAt.RcNeAt.lists_lengths (News.isList N hm1) (News.isList N hm2) (by simpa using hz) hu prog w E Q h
theorem ne_nil_f (N : News h₀ L s.heap news) (hm1 : (d, listOf ([] : List Value).toArray n) ∈ news) (hm2 : (e, listOf ([] : List Value).toArray n2) ∈ news) (hu : A.units < cLine) (h : Q (.bool false) s) : wpAny (model prog w) A (compareOp .NotEq (.ref d) (.ref e)) Q E s :=
  PySem.SeqAt.RcNeAt.lists (e := fun _ => true) (News.isList N hm1) (News.isList N hm2) rfl hu (fun _ h1 _ => absurd h1 (by simp)) prog w E Q h
end
structure CaseFacts (f : It) (p w r i : Bool) : Prop where
  hP : f.isPort = p
  hW : f.isWire = w
  hp : if p then f.tag = Str.ofString "port" else f.tag ≠ Str.ofString "port"
  hn : [Str.ofString "port", Str.ofString "net", Str.ofString "var"].any (· == f.tag) = (p || w)
  hr : if r then f.tag = Str.ofString "routine" else f.tag ≠ Str.ofString "routine"
  hi : [Str.ofString "inst", Str.ofString "gate"].any (· == f.tag) = i
theorem It.facts (f : It) : ∃ p w r i, CaseFacts f p w r i ∧ ((∃ a d n, f = .port a d n) ∧ p = true ∧ w = false ∧ r = false ∧ i = false ∨
    p = false ∧ w = true ∧ r = false ∧ i = false ∨ (∃ a k n ds, f = .rout a k n ds) ∧ p = false ∧ w = false ∧ r = true ∧ i = false ∨ p = false ∧ w = false ∧ r = false) := by
  cases f with
  | port a d n => exact ⟨true, false, false, false, by constructor <;> (simp only [It.isPort, It.isWire, It.tag]; decide), .inl ⟨⟨_, _, _, rfl⟩, rfl, rfl, rfl, rfl⟩⟩
  | net i n => exact ⟨false, true, false, false, by constructor <;> (simp only [It.isPort, It.isWire, It.tag]; decide), .inr (.inl ⟨rfl, rfl, rfl, rfl⟩)⟩
  | var i n => exact ⟨false, true, false, false, by constructor <;> (simp only [It.isPort, It.isWire, It.tag]; decide), .inr (.inl ⟨rfl, rfl, rfl, rfl⟩)⟩
  | ev g i n => cases g <;> exact ⟨false, false, false, false, by constructor <;> (simp only [It.isPort, It.isWire, It.tag]; decide), .inr (.inr (.inr ⟨rfl, rfl, rfl⟩))⟩
  | param i n => exact ⟨false, false, false, false, by constructor <;> (simp only [It.isPort, It.isWire, It.tag]; decide), .inr (.inr (.inr ⟨rfl, rfl, rfl⟩))⟩
  | rout i k n ds => exact ⟨false, false, true, false, by constructor <;> (simp only [It.isPort, It.isWire, It.tag]; decide), .inr (.inr (.inl ⟨⟨_, _, _, _, rfl⟩, rfl, rfl, rfl, rfl⟩))⟩
  | inst i g => exact ⟨false, false, false, true, by constructor <;> (simp only [It.isPort, It.isWire, It.tag]; decide), .inr (.inr (.inr ⟨rfl, rfl, rfl⟩))⟩
  | gate i g => exact ⟨false, false, false, true, by constructor <;> (simp only [It.isPort, It.isWire, It.tag]; decide), .inr (.inr (.inr ⟨rfl, rfl, rfl⟩))⟩
  | cas i => exact ⟨false, false, false, false, by constructor <;> (simp only [It.isPort, It.isWire, It.tag]; decide), .inr (.inr (.inr ⟨rfl, rfl, rfl⟩))⟩
theorem entW1 {f : It} {own : Bool} (h : f.isWire = true) : entryEnt own [f] = ⟨f.tag, f.at, .sig (Str.ofString "") false true⟩ ∧ entryRows own [f] = [] := by
  cases f with
  | net i n => exact ⟨rfl, rfl⟩
  | var i n => exact ⟨rfl, rfl⟩
  | ev g i n => cases g <;> exact absurd h (by simp only [It.isPort, It.isWire, It.tag]; decide)
  | port i d n => exact absurd h (by simp only [It.isPort, It.isWire, It.tag]; decide)
  | param i n => exact absurd h (by simp only [It.isPort, It.isWire, It.tag]; decide)
  | rout i k n ds => exact absurd h (by simp only [It.isPort, It.isWire, It.tag]; decide)
  | inst i g => exact absurd h (by simp only [It.isPort, It.isWire, It.tag]; decide)
  | gate i g => exact absurd h (by simp only [It.isPort, It.isWire, It.tag]; decide)
  | cas i => exact absurd h (by simp only [It.isPort, It.isWire, It.tag]; decide)
theorem entI {f : It} {own : Bool} (h : [Str.ofString "inst", Str.ofString "gate"].any (· == f.tag) = true) : entryEnt own [f] = ⟨Str.ofString "instance", f.at, .neg⟩ ∧ entryRows own [f] = [] := by
  cases f with
  | inst i g => exact ⟨rfl, rfl⟩
  | gate i g => exact ⟨rfl, rfl⟩
  | ev g i n => cases g <;> exact absurd h (by simp only [It.isPort, It.isWire, It.tag]; decide)
  | port i d n => exact absurd h (by simp only [It.isPort, It.isWire, It.tag]; decide)
  | net i n => exact absurd h (by simp only [It.isPort, It.isWire, It.tag]; decide)
  | var i n => exact absurd h (by simp only [It.isPort, It.isWire, It.tag]; decide)
  | param i n => exact absurd h (by simp only [It.isPort, It.isWire, It.tag]; decide)
  | rout i k n ds => exact absurd h (by simp only [It.isPort, It.isWire, It.tag]; decide)
  | cas i => exact absurd h (by simp only [It.isPort, It.isWire, It.tag]; decide)
theorem entO {f : It} {own : Bool} (hp : f.isPort = false) (hw : f.isWire = false) (hr : f.tag ≠ Str.ofString "routine") (hi : [Str.ofString "inst", Str.ofString "gate"].any (· == f.tag) = false) : entryEnt own [f] = ⟨f.tag, f.at, .neg⟩ ∧ entryRows own [f] = [] := by
  cases f with
  | ev g i n => cases g <;> exact ⟨rfl, rfl⟩
  | param i n => exact ⟨rfl, rfl⟩
  | cas i => exact ⟨rfl, rfl⟩
  | port i d n => exact absurd hp (by simp only [It.isPort, It.isWire, It.tag]; decide)
  | net i n => exact absurd hw (by simp only [It.isPort, It.isWire, It.tag]; decide)
  | var i n => exact absurd hw (by simp only [It.isPort, It.isWire, It.tag]; decide)
  | rout i k n ds => exact absurd rfl hr
  | inst i g => exact absurd hi (by simp only [It.isPort, It.isWire, It.tag]; decide)
  | gate i g => exact absurd hi (by simp only [It.isPort, It.isWire, It.tag]; decide)
theorem entPW {g : It} {own : Bool} {i : Int} {d n : Str} (h : g.isWire = true) : entryEnt own [.port i d n, g] = ⟨g.tag, i, .sig d true true⟩ ∧
    entryRows own [.port i d n, g] = if own = false ∧ g.tag = Str.ofString "var" ∧ d ≠ Str.ofString "output" then [(Str.ofString "variable_port_input", g.at)] else [] := by
  cases g with
  | net i n => exact ⟨rfl, (if_neg (fun hh => absurd hh.2.1 (by simp only [It.tag]; decide))).symm⟩
  | var i n => exact ⟨rfl, by simp [entryRows, It.tag, It.at]⟩
  | ev g i n => cases g <;> exact absurd h (by simp only [It.isPort, It.isWire, It.tag]; decide)
  | port i d n => exact absurd h (by simp only [It.isPort, It.isWire, It.tag]; decide)
  | param i n => exact absurd h (by simp only [It.isPort, It.isWire, It.tag]; decide)
  | rout i k n ds => exact absurd h (by simp only [It.isPort, It.isWire, It.tag]; decide)
  | inst i g => exact absurd h (by simp only [It.isPort, It.isWire, It.tag]; decide)
  | gate i g => exact absurd h (by simp only [It.isPort, It.isWire, It.tag]; decide)
  | cas i => exact absurd h (by simp only [It.isPort, It.isWire, It.tag]; decide)
theorem entWP {f : It} {own : Bool} {i : Int} {d n : Str} (h : f.isWire = true) : entryEnt own [f, .port i d n] = ⟨f.tag, f.at, .sig d true true⟩ ∧
    entryRows own [f, .port i d n] = if own = false ∧ f.tag = Str.ofString "var" ∧ d ≠ Str.ofString "output" then [(Str.ofString "variable_port_input", i)] else [] := by
  cases f with
  | net i n => exact ⟨rfl, (if_neg (fun hh => absurd hh.2.1 (by simp only [It.tag]; decide))).symm⟩
  | var i n => exact ⟨rfl, by simp [entryRows, It.tag]⟩
  | ev g i n => cases g <;> exact absurd h (by simp only [It.isPort, It.isWire, It.tag]; decide)
  | port i d n => exact absurd h (by simp only [It.isPort, It.isWire, It.tag]; decide)
  | param i n => exact absurd h (by simp only [It.isPort, It.isWire, It.tag]; decide)
  | rout i k n ds => exact absurd h (by simp only [It.isPort, It.isWire, It.tag]; decide)
  | inst i g => exact absurd h (by simp only [It.isPort, It.isWire, It.tag]; decide)
  | gate i g => exact absurd h (by simp only [It.isPort, It.isWire, It.tag]; decide)
  | cas i => exact absurd h (by simp only [It.isPort, It.isWire, It.tag]; decide)
def EntRet (h₀ : Heap) (L : Addr) (m : Str → Option Value) (rest : List (Addr × Obj)) (td : Addr) (own : Bool) (P : PSt) (s : Shared) (Q : Value → Shared → Prop) : Prop :=
  ∀ v' ts' n' R h' toks', Fr h₀ L h' m → News h₀ L h' R → (td, listOf (ts' : List Value).toArray n') ∈ R → (∀ p ∈ rest, p ∈ R) → EntIn R v' (entryEnt own P.1) → TwoIn R ts' (P.2 ++ entryRows own P.1) → Q v' { s with heap := h', toks := toks' }
section
variable {h₀ h' : Heap} {L : Addr} {m : Str → Option Value} {all rest R : List (Addr × Obj)} {td X I T : Addr} {own : Bool} {P : PSt} {s s' : Shared} {Q : Value → Shared → Prop} {n2 tk : Nat} {ts : List Value} {wh d : Str} {i i2 : Int} {t1 t2 t3 t4 t5 : Tok} {p w : Bool}
theorem ent_neg (hret : EntRet h₀ L m rest td own P s Q) (hE : entryEnt own P.1 = ⟨wh, i, .neg⟩ ∧ entryRows own P.1 = []) (F : Fr h₀ L h' m) (N : News h₀ L h' all) (mt : (td, listOf ts.toArray n2) ∈ all) (mX : (X, tup [.str wh t1, .int i t2, .int (-1) t3]) ∈ all)
    (sR : ∀ p ∈ R, p ∈ all) (hsub : ∀ p ∈ rest, p ∈ R) (ht : TwoIn R ts P.2) : Q (.ref X) { s with heap := h', toks := tk } :=
  hret (.ref X) ts n2 all h' tk F N mt (fun p hp => sR p (hsub p hp)) (by rw [hE.1]; exact .mk mX .neg) (by rw [hE.2, List.append_nil]; exact ht.mono sR)
theorem ent_sig (hret : EntRet h₀ L m rest td own P s Q) (hE : entryEnt own P.1 = ⟨wh, i, .sig d p w⟩ ∧ entryRows own P.1 = []) (F : Fr h₀ L h' m) (N : News h₀ L h' all) (mt : (td, listOf ts.toArray n2) ∈ all) (mX : (X, tup [.str wh t1, .int i t2, .ref I]) ∈ all)
    (mI : (I, tup [.str d t3, .bool p, .bool w]) ∈ all) (sR : ∀ p ∈ R, p ∈ all) (hsub : ∀ p ∈ rest, p ∈ R) (ht : TwoIn R ts P.2) : Q (.ref X) { s with heap := h', toks := tk } :=
  hret (.ref X) ts n2 all h' tk F N mt (fun p hp => sR p (hsub p hp)) (by rw [hE.1]; exact .mk mX (.sig mI)) (by rw [hE.2, List.append_nil]; exact ht.mono sR)
theorem ent_dirs {vs : List Value} {ds : List Str} (hret : EntRet h₀ L m rest td own P s Q) (hE : entryEnt own P.1 = ⟨wh, i, .dirs ds⟩ ∧ entryRows own P.1 = []) (F : Fr h₀ L h' m) (N : News h₀ L h' all) (mt : (td, listOf ts.toArray n2) ∈ all) (mX : (X, tup [.str wh t1, .int i t2, .ref I]) ∈ all)
    (mI : (I, tup vs) ∈ all) (hv : StrV vs ds) (sR : ∀ p ∈ R, p ∈ all) (hsub : ∀ p ∈ rest, p ∈ R) (ht : TwoIn R ts P.2) : Q (.ref X) { s with heap := h', toks := tk } :=
  hret (.ref X) ts n2 all h' tk F N mt (fun p hp => sR p (hsub p hp)) (by rw [hE.1]; exact .mk mX (.dirs mI hv)) (by rw [hE.2, List.append_nil]; exact ht.mono sR)
theorem ent_two (hret : EntRet h₀ L m rest td own P s Q) (hE : entryEnt own P.1 = ⟨wh, i, .sig d p w⟩) (F : Fr h₀ L h' m) (N : News h₀ L h' all) (mt : (td, listOf ts.toArray n2) ∈ all) (mX : (X, tup [.str wh t1, .int i t2, .ref I]) ∈ all)
    (mI : (I, tup [.str d t3, .bool p, .bool w]) ∈ all) (sR : ∀ p ∈ R, p ∈ all) (hsub : ∀ p ∈ rest, p ∈ R) (ht : TwoIn all ts (P.2 ++ entryRows own P.1)) : Q (.ref X) { s with heap := h', toks := tk } :=
  hret (.ref X) ts n2 all h' tk F N mt (fun p hp => sR p (hsub p hp)) (by rw [hE]; exact .mk mX (.sig mI)) ht
end
end
section
structure DoneMark : Prop where
  intro ::
noncomputable def It.notPort (it : It) : Bool := it.tag != Str.ofString "port"
section
variable {R : List (Addr × Obj)} {ys : List Value} {x : It} {i : Int} {d n : Str}
theorem its_nil (h : ItsIn R ys []) : ys = [] := by cases h; rfl
theorem its_port (h : ItsIn R ys [.port i d n]) : ∃ a t1 t2 t3 t4 x3 x4, ys = [.ref a] ∧ (a, tup [.str (Str.ofString "port") t1, .int i t2, .str d t3, x3, x4, .str n t4]) ∈ R := by
  cases h with
  | cons h h' =>
    cases h'
    cases h with
    | port h => exact ⟨_, _, _, _, _, _, _, rfl, h⟩
theorem its_one (h : ItsIn R ys [x]) : ∃ a t t2 xs, ys = [.ref a] ∧ (a, tup (.str x.tag t :: .int x.at t2 :: xs)) ∈ R := by
  cases h with
  | cons h h' =>
    cases h'
    obtain ⟨a, t, t2, xs, rfl, hm⟩ := h.second
    exact ⟨a, t, t2, xs, rfl, hm⟩
end
section
open PyProof.Rows.LCt PyProof.Rows.LCg
variable {prog : Program} {w : World} {A : Around} {h₀ : Heap} {L : Addr} {m : Str → Option Value} {env : Env} {ct elt : Expr} {x : Str} {scope : Scope} {cl : List (Str × Addr)} {s : Shared} {S : List (Addr × Obj) → Prop} {P : Nat → Value → Prop} {Fin : List Value → List (Addr × Obj) → Prop} {news : List (Addr × Obj)}
theorem cf_list {n : Nat} {R : List (Addr × Obj)} {vs : List Value} {its l : List It} (p : It → Bool) (hits : ItsIn R vs its) (hn : vs.length = n) (hP : ∀ i v, P i v → vs[i]? = some v) (hf : its.filter p = l)
    (turn : ∀ it v I oI C oC D m₂ ys h tk (E' : Value → Shared → Prop), ItIn R v it → NsObj oC m₂ → m₂ x = some v → Fr h₀ L h m → News h₀ L h ((I, oI) :: (C, oC) :: (D, lst ys) :: news) → Off3 I C D news → ((@Ne Nat I C) ∧ (@Ne Nat I D) ∧ (@Ne Nat C D)) →
      wpAny (model prog w) A (isTrue ct (compEnvC scope cl C env) (eval ct (compEnvC scope cl C env))) (fun b s' => if b = true then wpAny (model prog w) A (eval elt (compEnvC scope cl C env)) (CompEnd h₀ L m { s with heap := h, toks := tk } I oI C oC D (lst ys) S (CfYes p it v news)) E' s'
        else CompEnd h₀ L m { s with heap := h, toks := tk } I oI C oC D (lst ys) S (CfNo p it news) Value.none s') E' { s with heap := h, toks := tk })
    (fin : ∀ ys, ItsIn R ys l → Fin ys news) : CompRestT prog w A h₀ L m env ct elt x scope cl s S P Fin n 0 [] news :=
  cf_items p hits hn hP turn fun ys hy => fin ys (hf ▸ hy)
end
theorem fil1 {f : It} {p : It → Bool} (h : p f = true) : [f].filter p = [f] := by simp [h]
theorem fil0 {f : It} {p : It → Bool} (h : p f = false) : [f].filter p = [] := by simp [h]
theorem fil10 {f g : It} {p : It → Bool} (h : p f = true) (h' : p g = false) : [f, g].filter p = [f] := by simp [h, h']
theorem fil01 {f g : It} {p : It → Bool} (h : p f = false) (h' : p g = true) : [f, g].filter p = [g] := by simp [h, h']
theorem notPort_t {f : It} (h : f.isPort = false) : f.notPort = true := by
  have : f.notPort = !f.isPort := rfl
  rw [this, h]; rfl
theorem notPort_f {f : It} (h : f.isPort = true) : f.notPort = false := by
  have : f.notPort = !f.isPort := rfl
  rw [this, h]; rfl
end
section
section
open PyProof.Rows.LCt PyProof.Rows.LCg
variable {prog : Program} {w : World} {A : Around} {E : Value → Shared → Prop} {s : Shared} {h₀ : Heap} {L : Addr} {m : Str → Option Value} {env : Env}
def TupAt (ax : Addr) (its : Array Value) (news : List (Addr × Obj)) : Prop := ∃ o, (ax, o) ∈ news ∧ o.cls = .type "tuple" ∧ ∃ n, o.data = .seq its n
theorem TupAt.tup {h : Heap} {ax : Addr} {its : Array Value} {news : List (Addr × Obj)} (x : TupAt ax its news) (N : News h₀ L h news) : h.IsTuple ax its := by
  obtain ⟨o, hm, r⟩ := x
  exact ⟨o, (N _ hm).1, r⟩
theorem tup_st {ax I : Addr} {its : Array Value} : ∀ i (h h' : Heap) (o : Obj) (nw : List (Addr × Obj)), (h.IsTupleIter I ax i ∧ h.IsTuple ax its) → h.get? I = some o → h'.get? I = some o → (∀ b o, h₀.get? b = some o → h'.get? b = some o) → News h₀ L h' nw → TupAt ax its nw → (h'.IsTupleIter I ax i ∧ h'.IsTuple ax its) :=
  fun i h h' o nw st e e' k N S => ⟨by obtain ⟨o', q, r⟩ := st.1; rw [e] at q; cases q; exact ⟨o, e', r⟩, S.tup N⟩
def CompTup (prog : Program) (w : World) (A : Around) (h₀ : Heap) (L : Addr) (m : Str → Option Value) (env : Env) (ct elt : Expr) (x : Str) (scope : Scope) (cl : List (Str × Addr)) (Fin : Shared → List Value → List (Addr × Obj) → Prop) (xv : Value) (s₁ : Shared) : Prop :=
  ∃ ax its news, xv = .ref ax ∧ A.handled = none ∧ Fr h₀ L s₁.heap m ∧ News h₀ L s₁.heap news ∧ TupAt ax its news ∧ its.size ≤ sizeLine ∧
    ∀ s₂ : Shared, (∃ h, s₂ = { s₁ with heap := h }) → CompRestT prog w A h₀ L m env ct elt x scope cl s₂ (TupAt ax its) (fun i v => its[i]? = some v) (Fin s₂) its.size 0 [] news
theorem CompTup.ledger {ct elt : Expr} {x : Str} {scope : Scope} {cl : List (Str × Addr)} {Fin : Shared → List Value → List (Addr × Obj) → Prop} {ax : Addr} {vs : List Value} {news : List (Addr × Obj)} {s₁ : Shared}
    (hh : A.handled = none) (F : Fr h₀ L s₁.heap m) (N : News h₀ L s₁.heap news) (hm : (ax, Mine.tup vs) ∈ news) (hsz : vs.length ≤ sizeLine)
    (h : ∀ g, CompRestT prog w A h₀ L m env ct elt x scope cl { s₁ with heap := g } (TupAt ax vs.toArray) (fun i v => vs.toArray[i]? = some v) (Fin { s₁ with heap := g }) vs.toArray.size 0 [] news) :
    CompTup prog w A h₀ L m env ct elt x scope cl Fin (.ref ax) s₁ := ⟨ax, vs.toArray, news, rfl, hh, F, N, ⟨_, hm, rfl, _, rfl⟩, by simpa using hsz, fun _ ⟨g, e⟩ => e ▸ h g⟩
theorem ListComp_Tup {ct elt iter : Expr} {x : Str} {px : Pos} {scope : Scope} {cl : List (Str × Addr)} {pos : Pos} {Q : Value → Shared → Prop} (_ : Fr h₀ L s.heap m)
    (hclos : closureFor scope env = pure cl) (hcell : ∀ y ∈ scope.names, y.2 ≠ .cell) (hkind : scope.kind = .function)
    (hnames : ∀ y ∈ scope.names, y.2 = .local → scope.names.lookup y.1 = some .local) (hx : scope.names.lookup x = some .local)
    (h : wpAny (model prog w) A (eval iter env) (CompTup prog w A h₀ L m env ct elt x scope cl (fun s₂ => FinE h₀ L m s₂ Q)) E s)
    (hs : ∀ x, foldedSetIterable iter env x = pure x) :
    wpAny (model prog w) A (eval (.ListComp elt [⟨.Name x px, iter, [ct], 0⟩] scope pos) env) Q E s := by
  rw [eval_ListComp]
  refine wpAny_comprehension_free (use := none) rfl hs hclos hkind hnames (wpAny_mono h (fun xv s₁ h₁ => ?_) fun _ _ e => e)
  obtain ⟨ax, its, news, rfl, hh, F, N, S, hsz, R⟩ := h₁
  have hl := S.tup N
  have hlt : ax < s₁.heap.objs.size := by obtain ⟨_, e, _⟩ := hl; exact Heap.lt_size e
  refine wpAny_pyIter_tuple hl ?_
  have up : ∀ b o, s₁.heap.get? b = some o → (s₁.heap.push { cls := .type "tuple_iterator", data := .fields #[.ref ax, .int 0 0] }).get? b = some o := fun b o e => Heap.get?_push_of_some _ e
  refine block_T (Walks.tuple hh s₁.heap.objs.size ax (Nat.ne_of_lt hlt) its) hsz (fun i h st => by obtain ⟨o, e, _⟩ := st.1; exact ⟨o, e⟩) tup_st hcell hkind hx ⟨⟨_, Heap.get?_push_size _ rfl, rfl, rfl⟩, hl.push _⟩ (fun b hb => ?_)
    (F.keeps up) (N.grown up) (Nat.ne_of_lt F.ns.lt) (next_is_new F) (fun p hp => Nat.ne_of_lt (Heap.lt_size (N p hp).1)) S (R _ ⟨_, rfl⟩) ?_
  · show b < (s₁.heap.push _).objs.size
    rw [Heap.size_push]
    rcases List.mem_cons.mp hb with rfl | hb
    · exact Nat.lt_succ_self _
    · rw [List.mem_singleton.mp hb]; exact Nat.lt_succ_of_lt hlt
  · intro D C h tk m' ys news' F' N' o1 hn hC₀ hD₀ hCL hDL hCD offC fin
    refine ⟨m', hn, fun h'' hs'' => fin D h'' tk (F'.change hs'' hCL hC₀) (fun p hp => ?_) o1⟩
    refine ⟨hs''.extBut _ _ ?_ (N' p hp).1, (N' p hp).2⟩
    rcases List.mem_cons.mp hp with rfl | hp
    · exact Ne.symm hCD
    · exact offC p hp
end
section
open PyProof.Rows.LCt PyProof.Rows.LCg
variable {prog : Program} {w : World} {A : Around} {h₀ : Heap} {L : Addr} {m : Str → Option Value} {env : Env} {ct elt : Expr} {x : Str} {scope : Scope} {cl : List (Str × Addr)} {s : Shared} {S : List (Addr × Obj) → Prop} {P : Nat → Value → Prop} {Fin : List Value → List (Addr × Obj) → Prop} {news : List (Addr × Obj)}
def DirYes (d : Str) (news : List (Addr × Obj)) (y : Value) (news' : List (Addr × Obj)) : Prop := news' = news ∧ ∃ t, y = .str d t
def DirNo (news : List (Addr × Obj)) (_ : Value) (news' : List (Addr × Obj)) : Prop := news' = news
theorem cf_dirs {n : Nat} {R : List (Addr × Obj)} {b : Addr} {ws : List Value} {ds : List Str} {t5 : Tok} {y1 y2 y3 y4 y5 y6 y7 : Value} (hp : PortsIn R ws ds) (hb : (b, tup [.str (Str.ofString "var") t5, y1, y2, y3, y4, y5, y6, y7]) ∈ R) (hd : ds.length ≤ 3) (hn : (Value.ref b :: ws).length = n) (hP : ∀ i v, P i v → (Value.ref b :: ws)[i]? = some v)
    (turn0 : ∀ I oI C oC D m₂ ys h tk (E' : Value → Shared → Prop), NsObj oC m₂ → m₂ x = some (.ref b) → Fr h₀ L h m → News h₀ L h ((I, oI) :: (C, oC) :: (D, lst ys) :: news) → Off3 I C D news → ((@Ne Nat I C) ∧ (@Ne Nat I D) ∧ (@Ne Nat C D)) →
      wpAny (model prog w) A (isTrue ct (compEnvC scope cl C env) (eval ct (compEnvC scope cl C env))) (fun b s' => if b = true then False
        else CompEnd h₀ L m { s with heap := h, toks := tk } I oI C oC D (lst ys) S (DirNo news) Value.none s') E' { s with heap := h, toks := tk })
    (turn1 : ∀ d b' t1 t3 x2 x4 x5 x6 I oI C oC D m₂ ys h tk (E' : Value → Shared → Prop), (b', tup [.str (Str.ofString "port") t1, x2, .str d t3, x4, x5, x6]) ∈ R → NsObj oC m₂ → m₂ x = some (.ref b') → Fr h₀ L h m → News h₀ L h ((I, oI) :: (C, oC) :: (D, lst ys) :: news) → Off3 I C D news → ((@Ne Nat I C) ∧ (@Ne Nat I D) ∧ (@Ne Nat C D)) →
      wpAny (model prog w) A (isTrue ct (compEnvC scope cl C env) (eval ct (compEnvC scope cl C env))) (fun b s' => if b = true then wpAny (model prog w) A (eval elt (compEnvC scope cl C env)) (CompEnd h₀ L m { s with heap := h, toks := tk } I oI C oC D (lst ys) S (DirYes d news)) E' s'
        else False) E' { s with heap := h, toks := tk })
    (fin : ∀ ys, StrV ys ds → ys.length ≤ 3 → Fin ys news) : CompRestT prog w A h₀ L m env ct elt x scope cl s S P Fin n 0 [] news := by
  refine cf_rest (fun i ys => StrV ys (ds.take (i - 1))) .nil ?_ ?_
  · intro i v I oI C oC D m₂ ys h tk E' hi hPv hJ hC hx F N off ne
    have hv := hP i v hPv
    cases i with
    | zero =>
      simp at hv
      subst hv
      refine wpAny_mono (turn0 I oI C oC D m₂ ys h tk E' hC hx F N off ne) (fun b s₂ hq => ?_) fun _ _ e => e
      cases b with
      | true => simp at hq
      | false =>
        simp only [Bool.false_eq_true, if_false] at hq ⊢
        obtain ⟨h', tk', nw, e, F', N', off', hS, hn'⟩ := hq
        refine ⟨h', tk', nw, e, F', N', off', hS, hn', ?_⟩
        simpa using hJ
    | succ i =>
      simp at hv
      obtain ⟨b', d, t1, t3, x2, x4, x5, x6, rfl, hds, hm⟩ := hp.get hv
      refine wpAny_mono (turn1 d b' t1 t3 x2 x4 x5 x6 I oI C oC D m₂ ys h tk E' hm hC hx F N off ne) (fun b s₂ hq => ?_) fun _ _ e => e
      cases b with
      | true =>
        simp only [if_true] at hq ⊢
        refine wpAny_mono hq (fun y s₃ hr => ?_) fun _ _ e => e
        obtain ⟨h', tk', nw, e, F', N', off', hS, hn', t, rfl⟩ := hr
        refine ⟨h', tk', nw, e, F', N', off', hS, hn', ?_⟩
        have : ds.take (i + 1 + 1 - 1) = ds.take (i + 1 - 1) ++ [d] := by simp [List.take_add_one, hds]
        rw [this]
        exact hJ.snoc
      | false => simp at hq
  · intro ys hJ
    have : ds.take (n - 1) = ds := by
      rw [← hn]; simp [hp.len]
    rw [this] at hJ
    exact fin ys hJ (by rw [hJ.len]; exact hd)
end
end
section
section
variable {prog : Program} {w : World} {A : Around} {E : Value → Shared → Prop} {s : Shared} {h₀ : Heap} {L : Addr} {news : List (Addr × Obj)} {m : Str → Option Value} {env : Env}
theorem neNil_T {nm : Str} {sc : Scope} {fa : Addr} {cd : Value} {x : Str} {l : Addr} {v : Value} {r : List Value} {n : Nat} {p1 p2 p3 : Pos} {whole : Sem Value} {Q : Bool → Shared → Prop} (F : Fr h₀ L s.heap m) (N : News h₀ L s.heap news) (hv : m x = some (.ref l)) (hm : (l, listOf (v :: r).toArray n) ∈ news) (hu : A.units < cLine)
    (h : ∀ h' tk, Fr h₀ L h' m → News h₀ L h' news → Q true { s with heap := h', toks := tk }) (hk : sc.kind = .function) (hl : (envOf nm sc L fa cd).kindOf x = some .local) (hd : (x == ("__debug__" : Str)) = false) :
    wpAny (model prog w) A (isTrue (.Compare (.Name x p1) [.NotEq] [.List [] p2] p3) (envOf nm sc L fa cd) whole) Q E s := by
  refine wpAny_isTrue_Compare1 (ld F hv ?_ hk hl hd)
  refine List_ (args_nil (newList_K F N (fun D h' F' N' _ => ?_)))
  refine ne_len_t N' (List.mem_cons_of_mem _ hm) List.mem_cons_self (by simp) hu ?_
  exact wpAny_truthy_bool (h _ _ F' (fun p hp => N' p (List.mem_cons_of_mem _ hp)))
theorem neNil_F {nm : Str} {sc : Scope} {fa : Addr} {cd : Value} {x : Str} {l : Addr} {n : Nat} {p1 p2 p3 : Pos} {whole : Sem Value} {Q : Bool → Shared → Prop} (F : Fr h₀ L s.heap m) (N : News h₀ L s.heap news) (hv : m x = some (.ref l)) (hm : (l, listOf ([] : List Value).toArray n) ∈ news) (hu : A.units < cLine)
    (h : ∀ h' tk, Fr h₀ L h' m → News h₀ L h' news → Q false { s with heap := h', toks := tk }) (hk : sc.kind = .function) (hl : (envOf nm sc L fa cd).kindOf x = some .local) (hd : (x == ("__debug__" : Str)) = false) :
    wpAny (model prog w) A (isTrue (.Compare (.Name x p1) [.NotEq] [.List [] p2] p3) (envOf nm sc L fa cd) whole) Q E s := by
  refine wpAny_isTrue_Compare1 (ld F hv ?_ hk hl hd)
  refine List_ (args_nil (newList_K F N (fun D h' F' N' _ => ?_)))
  refine ne_nil_f N' (List.mem_cons_of_mem _ hm) List.mem_cons_self hu ?_
  exact wpAny_truthy_bool (h _ _ F' (fun p hp => N' p (List.mem_cons_of_mem _ hp)))
theorem neNilE_T {nm : Str} {sc : Scope} {fa : Addr} {cd : Value} {x : Str} {l : Addr} {v : Value} {r : List Value} {n : Nat} {p1 p2 p3 : Pos} {Q : Value → Shared → Prop} (F : Fr h₀ L s.heap m) (N : News h₀ L s.heap news) (hv : m x = some (.ref l)) (hm : (l, listOf (v :: r).toArray n) ∈ news) (hu : A.units < cLine)
    (h : ∀ h' tk, Fr h₀ L h' m → News h₀ L h' news → Q (.bool true) { s with heap := h', toks := tk }) (hk : sc.kind = .function) (hl : (envOf nm sc L fa cd).kindOf x = some .local) (hd : (x == ("__debug__" : Str)) = false) :
    wpAny (model prog w) A (eval (.Compare (.Name x p1) [.NotEq] [.List [] p2] p3) (envOf nm sc L fa cd)) Q E s := by
  refine wpAny_Compare1 (ld F hv ?_ hk hl hd)
  refine List_ (args_nil (newList_K F N (fun D h' F' N' _ => ?_)))
  exact ne_len_t N' (List.mem_cons_of_mem _ hm) List.mem_cons_self (by simp) hu (h _ _ F' (fun p hp => N' p (List.mem_cons_of_mem _ hp)))
theorem neNilE_F {nm : Str} {sc : Scope} {fa : Addr} {cd : Value} {x : Str} {l : Addr} {n : Nat} {p1 p2 p3 : Pos} {Q : Value → Shared → Prop} (F : Fr h₀ L s.heap m) (N : News h₀ L s.heap news) (hv : m x = some (.ref l)) (hm : (l, listOf ([] : List Value).toArray n) ∈ news) (hu : A.units < cLine)
    (h : ∀ h' tk, Fr h₀ L h' m → News h₀ L h' news → Q (.bool false) { s with heap := h', toks := tk }) (hk : sc.kind = .function) (hl : (envOf nm sc L fa cd).kindOf x = some .local) (hd : (x == ("__debug__" : Str)) = false) :
    wpAny (model prog w) A (eval (.Compare (.Name x p1) [.NotEq] [.List [] p2] p3) (envOf nm sc L fa cd)) Q E s := by
  refine wpAny_Compare1 (ld F hv ?_ hk hl hd)
  refine List_ (args_nil (newList_K F N (fun D h' F' N' _ => ?_)))
  exact ne_nil_f N' (List.mem_cons_of_mem _ hm) List.mem_cons_self hu (h _ _ F' (fun p hp => N' p (List.mem_cons_of_mem _ hp)))
theorem tupIn3 {x a b c : Str} {r : Bool} {t : Tok} {k1 k2 k3 k : Nat} {p1 p2 p3 pp : Pos} {Q : Value → Shared → Prop} (F : Fr h₀ L s.heap m) (N : News h₀ L s.heap news) (hx : [a, b, c].any (· == x) = r)
    (h : ∀ h' tk, Fr h₀ L h' m → News h₀ L h' news → Q (.bool r) { s with heap := h', toks := tk }) :
    wpAny (model prog w) A (eval (.Tuple [.Constant (.str a) k1 p1, .Constant (.str b) k2 p2, .Constant (.str c) k3 p3] k pp) env) (fun w' s2 => wpAny (model prog w) A (compareOp .In (.str x t) w') Q E s2) E s := by
  refine Tuple_ (args_cons (Calls.Constant_str (args_cons (Calls.Constant_str (args_cons (Calls.Constant_str (args_nil (kup_newTuple (news := news) F N (fun D h' F' N' _ => ?_) ?_))))))))
  · exact in3_c N' List.mem_cons_self hx (h _ _ F' fun p hp => N' p (List.mem_cons_of_mem _ hp))
  · rw [PySem.sizeLine_eq]; exact Nat.le_of_ble_eq_true rfl
theorem tupIn2 {x a b : Str} {r : Bool} {t : Tok} {k1 k2 k : Nat} {p1 p2 pp : Pos} {Q : Value → Shared → Prop} (F : Fr h₀ L s.heap m) (N : News h₀ L s.heap news) (hx : [a, b].any (· == x) = r)
    (h : ∀ h' tk, Fr h₀ L h' m → News h₀ L h' news → Q (.bool r) { s with heap := h', toks := tk }) :
    wpAny (model prog w) A (eval (.Tuple [.Constant (.str a) k1 p1, .Constant (.str b) k2 p2] k pp) env) (fun w' s2 => wpAny (model prog w) A (compareOp .In (.str x t) w') Q E s2) E s := by
  refine Tuple_ (args_cons (Calls.Constant_str (args_cons (Calls.Constant_str (args_nil (kup_newTuple (news := news) F N (fun D h' F' N' _ => ?_) ?_))))))
  · exact in2_c N' List.mem_cons_self hx (h _ _ F' fun p hp => N' p (List.mem_cons_of_mem _ hp))
  · rw [PySem.sizeLine_eq]; exact Nat.le_of_ble_eq_true rfl
theorem keepUpd {d : Addr} {o : Obj} {l : List (Addr × Obj)} {g : Obj → List (Addr × Obj)} (U : UpdF d o l g) (o' : Obj) : ∀ p ∈ l, p.1 ≠ d → p ∈ g o' := by
  induction U with
  | head _ =>
    intro p hp hne
    rcases List.mem_cons.mp hp with rfl | hp
    · exact absurd rfl hne
    · exact List.mem_cons_of_mem _ hp
  | tail _ _ ih =>
    intro p hp hne
    rcases List.mem_cons.mp hp with rfl | hp
    · exact List.mem_cons_self
    · exact List.mem_cons_of_mem _ (ih p hp hne)
def ToldJ (td : Addr) (all : List (Addr × Obj)) (rows : List (Str × Int)) (all' : List (Addr × Obj)) : Prop :=
  ∃ ts' n', (td, listOf (ts' : List Value).toArray n') ∈ all' ∧ (∀ p ∈ all, p.1 ≠ td → p ∈ all') ∧ TwoIn all' ts' rows
theorem if_joinT {st : Stmt} {rest : List Stmt} {Q : Flow → Shared → Prop} {td : Addr} {all : List (Addr × Obj)} (F : Fr h₀ env.locals s.heap m) (_N : News h₀ env.locals s.heap all) (rows : List (Str × Int)) (h1 : wpAny (model prog w) A (exec st env) (fun f s' => f = .next ∧ JoinP h₀ env.locals m s (ToldJ td all rows) s') E s)
    (h2 : ∀ h' tk all', Fr h₀ env.locals h' m → News h₀ env.locals h' all' → ToldJ td all rows all' → wpAny (model prog w) A (execs rest env) Q E { s with heap := h', toks := tk }) : wpAny (model prog w) A (execs (st :: rest) env) Q E s := if_join F _ h1 h2
end
end
section
theorem lines_L7 : True := by
  k_with_none
  k_with "shSub" => first | (((with_reducible show wpAny _ _ (subscriptTail _ _ (Value.ref _) (Value.int _ _)) _ _ _))) | fail
  k_with "DIG" => first | (repeat (first | (with_reducible exact And.left) | (with_reducible exact id) | (with_reducible refine digR ?_))) | fail
  k_with "LT9" => first | (first | with_reducible assumption | (refine' ltLt ?h ?d; walk_at "HD")) | fail
  k_with "ALLLT" => first | (first | with_reducible assumption | (refine' allDig ?h ?d; walk_at "HD")) | fail
  k_with "K_NE" => first | ((refine neN ?_; first | with_reducible assumption | (refine Ne.symm ?_; with_reducible assumption) | (refine' neLt ?h ?d; walk_at "HD") | (refine' neGt ?h ?d; walk_at "HD") | (refine' neNe ?h ?d; walk_at "HD") | (refine' neEn ?h ?d; walk_at "HD") | (refine Nat.ne_of_lt ?_; with_reducible assumption) | (refine Nat.ne_of_gt ?_; with_reducible assumption) | ((try dsimp only); omega))) | fail
  k_with "MEM" => first | (first | with_reducible assumption | with_reducible exact List.mem_cons_self | (with_reducible refine List.mem_cons_of_mem _ ?_; walk_at "MEM")) | fail
  k_with "OM" => first | (first | exact dLe (by with_reducible assumption) rfl | exact dL0 (by with_reducible assumption) rfl | exact dLt (by with_reducible assumption) rfl | omega) | fail
  k_with "K_ALL" => first | (first | with_reducible assumption | (refine allLt_ne ?_; walk_at "ALLLT") | (refine off1_ne ?_; walk_at "ALLLT")) | fail
  k_with "TAIL" => first | ((intro p9 hp9; repeat (first | exact hp9 | refine List.mem_cons_of_mem _ ?_))) | fail
  k_with "K_ROOM" => first | (((simp only [depth_mark, depth_under_make, depth_under_kw, depth_in1, depth_deeper, depth_caller, ktrTop, recursionLimit]); walk_at "OM")) | fail
  k_with "K_UNITS" => first | ((have hcL := cLine_is; (simp only [units_in1, units_deeper, Around.mark_units, units_caller, ktrTop]); walk_at "OM")) | fail
  k_with "K_MEM" => first | (((fail_if_success refine' List.Mem.tail _ ?_); (show (_ : Addr × Obj) ∈ (_ : List (Addr × Obj))); with_reducible assumption)) | fail
  k_with "compareOp In str ref" => first | ((k_here; k_dflt (first | (refine' kd_in_some (by (k_asm; done)) (by (k_mem; done)) (by (with_reducible assumption; done)) (by (with_reducible assumption; done)) (by (with_reducible assumption; done)) ?_) | (refine' kd_in_none (by (k_asm; done)) (by (k_mem; done)) (by (with_reducible assumption; done)) (by (with_reducible assumption; done)) (by (with_reducible assumption; done)) ?_)))) | fail
  k_with "compareOp NotIn str ref" => first | ((k_here; k_dflt (first | (refine' kd_nin_some (by (k_asm; done)) (by (k_mem; done)) (by (with_reducible assumption; done)) (by (with_reducible assumption; done)) (by (with_reducible assumption; done)) ?_) | (refine' kd_nin_none (by (k_asm; done)) (by (k_mem; done)) (by (with_reducible assumption; done)) (by (with_reducible assumption; done)) (by (with_reducible assumption; done)) ?_) | (refine' nin2_f (by (k_asm; done)) (by (k_mem; done)) (by (with_reducible assumption; done)) ?_) | (refine' nin2_t (by (k_asm; done)) (by (k_mem; done)) (by (with_reducible assumption; done)) ?_)))) | fail
  k_with "subscriptTail" => first | ((k_here; (with_reducible show wpAny _ _ (subscriptTail _ _ (Value.ref _) (Value.str _ _)) _ _ _); k_dflt (refine' kd_item (by (k_asm; done)) (by (k_mem; done)) (by (with_reducible assumption; done)) (by (with_reducible assumption; done)) ?_ (by (with_unfolding_all rfl; done)) (by (intro _; with_unfolding_all rfl; done))))) | fail
  k_with "setItem ref str" => first | ((k_here; k_dflt (refine' kd_set (by (k_asm; done)) (by (k_asm; done)) (by (k_updF; done)) (by (with_reducible assumption; done)) (by (with_reducible assumption; done)) ?_); (intro h' o' F' N' hd'); (try dsimp only at N'))) | fail
  k_with "getItem ref" => first | ((k_here; (with_reducible show wpAny _ _ (getItem (Value.ref _) (Value.str _ _)) _ _ _); k_dflt (refine' kd_get (by (k_asm; done)) (by (k_mem; done)) (by (with_reducible assumption; done)) (by (with_reducible assumption; done)) ?_))) | fail
  k_with "compareOp NotEq str str" => first | ((k_here; first | (refine ne_str_t (by with_reducible assumption) ?_) | (refine ne_str_f (by with_reducible assumption) ?_))) | fail
  k_with "compareOp Eq str str" => first | ((k_here; first | (refine eq_str_f (by with_reducible assumption) ?_) | (refine eq_str_t (by with_reducible assumption) ?_))) | fail
  k_with "exec If Compare cons cons" => first | ((k_here; (with_reducible show wpAny _ _ (exec (Stmt.If (Expr.Compare (Expr.Name _ _) [CmpOp.Eq] [Expr.Constant (Const.str _) _ _] _) _ _ _) _) _ _ _); k_dflt (refine' if_str_no (by (k_asm; done)) (by (exact rfl; done)) (by (decide +kernel; done)) ?_))) | fail
  k_with "exec If Compare cons cons" => first | ((k_here; (with_reducible show wpAny _ _ (exec (Stmt.If (Expr.Compare (Expr.Name _ _) [CmpOp.Eq] [Expr.Constant (Const.str _) _ _] _) _ _ _) _) _ _ _); k_dflt (refine' if_str (by (k_asm; done)) (by (exact rfl; done)) (by (exact rfl; done)) ?_))) | fail
  k_with "subscriptTail Name Constant ref int" => first | ((k_here; walk_at "shSub"; k_dflt (first | (refine' item_tup0 (by (k_asm; done)) (by (k_mem; done)) (by (exact rfl; done)) (by (decide; done)) (by (decide; done)) ?_ (by (with_unfolding_all rfl; done))) | (refine' item_lst0 (by (k_asm; done)) (by (k_mem; done)) (by (exact rfl; done)) (by (decide; done)) (by (decide; done)) ?_ (by (with_unfolding_all rfl; done)))))) | fail
  k_with "subscriptTail Subscript Name Constant Constant ref int" => first | ((k_here; walk_at "shSub"; k_dflt (first | (refine' item_tup0 (by (k_asm; done)) (by (k_mem; done)) (by (exact rfl; done)) (by (decide; done)) (by (decide; done)) ?_ (by (with_unfolding_all rfl; done))) | (refine' item_lst0 (by (k_asm; done)) (by (k_mem; done)) (by (exact rfl; done)) (by (decide; done)) (by (decide; done)) ?_ (by (with_unfolding_all rfl; done)))))) | fail
  k_with "callWith builtin:list.append cons nil" => first | ((refine callWith_method1 ?_)) | fail
  k_with "execs nil" => first | ((with_reducible refine wpAny_execs_nil ?_)) | fail
  k_with "EC" => first | (first | k_fold | k_gentoks | (with_reducible refine wpAny_execs_cons ?_; try dsimp only)) | fail
  k_with "execs cons If nil" => first | (walk_at "EC") | fail
  k_with "execs cons If cons" => first | (walk_at "EC") | fail
  k_with "execs cons Assign cons" => first | (walk_at "EC") | fail
  k_with "execs cons Assign nil" => first | (walk_at "EC") | fail
  k_with "execs cons Return nil" => first | (walk_at "EC") | fail
  k_with "execs cons Return cons" => first | (walk_at "EC") | fail
  k_with "execs cons Expr nil" => first | (walk_at "EC") | fail
  k_with "execs cons Expr cons" => first | (walk_at "EC") | fail
  k_with "exec If Compare cons nil" => first | ((with_reducible refine wpAny_If ?_)) | fail
  k_with "spliced" => first | ((k_here; with_reducible first | refine args_cs ?_ | refine args_cn ?_ | refine args_ci ?_ | refine args_cb ?_)) | fail
  k_with "spliced" => first | ((k_here; (with_reducible show wpAny _ _ (spliced (backTo _ (starEach (Expr.Name _ _ :: _) _))) _ _ _); k_dflt (refine' args_nm (by (k_asm; done)) (by (exact rfl; done)) ?_ (by rfl) (by rfl) (by decide)))) | fail
  k_with "SZ" => first | ((rw [PySem.sizeLine_eq]; (try simp only [List.size_toArray, List.length_cons, List.length_nil]); walk_at "OM")) | fail
  k_with "subscriptTail Name Slice ref ref" => first | ((k_here; (with_reducible show wpAny _ _ (subscriptTail _ (PySem.Expr.Slice _ _ none _) (Value.ref _) (Value.ref _)) _ _ _); k_dflt (refine' kms_slice_lit (by (k_asm; done)) (by (k_asm; done)) (by (exact News.isList (by k_asm) (by k_mem); done)) (by (kmk_part; done)) (by (kmk_part; done)) (by (exact pick1 _ _; done)) ?_ (by (with_unfolding_all rfl; done)) (by (kmk_pure; done)) (by (walk_at "SZ"; done))); intro D' h' F' N' l1; (try (replace l1 := allLt_of l1; dsimp only [AllLt] at l1)))) | fail
  k_with "PYITER" => first | ((k_here; (with_reducible show wpAny _ _ (pyIter (Value.ref _)) (fun it s₂ => TurnsAt _ _ _ _ _ _ _ _ _ it s₂) _ _); k_dflt (refine' iter_listTurns (by (rfl; done)) (by (k_asm; done)) (by (k_asm; done)) (by (k_mem; done)) (by (exact rfl; done)) (by (exact rfl; done)) ?_); (intro I' l1; (try (replace l1 := allLt_of l1; dsimp only [AllLt] at l1))))) | fail
  k_with "exec For Name Subscript cons nil" => first | ((k_here; (rename Fr _ _ _ _ => lF'); (with_unfolding_all refine' For_turns lF' ?_; k_whole))) | fail
  k_with "binaryOp Add ref ref" => first | ((k_here; (with_reducible show wpAny _ _ (binaryOp _ (Value.ref _) (Value.ref _)) _ _ _); k_dflt (refine' kmk_add_lit (by (k_asm; done)) (by (k_asm; done)) (by (exact News.isList (by k_asm) (by k_mem); done)) (by (exact News.isList (by k_asm) (by k_mem); done)) (by (exact addE _ _; done)) ?_ (by (walk_at "SZ2"; done))); intro D' h' F' N' l1; (try (replace l1 := allLt_of l1; dsimp only [AllLt] at l1)))) | fail
  k_with "SZ2" => first | ((rw [PySem.sizeLine_eq]; (simp only [List.toList_toArray, List.size_toArray, List.length_append, List.length_cons, List.length_nil]); walk_at "OM")) | fail
  k_with "LISTCOMP9" => first | (skip) | fail
  k_with "eval ListComp" => first | ((k_here; (rename LoopMark => lm9); (k_dflt (refine LCt.ListComp_T (F₀ := by k_asm) (by with_unfolding_all rfl) (by decide) (by rfl) (by decide) (by rfl) ?_)))) | fail
  k_with "CompSrcT" => first | ((k_here; (rename LoopMark => lm9); k_dflt (refine LCt.CompSrcT.ledger (by rfl) (by k_asm) (by k_asm) (by k_mem) (by walk_at "SZ2") ?_; intro g'))) | fail
  k_with "CFTURN" => first | ((intro it9 v9 I9 oI9 C9 oC9 D9 m9 ys9 h9 tk9 E9 hI9 hC9 hx9 F9 N9 off9 ne9; (obtain ⟨a9, t9, t9b, xs9, e9, hm9⟩ := ItIn.second hI9); subst e9)) | fail
  k_with "CompRestT" => first | (((rename LoopMark => lm9); (show PyProof.Rows.LCt.CompRestT _ _ _ _ _ _ _ (Expr.Compare _ [CmpOp.Eq] _ _) _ _ _ _ _ _ _ _ _ _ _ _); k_dflt ((refine' cf_items It.isPort (by (with_reducible assumption; done)) (by (rfl; done)) arrP ?_ ?_) <;> first | walk_at "CFTURN" | (intro ys8 hy8)))) | fail
  k_with "CompRestT" => first | (((rename LoopMark => lm9); (show PyProof.Rows.LCt.CompRestT _ _ _ _ _ _ _ (Expr.Compare _ [CmpOp.In] _ _) _ _ _ _ _ _ _ _ _ _ _ _); k_dflt ((refine' cf_items It.isWire (by (with_reducible assumption; done)) (by (rfl; done)) arrP ?_ ?_) <;> first | walk_at "CFTURN" | (intro ys8 hy8)))) | fail
  k_with "CompEnd" => first | (((rename LoopMark => lm9); first | ((first | (rename (_ == _) = true => bb9) | (rename List.any _ _ = true => bb9)); exact compEnd2 (by k_asm) (by k_asm) (cfYes bb9) (by with_reducible assumption) (Or.inr ⟨_, by k_mem, rfl, _, rfl⟩) (by walk_at "TAIL")) | ((first | (rename (_ == _) = false => bb9) | (rename List.any _ _ = false => bb9)); exact compEnd2 (by k_asm) (by k_asm) (cfNo bb9) (by with_reducible assumption) (Or.inr ⟨_, by k_mem, rfl, _, rfl⟩) (by walk_at "TAIL")))) | fail
  k_with "CompEnd" => first | (((fail_if_success (rename LoopMark => lm9)); (refine' compEnd3 (by (k_asm; done)) (by (k_asm; done)) (by (first | with_reducible assumption | (simp only [PyProof.Rows.LCg.Off3, and_true]; with_reducible assumption); done)) (by (exact Or.inr ⟨_, by k_mem, rfl, _, rfl⟩; done)) ?_))) | fail
  k_with "compareOp In str ref" => first | (((fail_if_success (rename LoopMark => lm9)); (with_reducible show wpAny _ _ (compareOp _ (Value.str (Str.ofString _) _) (Value.ref _)) _ _ _); k_dflt (first | (refine' in3_c (by (k_asm; done)) (by (k_mem; done)) (by (with_unfolding_all rfl; done)) ?_) | (refine' in2_c (by (k_asm; done)) (by (k_mem; done)) (by (with_unfolding_all rfl; done)) ?_)))) | fail
  k_with "compareOp NotEq ref ref" => first | (((fail_if_success (rename LoopMark => lm9)); (with_reducible show wpAny _ _ (compareOp _ (Value.ref _) (Value.ref _)) _ _ _); k_dflt (first | (refine' ne_len_t (by (k_asm; done)) (by (k_mem; done)) (by (k_mem; done)) (by (exact rfl; done)) (by (k_units; done)) ?_) | (refine' ne_nil_f (by (k_asm; done)) (by (k_mem; done)) (by (k_mem; done)) (by (k_units; done)) ?_)))) | fail
  k_with "compareOp In str ref" => first | (((fail_if_success (rename LoopMark => lm9)); (with_reducible show wpAny _ _ (compareOp _ (Value.str _ _) (Value.ref _)) _ _ _); k_dflt (first | (refine' in3_c (by (k_asm; done)) (by (k_mem; done)) (by (with_reducible assumption; done)) ?_) | (refine' in2_c (by (k_asm; done)) (by (k_mem; done)) (by (with_reducible assumption; done)) ?_)))) | fail
  k_with "exec Assign cons ListComp" => first | ((k_here; (rename DoneMark => dm9); k_dflt (refine PyProof.Rows.LCt.Assign_ListComp_T (F₀ := by k_asm) (by rfl) (by with_unfolding_all rfl) (by with_unfolding_all rfl) (by decide) (by rfl) (by decide) (by rfl) (by rfl) (by rfl) ?_))) | fail
  k_with "CompSrcT" => first | ((k_here; (rename DoneMark => dm9); k_dflt (refine PyProof.Rows.LCt.CompSrcT.ledger (by rfl) (by k_asm) (by k_asm) (by k_mem) (by walk_at "SZ2") ?_; intro g'))) | fail
  k_with "CFFIN" => first | ((intro ys8 hy8; first | (have e8 := its_nil hy8; subst e8) | (obtain ⟨a8, u1, u2, u3, u4, u5, u6, e8, hm8⟩ := its_port hy8; subst e8) | (obtain ⟨a8, u1, u2, u3, e8, hm8⟩ := its_one hy8; subst e8))) | fail
  k_with "CompRestT" => first | (((rename DoneMark => dm9); (show PyProof.Rows.LCt.CompRestT _ _ _ _ _ _ _ (Expr.Compare _ [CmpOp.Eq] _ _) _ _ _ _ _ _ _ _ _ _ _ _); k_dflt ((refine' cf_list It.isPort (by (with_reducible assumption; done)) (by (rfl; done)) arrP (by (with_reducible assumption; done)) ?_ ?_) <;> first | walk_at "CFTURN" | walk_at "CFFIN"))) | fail
  k_with "CompRestT" => first | (((rename DoneMark => dm9); (show PyProof.Rows.LCt.CompRestT _ _ _ _ _ _ _ (Expr.Compare _ [CmpOp.NotEq] _ _) _ _ _ _ _ _ _ _ _ _ _ _); k_dflt ((refine' cf_list It.notPort (by (with_reducible assumption; done)) (by (rfl; done)) arrP (by (with_reducible assumption; done)) ?_ ?_) <;> first | walk_at "CFTURN" | walk_at "CFFIN"))) | fail
  k_with "CompEnd" => first | (((rename DoneMark => lm9); first | (rename (_ != _) = true => bb9; exact compEnd2 (by k_asm) (by k_asm) (cfYes bb9) (by with_reducible assumption) (Or.inr ⟨_, by k_mem, rfl, _, rfl⟩) (by walk_at "TAIL")) | (rename (_ != _) = false => bb9; exact compEnd2 (by k_asm) (by k_asm) (cfNo bb9) (by with_reducible assumption) (Or.inr ⟨_, by k_mem, rfl, _, rfl⟩) (by walk_at "TAIL")) | (rename (_ == _) = true => bb9; exact compEnd2 (by k_asm) (by k_asm) (cfYes bb9) (by with_reducible assumption) (Or.inr ⟨_, by k_mem, rfl, _, rfl⟩) (by walk_at "TAIL")) | (rename (_ == _) = false => bb9; exact compEnd2 (by k_asm) (by k_asm) (cfNo bb9) (by with_reducible assumption) (Or.inr ⟨_, by k_mem, rfl, _, rfl⟩) (by walk_at "TAIL")))) | fail
  k_with "eval ListComp Subscript cons" => first | ((k_here; (rename DoneMark => dm9); (rename PortsIn _ _ _ => pi9); k_dflt (refine ListComp_Tup (by k_asm) (by with_unfolding_all rfl) (by decide) (by rfl) (by decide) (by rfl) ?_ (by intro _; rfl)))) | fail
  k_with "CompTup" => first | ((k_dflt (refine CompTup.ledger (by rfl) (by k_asm) (by k_asm) (by k_mem) (by walk_at "SZ3") ?_; intro g'))) | fail
  k_with "SZ3" => first | (((rename PortsIn _ _ _ => pi9); (rename List.length _ ≤ 3 => ln9); (rw [PySem.sizeLine_eq]); (have hl9 := PortsIn.len pi9); (simp only [List.length_cons]); walk_at "OM")) | fail
  k_with "DIR1" => first | ((intro d9' b9 t9 t9' x29 x49 x59 x69 I9 oI9 C9 oC9 D9 m9 ys9 h9 tk9 E9 hm9 hC9 hx9 F9 N9 off9 ne9)) | fail
  k_with "DIR0" => first | ((intro I9 oI9 C9 oC9 D9 m9 ys9 h9 tk9 E9 hC9 hx9 F9 N9 off9 ne9)) | fail
  k_with "CompRestT" => first | (((rename DoneMark => dm9); (rename PortsIn _ _ _ => pi9); (show PyProof.Rows.LCt.CompRestT _ _ _ _ _ _ _ (Expr.Compare _ [CmpOp.Eq] _ _) _ _ _ _ _ _ _ _ _ _ _ _); k_dflt ((refine' cf_dirs pi9 (by (with_reducible assumption; done)) (by (with_reducible assumption; done)) (by (rfl; done)) arrP ?_ ?_ ?_) <;> first | walk_at "DIR1" | walk_at "DIR0" | (intro ys8 hy8 hz8)))) | fail
  k_with "CompEnd" => first | (((rename PortsIn _ _ _ => pi9); first | exact compEnd2 (by k_asm) (by k_asm) (show DirNo _ _ _ from rfl) (by with_reducible assumption) ⟨_, by k_mem, rfl, _, rfl⟩ (by walk_at "TAIL") | exact compEnd2 (by k_asm) (by k_asm) (show DirYes _ _ _ _ from ⟨rfl, _, rfl⟩) (by with_reducible assumption) ⟨_, by k_mem, rfl, _, rfl⟩ (by walk_at "TAIL"))) | fail
  k_with "call type:tuple" => first | ((k_here; (rename DoneMark => dm9); (with_reducible show wpAny _ _ (call (Value.type _) [Value.ref _]) _ _ _); k_dflt (refine' kde_tupleOf (by (k_asm; done)) (by (k_asm; done)) (by (exact News.isList (by k_asm) (by k_mem); done)) (by ((simp only [List.size_toArray]; omega); done)) (by (exact rfl; done)) ?_; k_whole); intro D' h' F' N' l1; (try (replace l1 := allLt_of l1; dsimp only [AllLt] at l1)); (try k_sweep))) | fail
  k_with "execs nil" => first | ((with_reducible refine wpAny_execs_nil ?_)) | fail
  k_with "CFFIN" => first | (((rename DoneMark => dm9); (fail_if_success (rename DoneMark2 => dm8)); intro ys8 hy8)) | fail
  k_with "execs cons If cons" => first | (((rename DoneMark => dm9); (fail_if_success (rename DoneMark2 => dm8)); (with_reducible show wpAny _ _ (execs (Stmt.If (Expr.BoolOp BoolOp.And _ _) _ _ _ :: _) _) _ _ _); refine HaltE.out ?_)) | fail
  k_with "isTrue Compare" => first | ((k_here; (with_reducible show wpAny _ _ (isTrue (Expr.Compare (Expr.Name _ _) [CmpOp.NotEq] [Expr.List [] _] _) _ _) _ _ _); k_dflt (first | (refine' neNil_F (by (k_asm; done)) (by (k_asm; done)) (by (exact rfl; done)) (by (k_mem; done)) (by (k_units; done)) ?_ (by rfl) (by rfl) (by decide)) | (refine' neNil_T (by (k_asm; done)) (by (k_asm; done)) (by (exact rfl; done)) (by (k_mem; done)) (by (k_units; done)) ?_ (by rfl) (by rfl) (by decide))); (intro h' tk' F' N'))) | fail
  k_with "eval Compare" => first | ((k_here; (with_reducible show wpAny _ _ (eval (Expr.Compare (Expr.Name _ _) [CmpOp.NotEq] [Expr.List [] _] _) _) _ _ _); k_dflt (first | (refine' neNilE_F (by (k_asm; done)) (by (k_asm; done)) (by (exact rfl; done)) (by (k_mem; done)) (by (k_units; done)) ?_ (by rfl) (by rfl) (by decide)) | (refine' neNilE_T (by (k_asm; done)) (by (k_asm; done)) (by (exact rfl; done)) (by (k_mem; done)) (by (k_units; done)) ?_ (by rfl) (by rfl) (by decide))); (intro h' tk' F' N'))) | fail
  k_with "eval Tuple" => first | ((k_here; (rename DoneMark => dm9); (with_reducible show wpAny _ _ (eval (Expr.Tuple [Expr.Constant _ _ _, Expr.Constant _ _ _] _ _) _) (fun w2 s2 => wpAny _ _ (compareOp CmpOp.In (Value.str _ _) w2) _ _ s2) _ _); k_dflt (refine' tupIn2 (by (k_asm; done)) (by (k_asm; done)) (by (first | with_reducible assumption | with_unfolding_all rfl; done)) ?_); (intro h' tk' F' N'))) | fail
  k_with "eval Tuple" => first | ((k_here; (rename DoneMark => dm9); (with_reducible show wpAny _ _ (eval (Expr.Tuple [Expr.Constant _ _ _, Expr.Constant _ _ _, Expr.Constant _ _ _] _ _) _) (fun w2 s2 => wpAny _ _ (compareOp CmpOp.In (Value.str _ _) w2) _ _ s2) _ _); k_dflt (refine' tupIn3 (by (k_asm; done)) (by (k_asm; done)) (by (first | with_reducible assumption | with_unfolding_all rfl; done)) ?_); (intro h' tk' F' N'))) | fail
  trivial




local macro_rules | `(tactic| walk_at "call builtin:len") => `(tactic| (k_here; (rename LoopMark => lm9); (with_reducible show wpAny _ _ (call (Value.builtin "len") [Value.ref _]) _ _ _); k_dflt (refine' len_its ?N ?m ?i ?z ?_; (case N => k_asm); (case m => k_mem); (case i => with_reducible assumption); (case z => first | with_reducible assumption | ((rename ∀ _ : It → Bool, _ => hb9); exact hb9 _)))))


structure DoneMark2 : Prop where
  intro ::
def HaltE (P : Prop) : Prop := P
theorem HaltE.out {P : Prop} (h : HaltE P) : P := h
set_option maxRecDepth 100000 in
set_option maxHeartbeats 8000000 in
theorem entry_ok {w : World} {p : Program} {loose : List Str} {mean : ExcName → Option Value} {mg mb : Str → Option Value}
    {dp un : Nat} {gd : Option (List Code)} {cn : Str} {cs : Scope} {a : Addr} {ccd : Value} {cl : List (Str × Addr)} {outer : List Env} {A₀ : Around} {base h₀ : Heap} {L : Addr} {m : Str → Option Value} {s : Shared}
    {Q E : Value → Shared → Prop} {rest : List (Addr × Obj)} {mn td : Addr} {fv : Value} {vs : List Value} {f : It} {its : List It} {own : Bool} {nm nt : Nat}
    (B : Below A₀ base outer h₀) (F : Fr h₀ L s.heap m) (X : (Mine.hdE.heap_1_1 w.params).In h₀) (N : News h₀ L s.heap ((td, listOf ([] : List Value).toArray nt) :: rest)) (T : Top p loose mean mg mb h₀) (hk : cs.kind = .function)
    (hmn : (mn, listOf (fv :: vs).toArray nm) ∈ rest) (hne : @Ne Nat mn td) (hr1 : ∀ p ∈ rest, p.1 ≠ td) (hf : ItIn rest fv f) (hits : ItsIn rest vs its) (hok : ∀ it ∈ f :: its, it.ok) (hlen : vs.length ≤ 100) (hd : dp ≤ 390) (hu : un ≤ 390)
    (hret : EntRet h₀ L m rest td own (its.foldl pairStep ([f], [])) s Q) :
    wpAny (model PySem.Challenge.rw_sj0028_01.row.prog w) (ktrTop dp un gd cn cs L a ccd cl outer) (call (.ref 136) [.ref mn, .bool own, .ref td]) Q E s := by
  w_top off
  revert X
  k_fill
  intro X
  obtain ⟨fa, ft1, ft2, fxs, hfv, hfm⟩ := hf.second
  subst hfv
  (refine wpAny_call ?_; k_dflt ktr_enter; k_steps)
  rename News _ _ _ _ => lN
  refine ej_items (f := f) lN hits hf (by with_unfolding_all rfl) ?h0 ?turn ?done
  case h0 => exact ⟨[.ref fa], 0, [], nt, rest, rfl, .cons hf .nil, .nil, fun _ h => h, by k_all, hr1, by k_all, by k_all, FreshL.base, Nat.le_refl _, .inl rfl, by with_unfolding_all rfl, by with_unfolding_all rfl, by with_unfolding_all rfl, by with_unfolding_all rfl⟩

  case done =>
    intro m₁ nx h tk' hJ F N
    k_sweep
    refine Cut.out ?_
    intro G9 hG9
    obtain ⟨ps, n1, ts, n2, R, hnx, hp, ht, hsub, o1, o2, o3, o4, hfr, hti, hpl, hm1, hm2, hm3, hm4⟩ := hJ
    subst hnx
    refine hG9 ?_
    clear hG9
    have F' := Fr.four F hm1 hm2 hm3 hm4
    clear F lN
    rw [List.take_of_length_le (Nat.le_of_eq hits.len.symm)] at hp ht
    have hfR := hf.mono hsub
    have hfm' := hsub _ hfm
    have htl9 : ts.length ≤ 100 := by omega
    have hps9 : ps.length ≤ 2 := by rcases hpl with h | h <;> rw [h] <;> decide
    generalize hPP : its.foldl pairStep ([f], []) = P at hp ht hret
    have hsP : Shape f P.1 := by rw [← hPP]; exact pair_shape f its
    obtain ⟨P1, P2⟩ := P
    dsimp only at hp ht hsP
    have hmark : DoneMark := ⟨⟩
    have hpK := hp
    have hG1 : P1.filter It.isPort = P1.filter It.isPort := rfl
    have hG2 : P1.filter It.notPort = P1.filter It.notPort := rfl
    k_steps
    clear hG1 hG2
    k_sweep
    refine Cut.out ?_
    intro G9 hG9
    rename ItsIn _ _ (List.filter It.notPort _) => hw9
    rename ItsIn _ _ (List.filter It.isPort _) => hq9
    rcases hsP with hs | ⟨g, hs, hs2⟩
    · subst hs
      cases hp with
      | cons hv hnil =>
        cases hnil
        obtain ⟨va, vt1, vt2, vxs, hva, hvm⟩ := hv.second
        subst hva
        obtain ⟨p9, w9, r9, i9, ⟨fP, fW, fp, fn, fr, fi⟩, hc | hc | hc | hc⟩ := It.facts f
        · obtain ⟨⟨a9, d9, n9, rfl⟩, -⟩ := hc
          have hF1 := fil1 (p := It.isPort) (f := .port a9 d9 n9) rfl
          have hF2 := fil0 (p := It.notPort) (f := .port a9 d9 n9) rfl
          clear fP fW fp fn fr fi hvm hfm hfm'
          cases hv with
          | port hv =>
            cases hfR with
            | port hfR =>
              cases own
              case true =>
                rw [hF1] at hq9
                rw [hF2] at hw9
                first | (have e8 := its_nil hq9; subst e8) | (obtain ⟨a8, u1, u2, u3, u4, u5, u6, e8, hm8⟩ := its_port hq9; subst e8) | (obtain ⟨a8, u1, u2, u3, e8, hm8⟩ := its_one hq9; subst e8)
                first | (have e7 := its_nil hw9; subst e7) | (obtain ⟨a8, u1, u2, u3, u4, u5, u6, e7, hm7⟩ := its_port hw9; subst e7) | (obtain ⟨a8, u1, u2, u3, e7, hm7⟩ := its_one hw9; subst e7)
                have hmark2 : DoneMark2 := ⟨⟩
                refine hG9 ?_
                clear hG9
                unfold HaltE
                k_steps
                all_goals exact ent_sig hret ⟨rfl, rfl⟩ (by k_asm) (by k_asm) (by k_mem) (by k_mem) (by k_mem) (by walk_at "TAIL") hsub ht
              case false =>
                rw [hF1] at hq9
                rw [hF2] at hw9
                first | (have e8 := its_nil hq9; subst e8) | (obtain ⟨a8, u1, u2, u3, u4, u5, u6, e8, hm8⟩ := its_port hq9; subst e8) | (obtain ⟨a8, u1, u2, u3, e8, hm8⟩ := its_one hq9; subst e8)
                first | (have e7 := its_nil hw9; subst e7) | (obtain ⟨a8, u1, u2, u3, u4, u5, u6, e7, hm7⟩ := its_port hw9; subst e7) | (obtain ⟨a8, u1, u2, u3, e7, hm7⟩ := its_one hw9; subst e7)
                have hmark2 : DoneMark2 := ⟨⟩
                refine hG9 ?_
                clear hG9
                unfold HaltE
                k_steps
                all_goals exact ent_sig hret ⟨rfl, rfl⟩ (by k_asm) (by k_asm) (by k_mem) (by k_mem) (by k_mem) (by walk_at "TAIL") hsub ht
        · obtain ⟨rfl, rfl, rfl, rfl⟩ := hc
          simp only [Bool.false_eq_true, if_false, Bool.false_or] at fp fr fn
          have hF1 := fil0 (p := It.isPort) fP
          have hF2 := fil1 (p := It.notPort) (notPort_t fP)
          clear hfR hv hf
          rw [hF1] at hq9
          rw [hF2] at hw9
          first | (have e8 := its_nil hq9; subst e8) | (obtain ⟨a8, u1, u2, u3, u4, u5, u6, e8, hm8⟩ := its_port hq9; subst e8) | (obtain ⟨a8, u1, u2, u3, e8, hm8⟩ := its_one hq9; subst e8)
          first | (have e7 := its_nil hw9; subst e7) | (obtain ⟨a8, u1, u2, u3, u4, u5, u6, e7, hm7⟩ := its_port hw9; subst e7) | (obtain ⟨a8, u1, u2, u3, e7, hm7⟩ := its_one hw9; subst e7)
          have hmark2 : DoneMark2 := ⟨⟩
          refine hG9 ?_
          clear hG9
          unfold HaltE
          k_steps
          all_goals exact ent_sig hret (entW1 fW) (by k_asm) (by k_asm) (by k_mem) (by k_mem) (by k_mem) (by walk_at "TAIL") hsub ht
        · obtain ⟨⟨a9, k9, n9, ds9, rfl⟩, -⟩ := hc
          have hF1 := fil0 (p := It.isPort) (f := .rout a9 k9 n9 ds9) rfl
          have hF2 := fil1 (p := It.notPort) (f := .rout a9 k9 n9 ds9) rfl
          clear fP fW fp fn fr fi hvm hfm hfm'
          cases hfR with
          | rout hr1' hr2' hr3' hr4' hr5' =>
            obtain ⟨va2, vt1, vt2, vxs, hva, hvm⟩ := hv.second
            clear hv
            cases hva

            rw [hF1] at hq9
            rw [hF2] at hw9
            first | (have e8 := its_nil hq9; subst e8) | (obtain ⟨a8, u1, u2, u3, u4, u5, u6, e8, hm8⟩ := its_port hq9; subst e8) | (obtain ⟨a8, u1, u2, u3, e8, hm8⟩ := its_one hq9; subst e8)
            first | (have e7 := its_nil hw9; subst e7) | (obtain ⟨a8, u1, u2, u3, u4, u5, u6, e7, hm7⟩ := its_port hw9; subst e7) | (obtain ⟨a8, u1, u2, u3, e7, hm7⟩ := its_one hw9; subst e7)
            have hmark2 : DoneMark2 := ⟨⟩
            refine hG9 ?_
            clear hG9
            unfold HaltE
            k_steps
            all_goals exact ent_dirs hret ⟨rfl, rfl⟩ (by k_asm) (by k_asm) (by k_mem) (by k_mem) (by k_mem) (by first | with_reducible assumption | walk_at "STRV") (by walk_at "TAIL") hsub ht
        · obtain ⟨rfl, rfl, rfl⟩ := hc
          simp only [Bool.false_eq_true, if_false, Bool.false_or] at fp fr fn
          have hF1 := fil0 (p := It.isPort) fP
          have hF2 := fil1 (p := It.notPort) (notPort_t fP)
          clear hfR hv hf
          cases i9
          case true =>
            rw [hF1] at hq9
            rw [hF2] at hw9
            first | (have e8 := its_nil hq9; subst e8) | (obtain ⟨a8, u1, u2, u3, u4, u5, u6, e8, hm8⟩ := its_port hq9; subst e8) | (obtain ⟨a8, u1, u2, u3, e8, hm8⟩ := its_one hq9; subst e8)
            first | (have e7 := its_nil hw9; subst e7) | (obtain ⟨a8, u1, u2, u3, u4, u5, u6, e7, hm7⟩ := its_port hw9; subst e7) | (obtain ⟨a8, u1, u2, u3, e7, hm7⟩ := its_one hw9; subst e7)
            have hmark2 : DoneMark2 := ⟨⟩
            refine hG9 ?_
            clear hG9
            unfold HaltE
            k_steps
            all_goals exact ent_neg hret (entI fi) (by k_asm) (by k_asm) (by k_mem) (by k_mem) (by walk_at "TAIL") hsub ht
          case false =>
            rw [hF1] at hq9
            rw [hF2] at hw9
            first | (have e8 := its_nil hq9; subst e8) | (obtain ⟨a8, u1, u2, u3, u4, u5, u6, e8, hm8⟩ := its_port hq9; subst e8) | (obtain ⟨a8, u1, u2, u3, e8, hm8⟩ := its_one hq9; subst e8)
            first | (have e7 := its_nil hw9; subst e7) | (obtain ⟨a8, u1, u2, u3, u4, u5, u6, e7, hm7⟩ := its_port hw9; subst e7) | (obtain ⟨a8, u1, u2, u3, e7, hm7⟩ := its_one hw9; subst e7)
            have hmark2 : DoneMark2 := ⟨⟩
            refine hG9 ?_
            clear hG9
            unfold HaltE
            k_steps
            all_goals exact ent_neg hret (entO fP fW fr fi) (by k_asm) (by k_asm) (by k_mem) (by k_mem) (by walk_at "TAIL") hsub ht
    · subst hs
      cases hp with
      | cons hv hp =>
        cases hp with
        | cons hg hnil =>
          cases hnil
          rcases hs2 with ⟨fP, gW⟩ | ⟨fW, gP⟩
          · obtain ⟨p9, w9, r9, i9, ⟨fP', fW', fp, fn, fr, fi⟩, hc | hc | hc | hc⟩ := It.facts f
            · obtain ⟨⟨a9, d9, n9, e9⟩, -⟩ := hc
              obtain ⟨p8, w8, r8, i8, ⟨gP', gW', gp, gn, gr, gi⟩, hc' | hc' | hc' | hc'⟩ := It.facts g
              · obtain ⟨-, rfl, rfl, -⟩ := hc'; rw [gW] at gW'; exact absurd gW' (by decide)
              · obtain ⟨rfl, rfl, rfl, rfl⟩ := hc'
                simp only [Bool.false_eq_true, if_false, Bool.false_or] at gp gr gn
                subst e9
                have hF1 := fil10 (p := It.isPort) (f := .port a9 d9 n9) rfl gP'
                have hF2 := fil01 (p := It.notPort) (f := .port a9 d9 n9) rfl (notPort_t gP')
                clear fP' fW' fp fn fr fi hfm hfm' fP hf
                obtain ⟨va, vt1, vt2, vxs, hva, hvm⟩ := hg.second
                subst hva
                clear hg
                cases hv with
                | port hv =>
                  cases hfR with
                  | port hfR =>
                    rw [hF1] at hq9
                    rw [hF2] at hw9
                    first | (have e8 := its_nil hq9; subst e8) | (obtain ⟨ap, u1, u2, u3, u4, u5, u6, e8, hm8⟩ := its_port hq9; subst e8) | (obtain ⟨ap, u1, u2, u3, e8, hm8⟩ := its_one hq9; subst e8)
                    first | (have e7 := its_nil hw9; subst e7) | (obtain ⟨a8, u1, u2, u3, u4, u5, u6, e7, hm7⟩ := its_port hw9; subst e7) | (obtain ⟨a8, u1, u2, u3, e7, hm7⟩ := its_one hw9; subst e7)
                    refine hG9 ?_
                    clear hG9
                    unfold HaltE
                    rename News _ _ _ _ => lN8
                    k_dflt refine if_joinT (td := td) (by k_asm) lN8 (P2 ++ entryRows own [It.port a9 d9 n9, g]) ?_ ?_
                    · cases own
                      case true =>
                        k_steps
                        exact joinEnd (by k_asm) lN8 ⟨ts, _, (by k_mem), (fun p hp _ => hp), by rw [(entPW gW).2, if_neg (fun h => nomatch h.1), List.append_nil]; exact ht.mono (by walk_at "TAIL")⟩
                      case false =>
                        by_cases hv9 : g.tag = Str.ofString "var"
                        · by_cases hd9 : d9 = Str.ofString "output"
                          · subst hd9
                            k_steps
                            exact joinEnd (by k_asm) (by k_asm) ⟨ts, _, (by k_mem), (fun p hp _ => hp), by rw [(entPW gW).2, if_neg (fun h => h.2.2 rfl), List.append_nil]; exact ht.mono (by walk_at "TAIL")⟩
                          · k_steps
                            (rename News _ _ _ _ => hN9)
                            simp only [List.push_toArray] at hN9
                            exact joinEnd (by k_asm) hN9 ⟨ts ++ [Value.ref _], _, (by k_mem), (fun p hp hne => List.mem_cons_of_mem _ (keepUpd (o := listOf ts.toArray n2) (by k_dflt k_updF) _ p hp hne)), by rw [(entPW gW).2, if_pos ⟨rfl, hv9, hd9⟩]; exact (ht.mono (by walk_at "TAIL")).snoc List.mem_cons_self⟩
                        · k_steps
                          exact joinEnd (by k_asm) (by k_asm) ⟨ts, _, (by k_mem), (fun p hp _ => hp), by rw [(entPW gW).2, if_neg (fun h => hv9 h.2.1), List.append_nil]; exact ht.mono (by walk_at "TAIL")⟩
                    · intro h8 tk8 all8 F8 N8 hJ8
                      k_sweep
                      refine Cut.out ?_
                      intro G9 hG9
                      obtain ⟨ts8, n8, mt8, hk8, hT8⟩ := hJ8
                      refine hG9 ?_
                      clear hG9
                      have sR8 : ∀ p ∈ R, p ∈ all8 := fun p hp => hk8 p ((by walk_at "TAIL" : ∀ p ∈ R, p ∈ _) p hp) (o2 p hp)
                      have e1 := hk8 (_, PyProof.Rows.LCg.lst [Value.ref a8]) (by k_mem) (by k_ne)
                      have e2 := hk8 (_, PyProof.Rows.LCg.lst [Value.ref ap]) (by k_mem) (by k_ne)
                      (try clear lN8); (try clear F); (try clear N)
                      have w0 := sR8 _ hv
                      have w1 := sR8 _ hfR
                      have w2 := sR8 _ hvm
                      have w3 := sR8 _ hm8
                      have w4 := sR8 _ hm7
                      have hmark2 : DoneMark2 := ⟨⟩
                      k_steps
                      all_goals exact ent_two hret (entPW gW).1 (by k_asm) (by k_asm) (by k_mem) (by k_mem) (by k_mem) (fun p hp => (by walk_at "TAIL" : ∀ p ∈ all8, p ∈ _) p (sR8 p hp)) hsub (hT8.mono (by walk_at "TAIL"))
              · obtain ⟨-, -, rfl, -⟩ := hc'; rw [gW] at gW'; exact absurd gW' (by decide)
              · obtain ⟨-, rfl, -⟩ := hc'; rw [gW] at gW'; exact absurd gW' (by decide)
            · obtain ⟨rfl, -⟩ := hc; rw [fP] at fP'; exact absurd fP' (by decide)
            · obtain ⟨-, rfl, -⟩ := hc; rw [fP] at fP'; exact absurd fP' (by decide)
            · obtain ⟨rfl, -⟩ := hc; rw [fP] at fP'; exact absurd fP' (by decide)
          · obtain ⟨p9, w9, r9, i9, ⟨fP', fW', fp, fn, fr, fi⟩, hc | hc | hc | hc⟩ := It.facts g
            · obtain ⟨⟨a9, d9, n9, e9⟩, -⟩ := hc
              obtain ⟨p8, w8, r8, i8, ⟨gP', gW', gp, gn, gr, gi⟩, hc' | hc' | hc' | hc'⟩ := It.facts f
              · obtain ⟨-, rfl, rfl, -⟩ := hc'; rw [fW] at gW'; exact absurd gW' (by decide)
              · obtain ⟨rfl, rfl, rfl, rfl⟩ := hc'
                simp only [Bool.false_eq_true, if_false, Bool.false_or] at gp gr gn
                subst e9
                have hF1 := fil01 (p := It.isPort) (g := .port a9 d9 n9) gP' rfl
                have hF2 := fil10 (p := It.notPort) (g := .port a9 d9 n9) (notPort_t gP') rfl
                clear fP' fW' fp fn fr fi gP hf
                obtain ⟨va, vt1, vt2, vxs, hva, hvm⟩ := hv.second
                subst hva
                clear hv hfR
                cases hg with
                | port hg =>
                  rw [hF1] at hq9
                  rw [hF2] at hw9
                  first | (have e8 := its_nil hq9; subst e8) | (obtain ⟨ap, u1, u2, u3, u4, u5, u6, e8, hm8⟩ := its_port hq9; subst e8) | (obtain ⟨ap, u1, u2, u3, e8, hm8⟩ := its_one hq9; subst e8)
                  first | (have e7 := its_nil hw9; subst e7) | (obtain ⟨a8, u1, u2, u3, u4, u5, u6, e7, hm7⟩ := its_port hw9; subst e7) | (obtain ⟨a8, u1, u2, u3, e7, hm7⟩ := its_one hw9; subst e7)
                  refine hG9 ?_
                  clear hG9
                  unfold HaltE
                  rename News _ _ _ _ => lN8
                  k_dflt refine if_joinT (td := td) (by k_asm) lN8 (P2 ++ entryRows own [f, It.port a9 d9 n9]) ?_ ?_
                  · cases own
                    case true =>
                      k_steps
                      exact joinEnd (by k_asm) lN8 ⟨ts, _, (by k_mem), (fun p hp _ => hp), by rw [(entWP fW).2, if_neg (fun h => nomatch h.1), List.append_nil]; exact ht.mono (by walk_at "TAIL")⟩
                    case false =>
                      by_cases hv9 : f.tag = Str.ofString "var"
                      · by_cases hd9 : d9 = Str.ofString "output"
                        · subst hd9
                          k_steps
                          exact joinEnd (by k_asm) (by k_asm) ⟨ts, _, (by k_mem), (fun p hp _ => hp), by rw [(entWP fW).2, if_neg (fun h => h.2.2 rfl), List.append_nil]; exact ht.mono (by walk_at "TAIL")⟩
                        · k_steps
                          (rename News _ _ _ _ => hN9)
                          simp only [List.push_toArray] at hN9
                          exact joinEnd (by k_asm) hN9 ⟨ts ++ [Value.ref _], _, (by k_mem), (fun p hp hne => List.mem_cons_of_mem _ (keepUpd (o := listOf ts.toArray n2) (by k_dflt k_updF) _ p hp hne)), by rw [(entWP fW).2, if_pos ⟨rfl, hv9, hd9⟩]; exact (ht.mono (by walk_at "TAIL")).snoc List.mem_cons_self⟩
                      · k_steps
                        exact joinEnd (by k_asm) (by k_asm) ⟨ts, _, (by k_mem), (fun p hp _ => hp), by rw [(entWP fW).2, if_neg (fun h => hv9 h.2.1), List.append_nil]; exact ht.mono (by walk_at "TAIL")⟩
                  · intro h8 tk8 all8 F8 N8 hJ8
                    k_sweep
                    refine Cut.out ?_
                    intro G9 hG9
                    obtain ⟨ts8, n8, mt8, hk8, hT8⟩ := hJ8
                    refine hG9 ?_
                    clear hG9
                    have sR8 : ∀ p ∈ R, p ∈ all8 := fun p hp => hk8 p ((by walk_at "TAIL" : ∀ p ∈ R, p ∈ _) p hp) (o2 p hp)
                    have e1 := hk8 (_, PyProof.Rows.LCg.lst [Value.ref a8]) (by k_mem) (by k_ne)
                    have e2 := hk8 (_, PyProof.Rows.LCg.lst [Value.ref ap]) (by k_mem) (by k_ne)
                    (try clear lN8); (try clear F); (try clear N)
                    have w0 := sR8 _ hvm
                    have w1 := sR8 _ hg
                    have w2 := sR8 _ hfm'
                    have w3 := sR8 _ hm8
                    have w4 := sR8 _ hm7
                    have hmark2 : DoneMark2 := ⟨⟩
                    k_steps
                    all_goals exact ent_two hret (entWP fW).1 (by k_asm) (by k_asm) (by k_mem) (by k_mem) (by k_mem) (fun p hp => (by walk_at "TAIL" : ∀ p ∈ all8, p ∈ _) p (sR8 p hp)) hsub (hT8.mono (by walk_at "TAIL"))
              · obtain ⟨-, -, rfl, -⟩ := hc'; rw [fW] at gW'; exact absurd gW' (by decide)
              · obtain ⟨-, rfl, -⟩ := hc'; rw [fW] at gW'; exact absurd gW' (by decide)
            · obtain ⟨rfl, -⟩ := hc; rw [gP] at fP'; exact absurd fP' (by decide)
            · obtain ⟨-, rfl, -⟩ := hc; rw [gP] at fP'; exact absurd fP' (by decide)
            · obtain ⟨rfl, -⟩ := hc; rw [gP] at fP'; exact absurd fP' (by decide)
  case turn =>
    intro i v m₁ nx h tk' o hv hJ hc F N
    k_sweep
    refine Cut.out ?_
    intro G9 hG9
    obtain ⟨ps, n1, ts, n2, R, hnx, hp, ht, hsub, o1, o2, o3, o4, hfr, hti, hpl, hm1, hm2, hm3, hm4⟩ := hJ
    subst hnx
    refine hG9 ?_
    clear hG9
    have hmark : LoopMark := ⟨⟩
    have F' := Fr.four F hm1 hm2 hm3 hm4
    obtain ⟨it, hit, hvI⟩ := hits.get hv
    have hvR := hvI.mono hsub
    have hcat := hp.snoc hvR
    have hi9 : i < vs.length := (List.getElem?_eq_some_iff.mp hv).1
    have htl9 : ts.length ≤ 100 := by omega
    have hps9 : ps.length ≤ 2 := by rcases hpl with h | h <;> rw [h] <;> decide
    have hPl : ((its.take i).foldl pairStep ([f], [])).1.length < 1000 := by rw [← hp.len]; omega
    have hFl : ∀ q : It → Bool, ((((its.take i).foldl pairStep ([f], [])).1 ++ [it]).filter q).length < 1000 := fun q => Nat.lt_of_le_of_lt (List.length_filter_le _ _) (by rw [List.length_append, ← hp.len]; simp only [List.length_cons, List.length_nil]; omega)
    k_sweep
    refine Cut.out ?_
    intro G9 hG9
    obtain ⟨va, vt1, vt2, vxs, hva, hvm⟩ := hvR.second
    subst hva
    refine hG9 ?_
    clear hG9
    clear F lN
    k_steps
    all_goals first | (refine ej_no hp ht hsub o1 o2 o3 o4 hfr hti hpl hit (by omega) (by k_asm) (by k_asm) (by k_mem) (by k_mem) (by k_mem) (by k_mem) (by k_mem) (by walk_at "TAIL") (by k_ne) (by k_ne) (by k_ne) (by walk_at "ALLLT") (by walk_at "LT9") (by walk_at "LT9") (by walk_at "LT9") (by walk_at "LT9") (by with_unfolding_all rfl) (by with_unfolding_all rfl) (by with_unfolding_all rfl) (by with_unfolding_all rfl)) | (refine ej_yes hp ht hvR hsub o1 o2 o3 o4 hfr hti hit (by with_reducible assumption) (by with_reducible assumption) (by with_reducible assumption) (by k_asm) (by k_asm) (by k_mem) (by k_mem) (by k_mem) (by k_mem) (by walk_at "TAIL") (by k_ne) (by k_ne) (by k_ne) (by with_unfolding_all rfl) (by with_unfolding_all rfl) (by with_unfolding_all rfl) (by with_unfolding_all rfl))
end
section
noncomputable def lawFind : List Stmt → List Stmt × Scope
  | [] => ([], default)
  | x :: r => match r with
    | [] => (match x with
      | .FunctionDef _ _ b _ _ _ sc _ _ _ => (b, sc)
      | _ => ([], default))
    | _ :: _ => lawFind r
noncomputable def lawB : List Stmt := (lawFind PySem.Challenge.pw_sj0028_01.main.body).1
noncomputable def lawS : Scope := (lawFind PySem.Challenge.pw_sj0028_01.main.body).2
noncomputable def nthS : Nat → List Stmt → Stmt
  | _, [] => .Pass ⟨0, 0, 0, 0⟩
  | 0, x :: _ => x
  | n + 1, _ :: r => nthS n r
noncomputable abbrev lawE (L fa cd : Addr) : Env := envOfC (Str.ofString "law") lawS L fa (.ref cd)
noncomputable abbrev lawA (L fa cd : Addr) : Around := callerA.deeper (lawE L fa cd)
def IsT (o : Obj) : Prop := o.cls = .type "tuple" ∧ ∃ vs n, o.data = .seq vs n
theorem tupT {vs : List Value} : IsT (tup vs) := ⟨rfl, _, _, rfl⟩
/-- a list of ledger rows: some base rows, the others are tuples -/
structure Bag (bs R : List (Addr × Obj)) : Prop where
  sub : ∀ p ∈ bs, p ∈ R
  tup : ∀ p ∈ R, p ∈ bs ∨ IsT p.2
theorem ne_kind {h₀ h : Heap} {L d : Addr} {o : Obj} {all : List (Addr × Obj)} {p : Addr × Obj} (N : News h₀ L h all) (hp : p ∈ all) (hd : (d, o) ∈ all) (hc : p.2.cls ≠ o.cls) : p.1 ≠ d := by
  intro e
  have h1 := (N _ hp).1
  have h2 := (N _ hd).1
  rw [e] at h1
  rw [h1] at h2
  exact hc (congrArg Obj.cls (Option.some.inj h2))
theorem Bag.off {h₀ h : Heap} {L d : Addr} {o : Obj} {all bs R : List (Addr × Obj)} (N : News h₀ L h all) (B : Bag bs R) (hs : ∀ p ∈ R, p ∈ all) (hd : (d, o) ∈ all) (ho : o.cls ≠ .type "tuple") (hb : ∀ p ∈ bs, p.1 ≠ d) : ∀ p ∈ R, p.1 ≠ d := by
  intro p hp
  rcases B.tup p hp with h | h
  · exact hb p h
  · exact ne_kind N (hs p hp) hd (by rw [h.1]; exact fun e => ho e.symm)
theorem Bag.offCell {h₀ h : Heap} {L d : Addr} {o : Obj} {v : Option Value} {all bs R : List (Addr × Obj)} (N : News h₀ L h all) (B : Bag bs R) (hs : ∀ p ∈ R, p ∈ all) (hd : (d, o) ∈ all) (ho : o.data = .cell v) (hb : ∀ p ∈ bs, p.1 ≠ d) : ∀ p ∈ R, p.1 ≠ d := by
  intro p hp
  rcases B.tup p hp with h | ⟨_, vs, n, h⟩
  · exact hb p h
  · intro e
    have h1 := (N _ (hs p hp)).1
    have h2 := (N _ hd).1
    rw [e, h2] at h1
    rw [← Option.some.inj h1, ho] at h
    cases h
noncomputable def isTupB (p : Addr × Obj) : Bool := match p.2.cls, p.2.data with
  | .type c, .seq _ _ => c == "tuple"
  | _, _ => false
theorem isTupB_cls {p : Addr × Obj} (h : isTupB p = true) : IsT p.2 := by
  unfold isTupB at h
  split at h
  · next c vs n e e2 => exact ⟨by rw [e]; simp at h; rw [h], vs, n, e2⟩
  · cases h
noncomputable def bagOf (bs R : List (Addr × Obj)) : List (Addr × Obj) := bs ++ R.filter isTupB
theorem bagOf_bag (bs R : List (Addr × Obj)) : Bag bs (bagOf bs R) := by
  refine ⟨fun p hp => List.mem_append.mpr (.inl hp), fun p hp => ?_⟩
  rcases List.mem_append.mp hp with h | h
  · exact .inl h
  · exact .inr (isTupB_cls (List.mem_filter.mp h).2)
theorem bagOf_tup {bs R : List (Addr × Obj)} {p : Addr × Obj} (h : p ∈ R) (ht : IsT p.2) : p ∈ bagOf bs R := by
  obtain ⟨h1, vs, n, h2⟩ := ht
  exact List.mem_append.mpr (.inr (List.mem_filter.mpr ⟨h, by unfold isTupB; rw [h1, h2]; rfl⟩))
theorem bagOf_mem {bs R : List (Addr × Obj)} {p : Addr × Obj} (h : p ∈ bagOf bs R) : p ∈ bs ∨ p ∈ R := by
  rcases List.mem_append.mp h with h | h
  · exact .inl h
  · exact .inr (List.mem_filter.mp h).1
theorem Bag.cons {bs R : List (Addr × Obj)} {p : Addr × Obj} (B : Bag bs R) (h : IsT p.2) : Bag bs (p :: R) :=
  ⟨fun q hq => List.mem_cons_of_mem _ (B.sub q hq), fun q hq => by
    rcases List.mem_cons.mp hq with rfl | hq
    · exact .inr h
    · exact B.tup q hq⟩
/-- the tuples of R lie in R' -/
def SubT (R R' : List (Addr × Obj)) : Prop := ∀ p ∈ R, IsT p.2 → p ∈ R'
theorem bagOf_subT {bs R : List (Addr × Obj)} : SubT R (bagOf bs R) := fun _ h ht => bagOf_tup h ht
theorem SubT.trans {R R' R'' : List (Addr × Obj)} (h : SubT R R') (h' : SubT R' R'') : SubT R R'' := fun p hp ht => h' p (h p hp ht) ht
section
variable {R R' : List (Addr × Obj)}
theorem PortsIn.monoT (hs : SubT R R') : ∀ {ws : List Value} {ds : List Str}, PortsIn R ws ds → PortsIn R' ws ds
  | _, _, .nil => .nil
  | _, _, .cons h r => .cons (hs _ h tupT) (PortsIn.monoT hs r)
theorem ItIn.monoT (hs : SubT R R') {v : Value} {it : It} (h : ItIn R v it) : ItIn R' v it := by
  cases h with
  | port h => exact .port (hs _ h tupT)
  | net h => exact .net (hs _ h tupT)
  | var h => exact .var (hs _ h tupT)
  | event h => exact .event (hs _ h tupT)
  | genvar h => exact .genvar (hs _ h tupT)
  | param h => exact .param (hs _ h tupT)
  | rout h1 h2 h3 h4 h5 => exact .rout (hs _ h1 tupT) (hs _ h2 tupT) (hs _ h3 tupT) (h4.monoT hs) h5
  | inst h => exact .inst (hs _ h tupT)
  | gate h => exact .gate (hs _ h tupT)
  | cas h => exact .cas (hs _ h tupT)
theorem ItsIn.monoT (hs : SubT R R') {vs : List Value} {its : List It} (h : ItsIn R vs its) : ItsIn R' vs its := by
  induction h with
  | nil => exact .nil
  | cons h _ ih => exact .cons (h.monoT hs) ih
theorem InfoIn.monoT (hs : SubT R R') {v : Value} {i : Info} (h : InfoIn R v i) : InfoIn R' v i := by
  cases h with
  | neg => exact .neg
  | sig h => exact .sig (hs _ h tupT)
  | dirs h r => exact .dirs (hs _ h tupT) r
theorem EntIn.monoT (hs : SubT R R') {v : Value} {e : Ent} (h : EntIn R v e) : EntIn R' v e := by
  cases h with
  | mk h i => exact .mk (hs _ h tupT) (i.monoT hs)
theorem TabIn.monoT (hs : SubT R R') {kvs : List (Str × Value)} {tab : List (Str × Ent)} (h : TabIn R kvs tab) : TabIn R' kvs tab := by
  induction h with
  | nil => exact .nil
  | cons h _ ih => exact .cons (h.monoT hs) ih
theorem RowsIn.monoT (hs : SubT R R') {vs : List Value} {rows : List Row} (h : RowsIn R vs rows) : RowsIn R' vs rows := by
  induction h with
  | nil => exact .nil
  | cons h _ ih => exact .cons (hs _ h tupT) ih
theorem TwoIn.monoT (hs : SubT R R') {vs : List Value} {rows : List (Str × Int)} (h : TwoIn R vs rows) : TwoIn R' vs rows := by
  induction h with
  | nil => exact .nil
  | cons h _ ih => exact .cons (hs _ h tupT) ih
end
/-- the drawn list: pairs (level, item) -/
inductive DrawnIn (R : List (Addr × Obj)) : List Value → List (Int × It) → Prop
  | nil : DrawnIn R [] []
  | cons {a : Addr} {l : Int} {t : Tok} {v : Value} {it : It} {vs : List Value} {dr : List (Int × It)} : (a, tup [.int l t, v]) ∈ R → ItIn R v it → DrawnIn R vs dr → DrawnIn R (.ref a :: vs) ((l, it) :: dr)
section
variable {R R' : List (Addr × Obj)}
theorem DrawnIn.monoT (hs : SubT R R') {vs : List Value} {dr : List (Int × It)} (h : DrawnIn R vs dr) : DrawnIn R' vs dr := by
  induction h with
  | nil => exact .nil
  | cons h hi _ ih => exact .cons (hs _ h tupT) (hi.monoT hs) ih
theorem DrawnIn.snoc {a : Addr} {l : Int} {t : Tok} {v : Value} {it : It} {vs : List Value} {dr : List (Int × It)} (h : DrawnIn R vs dr) (hm : (a, tup [.int l t, v]) ∈ R) (hi : ItIn R v it) : DrawnIn R (vs ++ [.ref a]) (dr ++ [(l, it)]) := by
  induction h with
  | nil => exact .cons hm hi .nil
  | cons h hi' _ ih => exact .cons h hi' ih
theorem DrawnIn.len {vs : List Value} {dr : List (Int × It)} (h : DrawnIn R vs dr) : vs.length = dr.length := by
  induction h with
  | nil => rfl
  | cons _ _ _ ih => simp [ih]
theorem DrawnIn.get {vs : List Value} {dr : List (Int × It)} (h : DrawnIn R vs dr) : ∀ {i : Nat} {v : Value}, vs[i]? = some v → ∃ a l t u it, v = .ref a ∧ dr[i]? = some (l, it) ∧ (a, tup [.int l t, u]) ∈ R ∧ ItIn R u it := by
  induction h with
  | nil => intro i v e; simp at e
  | cons h hi _ ih =>
    intro i v e
    cases i with
    | zero => simp at e; subst e; exact ⟨_, _, _, _, _, rfl, rfl, h, hi⟩
    | succ i => simp at e; simpa using ih e
end
end
section
theorem lines_L8b : True := by
  k_with_none
  k_with "shSub" => first | (((with_reducible show wpAny _ _ (subscriptTail _ _ (Value.ref _) (Value.int _ _)) _ _ _))) | fail
  k_with "DIG" => first | (repeat (first | (with_reducible exact And.left) | (with_reducible exact id) | (with_reducible refine digR ?_))) | fail
  k_with "LT9" => first | (first | with_reducible assumption | (refine' ltLt ?h ?d; walk_at "HD")) | fail
  k_with "ALLLT" => first | (first | with_reducible assumption | (refine' allDig ?h ?d; walk_at "HD")) | fail
  k_with "K_NE" => first | ((refine neN ?_; first | with_reducible assumption | (refine Ne.symm ?_; with_reducible assumption) | (refine' neLt ?h ?d; walk_at "HD") | (refine' neGt ?h ?d; walk_at "HD") | (refine' neNe ?h ?d; walk_at "HD") | (refine' neEn ?h ?d; walk_at "HD") | (refine Nat.ne_of_lt ?_; with_reducible assumption) | (refine Nat.ne_of_gt ?_; with_reducible assumption) | ((try dsimp only); omega))) | fail
  k_with "MEM" => first | (first | with_reducible assumption | with_reducible exact List.mem_cons_self | (with_reducible refine List.mem_cons_of_mem _ ?_; walk_at "MEM")) | fail
  k_with "OM" => first | (first | exact dLe (by with_reducible assumption) rfl | exact dL0 (by with_reducible assumption) rfl | exact dLt (by with_reducible assumption) rfl | omega) | fail
  k_with "K_ALL" => first | (first | with_reducible assumption | (refine allLt_ne ?_; walk_at "ALLLT") | (refine off1_ne ?_; walk_at "ALLLT")) | fail
  trivial
theorem dict_cls {prog : Program} {w : World} {o : Obj} {kvs : List (Str × Value)} (h : o.IsDictOf (PySem.strKind prog w) kvs) : o.cls = .type "dict" := by
  obtain ⟨_, _, h, _⟩ := h
  exact h.1
theorem decl_turn {w : World} {p : Program} {loose : List Str} {mean : ExcName → Option Value} {mg mb : Str → Option Value}
    {dp un : Nat} {gd : Option (List Code)} {cn : Str} {cs : Scope} {a : Addr} {ccd : Value} {cl : List (Str × Addr)} {outer : List Env} {A₀ : Around} {base h₀ : Heap} {L : Addr} {m : Str → Option Value} {s : Shared}
    {Q E : Value → Shared → Prop} {rep repd rl tb tbd en e1 e2 I : Addr} {t1 t2 t3 u1 u2 : Tok} {nv tv pv : Value} {nn mm nr : Nat} {rs : List Value} {oe o1 o2 oI : Obj} {kvs k1 k2 : List (Str × Value)} {tab : List (Str × Ent)} {rows : List Row} {bs R all : List (Addr × Obj)}
    {it : It} {itv : Value} {inR : Bool}
    (B : Below A₀ base outer h₀) (F : Fr h₀ L s.heap m) (X : (Mine.hdE.heap_1_1 w.params).In h₀) (N : News h₀ L s.heap all) (T : Top p loose mean mg mb h₀) (hk : cs.kind = .function)
    (mI : (I, oI) ∈ all) (mr : (rl, listOf rs.toArray nr) ∈ all) (mE : (en, oe) ∈ all) (mE1 : (e1, o1) ∈ all) (mE2 : (e2, o2) ∈ all) (mR : ∀ p ∈ R, p ∈ all) (hB : Bag bs R)
    (m1 : (rep, instObj 38 repd) ∈ bs) (m2 : (repd, repDict w t1 t2 t3 nv tv rl nn) ∈ bs) (m4 : (tb, instObj 59 tbd) ∈ bs) (m5 : (tbd, tabDict w u1 u2 pv en mm) ∈ bs)
    (hb1 : ∀ p ∈ bs, p.1 ≠ rl) (hb2 : ∀ p ∈ bs, p.1 ≠ en) (hI : oI.cls = .type "list_iterator") (h1 : @Ne Nat e1 en) (h2 : @Ne Nat e2 en)
    (hD1 : o1.IsDictOf (PySem.strKind PySem.Challenge.rw_sj0028_01.row.prog w) k1) (hD2 : o2.IsDictOf (PySem.strKind PySem.Challenge.rw_sj0028_01.row.prog w) k2) (hlo : (en == sysModules) = false) (hD : oe.IsDictOf (PySem.strKind PySem.Challenge.rw_sj0028_01.row.prog w) kvs) (hz : kvs.length ≤ 1000) (hzr : rs.length ≤ 1000)
    (hT : TabIn R kvs tab) (hR : RowsIn R rs rows) (hO : TabOk tab) (hit : ItIn R itv it) (hd : dp ≤ 390) (hu : un ≤ 390)
    (hret : ∀ rs' nr' oe' kvs' R' h' toks', Fr h₀ L h' m → News h₀ L h' ((I, oI) :: (rl, listOf (rs' : List Value).toArray nr') :: (en, oe') :: (e1, o1) :: (e2, o2) :: R') → Bag bs R' → SubT R R' → oe'.IsDictOf (PySem.strKind PySem.Challenge.rw_sj0028_01.row.prog w) kvs' →
      TabIn R' kvs' (declare (rows, tab) it inR).2 → RowsIn R' rs' (declare (rows, tab) it inR).1 → Q .none { s with heap := h', toks := toks' }) :
    wpAny (model PySem.Challenge.rw_sj0028_01.row.prog w) (ktrTop dp un gd cn cs L a ccd cl outer) (call (.ref 105) [.ref rep, .ref tb, itv, .bool inR]) Q E s := by
  have hc1 := dict_cls hD1
  have hc2 := dict_cls hD2
  have hce := dict_cls hD
  have hbs : ∀ p ∈ bs, p ∈ all := fun p hp => mR p (hB.sub p hp)
  have rOff : ∀ p ∈ R, p.1 ≠ rl := hB.off N mR mr (show Value.type "list" ≠ Value.type "tuple" by decide) hb1
  have eOff : ∀ p ∈ R, p.1 ≠ en := hB.off N mR mE (by rw [hce]; decide) hb2
  have up : ∀ p ∈ bs, p ∈ (I, oI) :: (e1, o1) :: (e2, o2) :: R := fun p hp => .tail _ (.tail _ (.tail _ (hB.sub p hp)))
  have up3 : ∀ p ∈ R, p ∈ (I, oI) :: (e1, o1) :: (e2, o2) :: R := fun p hp => .tail _ (.tail _ (.tail _ hp))
  refine declare_ok (rest := (I, oI) :: (e1, o1) :: (e2, o2) :: R) (rl := rl) (rs := rs) (nr := nr) (en := en) (oe := oe) (kvs := kvs) (tab := tab) (rows := rows) (it := it) B F X ?_ T hk (up _ m1) (up _ m2) (up _ m4) (up _ m5) ?_ ?_ ?_ hlo hD hz hzr (hT.mono up3) (hR.mono up3) hO (hit.mono up3) hd hu ?_
  · exact List.forall_mem_cons.mpr ⟨N _ mr, List.forall_mem_cons.mpr ⟨N _ mE, List.forall_mem_cons.mpr ⟨N _ mI, List.forall_mem_cons.mpr ⟨N _ mE1, List.forall_mem_cons.mpr ⟨N _ mE2, fun p hp => N p (mR p hp)⟩⟩⟩⟩⟩
  · exact ne_kind N mE mr (by rw [hce]; exact (show Value.type "dict" ≠ Value.type "list" by decide))
  · exact List.forall_mem_cons.mpr ⟨ne_kind N mI mr (by rw [hI]; exact (show Value.type "list_iterator" ≠ Value.type "list" by decide)), List.forall_mem_cons.mpr ⟨ne_kind N mE1 mr (by rw [hc1]; exact (show Value.type "dict" ≠ Value.type "list" by decide)), List.forall_mem_cons.mpr ⟨ne_kind N mE2 mr (by rw [hc2]; exact (show Value.type "dict" ≠ Value.type "list" by decide)), rOff⟩⟩⟩
  · exact List.forall_mem_cons.mpr ⟨ne_kind N mI mE (by rw [hI, hce]; decide), List.forall_mem_cons.mpr ⟨h1, List.forall_mem_cons.mpr ⟨h2, eOff⟩⟩⟩
  · intro rs' nr' oe' kvs' R2 h' toks' F' N' mr' me' hs' hD' hT' hR'
    refine hret rs' nr' oe' kvs' (bagOf bs R2) h' toks' F' ?_ (bagOf_bag bs R2) (fun p hp ht => bagOf_tup (hs' p (up3 p hp)) ht) hD' (hT'.monoT bagOf_subT) (hR'.monoT bagOf_subT)
    exact List.forall_mem_cons.mpr ⟨N' _ (hs' _ List.mem_cons_self), List.forall_mem_cons.mpr ⟨N' _ mr', List.forall_mem_cons.mpr ⟨N' _ me', List.forall_mem_cons.mpr ⟨N' _ (hs' _ (.tail _ List.mem_cons_self)), List.forall_mem_cons.mpr ⟨N' _ (hs' _ (.tail _ (.tail _ List.mem_cons_self))), fun p hp => (bagOf_mem hp).elim (fun hp => N' _ (hs' _ (up p hp))) (fun hp => N' _ hp)⟩⟩⟩⟩⟩
/-- rows and the three tables -/
structure D3 where
  rows : List Row
  t0 : List (Str × Ent)
  t1 : List (Str × Ent)
  t2 : List (Str × Ent)
noncomputable def dstep (st : D3) (p : Int × It) : D3 :=
  if p.1 = 0 then ⟨(declare (st.rows, st.t0) p.2 false).1, (declare (st.rows, st.t0) p.2 false).2, st.t1, st.t2⟩
  else if p.1 = 1 then ⟨(declare (st.rows, st.t1) p.2 false).1, st.t0, (declare (st.rows, st.t1) p.2 false).2, st.t2⟩
  else ⟨(declare (st.rows, st.t2) p.2 true).1, st.t0, st.t1, (declare (st.rows, st.t2) p.2 true).2⟩
noncomputable def dfold (dr : List (Int × It)) : D3 := dr.foldl dstep ⟨[], [], [], []⟩
theorem entAt_stored {tab : List (Str × Ent)} {k k' : Str} {e : Ent} : entAt (storedE tab k e) k' = if k' = k then some e else entAt tab k' := by
  unfold storedE
  split
  · next ha =>
    induction tab with
    | nil => simp at ha
    | cons q r ih =>
      obtain ⟨q1, q2⟩ := q
      simp only [List.map_cons]
      by_cases hq : q1 = k
      · subst hq
        by_cases hk : k' = q1
        · subst hk; simp [entAt]
        · have hk' : ¬ q1 = k' := fun h => hk h.symm
          simp only [if_true, if_neg hk]
          have h1 : entAt ((q1, e) :: r.map (fun kv => if kv.1 = q1 then (kv.1, e) else kv)) k' = entAt (r.map (fun kv => if kv.1 = q1 then (kv.1, e) else kv)) k' := by simp [entAt, hk']
          have h2 : entAt ((q1, q2) :: r) k' = entAt r k' := by simp [entAt, hk']
          rw [h1, h2]
          by_cases hr : r.any (fun kv => kv.1 = q1) = true
          · rw [ih hr, if_neg hk]
          · have : r.map (fun kv => if kv.1 = q1 then (kv.1, e) else kv) = r := by
              refine (List.map_congr_left fun kv hkv => ?_).trans (List.map_id r)
              have : ¬ kv.1 = q1 := fun h => hr (List.any_eq_true.mpr ⟨kv, hkv, by simpa using h⟩)
              (first | walk_at "MEM" | simp [this])
            rw [this]
      · have hr : r.any (fun kv => kv.1 = k) = true := by simpa [hq] using ha
        simp only [if_neg hq]
        by_cases hk : q1 = k'
        · subst hk
          simp [entAt, hq]
        · have h1 : entAt ((q1, q2) :: r.map (fun kv => if kv.1 = k then (kv.1, e) else kv)) k' = entAt (r.map (fun kv => if kv.1 = k then (kv.1, e) else kv)) k' := by simp [entAt, hk]
          have h2 : entAt ((q1, q2) :: r) k' = entAt r k' := by simp [entAt, hk]
          rw [h1, h2, ih hr]
  · next ha =>
    have hno : ∀ kv ∈ tab, kv.1 ≠ k := fun kv hkv h => ha (List.any_eq_true.mpr ⟨kv, hkv, by simpa using h⟩)
    clear ha
    induction tab with
    | nil =>
      by_cases hk : k' = k
      · subst hk; simp [entAt]
      · have : ¬ k = k' := fun h => hk h.symm
        simp [entAt, hk, this]
    | cons q r ih =>
      obtain ⟨q1, q2⟩ := q
      have hq := hno (q1, q2) List.mem_cons_self
      by_cases hk : q1 = k'
      · subst hk
        simp [entAt, hq]
      · have h1 : entAt ((q1, q2) :: r ++ [(k, e)]) k' = entAt (r ++ [(k, e)]) k' := by simp [entAt, hk]
        have h2 : entAt ((q1, q2) :: r) k' = entAt r k' := by simp [entAt, hk]
        rw [h1, h2, ih fun kv hkv => hno kv (List.mem_cons_of_mem _ hkv)]
theorem storedE_len {tab : List (Str × Ent)} {k : Str} {e : Ent} : (storedE tab k e).length ≤ tab.length + 1 := by
  unfold storedE
  split <;> simp
theorem TabOk.stored {tab : List (Str × Ent)} {k : Str} {e : Ent} (h : TabOk tab) (he : e.ok) : TabOk (storedE tab k e) := by
  intro k' e' h'
  rw [entAt_stored] at h'
  split at h'
  · cases h'; exact he
  · exact h k' e' h'
theorem ok_sig {wh : Str} {i : Int} {d : Str} {p w : Bool} : Ent.ok ⟨wh, i, .sig d p w⟩ := fun _ => ⟨d, p, w, rfl⟩
theorem ok_other {wh : Str} {i : Int} {inf : Info} (h1 : wh ≠ Str.ofString "net") (h2 : wh ≠ Str.ofString "var") : Ent.ok ⟨wh, i, inf⟩ := fun h => by
  rcases h with h | h
  · exact absurd h h1
  · exact absurd h h2
def StLe (st st' : St) : Prop := st'.1.length ≤ st.1.length + 1 ∧ st'.2.length ≤ st.2.length + 1 ∧ (TabOk st.2 → TabOk st'.2)
theorem StLe.dup {st : St} {r : Row} : StLe st (st.1 ++ [r], st.2) := ⟨by simp, by simp, id⟩
theorem StLe.put {st : St} {n : Str} {e : Ent} (h : e.ok) : StLe st (st.1, storedE st.2 n e) := ⟨by simp, storedE_len, fun t => t.stored h⟩
theorem StLe.putR {st : St} {n : Str} {e : Ent} {b : Prop} [Decidable b] {r : Row} (h : e.ok) : StLe st (if b then st.1 ++ [r] else st.1, storedE st.2 n e) := by
  refine ⟨?_, storedE_len, fun t => t.stored h⟩
  split <;> simp
theorem addName_le {st : St} {n wh : Str} {i : Int} {inf : Info} (h1 : wh ≠ Str.ofString "net") (h2 : wh ≠ Str.ofString "var") : StLe st (addName st n wh i inf) := by
  unfold addName
  split
  · exact .put (ok_other h1 h2)
  · exact .dup
theorem addPort_le {st : St} {n : Str} {i : Int} {d : Str} {inR : Bool} : StLe st (addPort st n i d inR) := by
  unfold addPort
  split
  · exact .put ok_sig
  · split
    · split
      · exact .putR ok_sig
      · exact .dup
    · exact .dup
theorem addSignal_le {st : St} {n wh : Str} {i : Int} {inR : Bool} : StLe st (addSignal st n wh i inR) := by
  unfold addSignal
  split
  · exact .put ok_sig
  · split
    · split
      · exact .putR ok_sig
      · exact .dup
    · exact .dup
theorem StLe.refl {st : St} : StLe st st := ⟨by simp, by simp, id⟩
theorem task_ne {k : Str} (h : k = Str.ofString "task" ∨ k = Str.ofString "function") : k ≠ Str.ofString "net" ∧ k ≠ Str.ofString "var" := by
  rcases h with rfl | rfl <;> exact ⟨by decide, by decide⟩
theorem declare_le {st : St} {it : It} {inR : Bool} (h : it.ok) : StLe st (declare st it inR) := by
  cases it with
  | port i d n => exact addPort_le
  | net i n => exact addSignal_le
  | var i n => exact addSignal_le
  | ev g i n => cases g <;> exact addName_le (by decide) (by decide)
  | param i n => exact addName_le (by decide) (by decide)
  | rout i k n ds => exact addName_le (task_ne h.1).1 (task_ne h.1).2
  | inst i g => cases g with
    | none => exact .refl
    | some n => exact addName_le (by decide) (by decide)
  | gate i g => cases g with
    | none => exact .refl
    | some n => exact addName_le (by decide) (by decide)
  | cas i => exact .refl
def D3.ok (st : D3) (i : Nat) : Prop := st.rows.length ≤ i ∧ st.t0.length ≤ i ∧ st.t1.length ≤ i ∧ st.t2.length ≤ i ∧ TabOk st.t0 ∧ TabOk st.t1 ∧ TabOk st.t2
theorem dstep_ok {st : D3} {i : Nat} {p : Int × It} (h : st.ok i) (hi : p.2.ok) : (dstep st p).ok (i + 1) := by
  obtain ⟨h1, h2, h3, h4, h5, h6, h7⟩ := h
  unfold dstep
  split
  · obtain ⟨a, b, c⟩ := declare_le (st := (st.rows, st.t0)) (inR := false) hi
    dsimp only at a b c
    exact ⟨by dsimp only; omega, by dsimp only; omega, by dsimp only; omega, by dsimp only; omega, c h5, h6, h7⟩
  · split
    · obtain ⟨a, b, c⟩ := declare_le (st := (st.rows, st.t1)) (inR := false) hi
      dsimp only at a b c
      exact ⟨by dsimp only; omega, by dsimp only; omega, by dsimp only; omega, by dsimp only; omega, h5, c h6, h7⟩
    · obtain ⟨a, b, c⟩ := declare_le (st := (st.rows, st.t2)) (inR := true) hi
      dsimp only at a b c
      exact ⟨by dsimp only; omega, by dsimp only; omega, by dsimp only; omega, by dsimp only; omega, h5, h6, c h7⟩
theorem tabOk_nil : TabOk [] := fun _ _ h => by simp [entAt] at h
theorem dfold_ok {dr : List (Int × It)} (h : ∀ p ∈ dr, p.2.ok) : (dfold dr).ok dr.length := by
  have key : ∀ (l : List (Int × It)) (st : D3) (i : Nat), st.ok i → (∀ p ∈ l, p.2.ok) → (l.foldl dstep st).ok (i + l.length) := by
    intro l
    induction l with
    | nil => exact fun st i h _ => h
    | cons q r ih =>
      intro st i h hq
      have := ih (dstep st q) (i + 1) (dstep_ok h (hq q List.mem_cons_self)) fun p hp => hq p (List.mem_cons_of_mem _ hp)
      simpa [Nat.add_assoc, Nat.add_comm 1] using this
  have := key dr ⟨[], [], [], []⟩ 0 ⟨by simp, by simp, by simp, by simp, tabOk_nil, tabOk_nil, tabOk_nil⟩ h
  simpa [dfold] using this
theorem dfold_take {dr : List (Int × It)} {i : Nat} {p : Int × It} (h : dr[i]? = some p) : dfold (dr.take (i + 1)) = dstep (dfold (dr.take i)) p := by
  simp [dfold, List.take_add_one, h, List.foldl_append]
end
section
def DJ (w : World) (bs R0 : List (Addr × Obj)) (rl en0 en1 en2 rep tl dl : Addr) (dr : List (Int × It)) (i : Nat) (m : Str → Option Value) (nx : List (Addr × Obj)) : Prop :=
  ∃ rs nr oe0 oe1 oe2 k0 k1 k2 R, nx = (rl, listOf (rs : List Value).toArray nr) :: (en0, oe0) :: (en1, oe1) :: (en2, oe2) :: R ∧ Bag bs R ∧ SubT R0 R ∧
    oe0.IsDictOf (PySem.strKind PySem.Challenge.rw_sj0028_01.row.prog w) k0 ∧ oe1.IsDictOf (PySem.strKind PySem.Challenge.rw_sj0028_01.row.prog w) k1 ∧ oe2.IsDictOf (PySem.strKind PySem.Challenge.rw_sj0028_01.row.prog w) k2 ∧
    TabIn R k0 (dfold (dr.take i)).t0 ∧ TabIn R k1 (dfold (dr.take i)).t1 ∧ TabIn R k2 (dfold (dr.take i)).t2 ∧ RowsIn R rs (dfold (dr.take i)).rows ∧
    m (Str.ofString "notes") = some (.ref rep) ∧ m (Str.ofString "tables") = some (.ref tl) ∧ m (Str.ofString "drawn") = some (.ref dl)
theorem dj_off {w : World} {g h : Heap} {L I rl en0 en1 en2 : Addr} {o oe0 oe1 oe2 : Obj} {rs : List Value} {nr : Nat} {bs R : List (Addr × Obj)} {k0 k1 k2 : List (Str × Value)}
    (N : News g L h ((I, o) :: (rl, listOf rs.toArray nr) :: (en0, oe0) :: (en1, oe1) :: (en2, oe2) :: R)) (hc : o.cls = .type "list_iterator") (hB : Bag bs R) (hb : ∀ p ∈ bs, p.1 ≠ I)
    (D0 : oe0.IsDictOf (PySem.strKind PySem.Challenge.rw_sj0028_01.row.prog w) k0) (D1 : oe1.IsDictOf (PySem.strKind PySem.Challenge.rw_sj0028_01.row.prog w) k1) (D2 : oe2.IsDictOf (PySem.strKind PySem.Challenge.rw_sj0028_01.row.prog w) k2) :
    ∀ p ∈ (rl, listOf rs.toArray nr) :: (en0, oe0) :: (en1, oe1) :: (en2, oe2) :: R, p.1 ≠ I := by
  intro p hp
  have mI : (I, o) ∈ (I, o) :: (rl, listOf rs.toArray nr) :: (en0, oe0) :: (en1, oe1) :: (en2, oe2) :: R := List.mem_cons_self
  have hp' := List.mem_cons_of_mem (I, o) hp
  simp only [List.mem_cons] at hp
  rcases hp with rfl | rfl | rfl | rfl | hp
  · exact ne_kind N hp' mI (by rw [hc]; exact (show Value.type "list" ≠ Value.type "list_iterator" by decide))
  · exact ne_kind N hp' mI (by rw [hc, dict_cls D0]; decide)
  · exact ne_kind N hp' mI (by rw [hc, dict_cls D1]; decide)
  · exact ne_kind N hp' mI (by rw [hc, dict_cls D2]; decide)
  · exact hB.off N (fun q hq => by simp [hq]) mI (by rw [hc]; decide) hb p hp
end
section
theorem lines_L8d : True := by
  k_with_none
  k_with "shSub" => first | (((with_reducible show wpAny _ _ (subscriptTail _ _ (Value.ref _) (Value.int _ _)) _ _ _))) | fail
  k_with "DIG" => first | (repeat (first | (with_reducible exact And.left) | (with_reducible exact id) | (with_reducible refine digR ?_))) | fail
  k_with "LT9" => first | (first | with_reducible assumption | (refine' ltLt ?h ?d; walk_at "HD")) | fail
  k_with "ALLLT" => first | (first | with_reducible assumption | (refine' allDig ?h ?d; walk_at "HD")) | fail
  k_with "K_NE" => first | ((refine neN ?_; first | with_reducible assumption | (refine Ne.symm ?_; with_reducible assumption) | (refine' neLt ?h ?d; walk_at "HD") | (refine' neGt ?h ?d; walk_at "HD") | (refine' neNe ?h ?d; walk_at "HD") | (refine' neEn ?h ?d; walk_at "HD") | (refine Nat.ne_of_lt ?_; with_reducible assumption) | (refine Nat.ne_of_gt ?_; with_reducible assumption) | ((try dsimp only); omega))) | fail
  k_with "MEM" => first | (first | with_reducible assumption | with_reducible exact List.mem_cons_self | (with_reducible refine List.mem_cons_of_mem _ ?_; walk_at "MEM")) | fail
  k_with "OM" => first | (first | exact dLe (by with_reducible assumption) rfl | exact dL0 (by with_reducible assumption) rfl | exact dLt (by with_reducible assumption) rfl | omega) | fail
  k_with "K_ALL" => first | (first | with_reducible assumption | (refine allLt_ne ?_; walk_at "ALLLT") | (refine off1_ne ?_; walk_at "ALLLT")) | fail
  k_with "TAIL" => first | ((intro p9 hp9; repeat (first | exact hp9 | refine List.mem_cons_of_mem _ ?_))) | fail
  k_with "K_ROOM" => first | (((simp only [depth_mark, depth_under_make, depth_under_kw, depth_in1, depth_deeper, depth_caller, ktrTop, recursionLimit]); walk_at "OM")) | fail
  k_with "K_UNITS" => first | ((have hcL := cLine_is; (simp only [units_in1, units_deeper, Around.mark_units, units_caller, ktrTop]); walk_at "OM")) | fail
  k_with "K_MEM" => first | (((fail_if_success refine' List.Mem.tail _ ?_); (show (_ : Addr × Obj) ∈ (_ : List (Addr × Obj))); with_reducible assumption)) | fail
  k_with "compareOp In str ref" => first | ((k_here; k_dflt (first | (refine' kd_in_some (by (k_asm; done)) (by (k_mem; done)) (by (with_reducible assumption; done)) (by (with_reducible assumption; done)) (by (with_reducible assumption; done)) ?_) | (refine' kd_in_none (by (k_asm; done)) (by (k_mem; done)) (by (with_reducible assumption; done)) (by (with_reducible assumption; done)) (by (with_reducible assumption; done)) ?_)))) | fail
  k_with "compareOp NotIn str ref" => first | ((k_here; k_dflt (first | (refine' kd_nin_some (by (k_asm; done)) (by (k_mem; done)) (by (with_reducible assumption; done)) (by (with_reducible assumption; done)) (by (with_reducible assumption; done)) ?_) | (refine' kd_nin_none (by (k_asm; done)) (by (k_mem; done)) (by (with_reducible assumption; done)) (by (with_reducible assumption; done)) (by (with_reducible assumption; done)) ?_) | (refine' nin2_f (by (k_asm; done)) (by (k_mem; done)) (by (with_reducible assumption; done)) ?_) | (refine' nin2_t (by (k_asm; done)) (by (k_mem; done)) (by (with_reducible assumption; done)) ?_)))) | fail
  k_with "subscriptTail" => first | ((k_here; (with_reducible show wpAny _ _ (subscriptTail _ _ (Value.ref _) (Value.str _ _)) _ _ _); k_dflt (refine' kd_item (by (k_asm; done)) (by (k_mem; done)) (by (with_reducible assumption; done)) (by (with_reducible assumption; done)) ?_ (by (with_unfolding_all rfl; done)) (by (intro _; with_unfolding_all rfl; done))))) | fail
  k_with "setItem ref str" => first | ((k_here; k_dflt (refine' kd_set (by (k_asm; done)) (by (k_asm; done)) (by (k_updF; done)) (by (with_reducible assumption; done)) (by (with_reducible assumption; done)) ?_); (intro h' o' F' N' hd'); (try dsimp only at N'))) | fail
  k_with "getItem ref" => first | ((k_here; (with_reducible show wpAny _ _ (getItem (Value.ref _) (Value.str _ _)) _ _ _); k_dflt (refine' kd_get (by (k_asm; done)) (by (k_mem; done)) (by (with_reducible assumption; done)) (by (with_reducible assumption; done)) ?_))) | fail
  k_with "compareOp NotEq str str" => first | ((k_here; first | (refine ne_str_t (by with_reducible assumption) ?_) | (refine ne_str_f (by with_reducible assumption) ?_))) | fail
  k_with "compareOp Eq str str" => first | ((k_here; first | (refine eq_str_f (by with_reducible assumption) ?_) | (refine eq_str_t (by with_reducible assumption) ?_))) | fail
  k_with "exec If Compare cons cons" => first | ((k_here; (with_reducible show wpAny _ _ (exec (Stmt.If (Expr.Compare (Expr.Name _ _) [CmpOp.Eq] [Expr.Constant (Const.str _) _ _] _) _ _ _) _) _ _ _); k_dflt (refine' if_str_no (by (k_asm; done)) (by (exact rfl; done)) (by (decide +kernel; done)) ?_))) | fail
  k_with "exec If Compare cons cons" => first | ((k_here; (with_reducible show wpAny _ _ (exec (Stmt.If (Expr.Compare (Expr.Name _ _) [CmpOp.Eq] [Expr.Constant (Const.str _) _ _] _) _ _ _) _) _ _ _); k_dflt (refine' if_str (by (k_asm; done)) (by (exact rfl; done)) (by (exact rfl; done)) ?_))) | fail
  k_with "subscriptTail Name Constant ref int" => first | ((k_here; walk_at "shSub"; k_dflt (first | (refine' item_tup0 (by (k_asm; done)) (by (k_mem; done)) (by (exact rfl; done)) (by (decide; done)) (by (decide; done)) ?_ (by (with_unfolding_all rfl; done))) | (refine' item_lst0 (by (k_asm; done)) (by (k_mem; done)) (by (exact rfl; done)) (by (decide; done)) (by (decide; done)) ?_ (by (with_unfolding_all rfl; done)))))) | fail
  k_with "subscriptTail Subscript Name Constant Constant ref int" => first | ((k_here; walk_at "shSub"; k_dflt (first | (refine' item_tup0 (by (k_asm; done)) (by (k_mem; done)) (by (exact rfl; done)) (by (decide; done)) (by (decide; done)) ?_ (by (with_unfolding_all rfl; done))) | (refine' item_lst0 (by (k_asm; done)) (by (k_mem; done)) (by (exact rfl; done)) (by (decide; done)) (by (decide; done)) ?_ (by (with_unfolding_all rfl; done)))))) | fail
  k_with "callWith builtin:list.append cons nil" => first | ((refine callWith_method1 ?_)) | fail
  k_with "execs nil" => first | ((with_reducible refine wpAny_execs_nil ?_)) | fail
  k_with "EC" => first | (first | k_fold | k_gentoks | (with_reducible refine wpAny_execs_cons ?_; try dsimp only)) | fail
  k_with "execs cons If nil" => first | (walk_at "EC") | fail
  k_with "execs cons If cons" => first | (walk_at "EC") | fail
  k_with "execs cons Assign cons" => first | (walk_at "EC") | fail
  k_with "execs cons Assign nil" => first | (walk_at "EC") | fail
  k_with "execs cons Return nil" => first | (walk_at "EC") | fail
  k_with "execs cons Return cons" => first | (walk_at "EC") | fail
  k_with "execs cons Expr nil" => first | (walk_at "EC") | fail
  k_with "execs cons Expr cons" => first | (walk_at "EC") | fail
  k_with "exec If Compare cons nil" => first | ((with_reducible refine wpAny_If ?_)) | fail
  k_with "spliced" => first | ((k_here; with_reducible first | refine args_cs ?_ | refine args_cn ?_ | refine args_ci ?_ | refine args_cb ?_)) | fail
  k_with "spliced" => first | ((k_here; (with_reducible show wpAny _ _ (spliced (backTo _ (starEach (Expr.Name _ _ :: _) (envOf _ _ _ _ _)))) _ _ _); k_dflt (refine' args_nm (by (k_asm; done)) (by (exact rfl; done)) ?_ (by rfl) (by rfl) (by decide)))) | fail
  k_with "call ref" => first | (((with_reducible show wpAny _ _ (call (Value.ref 105) _) _ _ _); refine Halt.out ?_)) | fail
  k_with "UnrEndW" => first | ((refine Halt.out ?_)) | fail
  k_with "exec For Tuple Name cons nil" => first | ((k_here; (rename Fr _ _ _ _ => lF'); (with_unfolding_all refine' For_turns lF' ?_; k_whole))) | fail
  k_with "PYITER" => first | ((k_here; (with_reducible show wpAny _ _ (pyIter (Value.ref _)) (fun it s₂ => TurnsAt _ _ _ _ _ _ _ _ _ it s₂) _ _); k_dflt (refine' iter_listTurns (by (rfl; done)) (by (k_asm; done)) (by (k_asm; done)) (by (k_mem; done)) (by (exact rfl; done)) (by (exact rfl; done)) ?_); (intro I' l1; refine Halt.out ?_))) | fail
  k_with "subscriptTail Name Name ref int" => first | ((k_here; walk_at "shSub"; k_dflt (refine' item_lst0 (by (k_asm; done)) (by (k_mem; done)) (by (exact rfl; done)) (by (decide; done)) (by (decide; done)) ?_ (by (with_unfolding_all rfl; done))))) | fail
  trivial





set_option maxRecDepth 100000 in
set_option maxHeartbeats 8000000 in
theorem decl_loop {w : World} {loose : List Str} {mean : ExcName → Option Value} {mg mb : Str → Option Value} {L fa cd : Addr} {h₀ : Heap} {m : Str → Option Value} {s : Shared} {Q : Flow → Shared → Prop}
    {rep repd rl tl dl tb0 tbd0 en0 tb1 tbd1 en1 tb2 tbd2 en2 : Addr} {t1 t2 t3 u1 u2 v1 v2 w1 w2 : Tok} {nv tv pv0 pv1 pv2 : Value} {nn mm0 mm1 mm2 nr nl nd : Nat} {oe0 oe1 oe2 : Obj} {bs R : List (Addr × Obj)} {ds : List Value} {dr : List (Int × It)}
    (K0 : Below callerA h₀ [] h₀) (F : Fr h₀ L s.heap m) (X : (Mine.hdE.heap_1_1 w.params).In h₀) (T : Top Mine.hdE.view_1_2 loose mean mg mb h₀)
    (N : News h₀ L s.heap ((rl, listOf ([] : List Value).toArray nr) :: (en0, oe0) :: (en1, oe1) :: (en2, oe2) :: R)) (hB : Bag bs R)
    (b1 : (rep, instObj 38 repd) ∈ bs) (b2 : (repd, repDict w t1 t2 t3 nv tv rl nn) ∈ bs)
    (c0 : (tb0, instObj 59 tbd0) ∈ bs) (d0 : (tbd0, tabDict w u1 u2 pv0 en0 mm0) ∈ bs) (c1 : (tb1, instObj 59 tbd1) ∈ bs) (d1 : (tbd1, tabDict w v1 v2 pv1 en1 mm1) ∈ bs) (c2 : (tb2, instObj 59 tbd2) ∈ bs) (d2 : (tbd2, tabDict w w1 w2 pv2 en2 mm2) ∈ bs)
    (btl : (tl, listOf [Value.ref tb0, Value.ref tb1, Value.ref tb2].toArray nl) ∈ bs) (bdl : (dl, listOf ds.toArray nd) ∈ bs)
    (hbr : ∀ p ∈ bs, p.1 ≠ rl) (hb0 : ∀ p ∈ bs, p.1 ≠ en0) (hb1 : ∀ p ∈ bs, p.1 ≠ en1) (hb2 : ∀ p ∈ bs, p.1 ≠ en2) (e01 : @Ne Nat en0 en1) (e02 : @Ne Nat en0 en2) (e12 : @Ne Nat en1 en2)
    (l0 : (en0 == sysModules) = false) (l1 : (en1 == sysModules) = false) (l2 : (en2 == sysModules) = false)
    (D0 : oe0.IsDictOf (PySem.strKind PySem.Challenge.rw_sj0028_01.row.prog w) []) (D1 : oe1.IsDictOf (PySem.strKind PySem.Challenge.rw_sj0028_01.row.prog w) []) (D2 : oe2.IsDictOf (PySem.strKind PySem.Challenge.rw_sj0028_01.row.prog w) [])
    (hdr : DrawnIn R ds dr) (hlv : ∀ p ∈ dr, p.1 = 0 ∨ p.1 = 1 ∨ p.1 = 2) (hok : ∀ p ∈ dr, p.2.ok) (hlen : dr.length ≤ 20)
    (mn : m (Str.ofString "notes") = some (.ref rep)) (mt : m (Str.ofString "tables") = some (.ref tl)) (md : m (Str.ofString "drawn") = some (.ref dl))
    (hret : ∀ rs nr oe0 oe1 oe2 k0 k1 k2 R' m' h' tk', Fr h₀ L h' m' → News h₀ L h' ((rl, listOf (rs : List Value).toArray nr) :: (en0, oe0) :: (en1, oe1) :: (en2, oe2) :: R') → Bag bs R' → SubT R R' →
      oe0.IsDictOf (PySem.strKind PySem.Challenge.rw_sj0028_01.row.prog w) k0 → oe1.IsDictOf (PySem.strKind PySem.Challenge.rw_sj0028_01.row.prog w) k1 → oe2.IsDictOf (PySem.strKind PySem.Challenge.rw_sj0028_01.row.prog w) k2 →
      TabIn R' k0 (dfold dr).t0 → TabIn R' k1 (dfold dr).t1 → TabIn R' k2 (dfold dr).t2 → RowsIn R' rs (dfold dr).rows →
      m' (Str.ofString "notes") = some (.ref rep) → m' (Str.ofString "tables") = some (.ref tl) → m' (Str.ofString "drawn") = some (.ref dl) → Q .next { s with heap := h', toks := tk' }) :
    wpAny (model PySem.Challenge.rw_sj0028_01.row.prog w) (lawA L fa cd) (exec (nthS 8 lawB) (lawE L fa cd)) Q (fun _ _ => False) s := by
  w_top off
  unfold lawA lawE
  conv => pattern (nthS 8 lawB); whnf
  conv => pattern (occs := *) lawS <;> (whnf; zeta)
  have Fm := Fr.three F mn mt md
  have mD := hB.sub _ bdl
  clear F
  revert X
  k_fill
  intro X
  k_steps
  unfold Halt
  rename ∀ p ∈ _, _ => hlt9
  rename Addr => I9
  have hbI : ∀ p ∈ bs, p.1 ≠ I9 := fun p hp => lt_ne (hlt9 p (by (first | walk_at "MEM" | simp [hB.sub p hp])))
  rename News _ _ _ _ => lN
  clear lN
  refine items_ind (DJ w bs R rl en0 en1 en2 rep tl dl dr) ?h0 ?turn ?done
  case h0 => exact ⟨[], nr, oe0, oe1, oe2, [], [], [], R, rfl, hB, fun _ h _ => h, D0, D1, D2, .nil, .nil, .nil, .nil, by with_unfolding_all rfl, by with_unfolding_all rfl, by with_unfolding_all rfl⟩
  case done =>
    intro m₁ nx h tk hJ F N
    k_sweep
    refine Cut.out ?_
    intro G9 hG9
    obtain ⟨rs, nr', oe0', oe1', oe2', k0, k1, k2, R', hnx, hB', hS', D0', D1', D2', T0, T1, T2, hRw, f1, f2, f3⟩ := hJ
    subst hnx
    refine hG9 ?_
    clear hG9
    rw [List.take_of_length_le (Nat.le_of_eq hdr.len.symm)] at T0 T1 T2 hRw
    exact hret _ _ _ _ _ _ _ _ _ _ _ _ F N hB' hS' D0' D1' D2' T0 T1 T2 hRw f1 f2 f3
  case turn =>
    intro i v m₁ nx h tk o hv hJ hc F N
    k_sweep
    refine Cut.out ?_
    intro G9 hG9
    obtain ⟨rs, nr', oe0', oe1', oe2', k0, k1, k2, R', hnx, hB', hS', D0', D1', D2', T0, T1, T2, hRw, f1, f2, f3⟩ := hJ
    subst hnx
    refine hG9 ?_
    clear hG9
    have Fm := Fr.three F f1 f2 f3
    clear F
    k_sweep
    refine Cut.out ?_
    intro G9 hG9
    obtain ⟨a, l, t, u, it, rfl, hdi, hma, hit⟩ := hdr.get hv
    refine hG9 ?_
    clear hG9
    have hma' := hS' _ hma tupT
    have hit' := hit.monoT hS'
    have hp9 := List.mem_of_getElem? hdi
    have hlv9 := hlv _ hp9
    have hok9 := hok _ hp9
    have btl' := hB'.sub _ btl
    dsimp only at hlv9 hok9
    have hlt9 : i < dr.length := (List.getElem?_eq_some_iff.mp hdi).1
    obtain ⟨z1, z2, z3, z4, ok0, ok1, ok2⟩ := dfold_ok (dr := dr.take i) fun p hp => hok p (List.mem_of_mem_take hp)
    have hstep := dfold_take hdi
    have htk : (dr.take i).length ≤ 20 := by rw [List.length_take]; omega
    rcases hlv9 with rfl | rfl | rfl
    · k_steps
      all_goals (unfold Halt)
      refine decl_turn (en := en0) (e1 := en1) (e2 := en2) (oI := o) (rows := (dfold (dr.take i)).rows) (tab := (dfold (dr.take i)).t0) (k1 := k1) (k2 := k2) (by k_asm) (by k_asm) X (by k_asm) T (by rfl) (by k_mem) (by k_mem) (by k_mem) (by k_mem) (by k_mem) (by walk_at "TAIL") hB' b1 b2 c0 d0 hbr hb0 hc (Ne.symm e01) (Ne.symm e02) D1' D2' l0 D0' (by rw [T0.len]; omega) (by rw [hRw.length]; omega) T0 hRw ok0 hit' (by (simp only [depth_deeper, depth_caller]; decide)) (by (simp only [units_deeper, units_caller]; decide)) ?_
      intro rs9 nr9 oe9 k9 R9 h9 tk9 F9 N9 hB9 hS9 hD9 hT9 hR9
      k_steps
      all_goals (unfold Halt)
      have N9' : News h₀ L h9 ((I9, o) :: (rl, listOf rs9.toArray nr9) :: (en0, oe9) :: (en1, oe1') :: (en2, oe2') :: R9) := fun p hp => N9 p (by simp only [List.mem_cons] at hp; rcases hp with h | h | h | h | h | h <;> (first | (subst h; walk_at "MEM") | walk_at "MEM" | simp [h]))
      have off9 : ∀ p ∈ (rl, listOf rs9.toArray nr9) :: (en0, oe9) :: (en1, oe1') :: (en2, oe2') :: R9, ∀ q ∈ [(I9, o)], p.1 ≠ q.1 := by
        intro p hp q hq
        rw [List.mem_singleton.mp hq]
        refine dj_off N9' hc hB9 hbI hD9 D1' D2' p hp
      exact ⟨_, _, _, (rl, listOf rs9.toArray nr9) :: (en0, oe9) :: (en1, oe1') :: (en2, oe2') :: R9, rfl, by k_asm, N9', off9, ⟨by simp [hB9.sub _ bdl], trivial⟩, rs9, nr9, oe9, oe1', oe2', k9, k1, k2, R9, rfl, hB9, fun p hp ht => hS9 p (hS' p hp ht) ht, hD9, D1', D2', by rw [hstep]; exact hT9, by rw [hstep]; exact (T1.monoT hS9), by rw [hstep]; exact (T2.monoT hS9), by rw [hstep]; exact hR9, by with_unfolding_all rfl, by with_unfolding_all rfl, by with_unfolding_all rfl⟩
    · k_steps
      all_goals (unfold Halt)
      refine decl_turn (en := en1) (e1 := en0) (e2 := en2) (oI := o) (rows := (dfold (dr.take i)).rows) (tab := (dfold (dr.take i)).t1) (k1 := k0) (k2 := k2) (by k_asm) (by k_asm) X (by k_asm) T (by rfl) (by k_mem) (by k_mem) (by k_mem) (by k_mem) (by k_mem) (by walk_at "TAIL") hB' b1 b2 c1 d1 hbr hb1 hc e01 (Ne.symm e12) D0' D2' l1 D1' (by rw [T1.len]; omega) (by rw [hRw.length]; omega) T1 hRw ok1 hit' (by (simp only [depth_deeper, depth_caller]; decide)) (by (simp only [units_deeper, units_caller]; decide)) ?_
      intro rs9 nr9 oe9 k9 R9 h9 tk9 F9 N9 hB9 hS9 hD9 hT9 hR9
      k_steps
      all_goals (unfold Halt)
      have N9' : News h₀ L h9 ((I9, o) :: (rl, listOf rs9.toArray nr9) :: (en0, oe0') :: (en1, oe9) :: (en2, oe2') :: R9) := fun p hp => N9 p (by simp only [List.mem_cons] at hp; rcases hp with h | h | h | h | h | h <;> (first | (subst h; walk_at "MEM") | walk_at "MEM" | simp [h]))
      have off9 : ∀ p ∈ (rl, listOf rs9.toArray nr9) :: (en0, oe0') :: (en1, oe9) :: (en2, oe2') :: R9, ∀ q ∈ [(I9, o)], p.1 ≠ q.1 := by
        intro p hp q hq
        rw [List.mem_singleton.mp hq]
        refine dj_off N9' hc hB9 hbI D0' hD9 D2' p hp
      exact ⟨_, _, _, (rl, listOf rs9.toArray nr9) :: (en0, oe0') :: (en1, oe9) :: (en2, oe2') :: R9, rfl, by k_asm, N9', off9, ⟨by simp [hB9.sub _ bdl], trivial⟩, rs9, nr9, oe0', oe9, oe2', k0, k9, k2, R9, rfl, hB9, fun p hp ht => hS9 p (hS' p hp ht) ht, D0', hD9, D2', by rw [hstep]; exact (T0.monoT hS9), by rw [hstep]; exact hT9, by rw [hstep]; exact (T2.monoT hS9), by rw [hstep]; exact hR9, by with_unfolding_all rfl, by with_unfolding_all rfl, by with_unfolding_all rfl⟩
    · k_steps
      all_goals (unfold Halt)
      refine decl_turn (en := en2) (e1 := en0) (e2 := en1) (oI := o) (rows := (dfold (dr.take i)).rows) (tab := (dfold (dr.take i)).t2) (k1 := k0) (k2 := k1) (by k_asm) (by k_asm) X (by k_asm) T (by rfl) (by k_mem) (by k_mem) (by k_mem) (by k_mem) (by k_mem) (by walk_at "TAIL") hB' b1 b2 c2 d2 hbr hb2 hc e02 e12 D0' D1' l2 D2' (by rw [T2.len]; omega) (by rw [hRw.length]; omega) T2 hRw ok2 hit' (by (simp only [depth_deeper, depth_caller]; decide)) (by (simp only [units_deeper, units_caller]; decide)) ?_
      intro rs9 nr9 oe9 k9 R9 h9 tk9 F9 N9 hB9 hS9 hD9 hT9 hR9
      k_steps
      all_goals (unfold Halt)
      have N9' : News h₀ L h9 ((I9, o) :: (rl, listOf rs9.toArray nr9) :: (en0, oe0') :: (en1, oe1') :: (en2, oe9) :: R9) := fun p hp => N9 p (by simp only [List.mem_cons] at hp; rcases hp with h | h | h | h | h | h <;> (first | (subst h; walk_at "MEM") | walk_at "MEM" | simp [h]))
      have off9 : ∀ p ∈ (rl, listOf rs9.toArray nr9) :: (en0, oe0') :: (en1, oe1') :: (en2, oe9) :: R9, ∀ q ∈ [(I9, o)], p.1 ≠ q.1 := by
        intro p hp q hq
        rw [List.mem_singleton.mp hq]
        refine dj_off N9' hc hB9 hbI D0' D1' hD9 p hp
      exact ⟨_, _, _, (rl, listOf rs9.toArray nr9) :: (en0, oe0') :: (en1, oe1') :: (en2, oe9) :: R9, rfl, by k_asm, N9', off9, ⟨by simp [hB9.sub _ bdl], trivial⟩, rs9, nr9, oe0', oe1', oe9, k0, k1, k9, R9, rfl, hB9, fun p hp ht => hS9 p (hS' p hp ht) ht, D0', D1', hD9, by rw [hstep]; exact (T0.monoT hS9), by rw [hstep]; exact (T1.monoT hS9), by rw [hstep]; exact hT9, by rw [hstep]; exact hR9, by with_unfolding_all rfl, by with_unfolding_all rfl, by with_unfolding_all rfl⟩
end
section
theorem lines_L9a : True := by
  k_with_none
  k_with "shSub" => first | (((with_reducible show wpAny _ _ (subscriptTail _ _ (Value.ref _) (Value.int _ _)) _ _ _))) | fail
  k_with "DIG" => first | (repeat (first | (with_reducible exact And.left) | (with_reducible exact id) | (with_reducible refine digR ?_))) | fail
  k_with "LT9" => first | (first | with_reducible assumption | (refine' ltLt ?h ?d; walk_at "HD")) | fail
  k_with "ALLLT" => first | (first | with_reducible assumption | (refine' allDig ?h ?d; walk_at "HD")) | fail
  k_with "K_NE" => first | ((refine neN ?_; first | with_reducible assumption | (refine Ne.symm ?_; with_reducible assumption) | (refine' neLt ?h ?d; walk_at "HD") | (refine' neGt ?h ?d; walk_at "HD") | (refine' neNe ?h ?d; walk_at "HD") | (refine' neEn ?h ?d; walk_at "HD") | (refine Nat.ne_of_lt ?_; with_reducible assumption) | (refine Nat.ne_of_gt ?_; with_reducible assumption) | ((try dsimp only); omega))) | fail
  k_with "MEM" => first | (first | with_reducible assumption | with_reducible exact List.mem_cons_self | (with_reducible refine List.mem_cons_of_mem _ ?_; walk_at "MEM")) | fail
  k_with "OM" => first | (first | exact dLe (by with_reducible assumption) rfl | exact dL0 (by with_reducible assumption) rfl | exact dLt (by with_reducible assumption) rfl | omega) | fail
  k_with "K_ALL" => first | (first | with_reducible assumption | (refine allLt_ne ?_; walk_at "ALLLT") | (refine off1_ne ?_; walk_at "ALLLT")) | fail
  trivial
def DrOk (dr : List (Int × It)) (b : Int) : Prop := dr.Pairwise (fun p q => p.2.at < q.2.at) ∧ ∀ p ∈ dr, p.2.at < b ∧ p.2.ok ∧ (p.1 = 0 ∨ p.1 = 1 ∨ p.1 = 2)
theorem DrOk.snoc {dr : List (Int × It)} {b c l : Int} {it : It} (h : DrOk dr b) (h1 : b ≤ it.at) (h2 : it.at < c) (h3 : it.ok) (h4 : 0 ≤ l) (h5 : l < 3) : DrOk (dr ++ [(l, it)]) c := by
  refine ⟨List.pairwise_append.mpr ⟨h.1, List.pairwise_singleton _ _, fun p hp q hq => ?_⟩, fun p hp => ?_⟩
  · rw [List.mem_singleton.mp hq]
    have := (h.2 p hp).1
    dsimp only
    omega
  · rcases List.mem_append.mp hp with hp | hp
    · obtain ⟨a, b', c'⟩ := h.2 p hp
      exact ⟨by omega, b', c'⟩
    · rw [List.mem_singleton.mp hp]
      exact ⟨h2, h3, by dsimp only; omega⟩
def RJ (bs : List (Addr × Obj)) (feed cells dl : Addr) (i : Nat) (m : Str → Option Value) (nx : List (Addr × Obj)) : Prop :=
  ∃ c tc r tr nf vs ns nc ds nd dr R, nx = (feed, feedObj cells c tc r tr nf) :: (cells, listOf (vs : List Value).toArray nc) :: (dl, listOf (ds : List Value).toArray nd) :: R ∧ Bag bs R ∧ IntsAre vs ns ∧ vs.length < 100 ∧ 0 ≤ r ∧ r < 2147483647 ∧
    DrawnIn R ds dr ∧ DrOk dr (10 + (i : Int)) ∧ dr.length = 4 + i ∧ m (Str.ofString "feed") = some (.ref feed) ∧ m (Str.ofString "drawn") = some (.ref dl)
theorem small14 {x : Int} (h0 : 4 ≤ x) (h1 : x < 15) : Builtin.Range.small 0 x 1 = true := by
  obtain ⟨n, rfl⟩ := Int.eq_ofNat_of_zero_le (Int.le_trans (by decide) h0)
  exact (by decide : ∀ n < 15, Builtin.Range.small 0 ((n : Nat) : Int) 1 = true) n (Int.ofNat_lt.mp h1)
theorem item_turn {w : World} {p : Program} {loose : List Str} {mean : ExcName → Option Value} {mg mb : Str → Option Value}
    {dp un : Nat} {gd : Option (List Code)} {cn : Str} {cs : Scope} {a : Addr} {ccd : Value} {cl : List (Str × Addr)} {outer : List Env} {A₀ : Around} {base h₀ : Heap} {L : Addr} {m : Str → Option Value} {s : Shared}
    {Q E : Value → Shared → Prop} {feed cells dl I : Addr} {c r mark : Int} {tc tr t : Tok} {nf nc : Nat} {vs : List Value} {ns : List Int} {bs R all : List (Addr × Obj)} {oI od : Obj}
    (B : Below A₀ base outer h₀) (F : Fr h₀ L s.heap m) (X : (Mine.hdE.heap_1_1 w.params).In h₀) (N : News h₀ L s.heap all) (T : Top p loose mean mg mb h₀) (hk : cs.kind = .function)
    (mf : (feed, feedObj cells c tc r tr nf) ∈ all) (mc : (cells, listOf vs.toArray nc) ∈ all) (mI : (I, oI) ∈ all) (md : (dl, od) ∈ all) (mR : ∀ p ∈ R, p ∈ all) (hB : Bag bs R)
    (hbf : ∀ p ∈ bs, p.1 ≠ feed) (hbc : ∀ p ∈ bs, p.1 ≠ cells) (hfc : @Ne Nat feed cells) (hfd : @Ne Nat dl feed) (hcd : @Ne Nat dl cells) (hI : oI.cls = .type "range_iterator")
    (hi : IntsAre vs ns) (hlen : vs.length < 100) (hr0 : 0 ≤ r) (hr1 : r < 2147483647) (hd : dp ≤ 390) (hu : un ≤ 390)
    (hret : ∀ v it R' c' tc' r' tr' nf' vs' ns' nc' h' toks', Fr h₀ L h' m → News h₀ L h' ((feed, feedObj cells c' tc' r' tr' nf') :: (cells, listOf (vs' : List Value).toArray nc') :: (I, oI) :: (dl, od) :: R') → Bag bs R' → SubT R R' → IntsAre vs' ns' →
      ItIn R' v it → it.ok → it.at = mark → 0 ≤ r' → r' < 2147483647 → vs'.length < 100 → Q v { s with heap := h', toks := toks' }) :
    wpAny (model PySem.Challenge.rw_sj0028_01.row.prog w) (ktrTop dp un gd cn cs L a ccd cl outer) (call (.ref 124) [.ref feed, .int mark t]) Q E s := by
  have lf : Value.type "list" ≠ Value.type "tuple" := by decide
  have fOff : ∀ p ∈ R, p.1 ≠ feed := hB.off N mR mf lf hbf
  have cOff : ∀ p ∈ R, p.1 ≠ cells := hB.off N mR mc lf hbc
  refine item_ok (rest := (I, oI) :: (dl, od) :: R) (c := c) (tc := tc) (r := r) (tr := tr) (nf := nf) (nc := nc) B F X ?_ T hk hi hlen hfc ?_ ?_ hr0 hr1 hd hu ?_
  · intro p hp
    refine N p ?_
    simp only [List.mem_cons] at hp
    rcases hp with rfl | rfl | rfl | rfl | hp
    · exact mf
    · exact mc
    · exact mI
    · exact md
    · exact mR p hp
  · intro p hp
    simp only [List.mem_cons] at hp
    rcases hp with rfl | rfl | hp
    · exact ne_kind N mI mf (by rw [hI]; exact (show Value.type "range_iterator" ≠ Value.type "list" by decide))
    · exact hfd
    · exact fOff p hp
  · intro p hp
    simp only [List.mem_cons] at hp
    rcases hp with rfl | rfl | hp
    · exact ne_kind N mI mc (by rw [hI]; exact (show Value.type "range_iterator" ≠ Value.type "list" by decide))
    · exact hcd
    · exact cOff p hp
  · intro v it R2 c' tc' r' tr' nf' vs' ns' nc' h' toks' F' N' mf' mc' hs' hi' hit hok hat h0' h1' hl'
    refine hret v it (bagOf bs R2) c' tc' r' tr' nf' vs' ns' nc' h' toks' F' ?_ (bagOf_bag bs R2) (fun p hp ht => bagOf_tup (hs' p (.tail _ (.tail _ hp))) ht) hi' (hit.monoT bagOf_subT) hok hat h0' h1' hl'
    exact List.forall_mem_cons.mpr ⟨N' _ mf', List.forall_mem_cons.mpr ⟨N' _ mc', List.forall_mem_cons.mpr ⟨N' _ (hs' _ List.mem_cons_self), List.forall_mem_cons.mpr ⟨N' _ (hs' _ (.tail _ List.mem_cons_self)), fun p hp => (bagOf_mem hp).elim (fun hp => N' _ (hs' _ (.tail _ (.tail _ (hB.sub p hp))))) (fun hp => N' _ hp)⟩⟩⟩⟩
theorem rj_end {g h' : Heap} {L I feed cells dl T : Addr} {m' : Str → Option Value} {all bs R : List (Addr × Obj)} {oI : Obj} {s₁ : Shared} {tk nf nc nd i : Nat} {c r l : Int} {tc tr t : Tok} {vs ds : List Value} {ns : List Int} {v : Value} {it : It} {dr : List (Int × It)}
    (F : Fr g L h' m') (N : News g L h' all) (mI : (I, oI) ∈ all) (mf : (feed, feedObj cells c tc r tr nf) ∈ all) (mc : (cells, listOf vs.toArray nc) ∈ all) (md : (dl, ({ cls := .type "list", data := .seq (ds.toArray.push (.ref T)) nd } : Obj)) ∈ all) (mT : (T, tup [.int l t, v]) ∈ all) (sR : ∀ p ∈ R, p ∈ all)
    (hI : oI.cls = .type "range_iterator") (hB : Bag bs R) (hbI : ∀ p ∈ bs, p.1 ≠ I) (hi : IntsAre vs ns) (hlen : vs.length < 100) (hr0 : 0 ≤ r) (hr1 : r < 2147483647)
    (hdr : DrawnIn R ds dr) (hdo : DrOk dr (10 + (i : Int))) (hdl : dr.length = 4 + i) (hit : ItIn R v it) (hok : it.ok) (hat : it.at = 10 + (0 + (i : Int))) (h0 : 0 ≤ l) (h3 : l < 3)
    (m1 : m' (Str.ofString "feed") = some (.ref feed)) (m2 : m' (Str.ofString "drawn") = some (.ref dl)) :
    UnrEnd g L s₁ I oI (RJ bs feed cells dl (i + 1)) { s₁ with heap := h', toks := tk } := by
  have hBT : Bag bs ((T, tup [.int l t, v]) :: R) := hB.cons tupT
  rw [List.push_toArray] at md
  have st : SubT R ((T, tup [.int l t, v]) :: R) := fun p hp _ => List.mem_cons_of_mem _ hp
  refine ⟨h', tk, m', (feed, feedObj cells c tc r tr nf) :: (cells, listOf vs.toArray nc) :: (dl, listOf (ds ++ [Value.ref T]).toArray nd) :: (T, tup [.int l t, v]) :: R, rfl, F, ?_, ?_, c, tc, r, tr, nf, vs, ns, nc, ds ++ [Value.ref T], nd, dr ++ [(l, it)], (T, tup [.int l t, v]) :: R, rfl, hBT, hi, hlen, hr0, hr1, ?_, ?_, ?_, m1, m2⟩
  · intro p hp
    refine N p ?_
    simp only [List.mem_cons] at hp
    rcases hp with rfl | rfl | rfl | rfl | rfl | hp
    · exact mI
    · exact mf
    · exact mc
    · exact md
    · exact mT
    · exact sR p hp
  · intro p hp
    simp only [List.mem_cons] at hp
    rcases hp with rfl | rfl | rfl | rfl | hp
    · exact ne_kind N mf mI (by rw [hI]; exact (show Value.type "list" ≠ Value.type "range_iterator" by decide))
    · exact ne_kind N mc mI (by rw [hI]; exact (show Value.type "list" ≠ Value.type "range_iterator" by decide))
    · exact ne_kind N md mI (by rw [hI]; exact (show Value.type "list" ≠ Value.type "range_iterator" by decide))
    · exact ne_kind N mT mI (by rw [hI]; exact (show Value.type "tuple" ≠ Value.type "range_iterator" by decide))
    · exact hB.off N sR mI (by rw [hI]; decide) hbI p hp
  · exact (hdr.monoT st).snoc List.mem_cons_self (hit.monoT st)
  · exact hdo.snoc (by omega) (by omega) hok h0 h3
  · simp; omega
end
section
theorem lines_L9b : True := by
  k_with_none
  k_with "shSub" => first | (((with_reducible show wpAny _ _ (subscriptTail _ _ (Value.ref _) (Value.int _ _)) _ _ _))) | fail
  k_with "DIG" => first | (repeat (first | (with_reducible exact And.left) | (with_reducible exact id) | (with_reducible refine digR ?_))) | fail
  k_with "LT9" => first | (first | with_reducible assumption | (refine' ltLt ?h ?d; walk_at "HD")) | fail
  k_with "ALLLT" => first | (first | with_reducible assumption | (refine' allDig ?h ?d; walk_at "HD")) | fail
  k_with "K_NE" => first | ((refine neN ?_; first | with_reducible assumption | (refine Ne.symm ?_; with_reducible assumption) | (refine' neLt ?h ?d; walk_at "HD") | (refine' neGt ?h ?d; walk_at "HD") | (refine' neNe ?h ?d; walk_at "HD") | (refine' neEn ?h ?d; walk_at "HD") | (refine Nat.ne_of_lt ?_; with_reducible assumption) | (refine Nat.ne_of_gt ?_; with_reducible assumption) | ((try dsimp only); omega))) | fail
  k_with "MEM" => first | (first | with_reducible assumption | with_reducible exact List.mem_cons_self | (with_reducible refine List.mem_cons_of_mem _ ?_; walk_at "MEM")) | fail
  k_with "OM" => first | (first | exact dLe (by with_reducible assumption) rfl | exact dL0 (by with_reducible assumption) rfl | exact dLt (by with_reducible assumption) rfl | omega) | fail
  k_with "K_ALL" => first | (first | with_reducible assumption | (refine allLt_ne ?_; walk_at "ALLLT") | (refine off1_ne ?_; walk_at "ALLLT")) | fail
  k_with "TAIL" => first | ((intro p9 hp9; repeat (first | exact hp9 | refine List.mem_cons_of_mem _ ?_))) | fail
  k_with "K_ROOM" => first | (((simp only [depth_mark, depth_under_make, depth_under_kw, depth_in1, depth_deeper, depth_caller, ktrTop, recursionLimit]); walk_at "OM")) | fail
  k_with "K_UNITS" => first | ((have hcL := cLine_is; (simp only [units_in1, units_deeper, Around.mark_units, units_caller, ktrTop]); walk_at "OM")) | fail
  k_with "K_MEM" => first | (((fail_if_success refine' List.Mem.tail _ ?_); (show (_ : Addr × Obj) ∈ (_ : List (Addr × Obj))); with_reducible assumption)) | fail
  k_with "compareOp In str ref" => first | ((k_here; k_dflt (first | (refine' kd_in_some (by (k_asm; done)) (by (k_mem; done)) (by (with_reducible assumption; done)) (by (with_reducible assumption; done)) (by (with_reducible assumption; done)) ?_) | (refine' kd_in_none (by (k_asm; done)) (by (k_mem; done)) (by (with_reducible assumption; done)) (by (with_reducible assumption; done)) (by (with_reducible assumption; done)) ?_)))) | fail
  k_with "compareOp NotIn str ref" => first | ((k_here; k_dflt (first | (refine' kd_nin_some (by (k_asm; done)) (by (k_mem; done)) (by (with_reducible assumption; done)) (by (with_reducible assumption; done)) (by (with_reducible assumption; done)) ?_) | (refine' kd_nin_none (by (k_asm; done)) (by (k_mem; done)) (by (with_reducible assumption; done)) (by (with_reducible assumption; done)) (by (with_reducible assumption; done)) ?_) | (refine' nin2_f (by (k_asm; done)) (by (k_mem; done)) (by (with_reducible assumption; done)) ?_) | (refine' nin2_t (by (k_asm; done)) (by (k_mem; done)) (by (with_reducible assumption; done)) ?_)))) | fail
  k_with "subscriptTail" => first | ((k_here; (with_reducible show wpAny _ _ (subscriptTail _ _ (Value.ref _) (Value.str _ _)) _ _ _); k_dflt (refine' kd_item (by (k_asm; done)) (by (k_mem; done)) (by (with_reducible assumption; done)) (by (with_reducible assumption; done)) ?_ (by (with_unfolding_all rfl; done)) (by (intro _; with_unfolding_all rfl; done))))) | fail
  k_with "setItem ref str" => first | ((k_here; k_dflt (refine' kd_set (by (k_asm; done)) (by (k_asm; done)) (by (k_updF; done)) (by (with_reducible assumption; done)) (by (with_reducible assumption; done)) ?_); (intro h' o' F' N' hd'); (try dsimp only at N'))) | fail
  k_with "getItem ref" => first | ((k_here; (with_reducible show wpAny _ _ (getItem (Value.ref _) (Value.str _ _)) _ _ _); k_dflt (refine' kd_get (by (k_asm; done)) (by (k_mem; done)) (by (with_reducible assumption; done)) (by (with_reducible assumption; done)) ?_))) | fail
  k_with "compareOp NotEq str str" => first | ((k_here; first | (refine ne_str_t (by with_reducible assumption) ?_) | (refine ne_str_f (by with_reducible assumption) ?_))) | fail
  k_with "compareOp Eq str str" => first | ((k_here; first | (refine eq_str_f (by with_reducible assumption) ?_) | (refine eq_str_t (by with_reducible assumption) ?_))) | fail
  k_with "exec If Compare cons cons" => first | ((k_here; (with_reducible show wpAny _ _ (exec (Stmt.If (Expr.Compare (Expr.Name _ _) [CmpOp.Eq] [Expr.Constant (Const.str _) _ _] _) _ _ _) _) _ _ _); k_dflt (refine' if_str_no (by (k_asm; done)) (by (exact rfl; done)) (by (decide +kernel; done)) ?_))) | fail
  k_with "exec If Compare cons cons" => first | ((k_here; (with_reducible show wpAny _ _ (exec (Stmt.If (Expr.Compare (Expr.Name _ _) [CmpOp.Eq] [Expr.Constant (Const.str _) _ _] _) _ _ _) _) _ _ _); k_dflt (refine' if_str (by (k_asm; done)) (by (exact rfl; done)) (by (exact rfl; done)) ?_))) | fail
  k_with "subscriptTail Name Constant ref int" => first | ((k_here; walk_at "shSub"; k_dflt (first | (refine' item_tup0 (by (k_asm; done)) (by (k_mem; done)) (by (exact rfl; done)) (by (decide; done)) (by (decide; done)) ?_ (by (with_unfolding_all rfl; done))) | (refine' item_lst0 (by (k_asm; done)) (by (k_mem; done)) (by (exact rfl; done)) (by (decide; done)) (by (decide; done)) ?_ (by (with_unfolding_all rfl; done)))))) | fail
  k_with "subscriptTail Subscript Name Constant Constant ref int" => first | ((k_here; walk_at "shSub"; k_dflt (first | (refine' item_tup0 (by (k_asm; done)) (by (k_mem; done)) (by (exact rfl; done)) (by (decide; done)) (by (decide; done)) ?_ (by (with_unfolding_all rfl; done))) | (refine' item_lst0 (by (k_asm; done)) (by (k_mem; done)) (by (exact rfl; done)) (by (decide; done)) (by (decide; done)) ?_ (by (with_unfolding_all rfl; done)))))) | fail
  k_with "callWith builtin:list.append cons nil" => first | ((refine callWith_method1 ?_)) | fail
  k_with "execs nil" => first | ((with_reducible refine wpAny_execs_nil ?_)) | fail
  k_with "EC" => first | (first | k_fold | k_gentoks | (with_reducible refine wpAny_execs_cons ?_; try dsimp only)) | fail
  k_with "execs cons If nil" => first | (walk_at "EC") | fail
  k_with "execs cons If cons" => first | (walk_at "EC") | fail
  k_with "execs cons Assign cons" => first | (walk_at "EC") | fail
  k_with "execs cons Assign nil" => first | (walk_at "EC") | fail
  k_with "execs cons Return nil" => first | (walk_at "EC") | fail
  k_with "execs cons Return cons" => first | (walk_at "EC") | fail
  k_with "execs cons Expr nil" => first | (walk_at "EC") | fail
  k_with "execs cons Expr cons" => first | (walk_at "EC") | fail
  k_with "exec If Compare cons nil" => first | ((with_reducible refine wpAny_If ?_)) | fail
  k_with "spliced" => first | ((k_here; with_reducible first | refine args_cs ?_ | refine args_cn ?_ | refine args_ci ?_ | refine args_cb ?_)) | fail
  k_with "spliced" => first | ((k_here; (with_reducible show wpAny _ _ (spliced (backTo _ (starEach (Expr.Name _ _ :: _) (envOf _ _ _ _ _)))) _ _ _); k_dflt (refine' args_nm (by (k_asm; done)) (by (exact rfl; done)) ?_ (by rfl) (by rfl) (by decide)))) | fail
  k_with "call ref" => first | ((k_here; (with_reducible show wpAny _ _ (call (Value.ref 117) _) _ _ _); k_dflt (refine' pick_use (by (k_asm; done)) (by (k_asm; done)) (by (k_asm; done)) (by (k_asm; done)) (by (k_asm; done)) (by (k_updF; done)) (by ((intro o9; (try dsimp only); k_updF); done)) (by (k_ne; done)) (by (k_asm; done)) (by (with_reducible assumption; done)) (by (with_reducible assumption; done)) (by (with_reducible assumption; done)) (by (first | rfl | assumption; done)) (by (decide; done)) (by (decide; done)) (by (first | with_reducible assumption | ((simp only [depth_mark, depth_under_make, depth_under_kw, depth_in1, depth_deeper, depth_caller, ktrTop]); walk_at "OM"); done)) (by (first | with_reducible assumption | ((simp only [units_in1, units_deeper, Around.mark_units, units_caller, ktrTop]); walk_at "OM"); done)) ?_); (intro fnd' tk' c' tc' r' tr' nf' vs' ns' nc' h' toks' F' N' hi' hf0' hf1' hr0' hr1' hl'); (try dsimp only at N'))) | fail
  k_with "call ref" => first | (((with_reducible show wpAny _ _ (call (Value.ref 105) _) _ _ _); refine Halt.out ?_)) | fail
  k_with "UnrEndW" => first | ((refine Halt.out ?_)) | fail
  k_with "exec For Tuple Name cons nil" => first | ((k_here; (rename Fr _ _ _ _ => lF'); (with_unfolding_all refine' For_turns lF' ?_; k_whole))) | fail
  k_with "PYITER" => first | ((k_here; (with_reducible show wpAny _ _ (pyIter (Value.ref _)) (fun it s₂ => TurnsAt _ _ _ _ _ _ _ _ _ it s₂) _ _); k_dflt (refine' iter_listTurns (by (rfl; done)) (by (k_asm; done)) (by (k_asm; done)) (by (k_mem; done)) (by (exact rfl; done)) (by (exact rfl; done)) ?_); (intro I' l1; refine Halt.out ?_))) | fail
  k_with "subscriptTail Name Name ref int" => first | ((k_here; walk_at "shSub"; k_dflt (refine' item_lst0 (by (k_asm; done)) (by (k_mem; done)) (by (exact rfl; done)) (by (decide; done)) (by (decide; done)) ?_ (by (with_unfolding_all rfl; done))))) | fail
  k_with "call ref" => first | (((with_reducible show wpAny _ _ (call (Value.ref 124) _) _ _ _); refine Halt.out ?_)) | fail
  k_with "UnrEnd" => first | ((refine Halt.out ?_)) | fail
  k_with "call type:range" => first | ((k_here; (with_reducible show wpAny _ _ (call (Value.type "range") [Value.int _ _]) _ _ _); (refine range1_rows (by k_asm) (by k_asm) ?_); intro h' tk' t' u' v' hr' F' N' hk')) | fail
  k_with "PYITER" => first | ((k_here; (with_reducible show wpAny _ _ (pyIter (Value.ref _)) (fun it s₂ => LoopAtV _ _ _ _ _ _ _ _ _ it s₂) _ _); (refine Halt.out ?_))) | fail
  trivial







set_option maxRecDepth 100000 in
set_option maxHeartbeats 8000000 in
theorem draw_loop {w : World} {loose : List Str} {mean : ExcName → Option Value} {mg mb : Str → Option Value} {L fa cd : Addr} {h₀ : Heap} {m : Str → Option Value} {s : Shared} {Q : Flow → Shared → Prop}
    {feed cells dl : Addr} {c r : Int} {tc tr : Tok} {nf nc nd : Nat} {vs ds : List Value} {ns : List Int} {bs R : List (Addr × Obj)} {dr : List (Int × It)}
    (K0 : Below callerA h₀ [] h₀) (F : Fr h₀ L s.heap m) (X : (Mine.hdE.heap_1_1 w.params).In h₀) (T : Top Mine.hdE.view_1_2 loose mean mg mb h₀)
    (N : News h₀ L s.heap ((feed, feedObj cells c tc r tr nf) :: (cells, listOf vs.toArray nc) :: (dl, listOf ds.toArray nd) :: R)) (hB : Bag bs R)
    (hbf : ∀ p ∈ bs, p.1 ≠ feed) (hbc : ∀ p ∈ bs, p.1 ≠ cells) (hbd : ∀ p ∈ bs, p.1 ≠ dl) (hfc : @Ne Nat feed cells) (hfd : @Ne Nat dl feed) (hcd : @Ne Nat dl cells)
    (hi : IntsAre vs ns) (hlen : vs.length < 100) (hr0 : 0 ≤ r) (hr1 : r < 2147483647) (hdr : DrawnIn R ds dr) (hdo : DrOk dr 10) (hdl : dr.length = 4)
    (mf : m (Str.ofString "feed") = some (.ref feed)) (md : m (Str.ofString "drawn") = some (.ref dl))
    (hret : ∀ ds' nd' dr' R' m' h' tk', Fr h₀ L h' m' → News h₀ L h' ((dl, listOf (ds' : List Value).toArray nd') :: R') → Bag bs R' → DrawnIn R' ds' dr' → DrOk dr' 100 → dr'.length ≤ 18 →
      m' (Str.ofString "drawn") = some (.ref dl) → Q .next { s with heap := h', toks := tk' }) :
    wpAny (model PySem.Challenge.rw_sj0028_01.row.prog w) (lawA L fa cd) (exec (nthS 3 lawB) (lawE L fa cd)) Q (fun _ _ => False) s := by
  w_top off
  unfold lawA lawE
  conv => pattern (nthS 3 lawB); whnf
  conv => pattern (occs := *) lawS <;> (whnf; zeta)
  have Fm := Fr.two F mf md
  have lf : Value.type "list" ≠ Value.type "tuple" := by decide
  have oF : ∀ p ∈ R, p.1 ≠ feed := hB.off N (fun p hp => by (first | walk_at "MEM" | simp [hp])) (o := feedObj cells c tc r tr nf) (by first | walk_at "MEM" | simp) lf hbf
  have oC : ∀ p ∈ R, p.1 ≠ cells := hB.off N (fun p hp => by (first | walk_at "MEM" | simp [hp])) (o := listOf vs.toArray nc) (by first | walk_at "MEM" | simp) lf hbc
  clear F
  revert X
  k_fill
  intro X
  k_steps
  unfold Halt
  rename IsRange _ _ _ _ _ _ _ _ => hr9
  rename (_ : Int) < 11 => hf2
  rename (0 : Int) ≤ _ => hx0
  rename _ < 2147483647 => hx1
  rename List.length _ < 100 => hl9
  rename IntsAre _ _ => hi9
  refine iter_rangeUnr (by rfl) hr9 (small14 (by omega) (by omega)) (rangeSize_nat _ _) (by k_asm) (by k_asm) ?_
  intro I9 hlt9
  have hbI : ∀ p ∈ bs, p.1 ≠ I9 := fun p hp => lt_ne (hlt9 p (by (first | walk_at "MEM" | simp [hB.sub p hp])))
  rename News _ _ _ _ => lN
  have i1 : @Ne Nat I9 feed := Ne.symm (lt_ne (hlt9 _ (List.mem_cons_self)))
  have i2 : @Ne Nat I9 cells := Ne.symm (lt_ne (hlt9 _ (List.mem_cons_of_mem _ List.mem_cons_self)))
  have i3 : @Ne Nat I9 dl := Ne.symm (lt_ne (hlt9 _ (List.mem_cons_of_mem _ (List.mem_cons_of_mem _ List.mem_cons_self))))
  have hdf : @Ne Nat feed dl := Ne.symm hfd
  have hdc : @Ne Nat cells dl := Ne.symm hcd
  clear lN hlt9
  refine range_ind (RJ bs feed cells dl) ?h0 ?turn ?done
  case h0 => exact ⟨_, _, _, _, _, _, _, _, _, _, _, R, rfl, hB, hi9, hl9, by with_reducible assumption, hx1, hdr, hdo, hdl, by with_unfolding_all rfl, by with_unfolding_all rfl⟩
  case done =>
    intro m₁ nx h tk hJ F N
    k_sweep
    refine Cut.out ?_
    intro G9 hG9
    obtain ⟨c', tc', r', tr', nf', vs', ns', nc', ds', nd', dr', R', hnx, hB', hi', hl', h0', h1', hdr', hdo', hdl', f1, f2⟩ := hJ
    subst hnx
    refine hG9 ?_
    clear hG9
    refine hret ds' nd' dr' R' m₁ h tk F (fun p hp => N p (by simp only [List.mem_cons] at hp; rcases hp with hp | hp <;> (first | (subst hp; walk_at "MEM") | walk_at "MEM" | simp [hp]))) hB' hdr' ⟨hdo'.1, fun p hp => ⟨?_, (hdo'.2 p hp).2⟩⟩ (by omega) f2
    have := (hdo'.2 p hp).1
    omega
  case turn =>
    intro i t m₁ nx h tk hi8 hJ F N
    k_sweep
    refine Cut.out ?_
    intro G9 hG9
    obtain ⟨c', tc', r', tr', nf', vs', ns', nc', ds', nd', dr', R', hnx, hB', hi', hl', h0', h1', hdr', hdo', hdl', f1, f2⟩ := hJ
    subst hnx
    refine hG9 ?_
    clear hG9
    have f1' : (fun y => if y = Str.ofString "turn" then some (Value.int (0 + (i : Int)) t) else m₁ y) (Str.ofString "feed") = some (.ref feed) := by dsimp only; rw [if_neg (by decide)]; exact f1
    have f2' : (fun y => if y = Str.ofString "turn" then some (Value.int (0 + (i : Int)) t) else m₁ y) (Str.ofString "drawn") = some (.ref dl) := by dsimp only; rw [if_neg (by decide)]; exact f2
    have Fm := Fr.three F f1' f2' (x3 := Str.ofString "turn") (v3 := .int (0 + (i : Int)) t) (if_pos rfl)
    clear F hi9 hl9 hx0 hx1 hi hlen hr0 hr1
    have oF' : ∀ p ∈ R', p.1 ≠ feed := hB'.off N (fun p hp => by (first | walk_at "MEM" | simp [hp])) (o := feedObj cells c' tc' r' tr' nf') (by first | walk_at "MEM" | simp) lf hbf
    have oC' : ∀ p ∈ R', p.1 ≠ cells := hB'.off N (fun p hp => by (first | walk_at "MEM" | simp [hp])) (o := listOf vs'.toArray nc') (by first | walk_at "MEM" | simp) lf hbc
    have hsz9 : ds'.length ≤ 100 := by rw [hdr'.len]; omega
    k_steps
    all_goals (unfold Halt)
    rename List.length _ < 100 => hl8
    rename (0 : Int) ≤ _ => hx0
    rename _ < 2147483647 => hx1
    rename IntsAre _ _ => hi9
    refine item_turn (dl := dl) (bs := bs) (R := R') (by k_asm) (by k_asm) X (by k_asm) T (by rfl) (by k_mem) (by k_mem) (List.mem_cons_self) (by k_mem) (by walk_at "TAIL") hB' hbf hbc hfc hfd hcd rfl hi9 hl8 (by with_reducible assumption) hx1 (by (simp only [depth_deeper, depth_caller]; decide)) (by (simp only [units_deeper, units_caller]; decide)) ?_
    intro v9 it9 R9 c9 tc9 r9 tr9 nf9 vs9 ns9 nc9 h9 tk9 F9 N9 hB9 hS9 hi7 hit9 hok9 hat9 h09 h19 hl7
    have oF9 : ∀ p ∈ R9, p.1 ≠ feed := hB9.off N9 (fun p hp => by (first | walk_at "MEM" | simp [hp])) (o := feedObj cells c9 tc9 r9 tr9 nf9) (by first | walk_at "MEM" | simp) lf hbf
    have oC9 : ∀ p ∈ R9, p.1 ≠ cells := hB9.off N9 (fun p hp => by (first | walk_at "MEM" | simp [hp])) (o := listOf vs9.toArray nc9) (by first | walk_at "MEM" | simp) lf hbc
    have oD9 : ∀ p ∈ R9, p.1 ≠ dl := hB9.off N9 (fun p hp => by (first | walk_at "MEM" | simp [hp])) (o := listOf ds'.toArray nd') (by first | walk_at "MEM" | simp) lf hbd
    rename _ < (3 : Int) => hl3
    k_steps
    all_goals (unfold Halt)
    refine rj_end (by k_asm) (by k_asm) (by k_mem) (by k_mem) (by k_mem) (by k_mem) (by k_mem) (by walk_at "TAIL") rfl hB9 hbI hi7 hl7 h09 h19 ((hdr'.monoT hS9)) hdo' hdl' hit9 hok9 hat9 (by with_reducible assumption) hl3 (by with_unfolding_all rfl) (by with_unfolding_all rfl)
end
section
theorem lines_L10a : True := by
  k_with_none
  k_with "shSub" => first | (((with_reducible show wpAny _ _ (subscriptTail _ _ (Value.ref _) (Value.int _ _)) _ _ _))) | fail
  k_with "DIG" => first | (repeat (first | (with_reducible exact And.left) | (with_reducible exact id) | (with_reducible refine digR ?_))) | fail
  k_with "LT9" => first | (first | with_reducible assumption | (refine' ltLt ?h ?d; walk_at "HD")) | fail
  k_with "ALLLT" => first | (first | with_reducible assumption | (refine' allDig ?h ?d; walk_at "HD")) | fail
  k_with "K_NE" => first | ((refine neN ?_; first | with_reducible assumption | (refine Ne.symm ?_; with_reducible assumption) | (refine' neLt ?h ?d; walk_at "HD") | (refine' neGt ?h ?d; walk_at "HD") | (refine' neNe ?h ?d; walk_at "HD") | (refine' neEn ?h ?d; walk_at "HD") | (refine Nat.ne_of_lt ?_; with_reducible assumption) | (refine Nat.ne_of_gt ?_; with_reducible assumption) | ((try dsimp only); omega))) | fail
  k_with "MEM" => first | (first | with_reducible assumption | with_reducible exact List.mem_cons_self | (with_reducible refine List.mem_cons_of_mem _ ?_; walk_at "MEM")) | fail
  k_with "OM" => first | (first | exact dLe (by with_reducible assumption) rfl | exact dL0 (by with_reducible assumption) rfl | exact dLt (by with_reducible assumption) rfl | omega) | fail
  k_with "K_ALL" => first | (first | with_reducible assumption | (refine allLt_ne ?_; walk_at "ALLLT") | (refine off1_ne ?_; walk_at "ALLLT")) | fail
  trivial
theorem ItIn.monoH {R R' : List (Addr × Obj)} {v : Value} {it : It} (h : ItIn R v it) (hs : ∀ p ∈ R, p ∈ R') : ItIn R' v it := h.mono hs
noncomputable def bodyOf : Stmt → List Stmt
  | .For _ _ b _ _ => b
  | _ => []
noncomputable def mineOf (dr : List (Int × It)) (l : Int) (n : Str) : List It := (dr.filter fun p => decide (p.1 = l) && decide (p.2.name = some n)).map (·.2)
theorem mineOf_yes {dr : List (Int × It)} {l l1 : Int} {n : Str} {it : It} {i : Nat} (h : dr[i]? = some (l1, it)) (hl : l1 = l) (hn : it.name = some n) : mineOf (dr.take (i + 1)) l n = mineOf (dr.take i) l n ++ [it] := by
  simp [mineOf, List.take_add_one, h, List.filter_append, hl, hn]
theorem mineOf_no {dr : List (Int × It)} {l l1 : Int} {n : Str} {it : It} {i : Nat} (h : dr[i]? = some (l1, it)) (hno : ¬ (l1 = l ∧ it.name = some n)) : mineOf (dr.take (i + 1)) l n = mineOf (dr.take i) l n := by
  have : (decide (l1 = l) && decide (it.name = some n)) = false := by
    rcases Decidable.em (l1 = l) with a | a
    · have : ¬ it.name = some n := fun b => hno ⟨a, b⟩
      (first | walk_at "MEM" | simp [this])
    · simp [a]
  simp [mineOf, List.take_add_one, h, List.filter_append, this]
theorem spot_neg {it : It} (h : ¬ 0 ≤ it.spot) : it.name = none := by
  cases it with
  | ev g i n => exact absurd (show (0 : Int) ≤ 2 by decide) h
  | port i d n => exact absurd (show (0 : Int) ≤ 5 by decide) h
  | net i n => exact absurd (show (0 : Int) ≤ 6 by decide) h
  | var i n => exact absurd (show (0 : Int) ≤ 5 by decide) h
  | param i n => exact absurd (show (0 : Int) ≤ 5 by decide) h
  | rout i k n ds => exact absurd (show (0 : Int) ≤ 6 by decide) h
  | inst i g => exact absurd (show (0 : Int) ≤ 4 by decide) h
  | gate i g => exact absurd (show (0 : Int) ≤ 5 by decide) h
  | cas i => rfl
theorem spot_lt (it : It) : it.spot < 100 := by
  cases it <;> simp [It.spot]
theorem ItIn.atSpot {R : List (Addr × Obj)} {v : Value} {it : It} (h : ItIn R v it) (h0 : 0 ≤ it.spot) : ∃ a xs u, v = .ref a ∧ (a, tup xs) ∈ R ∧ xs[it.spot.toNat]? = some u ∧ ((∃ n t, u = .str n t ∧ it.name = some n) ∨ (u = .none ∧ it.name = none)) := by
  cases h with
  | port h => exact ⟨_, _, _, rfl, h, rfl, .inl ⟨_, _, rfl, rfl⟩⟩
  | net h => exact ⟨_, _, _, rfl, h, rfl, .inl ⟨_, _, rfl, rfl⟩⟩
  | var h => exact ⟨_, _, _, rfl, h, rfl, .inl ⟨_, _, rfl, rfl⟩⟩
  | event h => exact ⟨_, _, _, rfl, h, rfl, .inl ⟨_, _, rfl, rfl⟩⟩
  | genvar h => exact ⟨_, _, _, rfl, h, rfl, .inl ⟨_, _, rfl, rfl⟩⟩
  | param h => exact ⟨_, _, _, rfl, h, rfl, .inl ⟨_, _, rfl, rfl⟩⟩
  | rout h => exact ⟨_, _, _, rfl, h, rfl, .inl ⟨_, _, rfl, rfl⟩⟩
  | @inst _ _ g _ _ _ _ _ _ _ h => cases g with
    | none => exact ⟨_, _, _, rfl, h, rfl, .inr ⟨rfl, rfl⟩⟩
    | some n => exact ⟨_, _, _, rfl, h, rfl, .inl ⟨_, _, rfl, rfl⟩⟩
  | @gate _ _ g _ _ _ _ _ _ _ _ h => cases g with
    | none => exact ⟨_, _, _, rfl, h, rfl, .inr ⟨rfl, rfl⟩⟩
    | some n => exact ⟨_, _, _, rfl, h, rfl, .inl ⟨_, _, rfl, rfl⟩⟩
  | cas h => exact absurd h0 (by simp [It.spot])
def MJ (R : List (Addr × Obj)) (mn : Addr) (dr : List (Int × It)) (l : Int) (n : Str) (m : Str → Option Value) (i : Nat) (m₁ : Str → Option Value) (nx : List (Addr × Obj)) : Prop :=
  ∃ ms k, nx = (mn, listOf (ms : List Value).toArray k) :: R ∧ ItsIn R ms (mineOf (dr.take i) l n) ∧ ms.length ≤ i ∧ ∀ x, x ≠ Str.ofString "spot" → x ≠ Str.ofString "item" → m₁ x = m x
theorem mj_end {g h' : Heap} {L I mn dl : Addr} {m m' : Str → Option Value} {R all : List (Addr × Obj)} {o : Obj} {s₁ : Shared} {tk k i nd : Nat} {l : Int} {n : Str} {ms ds : List Value} {dr : List (Int × It)}
    (F : Fr g L h' m') (N : News g L h' all) (mI : (I, o) ∈ all) (mm : (mn, listOf ms.toArray k) ∈ all) (sR : ∀ p ∈ R, p ∈ all) (hI : @Ne Nat mn I) (oI : ∀ p ∈ R, p.1 ≠ I) (md : (dl, listOf ds.toArray nd) ∈ R)
    (hm : ItsIn R ms (mineOf (dr.take (i + 1)) l n)) (hl : ms.length ≤ i + 1) (hk : ∀ x, x ≠ Str.ofString "spot" → x ≠ Str.ofString "item" → m' x = m x) :
    UnrEndW g L s₁ [(I, o)] (fun m' n' => SubL [(dl, listOf ds.toArray nd)] n' ∧ MJ R mn dr l n m (i + 1) m' n') { s₁ with heap := h', toks := tk } := by
  refine ⟨h', tk, m', (mn, listOf ms.toArray k) :: R, rfl, F, ?_, ?_, ⟨List.mem_cons_of_mem _ md, trivial⟩, ms, k, rfl, hm, hl, hk⟩
  · intro p hp
    refine N p ?_
    simp only [List.cons_append, List.nil_append, List.mem_cons] at hp
    rcases hp with rfl | rfl | hp
    · exact mI
    · exact mm
    · exact sR p hp
  · intro p hp q hq
    rw [List.mem_singleton.mp hq]
    rcases List.mem_cons.mp hp with rfl | hp
    · exact hI
    · exact oI p hp
theorem mj_yes {g h' : Heap} {L I mn dl a : Addr} {m m' : Str → Option Value} {R all : List (Addr × Obj)} {o : Obj} {s₁ : Shared} {tk k i nd : Nat} {l l1 : Int} {n n3 : Str} {ms ds : List Value} {dr : List (Int × It)} {it : It}
    (F : Fr g L h' m') (N : News g L h' all) (mI : (I, o) ∈ all) (mm : (mn, ({ cls := .type "list", data := .seq (ms.toArray.push (.ref a)) k } : Obj)) ∈ all) (sR : ∀ p ∈ R, p ∈ all) (hI : @Ne Nat mn I) (oI : ∀ p ∈ R, p.1 ≠ I) (md : (dl, listOf ds.toArray nd) ∈ R)
    (hm : ItsIn R ms (mineOf (dr.take i) l n)) (hl : ms.length ≤ i) (hk : ∀ x, x ≠ Str.ofString "spot" → x ≠ Str.ofString "item" → m' x = m x) (hit : ItIn R (.ref a) it) (hdi : dr[i]? = some (l1, it)) (hn3 : it.name = some n3) (e1 : l1 = l) (e2 : n3 = n) :
    UnrEndW g L s₁ [(I, o)] (fun m' n' => SubL [(dl, listOf ds.toArray nd)] n' ∧ MJ R mn dr l n m (i + 1) m' n') { s₁ with heap := h', toks := tk } := by
  rw [List.push_toArray] at mm
  exact mj_end F N mI mm sR hI oI md (by rw [mineOf_yes hdi e1 (hn3.trans (congrArg some e2))]; exact hm.snoc hit) (by simp; omega) hk
theorem mj_no {g h' : Heap} {L I mn dl : Addr} {m m' : Str → Option Value} {R all : List (Addr × Obj)} {o : Obj} {s₁ : Shared} {tk k i nd : Nat} {l l1 : Int} {n : Str} {ms ds : List Value} {dr : List (Int × It)} {it : It}
    (F : Fr g L h' m') (N : News g L h' all) (mI : (I, o) ∈ all) (mm : (mn, listOf ms.toArray k) ∈ all) (sR : ∀ p ∈ R, p ∈ all) (hI : @Ne Nat mn I) (oI : ∀ p ∈ R, p.1 ≠ I) (md : (dl, listOf ds.toArray nd) ∈ R)
    (hm : ItsIn R ms (mineOf (dr.take i) l n)) (hl : ms.length ≤ i) (hk : ∀ x, x ≠ Str.ofString "spot" → x ≠ Str.ofString "item" → m' x = m x) (hdi : dr[i]? = some (l1, it)) (hno : ¬ (l1 = l ∧ it.name = some n)) :
    UnrEndW g L s₁ [(I, o)] (fun m' n' => SubL [(dl, listOf ds.toArray nd)] n' ∧ MJ R mn dr l n m (i + 1) m' n') { s₁ with heap := h', toks := tk } :=
  mj_end F N mI mm sR hI oI md (by rw [mineOf_no hdi hno]; exact hm) (by omega) hk
theorem keep5 {m m₁ : Str → Option Value} {a b x1 x2 x3 : Str} {va vb v1 v2 v3 : Value} (h : ∀ x, x ≠ b → x ≠ a → m₁ x = m x) (g1 : m₁ x1 = some v1) (g2 : m₁ x2 = some v2) (g3 : m₁ x3 = some v3) :
    ∀ x, x ≠ b → x ≠ a → (if x = a then some va else if x = b then some vb else if x = x1 then some v1 else if x = x2 then some v2 else if x = x3 then some v3 else m₁ x) = m x := by
  intro x hb ha
  rw [if_neg ha, if_neg hb]
  split
  · next e => rw [← h x hb ha, e, g1]
  · split
    · next e => rw [← h x hb ha, e, g2]
    · split
      · next e => rw [← h x hb ha, e, g3]
      · exact h x hb ha
end
section
theorem lines_L10b : True := by
  k_with_none
  k_with "shSub" => first | (((with_reducible show wpAny _ _ (subscriptTail _ _ (Value.ref _) (Value.int _ _)) _ _ _))) | fail
  k_with "DIG" => first | (repeat (first | (with_reducible exact And.left) | (with_reducible exact id) | (with_reducible refine digR ?_))) | fail
  k_with "LT9" => first | (first | with_reducible assumption | (refine' ltLt ?h ?d; walk_at "HD")) | fail
  k_with "ALLLT" => first | (first | with_reducible assumption | (refine' allDig ?h ?d; walk_at "HD")) | fail
  k_with "K_NE" => first | ((refine neN ?_; first | with_reducible assumption | (refine Ne.symm ?_; with_reducible assumption) | (refine' neLt ?h ?d; walk_at "HD") | (refine' neGt ?h ?d; walk_at "HD") | (refine' neNe ?h ?d; walk_at "HD") | (refine' neEn ?h ?d; walk_at "HD") | (refine Nat.ne_of_lt ?_; with_reducible assumption) | (refine Nat.ne_of_gt ?_; with_reducible assumption) | ((try dsimp only); omega))) | fail
  k_with "MEM" => first | (first | with_reducible assumption | with_reducible exact List.mem_cons_self | (with_reducible refine List.mem_cons_of_mem _ ?_; walk_at "MEM")) | fail
  k_with "OM" => first | (first | exact dLe (by with_reducible assumption) rfl | exact dL0 (by with_reducible assumption) rfl | exact dLt (by with_reducible assumption) rfl | omega) | fail
  k_with "K_ALL" => first | (first | with_reducible assumption | (refine allLt_ne ?_; walk_at "ALLLT") | (refine off1_ne ?_; walk_at "ALLLT")) | fail
  k_with "TAIL" => first | ((intro p9 hp9; repeat (first | exact hp9 | refine List.mem_cons_of_mem _ ?_))) | fail
  k_with "K_ROOM" => first | (((simp only [depth_mark, depth_under_make, depth_under_kw, depth_in1, depth_deeper, depth_caller, ktrTop, recursionLimit]); walk_at "OM")) | fail
  k_with "K_UNITS" => first | ((have hcL := cLine_is; (simp only [units_in1, units_deeper, Around.mark_units, units_caller, ktrTop]); walk_at "OM")) | fail
  k_with "K_MEM" => first | (((fail_if_success refine' List.Mem.tail _ ?_); (show (_ : Addr × Obj) ∈ (_ : List (Addr × Obj))); with_reducible assumption)) | fail
  k_with "compareOp In str ref" => first | ((k_here; k_dflt (first | (refine' kd_in_some (by (k_asm; done)) (by (k_mem; done)) (by (with_reducible assumption; done)) (by (with_reducible assumption; done)) (by (with_reducible assumption; done)) ?_) | (refine' kd_in_none (by (k_asm; done)) (by (k_mem; done)) (by (with_reducible assumption; done)) (by (with_reducible assumption; done)) (by (with_reducible assumption; done)) ?_)))) | fail
  k_with "compareOp NotIn str ref" => first | ((k_here; k_dflt (first | (refine' kd_nin_some (by (k_asm; done)) (by (k_mem; done)) (by (with_reducible assumption; done)) (by (with_reducible assumption; done)) (by (with_reducible assumption; done)) ?_) | (refine' kd_nin_none (by (k_asm; done)) (by (k_mem; done)) (by (with_reducible assumption; done)) (by (with_reducible assumption; done)) (by (with_reducible assumption; done)) ?_) | (refine' nin2_f (by (k_asm; done)) (by (k_mem; done)) (by (with_reducible assumption; done)) ?_) | (refine' nin2_t (by (k_asm; done)) (by (k_mem; done)) (by (with_reducible assumption; done)) ?_)))) | fail
  k_with "subscriptTail" => first | ((k_here; (with_reducible show wpAny _ _ (subscriptTail _ _ (Value.ref _) (Value.str _ _)) _ _ _); k_dflt (refine' kd_item (by (k_asm; done)) (by (k_mem; done)) (by (with_reducible assumption; done)) (by (with_reducible assumption; done)) ?_ (by (with_unfolding_all rfl; done)) (by (intro _; with_unfolding_all rfl; done))))) | fail
  k_with "setItem ref str" => first | ((k_here; k_dflt (refine' kd_set (by (k_asm; done)) (by (k_asm; done)) (by (k_updF; done)) (by (with_reducible assumption; done)) (by (with_reducible assumption; done)) ?_); (intro h' o' F' N' hd'); (try dsimp only at N'))) | fail
  k_with "getItem ref" => first | ((k_here; (with_reducible show wpAny _ _ (getItem (Value.ref _) (Value.str _ _)) _ _ _); k_dflt (refine' kd_get (by (k_asm; done)) (by (k_mem; done)) (by (with_reducible assumption; done)) (by (with_reducible assumption; done)) ?_))) | fail
  k_with "compareOp NotEq str str" => first | ((k_here; first | (refine ne_str_t (by with_reducible assumption) ?_) | (refine ne_str_f (by with_reducible assumption) ?_))) | fail
  k_with "compareOp Eq str str" => first | ((k_here; first | (refine eq_str_f (by with_reducible assumption) ?_) | (refine eq_str_t (by with_reducible assumption) ?_))) | fail
  k_with "exec If Compare cons cons" => first | ((k_here; (with_reducible show wpAny _ _ (exec (Stmt.If (Expr.Compare (Expr.Name _ _) [CmpOp.Eq] [Expr.Constant (Const.str _) _ _] _) _ _ _) _) _ _ _); k_dflt (refine' if_str_no (by (k_asm; done)) (by (exact rfl; done)) (by (decide +kernel; done)) ?_))) | fail
  k_with "exec If Compare cons cons" => first | ((k_here; (with_reducible show wpAny _ _ (exec (Stmt.If (Expr.Compare (Expr.Name _ _) [CmpOp.Eq] [Expr.Constant (Const.str _) _ _] _) _ _ _) _) _ _ _); k_dflt (refine' if_str (by (k_asm; done)) (by (exact rfl; done)) (by (exact rfl; done)) ?_))) | fail
  k_with "subscriptTail Name Constant ref int" => first | ((k_here; walk_at "shSub"; k_dflt (first | (refine' item_tup0 (by (k_asm; done)) (by (k_mem; done)) (by (exact rfl; done)) (by (decide; done)) (by (decide; done)) ?_ (by (with_unfolding_all rfl; done))) | (refine' item_lst0 (by (k_asm; done)) (by (k_mem; done)) (by (exact rfl; done)) (by (decide; done)) (by (decide; done)) ?_ (by (with_unfolding_all rfl; done)))))) | fail
  k_with "subscriptTail Subscript Name Constant Constant ref int" => first | ((k_here; walk_at "shSub"; k_dflt (first | (refine' item_tup0 (by (k_asm; done)) (by (k_mem; done)) (by (exact rfl; done)) (by (decide; done)) (by (decide; done)) ?_ (by (with_unfolding_all rfl; done))) | (refine' item_lst0 (by (k_asm; done)) (by (k_mem; done)) (by (exact rfl; done)) (by (decide; done)) (by (decide; done)) ?_ (by (with_unfolding_all rfl; done)))))) | fail
  k_with "callWith builtin:list.append cons nil" => first | ((refine callWith_method1 ?_)) | fail
  k_with "execs nil" => first | ((with_reducible refine wpAny_execs_nil ?_)) | fail
  k_with "EC" => first | (first | k_fold | k_gentoks | (with_reducible refine wpAny_execs_cons ?_; try dsimp only)) | fail
  k_with "execs cons If nil" => first | (walk_at "EC") | fail
  k_with "execs cons If cons" => first | (walk_at "EC") | fail
  k_with "execs cons Assign cons" => first | (walk_at "EC") | fail
  k_with "execs cons Assign nil" => first | (walk_at "EC") | fail
  k_with "execs cons Return nil" => first | (walk_at "EC") | fail
  k_with "execs cons Return cons" => first | (walk_at "EC") | fail
  k_with "execs cons Expr nil" => first | (walk_at "EC") | fail
  k_with "execs cons Expr cons" => first | (walk_at "EC") | fail
  k_with "exec If Compare cons nil" => first | ((with_reducible refine wpAny_If ?_)) | fail
  k_with "spliced" => first | ((k_here; with_reducible first | refine args_cs ?_ | refine args_cn ?_ | refine args_ci ?_ | refine args_cb ?_)) | fail
  k_with "spliced" => first | ((k_here; (with_reducible show wpAny _ _ (spliced (backTo _ (starEach (Expr.Name _ _ :: _) (envOf _ _ _ _ _)))) _ _ _); k_dflt (refine' args_nm (by (k_asm; done)) (by (exact rfl; done)) ?_ (by rfl) (by rfl) (by decide)))) | fail
  k_with "call ref" => first | (((with_reducible show wpAny _ _ (call (Value.ref 105) _) _ _ _); refine Halt.out ?_)) | fail
  k_with "UnrEndW" => first | ((refine Halt.out ?_)) | fail
  k_with "exec For Tuple Name cons nil" => first | ((k_here; (rename Fr _ _ _ _ => lF'); (with_unfolding_all refine' For_turns lF' ?_; k_whole))) | fail
  k_with "PYITER" => first | ((k_here; (with_reducible show wpAny _ _ (pyIter (Value.ref _)) (fun it s₂ => TurnsAt _ _ _ _ _ _ _ _ _ it s₂) _ _); k_dflt (refine' iter_listTurns (by (rfl; done)) (by (k_asm; done)) (by (k_asm; done)) (by (k_mem; done)) (by (exact rfl; done)) (by (exact rfl; done)) ?_); (intro I' l1; refine Halt.out ?_))) | fail
  k_with "subscriptTail Name Name ref int" => first | ((k_here; walk_at "shSub"; k_dflt (refine' item_lst0 (by (k_asm; done)) (by (k_mem; done)) (by (exact rfl; done)) (by (decide; done)) (by (decide; done)) ?_ (by (with_unfolding_all rfl; done))))) | fail
  k_with "call ref" => first | (((with_reducible show wpAny _ _ (call (Value.ref 124) _) _ _ _); refine Halt.out ?_)) | fail
  k_with "UnrEnd" => first | ((refine Halt.out ?_)) | fail
  k_with "call type:range" => first | ((k_here; (with_reducible show wpAny _ _ (call (Value.type "range") [Value.int _ _]) _ _ _); (refine range1_rows (by k_asm) (by k_asm) ?_); intro h' tk' t' u' v' hr' F' N' hk')) | fail
  k_with "PYITER" => first | ((k_here; (with_reducible show wpAny _ _ (pyIter (Value.ref _)) (fun it s₂ => LoopAtV _ _ _ _ _ _ _ _ _ it s₂) _ _); (refine Halt.out ?_))) | fail
  k_with "call ref" => first | ((k_here; (with_reducible show wpAny _ _ (call (Value.ref 131) _) _ _ _); k_dflt (refine' spot_ok (by (k_asm; done)) (by (k_asm; done)) (by (k_asm; done)) (by (k_asm; done)) (by (k_asm; done)) (by (rfl; done)) (by (exact ItIn.monoH (by with_reducible assumption) (by walk_at "TAIL"); done)) (by (((simp only [depth_deeper, depth_caller]); decide); done)) (by (((simp only [units_deeper, units_caller]); decide); done)) ?_); (intro t' h' tk' F' N'))) | fail
  k_with "subscriptTail Name Call ref int" => first | ((k_here; walk_at "shSub"; k_dflt (refine' item_tup0 (by (k_asm; done)) (by (k_mem; done)) (by (with_reducible assumption; done)) (by (with_reducible assumption; done)) (by (exact spot_lt _; done)) ?_ (by (with_unfolding_all rfl; done))))) | fail
  trivial







set_option maxRecDepth 100000 in
set_option maxHeartbeats 8000000 in
theorem mine_loop {w : World} {loose : List Str} {mean : ExcName → Option Value} {mg mb : Str → Option Value} {L fa cd : Addr} {h₀ : Heap} {m : Str → Option Value} {s : Shared} {Q : Flow → Shared → Prop}
    {mn dl : Addr} {l : Int} {tl tn : Tok} {n : Str} {k nd : Nat} {oc : Obj} {ds : List Value} {R : List (Addr × Obj)} {dr : List (Int × It)}
    (K0 : Below callerA h₀ [] h₀) (F : Fr h₀ L s.heap m) (X : (Mine.hdE.heap_1_1 w.params).In h₀) (T : Top Mine.hdE.view_1_2 loose mean mg mb h₀)
    (N : News h₀ L s.heap ((mn, listOf ([] : List Value).toArray k) :: R)) (hoff : ∀ p ∈ R, p.1 ≠ mn) (md : (dl, listOf ds.toArray nd) ∈ R) (mc : (L + 1 + 1, oc) ∈ R) (hc : oc.data = .cell (some (.str n tn)))
    (hdr : DrawnIn R ds dr) (hlen : dr.length ≤ 20)
    (f1 : m (Str.ofString "drawn") = some (.ref dl)) (f2 : m (Str.ofString "level") = some (.int l tl)) (f3 : m (Str.ofString "mine") = some (.ref mn))
    (hret : ∀ ms k' m' h' tk', Fr h₀ L h' m' → News h₀ L h' ((mn, listOf (ms : List Value).toArray k') :: R) → ItsIn R ms (mineOf dr l n) → ms.length ≤ 20 → (∀ x, x ≠ Str.ofString "spot" → x ≠ Str.ofString "item" → m' x = m x) → Q .next { s with heap := h', toks := tk' }) :
    wpAny (model PySem.Challenge.rw_sj0028_01.row.prog w) (lawA L fa cd) (exec (nthS 1 (bodyOf (nthS 0 (bodyOf (nthS 11 lawB))))) (lawE L fa cd)) Q (fun _ _ => False) s := by
  w_top off
  unfold lawA lawE
  conv => pattern (nthS 1 (bodyOf (nthS 0 (bodyOf (nthS 11 lawB))))); whnf
  conv => pattern (occs := *) lawS <;> (whnf; zeta)
  have Fm := Fr.three F f1 f2 f3
  clear F
  revert X
  k_fill
  intro X
  k_steps
  unfold Halt
  rename ∀ p ∈ _, _ => hlt9
  rename Addr => I9
  have hbI : ∀ p ∈ R, p.1 ≠ I9 := fun p hp => lt_ne (hlt9 p (by (first | walk_at "MEM" | simp [hp])))
  have hmI : @Ne Nat mn I9 := lt_ne (hlt9 _ (List.mem_cons_self))
  rename News _ _ _ _ => lN
  clear lN hlt9
  refine items_ind (MJ R mn dr l n m) ?h0 ?turn ?done
  case h0 => exact ⟨[], k, rfl, .nil, Nat.le_refl _, fun x h1 h2 => by dsimp only; split; · next e => rw [e, f1]
                                                                       · split; · next e => rw [e, f2]
                                                                         · split; · next e => rw [e, f3]
                                                                           · rfl⟩
  case done =>
    intro m₁ nx h tk hJ F N
    k_sweep
    refine Cut.out ?_
    intro G9 hG9
    obtain ⟨ms, k', hnx, hms, hml, hk⟩ := hJ
    subst hnx
    refine hG9 ?_
    clear hG9
    rw [List.take_of_length_le (Nat.le_of_eq hdr.len.symm)] at hms
    exact hret ms k' m₁ h tk F N hms (by rw [hdr.len] at hml; omega) hk
  case turn =>
    intro i v m₁ nx h tk o hv hJ hcl F N
    k_sweep
    refine Cut.out ?_
    intro G9 hG9
    obtain ⟨ms, k', hnx, hms, hml, hkeep⟩ := hJ
    subst hnx
    refine hG9 ?_
    clear hG9
    have g1 := (hkeep _ (by decide) (by decide)).trans f1
    have g2 := (hkeep _ (by decide) (by decide)).trans f2
    have g3 := (hkeep _ (by decide) (by decide)).trans f3
    have Fm := Fr.three F g1 g2 g3
    clear F
    k_sweep
    refine Cut.out ?_
    intro G9 hG9
    obtain ⟨a, l1, t, u, it, rfl, hdi, hma, hit⟩ := hdr.get hv
    refine hG9 ?_
    clear hG9
    obtain ⟨a2, hxu⟩ : ∃ a2, u = .ref a2 := by obtain ⟨a2, _, _, e, _⟩ := hit.head; exact ⟨a2, e⟩
    subst hxu
    have hlt9 : i < dr.length := (List.getElem?_eq_some_iff.mp hdi).1
    have hml9 : ms.length ≤ 100 := by omega
    by_cases h0 : 0 ≤ it.spot
    · k_sweep
      refine Cut.out ?_
      intro G9 hG9
      obtain ⟨a3, xs, u3, e3, hm3, hx3, hu3⟩ := hit.atSpot h0
      refine hG9 ?_
      clear hG9
      cases e3
      rcases hu3 with ⟨n3, t3, rfl, hn3⟩ | ⟨rfl, hn3⟩
      · k_steps
        all_goals (unfold Halt)
        all_goals first
          | exact mj_yes (by k_asm) (by k_asm) (by k_mem) (by k_mem) (by walk_at "TAIL") hmI hbI md hms hml (keep5 hkeep g1 g2 g3) hit hdi hn3 (by first | rfl | assumption) (by first | rfl | assumption | exact eq_of_beq (by assumption))
          | exact mj_no (by k_asm) (by k_asm) (by k_mem) (by k_mem) (by walk_at "TAIL") hmI hbI md hms hml (keep5 hkeep g1 g2 g3) hdi (fun hh => by obtain ⟨q1, q2⟩ := hh; rw [hn3] at q2; cases q2; first | exact absurd q1 (by assumption) | exact absurd rfl (by assumption) | (rename (_ == _) = false => hb; simp at hb))
      · k_steps
        all_goals (unfold Halt)
        all_goals exact mj_no (by k_asm) (by k_asm) (by k_mem) (by k_mem) (by walk_at "TAIL") hmI hbI md hms hml (keep5 hkeep g1 g2 g3) hdi (fun hh => by obtain ⟨q1, q2⟩ := hh; rw [hn3] at q2; cases q2)
    · have hn3 := spot_neg h0
      k_steps
      all_goals (unfold Halt)
      all_goals exact mj_no (by k_asm) (by k_asm) (by k_mem) (by k_mem) (by walk_at "TAIL") hmI hbI md hms hml (keep5 hkeep g1 g2 g3) hdi (fun hh => by obtain ⟨q1, q2⟩ := hh; rw [hn3] at q2; cases q2)
end
section
/-- the rows that are due: (mark, kind, name) -/
inductive DueIn (R : List (Addr × Obj)) : List Value → List (Int × Str × Str) → Prop
  | nil : DueIn R [] []
  | cons {a : Addr} {i : Int} {k n : Str} {t1 t2 t3 : Tok} {vs : List Value} {due : List (Int × Str × Str)} : (a, tup [.int i t1, .str k t2, .str n t3]) ∈ R → DueIn R vs due → DueIn R (.ref a :: vs) ((i, k, n) :: due)
section
variable {R R' : List (Addr × Obj)}
theorem DueIn.monoT (hs : SubT R R') {vs : List Value} {due : List (Int × Str × Str)} (h : DueIn R vs due) : DueIn R' vs due := by
  induction h with
  | nil => exact .nil
  | cons h _ ih => exact .cons (hs _ h tupT) ih
theorem DueIn.snoc {a : Addr} {i : Int} {k n : Str} {t1 t2 t3 : Tok} {vs : List Value} {due : List (Int × Str × Str)} (h : DueIn R vs due) (hm : (a, tup [.int i t1, .str k t2, .str n t3]) ∈ R) : DueIn R (vs ++ [.ref a]) (due ++ [(i, k, n)]) := by
  induction h with
  | nil => exact .cons hm .nil
  | cons h _ ih => exact .cons h ih
theorem DueIn.len {vs : List Value} {due : List (Int × Str × Str)} (h : DueIn R vs due) : vs.length = due.length := by
  induction h with
  | nil => rfl
  | cons _ _ ih => simp [ih]
theorem TwoIn.get {vs : List Value} {rows : List (Str × Int)} (h : TwoIn R vs rows) : ∀ {i : Nat} {v : Value}, vs[i]? = some v → ∃ a k j t1 t2, v = .ref a ∧ rows[i]? = some (k, j) ∧ (a, tup [.str k t1, .int j t2]) ∈ R := by
  induction h with
  | nil => intro i v e; simp at e
  | cons h _ ih =>
    intro i v e
    cases i with
    | zero => simp at e; subst e; exact ⟨_, _, _, _, _, rfl, rfl, h⟩
    | succ i => simp at e; simpa using ih e
end
noncomputable def rowsDue (rows : List (Str × Int)) (n : Str) : List (Int × Str × Str) := rows.map fun kr => (kr.2, kr.1, n)
def TJ (R : List (Addr × Obj)) (du : Addr) (due0 : List (Int × Str × Str)) (rows : List (Str × Int)) (n : Str) (m : Str → Option Value) (i : Nat) (m₁ : Str → Option Value) (nx : List (Addr × Obj)) : Prop :=
  ∃ dus k R', nx = (du, listOf (dus : List Value).toArray k) :: R' ∧ Bag R R' ∧ DueIn R' dus (due0 ++ rowsDue (rows.take i) n) ∧ ∀ x, x ≠ Str.ofString "kind" → x ≠ Str.ofString "mark" → m₁ x = m x
theorem tj_end {g h' : Heap} {L I du td T : Addr} {m m' : Str → Option Value} {R R' all : List (Addr × Obj)} {o : Obj} {s₁ : Shared} {tk k i nt : Nat} {j : Int} {kd n : Str} {t1 t2 t3 : Tok} {dus ts : List Value} {rows : List (Str × Int)} {due0 : List (Int × Str × Str)}
    (F : Fr g L h' m') (N : News g L h' all) (mI : (I, o) ∈ all) (md : (du, ({ cls := .type "list", data := .seq (dus.toArray.push (.ref T)) k } : Obj)) ∈ all) (mT : (T, tup [.int j t1, .str kd t2, .str n t3]) ∈ all) (sR : ∀ p ∈ R', p ∈ all)
    (hI : o.cls = .type "list_iterator") (hdI : @Ne Nat du I) (hB : Bag R R') (hbI : ∀ p ∈ R, p.1 ≠ I) (mt : (td, listOf ts.toArray nt) ∈ R) (hd : DueIn R' dus (due0 ++ rowsDue (rows.take i) n)) (hr : rows[i]? = some (kd, j))
    (hk : ∀ x, x ≠ Str.ofString "kind" → x ≠ Str.ofString "mark" → m' x = m x) :
    UnrEndW g L s₁ [(I, o)] (fun m' n' => SubL [(td, listOf ts.toArray nt)] n' ∧ TJ R du due0 rows n m (i + 1) m' n') { s₁ with heap := h', toks := tk } := by
  rw [List.push_toArray] at md
  have e : due0 ++ rowsDue (rows.take (i + 1)) n = (due0 ++ rowsDue (rows.take i) n) ++ [(j, kd, n)] := by simp [rowsDue, List.take_add_one, hr]
  refine ⟨h', tk, m', (du, listOf (dus ++ [Value.ref T]).toArray k) :: (T, tup [.int j t1, .str kd t2, .str n t3]) :: R', rfl, F, ?_, ?_, ⟨List.mem_cons_of_mem _ (List.mem_cons_of_mem _ (hB.sub _ mt)), trivial⟩, dus ++ [Value.ref T], k, (T, tup [.int j t1, .str kd t2, .str n t3]) :: R', rfl, hB.cons tupT, ?_, hk⟩
  · intro p hp
    refine N p ?_
    simp only [List.cons_append, List.nil_append, List.mem_cons] at hp
    rcases hp with rfl | rfl | rfl | hp
    · exact mI
    · exact md
    · exact mT
    · exact sR p hp
  · intro p hp q hq
    rw [List.mem_singleton.mp hq]
    simp only [List.mem_cons] at hp
    rcases hp with rfl | rfl | hp
    · exact hdI
    · exact ne_kind N mT mI (by rw [hI]; exact (show Value.type "tuple" ≠ Value.type "list_iterator" by decide))
    · exact hB.off N sR mI (by rw [hI]; decide) hbI p hp
  · rw [e]
    exact (hd.monoT fun p hp _ => List.mem_cons_of_mem _ hp).snoc List.mem_cons_self
theorem entry_turn {w : World} {p : Program} {loose : List Str} {mean : ExcName → Option Value} {mg mb : Str → Option Value}
    {dp un : Nat} {gd : Option (List Code)} {cn : Str} {cs : Scope} {a : Addr} {ccd : Value} {cl : List (Str × Addr)} {outer : List Env} {A₀ : Around} {base h₀ : Heap} {L : Addr} {m : Str → Option Value} {s : Shared}
    {Q E : Value → Shared → Prop} {R all : List (Addr × Obj)} {mn td ed : Addr} {fv : Value} {vs : List Value} {f : It} {its : List It} {own : Bool} {nm nt : Nat} {oe : Obj}
    (B : Below A₀ base outer h₀) (F : Fr h₀ L s.heap m) (X : (Mine.hdE.heap_1_1 w.params).In h₀) (N : News h₀ L s.heap all) (T : Top p loose mean mg mb h₀) (hk : cs.kind = .function)
    (mt : (td, listOf ([] : List Value).toArray nt) ∈ all) (mE : (ed, oe) ∈ all) (mm : (mn, listOf (fv :: vs).toArray nm) ∈ R) (mR : ∀ p ∈ R, p ∈ all) (hr : ∀ p ∈ R, p.1 ≠ td) (hce : oe.cls = .type "dict")
    (hf : ItIn R fv f) (hits : ItsIn R vs its) (hok : ∀ it ∈ f :: its, it.ok) (hlen : vs.length ≤ 100) (hd : dp ≤ 390) (hu : un ≤ 390)
    (hret : ∀ v' ts' n' R' h' toks', Fr h₀ L h' m → News h₀ L h' ((td, listOf (ts' : List Value).toArray n') :: (ed, oe) :: R') → Bag R R' → EntIn R' v' (entryEnt own (its.foldl pairStep ([f], [])).1) →
      TwoIn R' ts' ((its.foldl pairStep ([f], [])).2 ++ entryRows own (its.foldl pairStep ([f], [])).1) → Q v' { s with heap := h', toks := toks' }) :
    wpAny (model PySem.Challenge.rw_sj0028_01.row.prog w) (ktrTop dp un gd cn cs L a ccd cl outer) (call (.ref 136) [.ref mn, .bool own, .ref td]) Q E s := by
  have up : ∀ p ∈ R, p ∈ (ed, oe) :: R := fun p hp => List.mem_cons_of_mem _ hp
  have hetd : ed ≠ td := ne_kind N mE mt (by rw [hce]; exact (show Value.type "dict" ≠ Value.type "list" by decide))
  refine entry_ok (rest := (ed, oe) :: R) (vs := vs) (fv := fv) (nm := nm) (nt := nt) B F X ?_ T hk (up _ mm) (hr _ mm) ?_ (hf.mono up) (hits.mono up) hok hlen hd hu ?_
  · intro p hp
    refine N p ?_
    simp only [List.mem_cons] at hp
    rcases hp with rfl | rfl | hp
    · exact mt
    · exact mE
    · exact mR p hp
  · intro p hp
    rcases List.mem_cons.mp hp with rfl | hp
    · exact hetd
    · exact hr p hp
  · intro v' ts' n' R2 h' toks' F' N' mt' hs hE hT
    refine hret v' ts' n' (bagOf R R2) h' toks' F' ?_ (bagOf_bag R R2) (hE.monoT bagOf_subT) (hT.monoT bagOf_subT)
    exact List.forall_mem_cons.mpr ⟨N' _ mt', List.forall_mem_cons.mpr ⟨N' _ (hs _ List.mem_cons_self), fun p hp => (bagOf_mem hp).elim (fun hp => N' _ (hs _ (up _ hp))) (fun hp => N' _ hp)⟩⟩
theorem keep2i {m : Str → Option Value} {x1 x2 : Str} {v1 v2 : Value} (g1 : m x1 = some v1) (g2 : m x2 = some v2) (x : Str) : (if x = x1 then some v1 else if x = x2 then some v2 else m x) = m x := by
  split
  · next e => rw [e, g1]
  · split
    · next e => rw [e, g2]
    · rfl
theorem keep4 {m m₁ : Str → Option Value} {a b x1 x2 : Str} {va vb v1 v2 : Value} (h : ∀ x, x ≠ b → x ≠ a → m₁ x = m x) (g1 : m₁ x1 = some v1) (g2 : m₁ x2 = some v2) :
    ∀ x, x ≠ b → x ≠ a → (if x = a then some va else if x = b then some vb else if x = x1 then some v1 else if x = x2 then some v2 else m₁ x) = m x := by
  intro x hb ha
  rw [if_neg ha, if_neg hb]
  exact (keep2i g1 g2 x).trans (h x hb ha)
end
section
theorem lines_L11b : True := by
  k_with_none
  k_with "shSub" => first | (((with_reducible show wpAny _ _ (subscriptTail _ _ (Value.ref _) (Value.int _ _)) _ _ _))) | fail
  k_with "DIG" => first | (repeat (first | (with_reducible exact And.left) | (with_reducible exact id) | (with_reducible refine digR ?_))) | fail
  k_with "LT9" => first | (first | with_reducible assumption | (refine' ltLt ?h ?d; walk_at "HD")) | fail
  k_with "ALLLT" => first | (first | with_reducible assumption | (refine' allDig ?h ?d; walk_at "HD")) | fail
  k_with "K_NE" => first | ((refine neN ?_; first | with_reducible assumption | (refine Ne.symm ?_; with_reducible assumption) | (refine' neLt ?h ?d; walk_at "HD") | (refine' neGt ?h ?d; walk_at "HD") | (refine' neNe ?h ?d; walk_at "HD") | (refine' neEn ?h ?d; walk_at "HD") | (refine Nat.ne_of_lt ?_; with_reducible assumption) | (refine Nat.ne_of_gt ?_; with_reducible assumption) | ((try dsimp only); omega))) | fail
  k_with "MEM" => first | (first | with_reducible assumption | with_reducible exact List.mem_cons_self | (with_reducible refine List.mem_cons_of_mem _ ?_; walk_at "MEM")) | fail
  k_with "OM" => first | (first | exact dLe (by with_reducible assumption) rfl | exact dL0 (by with_reducible assumption) rfl | exact dLt (by with_reducible assumption) rfl | omega) | fail
  k_with "K_ALL" => first | (first | with_reducible assumption | (refine allLt_ne ?_; walk_at "ALLLT") | (refine off1_ne ?_; walk_at "ALLLT")) | fail
  k_with "TAIL" => first | ((intro p9 hp9; repeat (first | exact hp9 | refine List.mem_cons_of_mem _ ?_))) | fail
  k_with "K_ROOM" => first | (((simp only [depth_mark, depth_under_make, depth_under_kw, depth_in1, depth_deeper, depth_caller, ktrTop, recursionLimit]); walk_at "OM")) | fail
  k_with "K_UNITS" => first | ((have hcL := cLine_is; (simp only [units_in1, units_deeper, Around.mark_units, units_caller, ktrTop]); walk_at "OM")) | fail
  k_with "K_MEM" => first | (((fail_if_success refine' List.Mem.tail _ ?_); (show (_ : Addr × Obj) ∈ (_ : List (Addr × Obj))); with_reducible assumption)) | fail
  k_with "compareOp In str ref" => first | ((k_here; k_dflt (first | (refine' kd_in_some (by (k_asm; done)) (by (k_mem; done)) (by (with_reducible assumption; done)) (by (with_reducible assumption; done)) (by (with_reducible assumption; done)) ?_) | (refine' kd_in_none (by (k_asm; done)) (by (k_mem; done)) (by (with_reducible assumption; done)) (by (with_reducible assumption; done)) (by (with_reducible assumption; done)) ?_)))) | fail
  k_with "compareOp NotIn str ref" => first | ((k_here; k_dflt (first | (refine' kd_nin_some (by (k_asm; done)) (by (k_mem; done)) (by (with_reducible assumption; done)) (by (with_reducible assumption; done)) (by (with_reducible assumption; done)) ?_) | (refine' kd_nin_none (by (k_asm; done)) (by (k_mem; done)) (by (with_reducible assumption; done)) (by (with_reducible assumption; done)) (by (with_reducible assumption; done)) ?_) | (refine' nin2_f (by (k_asm; done)) (by (k_mem; done)) (by (with_reducible assumption; done)) ?_) | (refine' nin2_t (by (k_asm; done)) (by (k_mem; done)) (by (with_reducible assumption; done)) ?_)))) | fail
  k_with "subscriptTail" => first | ((k_here; (with_reducible show wpAny _ _ (subscriptTail _ _ (Value.ref _) (Value.str _ _)) _ _ _); k_dflt (refine' kd_item (by (k_asm; done)) (by (k_mem; done)) (by (with_reducible assumption; done)) (by (with_reducible assumption; done)) ?_ (by (with_unfolding_all rfl; done)) (by (intro _; with_unfolding_all rfl; done))))) | fail
  k_with "setItem ref str" => first | ((k_here; k_dflt (refine' kd_set (by (k_asm; done)) (by (k_asm; done)) (by (k_updF; done)) (by (with_reducible assumption; done)) (by (with_reducible assumption; done)) ?_); (intro h' o' F' N' hd'); (try dsimp only at N'))) | fail
  k_with "getItem ref" => first | ((k_here; (with_reducible show wpAny _ _ (getItem (Value.ref _) (Value.str _ _)) _ _ _); k_dflt (refine' kd_get (by (k_asm; done)) (by (k_mem; done)) (by (with_reducible assumption; done)) (by (with_reducible assumption; done)) ?_))) | fail
  k_with "compareOp NotEq str str" => first | ((k_here; first | (refine ne_str_t (by with_reducible assumption) ?_) | (refine ne_str_f (by with_reducible assumption) ?_))) | fail
  k_with "compareOp Eq str str" => first | ((k_here; first | (refine eq_str_f (by with_reducible assumption) ?_) | (refine eq_str_t (by with_reducible assumption) ?_))) | fail
  k_with "exec If Compare cons cons" => first | ((k_here; (with_reducible show wpAny _ _ (exec (Stmt.If (Expr.Compare (Expr.Name _ _) [CmpOp.Eq] [Expr.Constant (Const.str _) _ _] _) _ _ _) _) _ _ _); k_dflt (refine' if_str_no (by (k_asm; done)) (by (exact rfl; done)) (by (decide +kernel; done)) ?_))) | fail
  k_with "exec If Compare cons cons" => first | ((k_here; (with_reducible show wpAny _ _ (exec (Stmt.If (Expr.Compare (Expr.Name _ _) [CmpOp.Eq] [Expr.Constant (Const.str _) _ _] _) _ _ _) _) _ _ _); k_dflt (refine' if_str (by (k_asm; done)) (by (exact rfl; done)) (by (exact rfl; done)) ?_))) | fail
  k_with "subscriptTail Name Constant ref int" => first | ((k_here; walk_at "shSub"; k_dflt (first | (refine' item_tup0 (by (k_asm; done)) (by (k_mem; done)) (by (exact rfl; done)) (by (decide; done)) (by (decide; done)) ?_ (by (with_unfolding_all rfl; done))) | (refine' item_lst0 (by (k_asm; done)) (by (k_mem; done)) (by (exact rfl; done)) (by (decide; done)) (by (decide; done)) ?_ (by (with_unfolding_all rfl; done)))))) | fail
  k_with "subscriptTail Subscript Name Constant Constant ref int" => first | ((k_here; walk_at "shSub"; k_dflt (first | (refine' item_tup0 (by (k_asm; done)) (by (k_mem; done)) (by (exact rfl; done)) (by (decide; done)) (by (decide; done)) ?_ (by (with_unfolding_all rfl; done))) | (refine' item_lst0 (by (k_asm; done)) (by (k_mem; done)) (by (exact rfl; done)) (by (decide; done)) (by (decide; done)) ?_ (by (with_unfolding_all rfl; done)))))) | fail
  k_with "callWith builtin:list.append cons nil" => first | ((refine callWith_method1 ?_)) | fail
  k_with "execs nil" => first | ((with_reducible refine wpAny_execs_nil ?_)) | fail
  k_with "EC" => first | (first | k_fold | k_gentoks | (with_reducible refine wpAny_execs_cons ?_; try dsimp only)) | fail
  k_with "execs cons If nil" => first | (walk_at "EC") | fail
  k_with "execs cons If cons" => first | (walk_at "EC") | fail
  k_with "execs cons Assign cons" => first | (walk_at "EC") | fail
  k_with "execs cons Assign nil" => first | (walk_at "EC") | fail
  k_with "execs cons Return nil" => first | (walk_at "EC") | fail
  k_with "execs cons Return cons" => first | (walk_at "EC") | fail
  k_with "execs cons Expr nil" => first | (walk_at "EC") | fail
  k_with "execs cons Expr cons" => first | (walk_at "EC") | fail
  k_with "exec If Compare cons nil" => first | ((with_reducible refine wpAny_If ?_)) | fail
  k_with "spliced" => first | ((k_here; with_reducible first | refine args_cs ?_ | refine args_cn ?_ | refine args_ci ?_ | refine args_cb ?_)) | fail
  k_with "spliced" => first | ((k_here; (with_reducible show wpAny _ _ (spliced (backTo _ (starEach (Expr.Name _ _ :: _) (envOf _ _ _ _ _)))) _ _ _); k_dflt (refine' args_nm (by (k_asm; done)) (by (exact rfl; done)) ?_ (by rfl) (by rfl) (by decide)))) | fail
  k_with "call ref" => first | (((with_reducible show wpAny _ _ (call (Value.ref 105) _) _ _ _); refine Halt.out ?_)) | fail
  k_with "UnrEndW" => first | ((refine Halt.out ?_)) | fail
  k_with "exec For Tuple Name cons nil" => first | ((k_here; (rename Fr _ _ _ _ => lF'); (with_unfolding_all refine' For_turns lF' ?_; k_whole))) | fail
  k_with "PYITER" => first | ((k_here; (with_reducible show wpAny _ _ (pyIter (Value.ref _)) (fun it s₂ => TurnsAt _ _ _ _ _ _ _ _ _ it s₂) _ _); k_dflt (refine' iter_listTurns (by (rfl; done)) (by (k_asm; done)) (by (k_asm; done)) (by (k_mem; done)) (by (exact rfl; done)) (by (exact rfl; done)) ?_); (intro I' l1; refine Halt.out ?_))) | fail
  k_with "subscriptTail Name Name ref int" => first | ((k_here; walk_at "shSub"; k_dflt (refine' item_lst0 (by (k_asm; done)) (by (k_mem; done)) (by (exact rfl; done)) (by (decide; done)) (by (decide; done)) ?_ (by (with_unfolding_all rfl; done))))) | fail
  k_with "call ref" => first | (((with_reducible show wpAny _ _ (call (Value.ref 124) _) _ _ _); refine Halt.out ?_)) | fail
  k_with "UnrEnd" => first | ((refine Halt.out ?_)) | fail
  k_with "call type:range" => first | ((k_here; (with_reducible show wpAny _ _ (call (Value.type "range") [Value.int _ _]) _ _ _); (refine range1_rows (by k_asm) (by k_asm) ?_); intro h' tk' t' u' v' hr' F' N' hk')) | fail
  k_with "PYITER" => first | ((k_here; (with_reducible show wpAny _ _ (pyIter (Value.ref _)) (fun it s₂ => LoopAtV _ _ _ _ _ _ _ _ _ it s₂) _ _); (refine Halt.out ?_))) | fail
  k_with "call ref" => first | ((k_here; (with_reducible show wpAny _ _ (call (Value.ref 131) _) _ _ _); k_dflt (refine' spot_ok (by (k_asm; done)) (by (k_asm; done)) (by (k_asm; done)) (by (k_asm; done)) (by (k_asm; done)) (by (rfl; done)) (by (exact ItIn.monoH (by with_reducible assumption) (by walk_at "TAIL"); done)) (by (((simp only [depth_deeper, depth_caller]); decide); done)) (by (((simp only [units_deeper, units_caller]); decide); done)) ?_); (intro t' h' tk' F' N'))) | fail
  k_with "subscriptTail Name Call ref int" => first | ((k_here; walk_at "shSub"; k_dflt (refine' item_tup0 (by (k_asm; done)) (by (k_mem; done)) (by (with_reducible assumption; done)) (by (with_reducible assumption; done)) (by (exact spot_lt _; done)) ?_ (by (with_unfolding_all rfl; done))))) | fail
  trivial







set_option maxRecDepth 100000 in
set_option maxHeartbeats 8000000 in
theorem told_loop {w : World} {loose : List Str} {mean : ExcName → Option Value} {mg mb : Str → Option Value} {L fa cd : Addr} {h₀ : Heap} {m : Str → Option Value} {s : Shared} {Q : Flow → Shared → Prop}
    {du td : Addr} {tn : Tok} {n : Str} {k nt : Nat} {oc : Obj} {ts dus : List Value} {R : List (Addr × Obj)} {rows : List (Str × Int)} {due0 : List (Int × Str × Str)}
    (K0 : Below callerA h₀ [] h₀) (F : Fr h₀ L s.heap m) (X : (Mine.hdE.heap_1_1 w.params).In h₀) (T : Top Mine.hdE.view_1_2 loose mean mg mb h₀)
    (N : News h₀ L s.heap ((du, listOf dus.toArray k) :: R)) (hoff : ∀ p ∈ R, p.1 ≠ du) (mt : (td, listOf ts.toArray nt) ∈ R) (mc : (L + 1 + 1, oc) ∈ R) (hc : oc.data = .cell (some (.str n tn)))
    (hts : TwoIn R ts rows) (hd : DueIn R dus due0) (hlen : dus.length + rows.length ≤ 1000)
    (f1 : m (Str.ofString "told") = some (.ref td)) (f2 : m (Str.ofString "due") = some (.ref du))
    (hret : ∀ dus' k' R' m' h' tk', Fr h₀ L h' m' → News h₀ L h' ((du, listOf (dus' : List Value).toArray k') :: R') → Bag R R' → DueIn R' dus' (due0 ++ rowsDue rows n) → (∀ x, x ≠ Str.ofString "kind" → x ≠ Str.ofString "mark" → m' x = m x) → Q .next { s with heap := h', toks := tk' }) :
    wpAny (model PySem.Challenge.rw_sj0028_01.row.prog w) (lawA L fa cd) (exec (nthS 4 (bodyOf (nthS 0 (bodyOf (nthS 11 lawB))))) (lawE L fa cd)) Q (fun _ _ => False) s := by
  w_top off
  unfold lawA lawE
  conv => pattern (nthS 4 (bodyOf (nthS 0 (bodyOf (nthS 11 lawB))))); whnf
  conv => pattern (occs := *) lawS <;> (whnf; zeta)
  have Fm := Fr.two F f1 f2
  clear F
  revert X
  k_fill
  intro X
  k_steps
  unfold Halt
  rename ∀ p ∈ _, _ => hlt9
  rename Addr => I9
  have hbI : ∀ p ∈ R, p.1 ≠ I9 := fun p hp => lt_ne (hlt9 p (by (first | walk_at "MEM" | simp [hp])))
  have hdI : @Ne Nat du I9 := lt_ne (hlt9 _ (List.mem_cons_self))
  have hId : @Ne Nat I9 du := Ne.symm hdI
  rename News _ _ _ _ => lN
  clear lN hlt9
  refine items_ind (TJ R du due0 rows n m) ?h0 ?turn ?done
  case h0 => exact ⟨dus, k, R, rfl, ⟨fun _ h => h, fun _ h => .inl h⟩, by simpa [rowsDue] using hd, fun x _ _ => keep2i f1 f2 x⟩
  case done =>
    intro m₁ nx h tk hJ F N
    k_sweep
    refine Cut.out ?_
    intro G9 hG9
    obtain ⟨dus', k', R', hnx, hB', hd', hk⟩ := hJ
    subst hnx
    refine hG9 ?_
    clear hG9
    rw [List.take_of_length_le (Nat.le_of_eq hts.len.symm)] at hd'
    exact hret dus' k' R' m₁ h tk F N hB' hd' hk
  case turn =>
    intro i v m₁ nx h tk o hv hJ hcl F N
    k_sweep
    refine Cut.out ?_
    intro G9 hG9
    obtain ⟨dus', k', R', hnx, hB', hd', hkeep⟩ := hJ
    subst hnx
    refine hG9 ?_
    clear hG9
    have g1 := (hkeep _ (by decide) (by decide)).trans f1
    have g2 := (hkeep _ (by decide) (by decide)).trans f2
    have Fm := Fr.two F g1 g2
    clear F
    k_sweep
    refine Cut.out ?_
    intro G9 hG9
    obtain ⟨a, kd, j, u1, u2, rfl, hri, hma⟩ := hts.get hv
    refine hG9 ?_
    clear hG9
    have hma' := hB'.sub _ hma
    have mc' := hB'.sub _ mc
    have oD' : ∀ p ∈ R', p.1 ≠ du := hB'.off N (fun p hp => by (first | walk_at "MEM" | simp [hp])) (o := listOf dus'.toArray k') (by first | walk_at "MEM" | simp) (show Value.type "list" ≠ Value.type "tuple" by decide) hoff
    have hlt9 : i < rows.length := (List.getElem?_eq_some_iff.mp hri).1
    have hl9 : dus'.length ≤ 1000 := by
      have h1 := hd'.len
      have h2 := hd.len
      simp only [List.length_append, rowsDue, List.length_map, List.length_take] at h1
      omega
    k_steps
    all_goals (unfold Halt)
    all_goals exact tj_end (by k_asm) (by k_asm) (by k_mem) (by k_mem) (by k_mem) (by walk_at "TAIL") hcl hdI hB' hbI mt hd' hri (keep4 hkeep g1 g2)
end
section
theorem lines_L12a : True := by
  k_with_none
  k_with "shSub" => first | (((with_reducible show wpAny _ _ (subscriptTail _ _ (Value.ref _) (Value.int _ _)) _ _ _))) | fail
  k_with "DIG" => first | (repeat (first | (with_reducible exact And.left) | (with_reducible exact id) | (with_reducible refine digR ?_))) | fail
  k_with "LT9" => first | (first | with_reducible assumption | (refine' ltLt ?h ?d; walk_at "HD")) | fail
  k_with "ALLLT" => first | (first | with_reducible assumption | (refine' allDig ?h ?d; walk_at "HD")) | fail
  k_with "K_NE" => first | ((refine neN ?_; first | with_reducible assumption | (refine Ne.symm ?_; with_reducible assumption) | (refine' neLt ?h ?d; walk_at "HD") | (refine' neGt ?h ?d; walk_at "HD") | (refine' neNe ?h ?d; walk_at "HD") | (refine' neEn ?h ?d; walk_at "HD") | (refine Nat.ne_of_lt ?_; with_reducible assumption) | (refine Nat.ne_of_gt ?_; with_reducible assumption) | ((try dsimp only); omega))) | fail
  k_with "MEM" => first | (first | with_reducible assumption | with_reducible exact List.mem_cons_self | (with_reducible refine List.mem_cons_of_mem _ ?_; walk_at "MEM")) | fail
  k_with "OM" => first | (first | exact dLe (by with_reducible assumption) rfl | exact dL0 (by with_reducible assumption) rfl | exact dLt (by with_reducible assumption) rfl | omega) | fail
  k_with "K_ALL" => first | (first | with_reducible assumption | (refine allLt_ne ?_; walk_at "ALLLT") | (refine off1_ne ?_; walk_at "ALLLT")) | fail
  trivial
section
variable {M : Model} {A : Around} {E : Value → Shared → Prop} {s : Shared}
theorem storeName_cell {env : Env} {name : Str} {c : Addr} {v₀ : Option Value} {v : Value} {Q : Unit → Shared → Prop} (hk : env.scope.kind = .function) (hl : env.kindOf name = some .cell)
    (hc : env.cells.lookup name = some c) (hv : s.heap.IsCell c v₀)
    (h : ∀ h', h'.IsCell c (some v) → Heap.SameBut c s.heap h' → Q () { s with heap := h' }) : wpAny M A (storeName env name v) Q E s := by
  unfold storeName
  simp only [hl, hk]
  exact wpAny_bind (wpAny_cellOf hc (wpAny_cellSet hv h))
variable {h₀ : Heap} {L a : Addr} {m : Str → Option Value} {cn : Str} {cs : Scope} {ccd : Value} {x : Str} {v : Value} {news : List (Addr × Obj)} {g : Obj → List (Addr × Obj)} {c : Addr} {o : Obj} {v₀ : Option Value}
theorem storeC_F {Q : Unit → Shared → Prop} (F : Fr h₀ L s.heap m) (N : News h₀ L s.heap news) (hc : (envOfC cn cs L a ccd).cells.lookup x = some c) (U : UpdF c o news g) (hd : o.data = .cell v₀)
    (h : ∀ h' o', Fr h₀ L h' m → News h₀ L h' (g o') → o'.data = .cell (some v) → Q () { s with heap := h' })
    (hk : cs.kind = .function := by rfl) (hx : (envOfC cn cs L a ccd).kindOf x = some .cell := by rfl) : wpAny M A (storeName (envOfC cn cs L a ccd) x v) Q E s := by
  obtain ⟨own, rest, rfl, hg, h1, h2⟩ := U.split
  have hmem := N (c, o) (List.mem_append_right _ (.head _))
  refine storeName_cell hk hx hc ⟨o, hmem.1, hd⟩ fun h' hv hs => ?_
  obtain ⟨o', ho', hd'⟩ := hv
  refine h h' o' ⟨F.ns.sameBut hs (Ne.symm hmem.2.1), fun b ob e => (hs.2 b (fun q => ?_)).trans (F.keep b ob e), F.above⟩ (hg o' ▸ N.setAt h1 h2 hs ho') hd'
  rw [q, hmem.2.2] at e; cases e
end
theorem StrV.get {vs : List Value} {xs : List Str} (h : StrV vs xs) : ∀ {i : Nat} {v : Value}, vs[i]? = some v → ∃ x t, v = .str x t ∧ xs[i]? = some x := by
  induction h with
  | nil => intro i v e; simp at e
  | cons _ ih =>
    intro i v e
    cases i with
    | zero => simp at e; subst e; exact ⟨_, _, rfl, rfl⟩
    | succ i => simp at e; simpa using ih e
noncomputable def lawRows (dr : List (Int × It)) (l : Int) (n : Str) : List (Str × Int) := match mineOf dr l n with
  | [] => []
  | f :: its => (its.foldl pairStep ([f], [])).2 ++ entryRows (l == 2) (its.foldl pairStep ([f], [])).1
noncomputable def lawTab (dr : List (Int × It)) (l : Int) (ns : List Str) : List (Str × Ent) := ns.foldl (fun tab n => match mineOf dr l n with
  | [] => tab
  | f :: its => storedE tab n (entryEnt (l == 2) (its.foldl pairStep ([f], [])).1)) []
noncomputable def lawDue (dr : List (Int × It)) (l : Int) (ns : List Str) : List (Int × Str × Str) := ns.flatMap fun n => rowsDue (lawRows dr l n) n
theorem lawDue_take {dr : List (Int × It)} {l : Int} {n : Str} {i : Nat} {ns : List Str} (h : ns[i]? = some n) : lawDue dr l (ns.take (i + 1)) = lawDue dr l (ns.take i) ++ rowsDue (lawRows dr l n) n := by
  simp [lawDue, List.take_add_one, h]
theorem lawTab_take_nil {dr : List (Int × It)} {l : Int} {n : Str} {i : Nat} {ns : List Str} (h : ns[i]? = some n) (hm : mineOf dr l n = []) : lawTab dr l (ns.take (i + 1)) = lawTab dr l (ns.take i) := by
  simp [lawTab, List.take_add_one, h, List.foldl_append, hm]
theorem lawTab_take_cons {dr : List (Int × It)} {l : Int} {n : Str} {i : Nat} {ns : List Str} {f : It} {its : List It} (h : ns[i]? = some n) (hm : mineOf dr l n = f :: its) :
    lawTab dr l (ns.take (i + 1)) = storedE (lawTab dr l (ns.take i)) n (entryEnt (l == 2) (its.foldl pairStep ([f], [])).1) := by
  simp [lawTab, List.take_add_one, h, List.foldl_append, hm]
theorem lawRows_nil {dr : List (Int × It)} {l : Int} {n : Str} (hm : mineOf dr l n = []) : lawRows dr l n = [] := by simp [lawRows, hm]
theorem lawRows_cons {dr : List (Int × It)} {l : Int} {n : Str} {f : It} {its : List It} (hm : mineOf dr l n = f :: its) : lawRows dr l n = (its.foldl pairStep ([f], [])).2 ++ entryRows (l == 2) (its.foldl pairStep ([f], [])).1 := by simp [lawRows, hm]
theorem pairs_len : ∀ (its : List It) (st : PSt), (its.foldl pairStep st).2.length ≤ st.2.length + its.length
  | [], st => Nat.le_refl _
  | x :: r, st => by
    have h := pairs_len r (pairStep st x)
    have h1 : (pairStep st x).2.length ≤ st.2.length + 1 := by
      unfold pairStep
      split <;> simp
    simp only [List.foldl_cons, List.length_cons]
    omega
theorem entryRows_len (own : Bool) (l : List It) : (entryRows own l).length ≤ 1 := by
  unfold entryRows
  split
  · split <;> simp
  · split <;> simp
  · (first | walk_at "MEM" | simp)
theorem mineOf_len {dr : List (Int × It)} {l : Int} {n : Str} : (mineOf dr l n).length ≤ dr.length := by
  simp only [mineOf, List.length_map]
  exact List.length_filter_le _ _
theorem lawRows_len {dr : List (Int × It)} {l : Int} {n : Str} : (lawRows dr l n).length ≤ dr.length := by
  cases hm : mineOf dr l n with
  | nil => simp [lawRows_nil hm]
  | cons f its =>
    have h1 := pairs_len its ([f], [])
    have h2 := entryRows_len (l == 2) (its.foldl pairStep ([f], [])).1
    have h3 := mineOf_len (dr := dr) (l := l) (n := n)
    rw [hm] at h3
    simp only [List.length_cons, List.length_nil] at h1 h3
    rw [lawRows_cons hm, List.length_append]
    omega
theorem lawDue_len {dr : List (Int × It)} {l : Int} : ∀ {ns : List Str}, (lawDue dr l ns).length ≤ ns.length * dr.length
  | [] => by simp [lawDue]
  | n :: r => by
    have h := lawDue_len (dr := dr) (l := l) (ns := r)
    have h1 := lawRows_len (dr := dr) (l := l) (n := n)
    simp only [lawDue, List.flatMap_cons, List.length_append, List.length_cons, rowsDue, List.length_map] at h ⊢
    rw [Nat.add_mul]
    omega
theorem lawTab_len {dr : List (Int × It)} {l : Int} {ns : List Str} : (lawTab dr l ns).length ≤ ns.length := by
  have key : ∀ (ns : List Str) (tab : List (Str × Ent)), (ns.foldl (fun tab n => match mineOf dr l n with
    | [] => tab
    | f :: its => storedE tab n (entryEnt (l == 2) (its.foldl pairStep ([f], [])).1)) tab).length ≤ tab.length + ns.length := by
    intro ns
    induction ns with
    | nil => exact fun tab => Nat.le_refl _
    | cons n r ih =>
      intro tab
      simp only [List.foldl_cons, List.length_cons]
      refine Nat.le_trans (ih _) ?_
      split
      · omega
      · next f its _ =>
        have := storedE_len (tab := tab) (k := n) (e := entryEnt (l == 2) (its.foldl pairStep ([f], [])).1)
        omega
  have := key ns []
  simpa [lawTab] using this
theorem mineOf_ok {dr : List (Int × It)} {l : Int} {n : Str} (h : ∀ p ∈ dr, p.2.ok) : ∀ it ∈ mineOf dr l n, it.ok := by
  intro it hit
  obtain ⟨p, hp, rfl⟩ := List.mem_map.mp hit
  exact h p (List.mem_filter.mp hp).1
def NJ (w : World) (bs R0 : List (Addr × Obj)) (du ed c2 tp dl : Addr) (tupo : Obj) (nv tv : Value) (ds : List Value) (dr : List (Int × It)) (l : Int) (tl : Tok) (due0 : List (Int × Str × Str)) (i : Nat) (m : Str → Option Value) (nx : List (Addr × Obj)) : Prop :=
  ∃ dus k oe kvs oc vc R, (∀ p ∈ (du, listOf (dus : List Value).toArray k) :: (ed, oe) :: (c2, oc) :: R, p ∈ nx) ∧ Bag bs R ∧ SubT R0 R ∧ (tp, tupo) ∈ R ∧ DrawnIn R ds dr ∧ DueIn R dus (due0 ++ lawDue dr l (names5.take i)) ∧
    oe.IsDictOf (PySem.strKind PySem.Challenge.rw_sj0028_01.row.prog w) kvs ∧ TabIn R kvs (lawTab dr l (names5.take i)) ∧ oc.data = .cell vc ∧
    m (Str.ofString "drawn") = some (.ref dl) ∧ m (Str.ofString "level") = some (.int l tl) ∧ m (Str.ofString "due") = some (.ref du) ∧ m (Str.ofString "notes") = some nv ∧ m (Str.ofString "tables") = some tv
theorem nj_end {w : World} {g h' : Heap} {L I du ed c2 tp dl : Addr} {m' : Str → Option Value} {bs R0 all : List (Addr × Obj)} {o oe oc : Obj} {s₁ : Shared} {tk k i : Nat} {l : Int} {tl : Tok} {n : Str} {dus ds xs : List Value} {dr : List (Int × It)} {due0 : List (Int × Str × Str)} {kvs : List (Str × Value)} {vc : Option Value} {nv tv : Value}
    (F : Fr g L h' m') (N : News g L h' all) (mI : (I, o) ∈ all) (md : (du, listOf dus.toArray k) ∈ all) (mE : (ed, oe) ∈ all) (mc : (c2, oc) ∈ all) (mt : (tp, tup xs) ∈ all) (sB : ∀ p ∈ bs, p ∈ all) (sR : SubT R0 all)
    (hI : o.cls = .type "tuple_iterator") (hbI : ∀ p ∈ bs, p.1 ≠ I) (hcI : @Ne Nat c2 I) (hdr : DrawnIn all ds dr) (hd : DueIn all dus (due0 ++ lawDue dr l (names5.take (i + 1)))) (hD : oe.IsDictOf (PySem.strKind PySem.Challenge.rw_sj0028_01.row.prog w) kvs)
    (hT : TabIn all kvs (lawTab dr l (names5.take (i + 1)))) (hc : oc.data = .cell vc) (f1 : m' (Str.ofString "drawn") = some (.ref dl)) (f2 : m' (Str.ofString "level") = some (.int l tl)) (f3 : m' (Str.ofString "due") = some (.ref du)) (f4 : m' (Str.ofString "notes") = some nv) (f5 : m' (Str.ofString "tables") = some tv) :
    UnrEndW g L s₁ [(I, o)] (fun m' n' => SubL [(tp, tup xs)] n' ∧ NJ w bs R0 du ed c2 tp dl (tup xs) nv tv ds dr l tl due0 (i + 1) m' n') { s₁ with heap := h', toks := tk } := by
  have mt' : (tp, tup xs) ∈ bagOf bs all := bagOf_tup mt tupT
  refine ⟨h', tk, m', (du, listOf dus.toArray k) :: (ed, oe) :: (c2, oc) :: bagOf bs all, rfl, F, ?_, ?_, ⟨List.mem_cons_of_mem _ (List.mem_cons_of_mem _ (List.mem_cons_of_mem _ mt')), trivial⟩, dus, k, oe, kvs, oc, vc, bagOf bs all, fun _ h => h, bagOf_bag bs all, sR.trans bagOf_subT, mt', hdr.monoT bagOf_subT, hd.monoT bagOf_subT, hD, hT.monoT bagOf_subT, hc, f1, f2, f3, f4, f5⟩
  · intro p hp
    refine N p ?_
    simp only [List.cons_append, List.nil_append, List.mem_cons] at hp
    rcases hp with rfl | rfl | rfl | rfl | hp
    · exact mI
    · exact md
    · exact mE
    · exact mc
    · rcases bagOf_mem hp with hp | hp
      · exact sB p hp
      · exact hp
  · intro p hp q hq
    rw [List.mem_singleton.mp hq]
    simp only [List.mem_cons] at hp
    rcases hp with rfl | rfl | rfl | hp
    · exact ne_kind N md mI (by rw [hI]; exact (show Value.type "list" ≠ Value.type "tuple_iterator" by decide))
    · exact ne_kind N mE mI (by rw [hI, dict_cls hD]; decide)
    · exact hcI
    · rcases (bagOf_bag bs all).tup p hp with h | h
      · exact hbI p h
      · refine ne_kind N ?_ mI (by rw [hI, h.1]; decide)
        rcases bagOf_mem hp with hp | hp
        · exact sB p hp
        · exact hp
section
variable {prog : Program} {w w' : World} {A : Around} {E : Value → Shared → Prop} {s : Shared} {env : Env} {h₀ : Heap} {target : Expr} {body : List Stmt} {Q : Flow → Shared → Prop}
theorem nj_items {I : Addr} {c : String} {keep : List (Addr × Obj)} {xs : List Value} {m₀ : Str → Option Value} {news₀ : List (Addr × Obj)} {g1 h1 : Heap} {L1 : Addr} {bs R0 Y : List (Addr × Obj)} {du ed c2 tp dl : Addr} {tupo : Obj} {nv tv : Value} {ds : List Value} {dr : List (Int × It)} {l : Int} {tl : Tok} {due0 : List (Int × Str × Str)}
    (_ : News g1 L1 h1 ((tp, tupo) :: Y))
    (h0 : NJ w' bs R0 du ed c2 tp dl tupo nv tv ds dr l tl due0 0 m₀ news₀)
    (turn : ∀ i v m news h tk o, xs[i]? = some v → NJ w' bs R0 du ed c2 tp dl tupo nv tv ds dr l tl due0 i m news → o.cls = .type c → Fr h₀ env.locals h m → News h₀ env.locals h ((I, o) :: news) →
      wpAny (model prog w) A (assign target env v) (fun _ s₂ => wpAny (model prog w) A (execs body env) (UnrPostW h₀ env.locals { s with heap := h, toks := tk } [(I, o)] (fun m' n' => SubL keep n' ∧ NJ w' bs R0 du ed c2 tp dl tupo nv tv ds dr l tl due0 (i + 1) m' n') Q) E s₂) E { s with heap := h, toks := tk })
    (done : ∀ m news h tk, NJ w' bs R0 du ed c2 tp dl tupo nv tv ds dr l tl due0 xs.length m news → Fr h₀ env.locals h m → News h₀ env.locals h news → Q .next { s with heap := h, toks := tk }) :
    ItemsRest prog w A E h₀ env target body Q s [(I, c)] keep (xs.map .val) m₀ news₀ := items_ind (NJ w' bs R0 du ed c2 tp dl tupo nv tv ds dr l tl due0) h0 turn done
end
theorem subCons {α : Type} {x : α} {l l' : List α} (h : ∀ p ∈ l, p ∈ l') : ∀ p ∈ x :: l, p ∈ x :: l' := fun p hp => by
  rcases List.mem_cons.mp hp with rfl | hp
  · exact List.mem_cons_self
  · exact List.mem_cons_of_mem _ (h p hp)
theorem mineIs {g h : Heap} {L mn : Addr} {lo : Obj} {Y : List (Addr × Obj)} {m : Str → Option Value} (_ : News g L h ((mn, lo) :: Y)) (h : m (Str.ofString "mine") = some (.ref mn)) : m (Str.ofString "mine") = some (.ref mn) := h
theorem rot1 {g h : Heap} {L : Addr} {x t mm I d e c : Addr × Obj} {R : List (Addr × Obj)} (N : News g L h (x :: t :: mm :: I :: d :: e :: c :: R)) : News g L h (d :: t :: mm :: I :: e :: c :: R) := fun p hp => N p (by
  simp only [List.mem_cons] at hp
  rcases hp with h | h | h | h | h | h | h <;> (first | (subst h; walk_at "MEM") | walk_at "MEM" | simp [h]))
theorem entry_turn2 {w : World} {p : Program} {loose : List Str} {mean : ExcName → Option Value} {mg mb : Str → Option Value}
    {dp un : Nat} {gd : Option (List Code)} {cn : Str} {cs : Scope} {a : Addr} {ccd : Value} {cl : List (Str × Addr)} {outer : List Env} {A₀ : Around} {base h₀ : Heap} {L : Addr} {m : Str → Option Value} {s : Shared}
    {Q E : Value → Shared → Prop} {R : List (Addr × Obj)} {x : Addr × Obj} {mn td ed du c2 I : Addr} {fv : Value} {vs dus : List Value} {f : It} {its : List It} {own : Bool} {nm nt k : Nat} {oe o oc : Obj} {kvs : List (Str × Value)}
    (B : Below A₀ base outer h₀) (F : Fr h₀ L s.heap m) (X : (Mine.hdE.heap_1_1 w.params).In h₀) (T : Top p loose mean mg mb h₀) (hk : cs.kind = .function)
    (N : News h₀ L s.heap (x :: (td, listOf ([] : List Value).toArray nt) :: (mn, listOf (fv :: vs).toArray nm) :: (I, o) :: (du, listOf dus.toArray k) :: (ed, oe) :: (c2, oc) :: R))
    (lt : AllLt td ((mn, listOf (fv :: vs).toArray nm) :: (I, o) :: (du, listOf dus.toArray k) :: (ed, oe) :: (c2, oc) :: R)) (hD : oe.IsDictOf (PySem.strKind PySem.Challenge.rw_sj0028_01.row.prog w) kvs)
    (hmu : @Ne Nat mn du) (hIu : @Ne Nat I du) (hcu : @Ne Nat c2 du) (oU : ∀ p ∈ R, p.1 ≠ du) (hIe : @Ne Nat I ed) (hce : @Ne Nat c2 ed) (oE : ∀ p ∈ R, p.1 ≠ ed)
    (hf : ItIn R fv f) (hits : ItsIn R vs its) (hok : ∀ it ∈ f :: its, it.ok) (hlen : vs.length ≤ 100) (hd : dp ≤ 390) (hu : un ≤ 390)
    (hret : ∀ v' ts' n' R6 h' toks', Fr h₀ L h' m → News h₀ L h' ((td, listOf (ts' : List Value).toArray n') :: (ed, oe) :: R6) → (∀ p ∈ R6, p.1 ≠ ed) → @Ne Nat td ed → (c2, oc) ∈ R6 → (∀ p ∈ R, p ∈ R6) →
      (∀ oe2 h2, News h₀ L h2 ((td, listOf ts'.toArray n') :: (ed, oe2) :: R6) → News h₀ L h2 ((du, listOf dus.toArray k) :: (td, listOf ts'.toArray n') :: (ed, oe2) :: (mn, listOf (fv :: vs).toArray nm) :: (I, o) :: (c2, oc) :: bagOf R R6)) →
      (∀ p ∈ (td, listOf ts'.toArray n') :: (mn, listOf (fv :: vs).toArray nm) :: (I, o) :: (c2, oc) :: bagOf R R6, p.1 ≠ du) →
      EntIn R6 v' (entryEnt own (its.foldl pairStep ([f], [])).1) → TwoIn R6 ts' ((its.foldl pairStep ([f], [])).2 ++ entryRows own (its.foldl pairStep ([f], [])).1) → Q v' { s with heap := h', toks := toks' }) :
    wpAny (model PySem.Challenge.rw_sj0028_01.row.prog w) (ktrTop dp un gd cn cs L a ccd cl outer) (call (.ref 136) [.ref mn, .bool own, .ref td]) Q E s := by
  have hced := dict_cls hD
  have up : ∀ p ∈ R, p ∈ (mn, listOf (fv :: vs).toArray nm) :: (I, o) :: (du, listOf dus.toArray k) :: (c2, oc) :: R := fun p hp => by (first | walk_at "MEM" | simp [hp])
  refine entry_turn (R := (mn, listOf (fv :: vs).toArray nm) :: (I, o) :: (du, listOf dus.toArray k) :: (c2, oc) :: R) (ed := ed) (oe := oe) (vs := vs) (fv := fv) (nm := nm) (nt := nt) B F X N T hk (by first | walk_at "MEM" | simp) (by first | walk_at "MEM" | simp) (by first | walk_at "MEM" | simp) ?_ ?_ hced (hf.mono up) (hits.mono up) hok hlen hd hu ?_
  · intro p hp
    simp only [List.mem_cons] at hp
    rcases hp with h | h | h | h | h <;> (first | (subst h; walk_at "MEM") | walk_at "MEM" | simp [h])
  · intro p hp
    refine allLt_ne lt p ?_
    simp only [List.mem_cons] at hp
    rcases hp with h | h | h | h | h <;> (first | (subst h; walk_at "MEM") | walk_at "MEM" | simp [h])
  · intro v' ts' n' R6 h' toks' F' N' hB hE hT
    have htde : td ≠ ed := ne_kind N' (p := (td, listOf ts'.toArray n')) (by first | walk_at "MEM" | simp) (d := ed) (o := oe) (by first | walk_at "MEM" | simp) (by rw [hced]; exact (show Value.type "list" ≠ Value.type "dict" by decide))
    have hbE : ∀ p ∈ (mn, listOf (fv :: vs).toArray nm) :: (I, o) :: (du, listOf dus.toArray k) :: (c2, oc) :: R, p.1 ≠ ed := by
      intro p hp
      simp only [List.mem_cons] at hp
      rcases hp with rfl | rfl | rfl | rfl | hp
      · exact ne_kind N (p := (mn, listOf (fv :: vs).toArray nm)) (d := ed) (o := oe) (by first | walk_at "MEM" | simp) (by first | walk_at "MEM" | simp) (by rw [hced]; exact (show Value.type "list" ≠ Value.type "dict" by decide))
      · exact hIe
      · exact ne_kind N (p := (du, listOf dus.toArray k)) (d := ed) (o := oe) (by first | walk_at "MEM" | simp) (by first | walk_at "MEM" | simp) (by rw [hced]; exact (show Value.type "list" ≠ Value.type "dict" by decide))
      · exact hce
      · exact oE p hp
    have in6 : ∀ p ∈ (mn, listOf (fv :: vs).toArray nm) :: (I, o) :: (du, listOf dus.toArray k) :: (c2, oc) :: R, p ∈ R6 := hB.sub
    refine hret v' ts' n' R6 h' toks' F' N' (hB.off N' (fun p hp => by (first | walk_at "MEM" | simp [hp])) (o := oe) (by first | walk_at "MEM" | simp) (by rw [hced]; decide) hbE) htde (in6 _ (by first | walk_at "MEM" | simp)) (fun p hp => in6 p (up p hp)) ?_ ?_ hE hT
    · intro oe2 h2 N2 p hp
      refine N2 p ?_
      have put : ∀ q ∈ R6, q ∈ (td, listOf ts'.toArray n') :: (ed, oe2) :: R6 := fun q hq => by simp [hq]
      simp only [List.mem_cons] at hp
      rcases hp with rfl | rfl | rfl | rfl | rfl | rfl | hp
      · exact put _ (in6 _ (by first | walk_at "MEM" | simp))
      · (first | walk_at "MEM" | simp)
      · (first | walk_at "MEM" | simp)
      · exact put _ (in6 _ (by first | walk_at "MEM" | simp))
      · exact put _ (in6 _ (by first | walk_at "MEM" | simp))
      · exact put _ (in6 _ (by first | walk_at "MEM" | simp))
      · rcases bagOf_mem hp with hp | hp
        · exact put _ (in6 _ (up p hp))
        · exact put _ hp
    · intro p hp
      simp only [List.mem_cons] at hp
      have hdu : (du, listOf dus.toArray k) ∈ (td, listOf ts'.toArray n') :: (ed, oe) :: R6 := by
        have := in6 (du, listOf dus.toArray k) (by first | walk_at "MEM" | simp)
        (first | walk_at "MEM" | simp [this])
      rcases hp with rfl | rfl | rfl | rfl | hp
      · exact Ne.symm (lt_ne lt.2.2.1)
      · exact hmu
      · exact hIu
      · exact hcu
      · rcases (bagOf_bag R R6).tup p hp with h | h
        · exact oU p h
        · refine ne_kind N' ?_ hdu (by rw [h.1]; exact (show Value.type "tuple" ≠ Value.type "list" by decide))
          rcases bagOf_mem hp with hp | hp
          · have := in6 p (up p hp)
            (first | walk_at "MEM" | simp [this])
          · (first | walk_at "MEM" | simp [hp])
theorem subT4 {w : World} {I du ed c2 : Addr} {o oe oc : Obj} {dus : List Value} {k : Nat} {R : List (Addr × Obj)} {kvs : List (Str × Value)} {v : Option Value} (h1 : o.cls = .type "tuple_iterator") (h2 : oe.IsDictOf (PySem.strKind PySem.Challenge.rw_sj0028_01.row.prog w) kvs) (h3 : oc.data = .cell v) :
    SubT ((I, o) :: (du, listOf dus.toArray k) :: (ed, oe) :: (c2, oc) :: R) R := by
  intro p hp ht
  simp only [List.mem_cons] at hp
  rcases hp with rfl | rfl | rfl | rfl | hp
  · have := ht.1; rw [h1] at this; exact absurd this (by decide)
  · exact absurd ht.1 (show Value.type "list" ≠ Value.type "tuple" by decide)
  · have := ht.1; rw [dict_cls h2] at this; exact absurd this (by decide)
  · obtain ⟨_, vs, n, h⟩ := ht; rw [h3] at h; cases h
  · exact hp
end
section
theorem lines_L12b : True := by
  k_with_none
  k_with "shSub" => first | (((with_reducible show wpAny _ _ (subscriptTail _ _ (Value.ref _) (Value.int _ _)) _ _ _))) | fail
  k_with "DIG" => first | (repeat (first | (with_reducible exact And.left) | (with_reducible exact id) | (with_reducible refine digR ?_))) | fail
  k_with "LT9" => first | (first | with_reducible assumption | (refine' ltLt ?h ?d; walk_at "HD")) | fail
  k_with "ALLLT" => first | (first | with_reducible assumption | (refine' allDig ?h ?d; walk_at "HD")) | fail
  k_with "K_NE" => first | ((refine neN ?_; first | with_reducible assumption | (refine Ne.symm ?_; with_reducible assumption) | (refine' neLt ?h ?d; walk_at "HD") | (refine' neGt ?h ?d; walk_at "HD") | (refine' neNe ?h ?d; walk_at "HD") | (refine' neEn ?h ?d; walk_at "HD") | (refine Nat.ne_of_lt ?_; with_reducible assumption) | (refine Nat.ne_of_gt ?_; with_reducible assumption) | ((try dsimp only); omega))) | fail
  k_with "MEM" => first | (first | with_reducible assumption | with_reducible exact List.mem_cons_self | (with_reducible refine List.mem_cons_of_mem _ ?_; walk_at "MEM")) | fail
  k_with "OM" => first | (first | exact dLe (by with_reducible assumption) rfl | exact dL0 (by with_reducible assumption) rfl | exact dLt (by with_reducible assumption) rfl | omega) | fail
  k_with "K_ALL" => first | (first | with_reducible assumption | (refine allLt_ne ?_; walk_at "ALLLT") | (refine off1_ne ?_; walk_at "ALLLT")) | fail
  k_with "TAIL" => first | ((intro p9 hp9; repeat (first | exact hp9 | refine List.mem_cons_of_mem _ ?_))) | fail
  k_with "K_ROOM" => first | (((simp only [depth_mark, depth_under_make, depth_under_kw, depth_in1, depth_deeper, depth_caller, ktrTop, recursionLimit]); walk_at "OM")) | fail
  k_with "K_UNITS" => first | ((have hcL := cLine_is; (simp only [units_in1, units_deeper, Around.mark_units, units_caller, ktrTop]); walk_at "OM")) | fail
  k_with "K_MEM" => first | (((fail_if_success refine' List.Mem.tail _ ?_); (show (_ : Addr × Obj) ∈ (_ : List (Addr × Obj))); with_reducible assumption)) | fail
  k_with "compareOp In str ref" => first | ((k_here; k_dflt (first | (refine' kd_in_some (by (k_asm; done)) (by (k_mem; done)) (by (with_reducible assumption; done)) (by (with_reducible assumption; done)) (by (with_reducible assumption; done)) ?_) | (refine' kd_in_none (by (k_asm; done)) (by (k_mem; done)) (by (with_reducible assumption; done)) (by (with_reducible assumption; done)) (by (with_reducible assumption; done)) ?_)))) | fail
  k_with "compareOp NotIn str ref" => first | ((k_here; k_dflt (first | (refine' kd_nin_some (by (k_asm; done)) (by (k_mem; done)) (by (with_reducible assumption; done)) (by (with_reducible assumption; done)) (by (with_reducible assumption; done)) ?_) | (refine' kd_nin_none (by (k_asm; done)) (by (k_mem; done)) (by (with_reducible assumption; done)) (by (with_reducible assumption; done)) (by (with_reducible assumption; done)) ?_) | (refine' nin2_f (by (k_asm; done)) (by (k_mem; done)) (by (with_reducible assumption; done)) ?_) | (refine' nin2_t (by (k_asm; done)) (by (k_mem; done)) (by (with_reducible assumption; done)) ?_)))) | fail
  k_with "subscriptTail" => first | ((k_here; (with_reducible show wpAny _ _ (subscriptTail _ _ (Value.ref _) (Value.str _ _)) _ _ _); k_dflt (refine' kd_item (by (k_asm; done)) (by (k_mem; done)) (by (with_reducible assumption; done)) (by (with_reducible assumption; done)) ?_ (by (with_unfolding_all rfl; done)) (by (intro _; with_unfolding_all rfl; done))))) | fail
  k_with "setItem ref str" => first | ((k_here; k_dflt (refine' kd_set (by (k_asm; done)) (by (k_asm; done)) (by (k_updF; done)) (by (with_reducible assumption; done)) (by (with_reducible assumption; done)) ?_); (intro h' o' F' N' hd'); (try dsimp only at N'))) | fail
  k_with "getItem ref" => first | ((k_here; (with_reducible show wpAny _ _ (getItem (Value.ref _) (Value.str _ _)) _ _ _); k_dflt (refine' kd_get (by (k_asm; done)) (by (k_mem; done)) (by (with_reducible assumption; done)) (by (with_reducible assumption; done)) ?_))) | fail
  k_with "compareOp NotEq str str" => first | ((k_here; first | (refine ne_str_t (by with_reducible assumption) ?_) | (refine ne_str_f (by with_reducible assumption) ?_))) | fail
  k_with "compareOp Eq str str" => first | ((k_here; first | (refine eq_str_f (by with_reducible assumption) ?_) | (refine eq_str_t (by with_reducible assumption) ?_))) | fail
  k_with "exec If Compare cons cons" => first | ((k_here; (with_reducible show wpAny _ _ (exec (Stmt.If (Expr.Compare (Expr.Name _ _) [CmpOp.Eq] [Expr.Constant (Const.str _) _ _] _) _ _ _) _) _ _ _); k_dflt (refine' if_str_no (by (k_asm; done)) (by (exact rfl; done)) (by (decide +kernel; done)) ?_))) | fail
  k_with "exec If Compare cons cons" => first | ((k_here; (with_reducible show wpAny _ _ (exec (Stmt.If (Expr.Compare (Expr.Name _ _) [CmpOp.Eq] [Expr.Constant (Const.str _) _ _] _) _ _ _) _) _ _ _); k_dflt (refine' if_str (by (k_asm; done)) (by (exact rfl; done)) (by (exact rfl; done)) ?_))) | fail
  k_with "subscriptTail Name Constant ref int" => first | ((k_here; walk_at "shSub"; k_dflt (first | (refine' item_tup0 (by (k_asm; done)) (by (k_mem; done)) (by (exact rfl; done)) (by (decide; done)) (by (decide; done)) ?_ (by (with_unfolding_all rfl; done))) | (refine' item_lst0 (by (k_asm; done)) (by (k_mem; done)) (by (exact rfl; done)) (by (decide; done)) (by (decide; done)) ?_ (by (with_unfolding_all rfl; done)))))) | fail
  k_with "subscriptTail Subscript Name Constant Constant ref int" => first | ((k_here; walk_at "shSub"; k_dflt (first | (refine' item_tup0 (by (k_asm; done)) (by (k_mem; done)) (by (exact rfl; done)) (by (decide; done)) (by (decide; done)) ?_ (by (with_unfolding_all rfl; done))) | (refine' item_lst0 (by (k_asm; done)) (by (k_mem; done)) (by (exact rfl; done)) (by (decide; done)) (by (decide; done)) ?_ (by (with_unfolding_all rfl; done)))))) | fail
  k_with "callWith builtin:list.append cons nil" => first | ((refine callWith_method1 ?_)) | fail
  k_with "execs nil" => first | ((with_reducible refine wpAny_execs_nil ?_)) | fail
  k_with "EC" => first | (first | k_fold | k_gentoks | (with_reducible refine wpAny_execs_cons ?_; try dsimp only)) | fail
  k_with "execs cons If nil" => first | (walk_at "EC") | fail
  k_with "execs cons If cons" => first | (walk_at "EC") | fail
  k_with "execs cons Assign cons" => first | (walk_at "EC") | fail
  k_with "execs cons Assign nil" => first | (walk_at "EC") | fail
  k_with "execs cons Return nil" => first | (walk_at "EC") | fail
  k_with "execs cons Return cons" => first | (walk_at "EC") | fail
  k_with "execs cons Expr nil" => first | (walk_at "EC") | fail
  k_with "execs cons Expr cons" => first | (walk_at "EC") | fail
  k_with "exec If Compare cons nil" => first | ((with_reducible refine wpAny_If ?_)) | fail
  k_with "spliced" => first | ((k_here; with_reducible first | refine args_cs ?_ | refine args_cn ?_ | refine args_ci ?_ | refine args_cb ?_)) | fail
  k_with "spliced" => first | ((k_here; (with_reducible show wpAny _ _ (spliced (backTo _ (starEach (Expr.Name _ _ :: _) (envOf _ _ _ _ _)))) _ _ _); k_dflt (refine' args_nm (by (k_asm; done)) (by (exact rfl; done)) ?_ (by rfl) (by rfl) (by decide)))) | fail
  k_with "compareOp NotEq ref ref" => first | (((fail_if_success (rename LoopMark => lm9)); (with_reducible show wpAny _ _ (compareOp _ (Value.ref _) (Value.ref _)) _ _ _); k_dflt (first | (refine' ne_len_t (by (k_asm; done)) (by (k_mem; done)) (by (k_mem; done)) (by (exact rfl; done)) (by (k_units; done)) ?_) | (refine' ne_nil_f (by (k_asm; done)) (by (k_mem; done)) (by (k_mem; done)) (by (k_units; done)) ?_)))) | fail
  k_with "compareOp In str ref" => first | (((fail_if_success (rename LoopMark => lm9)); (with_reducible show wpAny _ _ (compareOp _ (Value.str _ _) (Value.ref _)) _ _ _); k_dflt (first | (refine' in3_c (by (k_asm; done)) (by (k_mem; done)) (by (with_reducible assumption; done)) ?_) | (refine' in2_c (by (k_asm; done)) (by (k_mem; done)) (by (with_reducible assumption; done)) ?_)))) | fail
  k_with "call ref" => first | ((k_here; (with_reducible show wpAny _ _ (call (Value.ref 131) _) _ _ _); k_dflt (refine' spot_ok (by (k_asm; done)) (by (k_asm; done)) (by (k_asm; done)) (by (k_asm; done)) (by (k_asm; done)) (by (rfl; done)) (by (exact ItIn.monoH (by with_reducible assumption) (by walk_at "TAIL"); done)) (by (((simp only [depth_deeper, depth_caller]); decide); done)) (by (((simp only [units_deeper, units_caller]); decide); done)) ?_); (intro t' h' tk' F' N'))) | fail
  k_with "subscriptTail Name Call ref int" => first | ((k_here; walk_at "shSub"; k_dflt (refine' item_tup0 (by (k_asm; done)) (by (k_mem; done)) (by (with_reducible assumption; done)) (by (with_reducible assumption; done)) (by (exact spot_lt _; done)) ?_ (by (with_unfolding_all rfl; done))))) | fail
  k_with "UnrEndW" => first | ((refine Halt.out ?_)) | fail
  k_with "exec For Tuple Name cons nil" => first | ((refine Halt.out ?_)) | fail
  k_with "call ref" => first | (((with_reducible show wpAny _ _ (call (Value.ref 136) _) _ _ _); refine Halt.out ?_)) | fail
  k_with "exec For Name Tuple cons nil" => first | ((k_here; (rename Fr _ _ _ _ => lF'); (with_unfolding_all refine' For_turns lF' ?_; k_whole))) | fail
  k_with "PYITER" => first | ((k_here; (with_reducible show wpAny _ _ (pyIter (Value.ref _)) (fun it s₂ => TurnsAt _ _ _ _ _ _ _ _ _ it s₂) _ _); k_dflt (refine' iter_tupTurns (by (rfl; done)) (by (k_asm; done)) (by (k_asm; done)) (by (k_mem; done)) (by (exact rfl; done)) (by (exact rfl; done)) ?_); (intro I' l1; refine Halt.out ?_))) | fail
  k_with "storeName" => first | ((k_here; k_dflt (refine' storeC_F (by (k_asm; done)) (by (k_asm; done)) (by (rfl; done)) (by (k_updF; done)) (by (with_reducible assumption; done)) ?_ (by (rfl; done)) (by (rfl; done)); k_whole); intro h' o' F' N' d'; (try dsimp only at N'))) | fail
  k_with "subscriptTail Name Name ref int" => first | ((k_here; walk_at "shSub"; k_dflt (refine' item_lst0 (by (k_asm; done)) (by (k_mem; done)) (by (with_reducible assumption; done)) (by (with_reducible assumption; done)) (by (with_reducible assumption; done)) ?_ (by (with_unfolding_all rfl; done))))) | fail
  trivial







set_option maxRecDepth 100000 in
set_option maxHeartbeats 8000000 in
theorem names_loop {w : World} {loose : List Str} {mean : ExcName → Option Value} {mg mb : Str → Option Value} {L fa cd : Addr} {h₀ : Heap} {m : Str → Option Value} {s : Shared} {Q : Flow → Shared → Prop}
    {du ed el dl : Addr} {l : Int} {tl : Tok} {k nd ne : Nat} {oe oc oc1 : Obj} {vc : Option Value} {dus ds es : List Value} {bs R : List (Addr × Obj)} {dr : List (Int × It)} {due0 : List (Int × Str × Str)} {nv tv : Value}
    (K0 : Below callerA h₀ [] h₀) (F : Fr h₀ L s.heap m) (X : (Mine.hdE.heap_1_1 w.params).In h₀) (T : Top Mine.hdE.view_1_2 loose mean mg mb h₀)
    (N : News h₀ L s.heap ((du, listOf dus.toArray k) :: (ed, oe) :: (L + 1 + 1, oc) :: R)) (hB : Bag bs R) (mdl : (dl, listOf ds.toArray nd) ∈ bs) (mel : (el, listOf es.toArray ne) ∈ bs) (mc1 : (L + 1, oc1) ∈ bs) (hc1 : oc1.data = .cell (some (.ref el)))
    (hes : es[l.toNat]? = some (.ref ed)) (hl0 : 0 ≤ l) (hl1 : l < 100) (hc : oc.data = .cell vc) (hlo : (ed == sysModules) = false)
    (hb1 : ∀ p ∈ bs, p.1 ≠ du) (hb2 : ∀ p ∈ bs, p.1 ≠ ed) (hb3 : ∀ p ∈ bs, p.1 ≠ L + 1 + 1) (hdc : @Ne Nat du (L + 1 + 1)) (hec : @Ne Nat ed (L + 1 + 1))
    (D : oe.IsDictOf (PySem.strKind PySem.Challenge.rw_sj0028_01.row.prog w) []) (hdr : DrawnIn R ds dr) (hok : ∀ p ∈ dr, p.2.ok) (hlen : dr.length ≤ 20) (hd : DueIn R dus due0) (hdl : due0.length ≤ 500)
    (f1 : m (Str.ofString "drawn") = some (.ref dl)) (f2 : m (Str.ofString "level") = some (.int l tl)) (f3 : m (Str.ofString "due") = some (.ref du)) (f4 : m (Str.ofString "notes") = some nv) (f5 : m (Str.ofString "tables") = some tv)
    (hret : ∀ dus' k' oe' kvs' oc' vc' R' m' h' tk', Fr h₀ L h' m' → News h₀ L h' ((du, listOf (dus' : List Value).toArray k') :: (ed, oe') :: (L + 1 + 1, oc') :: R') → Bag bs R' → SubT R R' → DrawnIn R' ds dr → DueIn R' dus' (due0 ++ lawDue dr l names5) →
      oe'.IsDictOf (PySem.strKind PySem.Challenge.rw_sj0028_01.row.prog w) kvs' → TabIn R' kvs' (lawTab dr l names5) → oc'.data = .cell vc' → m' (Str.ofString "drawn") = some (.ref dl) → m' (Str.ofString "level") = some (.int l tl) → m' (Str.ofString "due") = some (.ref du) →
      m' (Str.ofString "notes") = some nv → m' (Str.ofString "tables") = some tv → Q .next { s with heap := h', toks := tk' }) :
    wpAny (model PySem.Challenge.rw_sj0028_01.row.prog w) (lawA L fa cd) (exec (nthS 0 (bodyOf (nthS 11 lawB))) (lawE L fa cd)) Q (fun _ _ => False) s := by
  w_top off
  unfold lawA lawE
  conv => pattern (nthS 0 (bodyOf (nthS 11 lawB))); whnf
  conv => pattern (occs := *) lawS <;> (whnf; zeta)
  have Fm := Fr.five F f1 f2 f3 f4 f5
  clear F
  revert X
  k_fill
  intro X
  k_steps
  unfold Halt
  rename ∀ p ∈ _, _ => hlt9
  rename Addr => I9
  have hbI : ∀ p ∈ bs, p.1 ≠ I9 := fun p hp => lt_ne (hlt9 p (by (first | walk_at "MEM" | simp [hB.sub p hp])))
  have hcI : @Ne Nat (L + 1 + 1) I9 := lt_ne (hlt9 (L + 1 + 1, oc) (by first | walk_at "MEM" | simp))
  have i1 : @Ne Nat I9 du := Ne.symm (lt_ne (hlt9 (du, listOf dus.toArray k) (by first | walk_at "MEM" | simp)))
  have i2 : @Ne Nat I9 ed := Ne.symm (lt_ne (hlt9 (ed, oe) (by first | walk_at "MEM" | simp)))
  have i3 : @Ne Nat I9 (L + 1 + 1) := Ne.symm hcI
  rename News _ _ _ _ => lN
  refine nj_items (w' := w) (bs := bs) (R0 := R) (du := du) (ed := ed) (c2 := L + 1 + 1) (dl := dl) (nv := nv) (tv := tv) (ds := ds) (dr := dr) (l := l) (tl := tl) (due0 := due0) lN ?h0 ?turn ?done
  case h0 => exact ⟨dus, k, oe, [], oc, vc, _ :: R, fun p hp => by simp only [List.mem_cons] at hp; rcases hp with h | h | h | h | h <;> (first | (subst h; walk_at "MEM") | walk_at "MEM" | simp [h]), hB.cons tupT, fun p hp _ => List.mem_cons_of_mem _ hp, List.mem_cons_self, hdr.monoT (fun p hp _ => List.mem_cons_of_mem _ hp), by simpa [lawDue] using hd.monoT (fun p hp _ => List.mem_cons_of_mem _ hp), D, .nil, hc, by with_unfolding_all rfl, by with_unfolding_all rfl, by with_unfolding_all rfl, by with_unfolding_all rfl, by with_unfolding_all rfl⟩
  case done =>
    intro m₁ nx h tk hJ F N
    k_sweep
    refine Cut.out ?_
    intro G9 hG9
    obtain ⟨dus', k', oe', kvs', oc', vc', R', hnx, hB', hS', mt', hdr', hd', hD', hT', hc', g1, g2, g3, g4, g5⟩ := hJ
    refine hG9 ?_
    clear hG9
    exact hret dus' k' oe' kvs' oc' vc' R' m₁ h tk F (fun p hp => N p (hnx p hp)) hB' hS' hdr' hd' hD' hT' hc' g1 g2 g3 g4 g5
  case turn =>
    intro i v m₁ nx h tk o hv hJ hcl F N
    k_sweep
    refine Cut.out ?_
    intro G9 hG9
    obtain ⟨dus', k', oe', kvs', oc', vc', R', hnx, hB', hS', mt', hdr', hd', hD', hT', hc', g1, g2, g3, g4, g5⟩ := hJ
    refine hG9 ?_
    clear hG9
    replace N := fun p hp => N p (subCons hnx p hp)
    clear lN hlt9 hd D hc f1 f2 f3 f4 f5 hnx
    have Fm := Fr.five F g1 g2 g3 g4 g5
    clear F
    obtain ⟨n, tn, rfl, hni⟩ : ∃ n t, v = .str n t ∧ names5[i]? = some n := StrV.get (.cons (.cons (.cons (.cons (.cons .nil))))) hv
    have hi5 : i < 5 := (List.getElem?_eq_some_iff.mp hni).1
    have oU : ∀ p ∈ R', p.1 ≠ du := hB'.off N (fun p hp => by (first | walk_at "MEM" | simp [hp])) (o := listOf dus'.toArray k') (by first | walk_at "MEM" | simp) (show Value.type "list" ≠ Value.type "tuple" by decide) hb1
    have oE : ∀ p ∈ R', p.1 ≠ ed := hB'.off N (fun p hp => by (first | walk_at "MEM" | simp [hp])) (o := oe') (by first | walk_at "MEM" | simp) (by rw [dict_cls hD']; decide) hb2
    have oC : ∀ p ∈ R', p.1 ≠ L + 1 + 1 := hB'.offCell N (fun p hp => by (first | walk_at "MEM" | simp [hp])) (o := oc') (by first | walk_at "MEM" | simp) hc' hb3
    have mdl' := hB'.sub _ mdl
    have mel' := hB'.sub _ mel
    have mc1' := hB'.sub _ mc1
    have hz9 : kvs'.length ≤ 1000 := by
      have h1 := hT'.len
      have h2 := lawTab_len (dr := dr) (l := l) (ns := names5.take i)
      rw [List.length_take] at h2
      omega
    k_steps
    all_goals (unfold Halt)
    rename _ ∧ _ ∧ _ ∧ _ ∧ AllLt _ _ => l1
    rename Obj => oc9
    rename Obj.data _ = Data.cell (some (Value.str n tn)) => hc9
    refine mine_loop (n := n) (tn := tn) (oc := oc9) (dr := dr) (ds := ds) (nd := nd) (dl := dl) (R := (I9, o) :: (du, listOf dus'.toArray k') :: (ed, oe') :: (L + 1 + 1, oc9) :: R') K0 (by k_asm) X T (by k_asm) (allLt_ne l1) (by simp [mdl']) (by first | walk_at "MEM" | simp) hc9 (hdr'.monoT fun p hp _ => by (first | walk_at "MEM" | simp [hp])) hlen (by with_unfolding_all rfl) (by with_unfolding_all rfl) (by with_unfolding_all rfl) ?_
    intro ms kk m₂ h₂ tk₂ F₂ N₂ hms hml hkp
    have q1 := mineIs (m := m₂) N₂ ((hkp _ (by decide) (by decide)).trans (by with_unfolding_all rfl))
    have q2 : m₂ (Str.ofString "drawn") = some (.ref dl) := (hkp _ (by decide) (by decide)).trans (by with_unfolding_all rfl)
    have q3 : m₂ (Str.ofString "level") = some (.int l tl) := (hkp _ (by decide) (by decide)).trans (by with_unfolding_all rfl)
    have q4 : m₂ (Str.ofString "due") = some (.ref du) := (hkp _ (by decide) (by decide)).trans (by with_unfolding_all rfl)
    have q5 : m₂ (Str.ofString "notes") = some nv := (hkp _ (by decide) (by decide)).trans (by with_unfolding_all rfl)
    have q6 : m₂ (Str.ofString "tables") = some tv := (hkp _ (by decide) (by decide)).trans (by with_unfolding_all rfl)
    have F6 := Fr.six F₂ q1 q2 q3 q4 q5 q6
    clear F₂ Fm hkp
    generalize hM : mineOf dr l n = M at hms
    cases hms with
    | nil =>
      k_steps
      all_goals (unfold Halt)
      rename News _ _ _ _ => N7
      have oR7 : @Ne Nat ed du := ne_kind N7 (p := (ed, oe')) (by first | walk_at "MEM" | simp) (d := du) (o := listOf dus'.toArray k') (by first | walk_at "MEM" | simp) (by rw [dict_cls hD']; exact (show Value.type "dict" ≠ Value.type "list" by decide))
      refine told_loop (rows := []) (due0 := due0 ++ lawDue dr l (names5.take i)) (n := n) (tn := tn) (oc := oc9) K0 (by k_asm) X T (rot1 N7) ?off (List.mem_cons_self) (by first | walk_at "MEM" | simp) hc9 .nil (hd'.monoT fun p hp _ => by (first | walk_at "MEM" | simp [hp])) (by rw [hd'.len]; simp only [List.length_append, List.length_nil]; have := lawDue_len (dr := dr) (l := l) (ns := names5.take i); rw [List.length_take] at this; have h20 : min i names5.length * dr.length ≤ 5 * 20 := Nat.mul_le_mul (by simp only [List.length_cons, List.length_nil]; omega) hlen; omega) (by with_unfolding_all rfl) (by with_unfolding_all rfl) ?_
      case off =>
        intro p hp
        simp only [List.mem_cons] at hp
        rcases hp with rfl | rfl | rfl | rfl | rfl | hp
        · show @Ne Nat _ _; k_ne
        · show @Ne Nat _ _; k_ne
        · exact i1
        · exact oR7
        · exact Ne.symm hdc
        · exact oU p hp
      intro dus3 k3 R3 m3 h3 tk3 F3 N3 hB3 hd3 hkp3
      k_steps
      all_goals (unfold Halt)
      have up3 : ∀ p ∈ R', p ∈ (du, listOf dus3.toArray k3) :: R3 := fun p hp => List.mem_cons_of_mem _ (hB3.sub _ (by (first | walk_at "MEM" | simp [hp])))
      exact nj_end (n := n) (by k_asm) (by k_asm) (List.mem_cons_of_mem _ (hB3.sub (I9, o) (by first | walk_at "MEM" | simp))) List.mem_cons_self (List.mem_cons_of_mem _ (hB3.sub (ed, oe') (by first | walk_at "MEM" | simp))) (List.mem_cons_of_mem _ (hB3.sub (L + 1 + 1, oc9) (by first | walk_at "MEM" | simp))) (up3 _ mt') (fun p hp => up3 p (hB'.sub p hp)) (fun p hp ht => up3 p (hS' p hp ht)) hcl hbI hcI (hdr'.monoT fun p hp _ => up3 p hp)
        (by rw [lawDue_take hni, lawRows_nil hM, ← List.append_assoc]; exact hd3.monoT fun p hp _ => List.mem_cons_of_mem _ hp) hD' (by rw [lawTab_take_nil hni hM]; exact hT'.monoT fun p hp _ => up3 p hp) hc9
        ((hkp3 _ (by decide) (by decide)).trans (by with_unfolding_all rfl)) ((hkp3 _ (by decide) (by decide)).trans (by with_unfolding_all rfl)) ((hkp3 _ (by decide) (by decide)).trans (by with_unfolding_all rfl)) ((hkp3 _ (by decide) (by decide)).trans (by with_unfolding_all rfl)) ((hkp3 _ (by decide) (by decide)).trans (by with_unfolding_all rfl))
    | cons hf hits =>
      obtain ⟨fa, hfa⟩ : ∃ a, _ = Value.ref a := by obtain ⟨a2, _, _, e, _⟩ := hf.head; exact ⟨a2, e⟩
      subst hfa
      have s4 : SubT ((I9, o) :: (du, listOf dus'.toArray k') :: (ed, oe') :: (L + 1 + 1, oc9) :: R') R' := subT4 hcl hD' hc9
      have hf' := hf.monoT s4
      have hits' := hits.monoT s4
      have hoks := mineOf_ok (l := l) (n := n) hok
      rw [hM] at hoks
      simp only [List.length_cons] at hml
      k_steps
      all_goals (unfold Halt)
      rename _ ∧ _ ∧ _ ∧ _ ∧ _ ∧ AllLt _ _ => l5
      refine entry_turn2 (by k_asm) (by k_asm) X T (by rfl) (by k_asm) l5 hD' (Ne.symm (lt_ne l1.2.1)) i1 (Ne.symm hdc) oU i2 (Ne.symm hec) oE hf' hits' hoks (by omega) (by (simp only [depth_deeper, depth_caller]; decide)) (by (simp only [units_deeper, units_caller]; decide)) ?_
      intro v6 ts6 n6 R6 h6 tk6 F6' N6 oE6 hte6 mc6 up6 hN7 off7 hE6 hT6
      k_steps
      all_goals (unfold Halt)
      rename News _ _ _ _ => N8
      rename Obj => oe8
      rename Obj.IsDictOf _ _ (stored _ _ _) => hD8
      have N9 := hN7 _ _ N8
      have oR8 : @Ne Nat ed du := ne_kind N9 (p := (ed, oe8)) (by first | walk_at "MEM" | simp) (d := du) (o := listOf dus'.toArray k') (by first | walk_at "MEM" | simp) (by rw [dict_cls hD8]; exact (show Value.type "dict" ≠ Value.type "list" by decide))
      have b1' : ∀ p ∈ R', p ∈ bagOf R' R6 := fun p hp => List.mem_append.mpr (.inl hp)
      refine told_loop (rows := lawRows dr l n) (due0 := due0 ++ lawDue dr l (names5.take i)) (n := n) (tn := tn) (oc := oc9) K0 (by k_asm) X T N9 ?off (List.mem_cons_self) (by first | walk_at "MEM" | simp) hc9 (by rw [lawRows_cons hM]; exact hT6.monoT fun p hp ht => by simp [bagOf_tup (bs := R') hp ht]) (hd'.monoT fun p hp _ => by simp [b1' p hp]) (by rw [hd'.len]; simp only [List.length_append]; have := lawDue_len (dr := dr) (l := l) (ns := names5.take i); rw [List.length_take] at this; have h20 : min i names5.length * dr.length ≤ 5 * 20 := Nat.mul_le_mul (by simp only [List.length_cons, List.length_nil]; omega) hlen; have h21 := lawRows_len (dr := dr) (l := l) (n := n); omega) (by with_unfolding_all rfl) (by with_unfolding_all rfl) ?_
      case off =>
        intro p hp
        simp only [List.mem_cons] at hp
        rcases hp with h | h | h | h | h | h
        · exact off7 p (by simp [h])
        · rw [h]; exact oR8
        · exact off7 p (by simp [h])
        · exact off7 p (by simp [h])
        · exact off7 p (by simp [h])
        · exact off7 p (by simp [h])
      intro dus3 k3 R3 m3 h3 tk3 F3 N3 hB3 hd3 hkp3
      k_steps
      all_goals (unfold Halt)
      have up3 : ∀ p ∈ R', p ∈ (du, listOf dus3.toArray k3) :: R3 := fun p hp => List.mem_cons_of_mem _ (hB3.sub _ (by simp [b1' p hp]))
      have s63 : SubT R6 ((du, listOf dus3.toArray k3) :: R3) := fun p hp ht => List.mem_cons_of_mem _ (hB3.sub _ (by simp [bagOf_tup (bs := R') hp ht]))
      exact nj_end (n := n) (by k_asm) (by k_asm) (List.mem_cons_of_mem _ (hB3.sub (I9, o) (by first | walk_at "MEM" | simp))) List.mem_cons_self (List.mem_cons_of_mem _ (hB3.sub (ed, oe8) (by first | walk_at "MEM" | simp))) (List.mem_cons_of_mem _ (hB3.sub (L + 1 + 1, oc9) (by first | walk_at "MEM" | simp))) (up3 _ mt') (fun p hp => up3 p (hB'.sub p hp)) (fun p hp ht => up3 p (hS' p hp ht)) hcl hbI hcI (hdr'.monoT fun p hp _ => up3 p hp)
        (by rw [lawDue_take hni, ← List.append_assoc]; exact hd3.monoT fun p hp _ => List.mem_cons_of_mem _ hp) hD8 (by rw [lawTab_take_cons hni hM]; exact (hT'.monoT fun p hp _ => up3 p hp).store (hE6.monoT s63)) hc9
        ((hkp3 _ (by decide) (by decide)).trans (by with_unfolding_all rfl)) ((hkp3 _ (by decide) (by decide)).trans (by with_unfolding_all rfl)) ((hkp3 _ (by decide) (by decide)).trans (by with_unfolding_all rfl)) ((hkp3 _ (by decide) (by decide)).trans (by with_unfolding_all rfl)) ((hkp3 _ (by decide) (by decide)).trans (by with_unfolding_all rfl))
end
section
theorem lines_L13a : True := by
  k_with_none
  k_with "shSub" => first | (((with_reducible show wpAny _ _ (subscriptTail _ _ (Value.ref _) (Value.int _ _)) _ _ _))) | fail
  k_with "DIG" => first | (repeat (first | (with_reducible exact And.left) | (with_reducible exact id) | (with_reducible refine digR ?_))) | fail
  k_with "LT9" => first | (first | with_reducible assumption | (refine' ltLt ?h ?d; walk_at "HD")) | fail
  k_with "ALLLT" => first | (first | with_reducible assumption | (refine' allDig ?h ?d; walk_at "HD")) | fail
  k_with "K_NE" => first | ((refine neN ?_; first | with_reducible assumption | (refine Ne.symm ?_; with_reducible assumption) | (refine' neLt ?h ?d; walk_at "HD") | (refine' neGt ?h ?d; walk_at "HD") | (refine' neNe ?h ?d; walk_at "HD") | (refine' neEn ?h ?d; walk_at "HD") | (refine Nat.ne_of_lt ?_; with_reducible assumption) | (refine Nat.ne_of_gt ?_; with_reducible assumption) | ((try dsimp only); omega))) | fail
  k_with "MEM" => first | (first | with_reducible assumption | with_reducible exact List.mem_cons_self | (with_reducible refine List.mem_cons_of_mem _ ?_; walk_at "MEM")) | fail
  k_with "OM" => first | (first | exact dLe (by with_reducible assumption) rfl | exact dL0 (by with_reducible assumption) rfl | exact dLt (by with_reducible assumption) rfl | omega) | fail
  k_with "K_ALL" => first | (first | with_reducible assumption | (refine allLt_ne ?_; walk_at "ALLLT") | (refine off1_ne ?_; walk_at "ALLLT")) | fail
  trivial
noncomputable def dueN (dr : List (Int × It)) : Nat → List (Int × Str × Str)
  | 0 => []
  | i + 1 => dueN dr i ++ lawDue dr (i : Int) names5
noncomputable def tabN (dr : List (Int × It)) (j i : Nat) : List (Str × Ent) := if j < i then lawTab dr (j : Int) names5 else []
theorem dueN_len {dr : List (Int × It)} (h : dr.length ≤ 20) : ∀ {i : Nat}, (dueN dr i).length ≤ i * 100
  | 0 => Nat.le_refl _
  | i + 1 => by
    have h1 := dueN_len h (i := i)
    have h2 := lawDue_len (dr := dr) (l := (i : Int)) (ns := names5)
    have h3 : names5.length * dr.length ≤ 5 * 20 := Nat.mul_le_mul (by simp) h
    simp only [dueN, List.length_append]
    omega
def LJ (w : World) (bs R0 : List (Addr × Obj)) (du ed0 ed1 ed2 c2 dl : Addr) (nv tv : Value) (ds : List Value) (dr : List (Int × It)) (i : Nat) (m : Str → Option Value) (nx : List (Addr × Obj)) : Prop :=
  ∃ dus k oe0 oe1 oe2 k0 k1 k2 oc vc R, (∀ p ∈ (du, listOf (dus : List Value).toArray k) :: (ed0, oe0) :: (ed1, oe1) :: (ed2, oe2) :: (c2, oc) :: R, p ∈ nx) ∧ Bag bs R ∧ SubT R0 R ∧ DrawnIn R ds dr ∧ DueIn R dus (dueN dr i) ∧
    oe0.IsDictOf (PySem.strKind PySem.Challenge.rw_sj0028_01.row.prog w) k0 ∧ oe1.IsDictOf (PySem.strKind PySem.Challenge.rw_sj0028_01.row.prog w) k1 ∧ oe2.IsDictOf (PySem.strKind PySem.Challenge.rw_sj0028_01.row.prog w) k2 ∧
    TabIn R k0 (tabN dr 0 i) ∧ TabIn R k1 (tabN dr 1 i) ∧ TabIn R k2 (tabN dr 2 i) ∧ oc.data = .cell vc ∧
    m (Str.ofString "drawn") = some (.ref dl) ∧ m (Str.ofString "due") = some (.ref du) ∧ m (Str.ofString "notes") = some nv ∧ m (Str.ofString "tables") = some tv
theorem lj_end {w : World} {g h' : Heap} {L I du ed0 ed1 ed2 c2 dl : Addr} {m' : Str → Option Value} {bs R0 all : List (Addr × Obj)} {oI oe0 oe1 oe2 oc : Obj} {s₁ : Shared} {tk k i : Nat} {dus ds : List Value} {dr : List (Int × It)} {k0 k1 k2 : List (Str × Value)} {vc : Option Value} {nv tv : Value}
    (F : Fr g L h' m') (N : News g L h' all) (mI : (I, oI) ∈ all) (md : (du, listOf dus.toArray k) ∈ all) (mE0 : (ed0, oe0) ∈ all) (mE1 : (ed1, oe1) ∈ all) (mE2 : (ed2, oe2) ∈ all) (mc : (c2, oc) ∈ all) (sB : ∀ p ∈ bs, p ∈ all) (sR : SubT R0 all)
    (hI : oI.cls = .type "range_iterator") (hbI : ∀ p ∈ bs, p.1 ≠ I) (hcI : @Ne Nat c2 I) (hdr : DrawnIn all ds dr) (hd : DueIn all dus (dueN dr (i + 1)))
    (D0 : oe0.IsDictOf (PySem.strKind PySem.Challenge.rw_sj0028_01.row.prog w) k0) (D1 : oe1.IsDictOf (PySem.strKind PySem.Challenge.rw_sj0028_01.row.prog w) k1) (D2 : oe2.IsDictOf (PySem.strKind PySem.Challenge.rw_sj0028_01.row.prog w) k2)
    (T0 : TabIn all k0 (tabN dr 0 (i + 1))) (T1 : TabIn all k1 (tabN dr 1 (i + 1))) (T2 : TabIn all k2 (tabN dr 2 (i + 1))) (hc : oc.data = .cell vc)
    (f1 : m' (Str.ofString "drawn") = some (.ref dl)) (f3 : m' (Str.ofString "due") = some (.ref du)) (f4 : m' (Str.ofString "notes") = some nv) (f5 : m' (Str.ofString "tables") = some tv) :
    UnrEnd g L s₁ I oI (LJ w bs R0 du ed0 ed1 ed2 c2 dl nv tv ds dr (i + 1)) { s₁ with heap := h', toks := tk } := by
  refine ⟨h', tk, m', (du, listOf dus.toArray k) :: (ed0, oe0) :: (ed1, oe1) :: (ed2, oe2) :: (c2, oc) :: bagOf bs all, rfl, F, ?_, ?_, dus, k, oe0, oe1, oe2, k0, k1, k2, oc, vc, bagOf bs all, fun _ h => h, bagOf_bag bs all, sR.trans bagOf_subT, hdr.monoT bagOf_subT, hd.monoT bagOf_subT, D0, D1, D2, T0.monoT bagOf_subT, T1.monoT bagOf_subT, T2.monoT bagOf_subT, hc, f1, f3, f4, f5⟩
  · intro p hp
    refine N p ?_
    simp only [List.mem_cons] at hp
    rcases hp with rfl | rfl | rfl | rfl | rfl | rfl | hp
    · exact mI
    · exact md
    · exact mE0
    · exact mE1
    · exact mE2
    · exact mc
    · rcases bagOf_mem hp with hp | hp
      · exact sB p hp
      · exact hp
  · intro p hp
    simp only [List.mem_cons] at hp
    rcases hp with rfl | rfl | rfl | rfl | rfl | hp
    · exact ne_kind N md mI (by rw [hI]; exact (show Value.type "list" ≠ Value.type "range_iterator" by decide))
    · exact ne_kind N mE0 mI (by rw [hI, dict_cls D0]; decide)
    · exact ne_kind N mE1 mI (by rw [hI, dict_cls D1]; decide)
    · exact ne_kind N mE2 mI (by rw [hI, dict_cls D2]; decide)
    · exact hcI
    · rcases (bagOf_bag bs all).tup p hp with h | h
      · exact hbI p h
      · refine ne_kind N ?_ mI (by rw [hI, h.1]; decide)
        rcases bagOf_mem hp with hp | hp
        · exact sB p hp
        · exact hp
theorem Bag.add3 {bs R : List (Addr × Obj)} (h : Bag bs R) (x y z : Addr × Obj) : Bag (x :: y :: z :: bs) (x :: y :: z :: R) := by
  refine ⟨fun p hp => ?_, fun p hp => ?_⟩
  · simp only [List.mem_cons] at hp ⊢
    rcases hp with h' | h' | h' | h'
    · exact .inl h'
    · exact .inr (.inl h')
    · exact .inr (.inr (.inl h'))
    · exact .inr (.inr (.inr (h.sub p h')))
  · simp only [List.mem_cons] at hp
    rcases hp with h' | h' | h' | h'
    · exact .inl (by simp [h'])
    · exact .inl (by simp [h'])
    · exact .inl (by simp [h'])
    · rcases h.tup p h' with h2 | h2
      · exact .inl (by simp [h2])
      · exact .inr h2
end
section
theorem lines_L13b : True := by
  k_with_none
  k_with "shSub" => first | (((with_reducible show wpAny _ _ (subscriptTail _ _ (Value.ref _) (Value.int _ _)) _ _ _))) | fail
  k_with "DIG" => first | (repeat (first | (with_reducible exact And.left) | (with_reducible exact id) | (with_reducible refine digR ?_))) | fail
  k_with "LT9" => first | (first | with_reducible assumption | (refine' ltLt ?h ?d; walk_at "HD")) | fail
  k_with "ALLLT" => first | (first | with_reducible assumption | (refine' allDig ?h ?d; walk_at "HD")) | fail
  k_with "K_NE" => first | ((refine neN ?_; first | with_reducible assumption | (refine Ne.symm ?_; with_reducible assumption) | (refine' neLt ?h ?d; walk_at "HD") | (refine' neGt ?h ?d; walk_at "HD") | (refine' neNe ?h ?d; walk_at "HD") | (refine' neEn ?h ?d; walk_at "HD") | (refine Nat.ne_of_lt ?_; with_reducible assumption) | (refine Nat.ne_of_gt ?_; with_reducible assumption) | ((try dsimp only); omega))) | fail
  k_with "MEM" => first | (first | with_reducible assumption | with_reducible exact List.mem_cons_self | (with_reducible refine List.mem_cons_of_mem _ ?_; walk_at "MEM")) | fail
  k_with "OM" => first | (first | exact dLe (by with_reducible assumption) rfl | exact dL0 (by with_reducible assumption) rfl | exact dLt (by with_reducible assumption) rfl | omega) | fail
  k_with "K_ALL" => first | (first | with_reducible assumption | (refine allLt_ne ?_; walk_at "ALLLT") | (refine off1_ne ?_; walk_at "ALLLT")) | fail
  k_with "TAIL" => first | ((intro p9 hp9; repeat (first | exact hp9 | refine List.mem_cons_of_mem _ ?_))) | fail
  k_with "K_ROOM" => first | (((simp only [depth_mark, depth_under_make, depth_under_kw, depth_in1, depth_deeper, depth_caller, ktrTop, recursionLimit]); walk_at "OM")) | fail
  k_with "K_UNITS" => first | ((have hcL := cLine_is; (simp only [units_in1, units_deeper, Around.mark_units, units_caller, ktrTop]); walk_at "OM")) | fail
  k_with "K_MEM" => first | (((fail_if_success refine' List.Mem.tail _ ?_); (show (_ : Addr × Obj) ∈ (_ : List (Addr × Obj))); with_reducible assumption)) | fail
  k_with "compareOp In str ref" => first | ((k_here; k_dflt (first | (refine' kd_in_some (by (k_asm; done)) (by (k_mem; done)) (by (with_reducible assumption; done)) (by (with_reducible assumption; done)) (by (with_reducible assumption; done)) ?_) | (refine' kd_in_none (by (k_asm; done)) (by (k_mem; done)) (by (with_reducible assumption; done)) (by (with_reducible assumption; done)) (by (with_reducible assumption; done)) ?_)))) | fail
  k_with "compareOp NotIn str ref" => first | ((k_here; k_dflt (first | (refine' kd_nin_some (by (k_asm; done)) (by (k_mem; done)) (by (with_reducible assumption; done)) (by (with_reducible assumption; done)) (by (with_reducible assumption; done)) ?_) | (refine' kd_nin_none (by (k_asm; done)) (by (k_mem; done)) (by (with_reducible assumption; done)) (by (with_reducible assumption; done)) (by (with_reducible assumption; done)) ?_) | (refine' nin2_f (by (k_asm; done)) (by (k_mem; done)) (by (with_reducible assumption; done)) ?_) | (refine' nin2_t (by (k_asm; done)) (by (k_mem; done)) (by (with_reducible assumption; done)) ?_)))) | fail
  k_with "subscriptTail" => first | ((k_here; (with_reducible show wpAny _ _ (subscriptTail _ _ (Value.ref _) (Value.str _ _)) _ _ _); k_dflt (refine' kd_item (by (k_asm; done)) (by (k_mem; done)) (by (with_reducible assumption; done)) (by (with_reducible assumption; done)) ?_ (by (with_unfolding_all rfl; done)) (by (intro _; with_unfolding_all rfl; done))))) | fail
  k_with "setItem ref str" => first | ((k_here; k_dflt (refine' kd_set (by (k_asm; done)) (by (k_asm; done)) (by (k_updF; done)) (by (with_reducible assumption; done)) (by (with_reducible assumption; done)) ?_); (intro h' o' F' N' hd'); (try dsimp only at N'))) | fail
  k_with "getItem ref" => first | ((k_here; (with_reducible show wpAny _ _ (getItem (Value.ref _) (Value.str _ _)) _ _ _); k_dflt (refine' kd_get (by (k_asm; done)) (by (k_mem; done)) (by (with_reducible assumption; done)) (by (with_reducible assumption; done)) ?_))) | fail
  k_with "compareOp NotEq str str" => first | ((k_here; first | (refine ne_str_t (by with_reducible assumption) ?_) | (refine ne_str_f (by with_reducible assumption) ?_))) | fail
  k_with "compareOp Eq str str" => first | ((k_here; first | (refine eq_str_f (by with_reducible assumption) ?_) | (refine eq_str_t (by with_reducible assumption) ?_))) | fail
  k_with "exec If Compare cons cons" => first | ((k_here; (with_reducible show wpAny _ _ (exec (Stmt.If (Expr.Compare (Expr.Name _ _) [CmpOp.Eq] [Expr.Constant (Const.str _) _ _] _) _ _ _) _) _ _ _); k_dflt (refine' if_str_no (by (k_asm; done)) (by (exact rfl; done)) (by (decide +kernel; done)) ?_))) | fail
  k_with "exec If Compare cons cons" => first | ((k_here; (with_reducible show wpAny _ _ (exec (Stmt.If (Expr.Compare (Expr.Name _ _) [CmpOp.Eq] [Expr.Constant (Const.str _) _ _] _) _ _ _) _) _ _ _); k_dflt (refine' if_str (by (k_asm; done)) (by (exact rfl; done)) (by (exact rfl; done)) ?_))) | fail
  k_with "subscriptTail Name Constant ref int" => first | ((k_here; walk_at "shSub"; k_dflt (first | (refine' item_tup0 (by (k_asm; done)) (by (k_mem; done)) (by (exact rfl; done)) (by (decide; done)) (by (decide; done)) ?_ (by (with_unfolding_all rfl; done))) | (refine' item_lst0 (by (k_asm; done)) (by (k_mem; done)) (by (exact rfl; done)) (by (decide; done)) (by (decide; done)) ?_ (by (with_unfolding_all rfl; done)))))) | fail
  k_with "subscriptTail Subscript Name Constant Constant ref int" => first | ((k_here; walk_at "shSub"; k_dflt (first | (refine' item_tup0 (by (k_asm; done)) (by (k_mem; done)) (by (exact rfl; done)) (by (decide; done)) (by (decide; done)) ?_ (by (with_unfolding_all rfl; done))) | (refine' item_lst0 (by (k_asm; done)) (by (k_mem; done)) (by (exact rfl; done)) (by (decide; done)) (by (decide; done)) ?_ (by (with_unfolding_all rfl; done)))))) | fail
  k_with "callWith builtin:list.append cons nil" => first | ((refine callWith_method1 ?_)) | fail
  k_with "execs nil" => first | ((with_reducible refine wpAny_execs_nil ?_)) | fail
  k_with "EC" => first | (first | k_fold | k_gentoks | (with_reducible refine wpAny_execs_cons ?_; try dsimp only)) | fail
  k_with "execs cons If nil" => first | (walk_at "EC") | fail
  k_with "execs cons If cons" => first | (walk_at "EC") | fail
  k_with "execs cons Assign cons" => first | (walk_at "EC") | fail
  k_with "execs cons Assign nil" => first | (walk_at "EC") | fail
  k_with "execs cons Return nil" => first | (walk_at "EC") | fail
  k_with "execs cons Return cons" => first | (walk_at "EC") | fail
  k_with "execs cons Expr nil" => first | (walk_at "EC") | fail
  k_with "execs cons Expr cons" => first | (walk_at "EC") | fail
  k_with "exec If Compare cons nil" => first | ((with_reducible refine wpAny_If ?_)) | fail
  k_with "spliced" => first | ((k_here; with_reducible first | refine args_cs ?_ | refine args_cn ?_ | refine args_ci ?_ | refine args_cb ?_)) | fail
  k_with "spliced" => first | ((k_here; (with_reducible show wpAny _ _ (spliced (backTo _ (starEach (Expr.Name _ _ :: _) (envOf _ _ _ _ _)))) _ _ _); k_dflt (refine' args_nm (by (k_asm; done)) (by (exact rfl; done)) ?_ (by rfl) (by rfl) (by decide)))) | fail
  k_with "call ref" => first | (((with_reducible show wpAny _ _ (call (Value.ref 105) _) _ _ _); refine Halt.out ?_)) | fail
  k_with "UnrEndW" => first | ((refine Halt.out ?_)) | fail
  k_with "exec For Tuple Name cons nil" => first | ((k_here; (rename Fr _ _ _ _ => lF'); (with_unfolding_all refine' For_turns lF' ?_; k_whole))) | fail
  k_with "PYITER" => first | ((k_here; (with_reducible show wpAny _ _ (pyIter (Value.ref _)) (fun it s₂ => TurnsAt _ _ _ _ _ _ _ _ _ it s₂) _ _); k_dflt (refine' iter_listTurns (by (rfl; done)) (by (k_asm; done)) (by (k_asm; done)) (by (k_mem; done)) (by (exact rfl; done)) (by (exact rfl; done)) ?_); (intro I' l1; refine Halt.out ?_))) | fail
  k_with "subscriptTail Name Name ref int" => first | ((k_here; walk_at "shSub"; k_dflt (refine' item_lst0 (by (k_asm; done)) (by (k_mem; done)) (by (exact rfl; done)) (by (decide; done)) (by (decide; done)) ?_ (by (with_unfolding_all rfl; done))))) | fail
  k_with "call ref" => first | (((with_reducible show wpAny _ _ (call (Value.ref 124) _) _ _ _); refine Halt.out ?_)) | fail
  k_with "UnrEnd" => first | ((refine Halt.out ?_)) | fail
  k_with "call type:range" => first | ((k_here; (with_reducible show wpAny _ _ (call (Value.type "range") [Value.int _ _]) _ _ _); (refine range1_rows (by k_asm) (by k_asm) ?_); intro h' tk' t' u' v' hr' F' N' hk')) | fail
  k_with "PYITER" => first | ((k_here; (with_reducible show wpAny _ _ (pyIter (Value.ref _)) (fun it s₂ => LoopAtV _ _ _ _ _ _ _ _ _ it s₂) _ _); (refine Halt.out ?_))) | fail
  k_with "UnrEnd" => first | ((refine Halt.out ?_)) | fail
  k_with "exec For Name Tuple cons nil" => first | ((refine Halt.out ?_)) | fail
  trivial







set_option maxRecDepth 100000 in
set_option maxHeartbeats 8000000 in
theorem level_loop {w : World} {loose : List Str} {mean : ExcName → Option Value} {mg mb : Str → Option Value} {L fa cd : Addr} {h₀ : Heap} {m : Str → Option Value} {s : Shared} {Q : Flow → Shared → Prop}
    {du ed0 ed1 ed2 el dl : Addr} {k nd ne : Nat} {oe0 oe1 oe2 oc oc1 : Obj} {vc : Option Value} {ds : List Value} {bs R : List (Addr × Obj)} {dr : List (Int × It)} {nv tv : Value}
    (K0 : Below callerA h₀ [] h₀) (F : Fr h₀ L s.heap m) (X : (Mine.hdE.heap_1_1 w.params).In h₀) (T : Top Mine.hdE.view_1_2 loose mean mg mb h₀)
    (N : News h₀ L s.heap ((du, listOf ([] : List Value).toArray k) :: (ed0, oe0) :: (ed1, oe1) :: (ed2, oe2) :: (L + 1 + 1, oc) :: R)) (hB : Bag bs R) (mdl : (dl, listOf ds.toArray nd) ∈ bs) (mel : (el, listOf [Value.ref ed0, Value.ref ed1, Value.ref ed2].toArray ne) ∈ bs) (mc1 : (L + 1, oc1) ∈ bs) (hc1 : oc1.data = .cell (some (.ref el)))
    (hc : oc.data = .cell vc) (hlo0 : (ed0 == sysModules) = false) (hlo1 : (ed1 == sysModules) = false) (hlo2 : (ed2 == sysModules) = false)
    (hb1 : ∀ p ∈ bs, p.1 ≠ du) (hbe0 : ∀ p ∈ bs, p.1 ≠ ed0) (hbe1 : ∀ p ∈ bs, p.1 ≠ ed1) (hbe2 : ∀ p ∈ bs, p.1 ≠ ed2) (hb3 : ∀ p ∈ bs, p.1 ≠ L + 1 + 1) (hdc : @Ne Nat du (L + 1 + 1)) (hec0 : @Ne Nat ed0 (L + 1 + 1)) (hec1 : @Ne Nat ed1 (L + 1 + 1)) (hec2 : @Ne Nat ed2 (L + 1 + 1))
    (e01 : @Ne Nat ed0 ed1) (e02 : @Ne Nat ed0 ed2) (e12 : @Ne Nat ed1 ed2)
    (D0 : oe0.IsDictOf (PySem.strKind PySem.Challenge.rw_sj0028_01.row.prog w) []) (D1 : oe1.IsDictOf (PySem.strKind PySem.Challenge.rw_sj0028_01.row.prog w) []) (D2 : oe2.IsDictOf (PySem.strKind PySem.Challenge.rw_sj0028_01.row.prog w) [])
    (hdr : DrawnIn R ds dr) (hok : ∀ p ∈ dr, p.2.ok) (hlen : dr.length ≤ 20)
    (f1 : m (Str.ofString "drawn") = some (.ref dl)) (f3 : m (Str.ofString "due") = some (.ref du)) (f4 : m (Str.ofString "notes") = some nv) (f5 : m (Str.ofString "tables") = some tv)
    (hret : ∀ dus' k' oe0 oe1 oe2 k0 k1 k2 oc' vc' R' m' h' tk', Fr h₀ L h' m' → News h₀ L h' ((du, listOf (dus' : List Value).toArray k') :: (ed0, oe0) :: (ed1, oe1) :: (ed2, oe2) :: (L + 1 + 1, oc') :: R') → Bag bs R' → SubT R R' → DueIn R' dus' (dueN dr 3) →
      oe0.IsDictOf (PySem.strKind PySem.Challenge.rw_sj0028_01.row.prog w) k0 → oe1.IsDictOf (PySem.strKind PySem.Challenge.rw_sj0028_01.row.prog w) k1 → oe2.IsDictOf (PySem.strKind PySem.Challenge.rw_sj0028_01.row.prog w) k2 →
      TabIn R' k0 (lawTab dr ((0 : Nat) : Int) names5) → TabIn R' k1 (lawTab dr ((1 : Nat) : Int) names5) → TabIn R' k2 (lawTab dr ((2 : Nat) : Int) names5) → oc'.data = .cell vc' → m' (Str.ofString "drawn") = some (.ref dl) → m' (Str.ofString "due") = some (.ref du) →
      m' (Str.ofString "notes") = some nv → m' (Str.ofString "tables") = some tv → Q .next { s with heap := h', toks := tk' }) :
    wpAny (model PySem.Challenge.rw_sj0028_01.row.prog w) (lawA L fa cd) (exec (nthS 11 lawB) (lawE L fa cd)) Q (fun _ _ => False) s := by
  w_top off
  unfold lawA lawE
  conv => pattern (nthS 11 lawB); whnf
  conv => pattern (occs := *) lawS <;> (whnf; zeta)
  have Fm := Fr.two F f1 f3
  clear Fm
  revert X
  k_fill
  intro X
  k_steps
  unfold Halt
  rename IsRange _ _ _ _ _ _ _ _ => hr9
  refine iter_rangeUnr (n := 3) (by rfl) hr9 (by decide) (by rfl) (by k_asm) (by k_asm) ?_
  intro I9 hlt9
  have hbI : ∀ p ∈ bs, p.1 ≠ I9 := fun p hp => lt_ne (hlt9 p (by (first | walk_at "MEM" | simp [hB.sub p hp])))
  have hcI : @Ne Nat (L + 1 + 1) I9 := lt_ne (hlt9 (L + 1 + 1, oc) (by first | walk_at "MEM" | simp))
  have hdI : @Ne Nat du I9 := lt_ne (hlt9 (du, listOf ([] : List Value).toArray k) (by first | walk_at "MEM" | simp))
  have i0 : @Ne Nat I9 ed0 := Ne.symm (lt_ne (hlt9 (ed0, oe0) (by first | walk_at "MEM" | simp)))
  have i1 : @Ne Nat I9 ed1 := Ne.symm (lt_ne (hlt9 (ed1, oe1) (by first | walk_at "MEM" | simp)))
  have i2 : @Ne Nat I9 ed2 := Ne.symm (lt_ne (hlt9 (ed2, oe2) (by first | walk_at "MEM" | simp)))
  refine range_ind (LJ w bs R du ed0 ed1 ed2 (L + 1 + 1) dl nv tv ds dr) ?h0 ?turn ?done
  case h0 => exact ⟨[], k, oe0, oe1, oe2, [], [], [], oc, vc, R, fun _ h => h, hB, fun _ h _ => h, hdr, .nil, D0, D1, D2, .nil, .nil, .nil, hc, f1, f3, f4, f5⟩
  case done =>
    intro m₁ nx h tk hJ F N
    k_sweep
    refine Cut.out ?_
    intro G9 hG9
    obtain ⟨dus', k', oe0', oe1', oe2', k0, k1, k2, oc', vc', R', hnx, hB', hS', hdr', hd', D0', D1', D2', T0, T1, T2, hc', g1, g3, g4, g5⟩ := hJ
    refine hG9 ?_
    clear hG9
    exact hret dus' k' oe0' oe1' oe2' k0 k1 k2 oc' vc' R' m₁ h tk F (fun p hp => N p (hnx p hp)) hB' hS' hd' D0' D1' D2' T0 T1 T2 hc' g1 g3 g4 g5
  case turn =>
    intro i t m₁ nx h tk hi3 hJ F N
    k_sweep
    refine Cut.out ?_
    intro G9 hG9
    obtain ⟨dus', k', oe0', oe1', oe2', k0, k1, k2, oc', vc', R', hnx, hB', hS', hdr', hd', D0', D1', D2', T0, T1, T2, hc', g1, g3, g4, g5⟩ := hJ
    refine hG9 ?_
    clear hG9
    replace N := fun p hp => N p (subCons hnx p hp)
    have hd9 := dueN_len hlen (i := i)
    have hdl9 : (dueN dr i).length ≤ 500 := by omega
    simp only [Int.zero_add] at F
    k_steps
    all_goals (unfold Halt)
    have ff : ∀ x v, x ≠ Str.ofString "level" → m₁ x = some v → (fun y => if y = Str.ofString "level" then some (Value.int (i : Int) t) else m₁ y) x = some v := fun x v hx hv => by dsimp only; rw [if_neg hx]; exact hv
    have hcase : i = 0 ∨ i = 1 ∨ i = 2 := by omega
    rcases hcase with rfl | rfl | rfl
    · have hBx := hB'.add3 (ed1, oe1') (ed2, oe2') (I9, itR (0 + (((0 : Nat) + 1 : Nat) : Int)) (((3 : Nat) : Int) - (((0 : Nat) + 1 : Nat) : Int)))
      refine names_loop (ed := ed0) (oe := oe0') (oc := oc') (vc := vc') (dus := dus') (k := k') (el := el) (dl := dl) (l := ((0 : Nat) : Int)) (tl := t) (oc1 := oc1) (ds := ds) (nd := nd) (es := [Value.ref ed0, Value.ref ed1, Value.ref ed2]) (ne := ne) (dr := dr) (due0 := dueN dr 0) (nv := nv) (tv := tv) K0 F X T (fun p hp => N p (by simp only [List.mem_cons] at hp; rcases hp with h | h | h | h | h | h | h <;> (first | (subst h; walk_at "MEM") | walk_at "MEM" | simp [h]))) hBx (by simp [mdl]) (by simp [mel]) (by simp [mc1]) hc1 rfl (by decide) (by decide) hc' hlo0 ?b1 ?b2 ?b3 hdc hec0 ?D (hdr'.monoT fun p hp _ => by (first | walk_at "MEM" | simp [hp])) hok hlen (hd'.monoT fun p hp _ => by (first | walk_at "MEM" | simp [hp])) hdl9 (ff _ _ (by decide) g1) (if_pos rfl) (ff _ _ (by decide) g3) (ff _ _ (by decide) g4) (ff _ _ (by decide) g5) ?_
      case b1 =>
        intro p hp
        simp only [List.mem_cons] at hp
        rcases hp with rfl | rfl | rfl | hp
        · exact ne_kind N (p := (ed1, oe1')) (by first | walk_at "MEM" | simp) (d := du) (o := listOf dus'.toArray k') (by first | walk_at "MEM" | simp) (by rw [dict_cls D1']; exact (show Value.type "dict" ≠ Value.type "list" by decide))
        · exact ne_kind N (p := (ed2, oe2')) (by first | walk_at "MEM" | simp) (d := du) (o := listOf dus'.toArray k') (by first | walk_at "MEM" | simp) (by rw [dict_cls D2']; exact (show Value.type "dict" ≠ Value.type "list" by decide))
        · exact Ne.symm hdI
        · exact hb1 p hp
      case b2 =>
        intro p hp
        simp only [List.mem_cons] at hp
        rcases hp with rfl | rfl | rfl | hp
        · exact (Ne.symm e01)
        · exact (Ne.symm e02)
        · exact i0
        · exact hbe0 p hp
      case b3 =>
        intro p hp
        simp only [List.mem_cons] at hp
        rcases hp with rfl | rfl | rfl | hp
        · exact hec1
        · exact hec2
        · exact Ne.symm hcI
        · exact hb3 p hp
      case D => cases T0; exact D0'
      intro dus9 kk9 oe9 k9 oc9 vc9 R9 m9 h9 tk9 F9 N9 hB9 hS9 hdr9 hd9' hD9 hT9 hc9 q1 q2 q3 q4 q5
      k_steps
      all_goals (unfold Halt)
      have inB9 : ∀ p ∈ (ed1, oe1') :: (ed2, oe2') :: (I9, itR (0 + (((0 : Nat) + 1 : Nat) : Int)) (((3 : Nat) : Int) - (((0 : Nat) + 1 : Nat) : Int))) :: bs, p ∈ (du, listOf dus9.toArray kk9) :: (ed0, oe9) :: (L + 1 + 1, oc9) :: R9 := fun p hp => by have := hB9.sub p hp; (first | walk_at "MEM" | simp [this])
      have up9 : SubT R' ((du, listOf dus9.toArray kk9) :: (ed0, oe9) :: (L + 1 + 1, oc9) :: R9) := fun p hp ht => by have := hS9 p (by (first | walk_at "MEM" | simp [hp])) ht; (first | walk_at "MEM" | simp [this])
      have hT9' : TabIn ((du, listOf dus9.toArray kk9) :: (ed0, oe9) :: (L + 1 + 1, oc9) :: R9) k9 (lawTab dr ((0 : Nat) : Int) names5) := hT9.monoT fun p hp _ => by (first | walk_at "MEM" | simp [hp])
      exact lj_end (w := w) (i := 0) (by k_asm) (by k_asm) (inB9 (I9, itR (0 + (((0 : Nat) + 1 : Nat) : Int)) (((3 : Nat) : Int) - (((0 : Nat) + 1 : Nat) : Int))) (by first | walk_at "MEM" | simp)) List.mem_cons_self (List.mem_cons_of_mem _ List.mem_cons_self) (inB9 (ed1, oe1') (by first | walk_at "MEM" | simp)) (inB9 (ed2, oe2') (by first | walk_at "MEM" | simp)) (List.mem_cons_of_mem _ (List.mem_cons_of_mem _ List.mem_cons_self)) (fun p hp => inB9 p (by (first | walk_at "MEM" | simp [hp]))) (fun p hp ht => up9 p (hS' p hp ht) ht) rfl hbI hcI (hdr9.monoT fun p hp _ => by (first | walk_at "MEM" | simp [hp])) (hd9'.monoT fun p hp _ => by (first | walk_at "MEM" | simp [hp])) hD9 D1' D2' hT9' (T1.monoT up9) (T2.monoT up9) hc9 q1 q3 q4 q5
    · have hBx := hB'.add3 (ed0, oe0') (ed2, oe2') (I9, itR (0 + (((1 : Nat) + 1 : Nat) : Int)) (((3 : Nat) : Int) - (((1 : Nat) + 1 : Nat) : Int)))
      refine names_loop (ed := ed1) (oe := oe1') (oc := oc') (vc := vc') (dus := dus') (k := k') (el := el) (dl := dl) (l := ((1 : Nat) : Int)) (tl := t) (oc1 := oc1) (ds := ds) (nd := nd) (es := [Value.ref ed0, Value.ref ed1, Value.ref ed2]) (ne := ne) (dr := dr) (due0 := dueN dr 1) (nv := nv) (tv := tv) K0 F X T (fun p hp => N p (by simp only [List.mem_cons] at hp; rcases hp with h | h | h | h | h | h | h <;> (first | (subst h; walk_at "MEM") | walk_at "MEM" | simp [h]))) hBx (by simp [mdl]) (by simp [mel]) (by simp [mc1]) hc1 rfl (by decide) (by decide) hc' hlo1 ?b1 ?b2 ?b3 hdc hec1 ?D (hdr'.monoT fun p hp _ => by (first | walk_at "MEM" | simp [hp])) hok hlen (hd'.monoT fun p hp _ => by (first | walk_at "MEM" | simp [hp])) hdl9 (ff _ _ (by decide) g1) (if_pos rfl) (ff _ _ (by decide) g3) (ff _ _ (by decide) g4) (ff _ _ (by decide) g5) ?_
      case b1 =>
        intro p hp
        simp only [List.mem_cons] at hp
        rcases hp with rfl | rfl | rfl | hp
        · exact ne_kind N (p := (ed0, oe0')) (by first | walk_at "MEM" | simp) (d := du) (o := listOf dus'.toArray k') (by first | walk_at "MEM" | simp) (by rw [dict_cls D0']; exact (show Value.type "dict" ≠ Value.type "list" by decide))
        · exact ne_kind N (p := (ed2, oe2')) (by first | walk_at "MEM" | simp) (d := du) (o := listOf dus'.toArray k') (by first | walk_at "MEM" | simp) (by rw [dict_cls D2']; exact (show Value.type "dict" ≠ Value.type "list" by decide))
        · exact Ne.symm hdI
        · exact hb1 p hp
      case b2 =>
        intro p hp
        simp only [List.mem_cons] at hp
        rcases hp with rfl | rfl | rfl | hp
        · exact e01
        · exact (Ne.symm e12)
        · exact i1
        · exact hbe1 p hp
      case b3 =>
        intro p hp
        simp only [List.mem_cons] at hp
        rcases hp with rfl | rfl | rfl | hp
        · exact hec0
        · exact hec2
        · exact Ne.symm hcI
        · exact hb3 p hp
      case D => cases T1; exact D1'
      intro dus9 kk9 oe9 k9 oc9 vc9 R9 m9 h9 tk9 F9 N9 hB9 hS9 hdr9 hd9' hD9 hT9 hc9 q1 q2 q3 q4 q5
      k_steps
      all_goals (unfold Halt)
      have inB9 : ∀ p ∈ (ed0, oe0') :: (ed2, oe2') :: (I9, itR (0 + (((1 : Nat) + 1 : Nat) : Int)) (((3 : Nat) : Int) - (((1 : Nat) + 1 : Nat) : Int))) :: bs, p ∈ (du, listOf dus9.toArray kk9) :: (ed1, oe9) :: (L + 1 + 1, oc9) :: R9 := fun p hp => by have := hB9.sub p hp; (first | walk_at "MEM" | simp [this])
      have up9 : SubT R' ((du, listOf dus9.toArray kk9) :: (ed1, oe9) :: (L + 1 + 1, oc9) :: R9) := fun p hp ht => by have := hS9 p (by (first | walk_at "MEM" | simp [hp])) ht; (first | walk_at "MEM" | simp [this])
      have hT9' : TabIn ((du, listOf dus9.toArray kk9) :: (ed1, oe9) :: (L + 1 + 1, oc9) :: R9) k9 (lawTab dr ((1 : Nat) : Int) names5) := hT9.monoT fun p hp _ => by (first | walk_at "MEM" | simp [hp])
      exact lj_end (w := w) (i := 1) (by k_asm) (by k_asm) (inB9 (I9, itR (0 + (((1 : Nat) + 1 : Nat) : Int)) (((3 : Nat) : Int) - (((1 : Nat) + 1 : Nat) : Int))) (by first | walk_at "MEM" | simp)) List.mem_cons_self (inB9 (ed0, oe0') (by first | walk_at "MEM" | simp)) (List.mem_cons_of_mem _ List.mem_cons_self) (inB9 (ed2, oe2') (by first | walk_at "MEM" | simp)) (List.mem_cons_of_mem _ (List.mem_cons_of_mem _ List.mem_cons_self)) (fun p hp => inB9 p (by (first | walk_at "MEM" | simp [hp]))) (fun p hp ht => up9 p (hS' p hp ht) ht) rfl hbI hcI (hdr9.monoT fun p hp _ => by (first | walk_at "MEM" | simp [hp])) (hd9'.monoT fun p hp _ => by (first | walk_at "MEM" | simp [hp])) D0' hD9 D2' (T0.monoT up9) hT9' (T2.monoT up9) hc9 q1 q3 q4 q5
    · have hBx := hB'.add3 (ed0, oe0') (ed1, oe1') (I9, itR (0 + (((2 : Nat) + 1 : Nat) : Int)) (((3 : Nat) : Int) - (((2 : Nat) + 1 : Nat) : Int)))
      refine names_loop (ed := ed2) (oe := oe2') (oc := oc') (vc := vc') (dus := dus') (k := k') (el := el) (dl := dl) (l := ((2 : Nat) : Int)) (tl := t) (oc1 := oc1) (ds := ds) (nd := nd) (es := [Value.ref ed0, Value.ref ed1, Value.ref ed2]) (ne := ne) (dr := dr) (due0 := dueN dr 2) (nv := nv) (tv := tv) K0 F X T (fun p hp => N p (by simp only [List.mem_cons] at hp; rcases hp with h | h | h | h | h | h | h <;> (first | (subst h; walk_at "MEM") | walk_at "MEM" | simp [h]))) hBx (by simp [mdl]) (by simp [mel]) (by simp [mc1]) hc1 rfl (by decide) (by decide) hc' hlo2 ?b1 ?b2 ?b3 hdc hec2 ?D (hdr'.monoT fun p hp _ => by (first | walk_at "MEM" | simp [hp])) hok hlen (hd'.monoT fun p hp _ => by (first | walk_at "MEM" | simp [hp])) hdl9 (ff _ _ (by decide) g1) (if_pos rfl) (ff _ _ (by decide) g3) (ff _ _ (by decide) g4) (ff _ _ (by decide) g5) ?_
      case b1 =>
        intro p hp
        simp only [List.mem_cons] at hp
        rcases hp with rfl | rfl | rfl | hp
        · exact ne_kind N (p := (ed0, oe0')) (by first | walk_at "MEM" | simp) (d := du) (o := listOf dus'.toArray k') (by first | walk_at "MEM" | simp) (by rw [dict_cls D0']; exact (show Value.type "dict" ≠ Value.type "list" by decide))
        · exact ne_kind N (p := (ed1, oe1')) (by first | walk_at "MEM" | simp) (d := du) (o := listOf dus'.toArray k') (by first | walk_at "MEM" | simp) (by rw [dict_cls D1']; exact (show Value.type "dict" ≠ Value.type "list" by decide))
        · exact Ne.symm hdI
        · exact hb1 p hp
      case b2 =>
        intro p hp
        simp only [List.mem_cons] at hp
        rcases hp with rfl | rfl | rfl | hp
        · exact e02
        · exact e12
        · exact i2
        · exact hbe2 p hp
      case b3 =>
        intro p hp
        simp only [List.mem_cons] at hp
        rcases hp with rfl | rfl | rfl | hp
        · exact hec0
        · exact hec1
        · exact Ne.symm hcI
        · exact hb3 p hp
      case D => cases T2; exact D2'
      intro dus9 kk9 oe9 k9 oc9 vc9 R9 m9 h9 tk9 F9 N9 hB9 hS9 hdr9 hd9' hD9 hT9 hc9 q1 q2 q3 q4 q5
      k_steps
      all_goals (unfold Halt)
      have inB9 : ∀ p ∈ (ed0, oe0') :: (ed1, oe1') :: (I9, itR (0 + (((2 : Nat) + 1 : Nat) : Int)) (((3 : Nat) : Int) - (((2 : Nat) + 1 : Nat) : Int))) :: bs, p ∈ (du, listOf dus9.toArray kk9) :: (ed2, oe9) :: (L + 1 + 1, oc9) :: R9 := fun p hp => by have := hB9.sub p hp; (first | walk_at "MEM" | simp [this])
      have up9 : SubT R' ((du, listOf dus9.toArray kk9) :: (ed2, oe9) :: (L + 1 + 1, oc9) :: R9) := fun p hp ht => by have := hS9 p (by (first | walk_at "MEM" | simp [hp])) ht; (first | walk_at "MEM" | simp [this])
      have hT9' : TabIn ((du, listOf dus9.toArray kk9) :: (ed2, oe9) :: (L + 1 + 1, oc9) :: R9) k9 (lawTab dr ((2 : Nat) : Int) names5) := hT9.monoT fun p hp _ => by (first | walk_at "MEM" | simp [hp])
      exact lj_end (w := w) (i := 2) (by k_asm) (by k_asm) (inB9 (I9, itR (0 + (((2 : Nat) + 1 : Nat) : Int)) (((3 : Nat) : Int) - (((2 : Nat) + 1 : Nat) : Int))) (by first | walk_at "MEM" | simp)) List.mem_cons_self (inB9 (ed0, oe0') (by first | walk_at "MEM" | simp)) (inB9 (ed1, oe1') (by first | walk_at "MEM" | simp)) (List.mem_cons_of_mem _ List.mem_cons_self) (List.mem_cons_of_mem _ (List.mem_cons_of_mem _ List.mem_cons_self)) (fun p hp => inB9 p (by (first | walk_at "MEM" | simp [hp]))) (fun p hp ht => up9 p (hS' p hp ht) ht) rfl hbI hcI (hdr9.monoT fun p hp _ => by (first | walk_at "MEM" | simp [hp])) (hd9'.monoT fun p hp _ => by (first | walk_at "MEM" | simp [hp])) D0' D1' hD9 (T0.monoT up9) (T1.monoT up9) hT9' hc9 q1 q3 q4 q5
end
section
section
open PyProof.Rows.LCg PyProof.Rows.LCp
variable {prog : Program} {w : World} {A : Around} {E : Value → Shared → Prop} {s : Shared} {h₀ : Heap} {L : Addr} {m : Str → Option Value} {env : Env}
/-- a comprehension whose target is three names, over a list of triples that lies in the ledger: what is still to come -/
noncomputable def Rest3 (prog : Program) (w : World) (A : Around) (h₀ : Heap) (L : Addr) (m : Str → Option Value) (env : Env) (elt : PySem.Expr) (x y z : Str) (scope : Scope) (cl : List (Str × Addr)) (s : Shared) (S : List (Addr × Obj) → Prop) (P : Nat → Value → Prop)
    (Fin : List Value → List (Addr × Obj) → Prop) : Nat → Nat → List Value → List (Addr × Obj) → Prop
  | 0, _, ys, news => Fin ys news
  | k + 1, i, ys, news => ∀ v, P i v → ∃ (t : Addr) (v₁ v₂ v₃ : Value), v = .ref t ∧ (t, Mine.tup [v₁, v₂, v₃]) ∈ news ∧
      ∀ I oI C oC D m₂ h tk (E' : Value → Shared → Prop), NsObj oC m₂ → m₂ x = some v₁ → m₂ y = some v₂ → m₂ z = some v₃ → Fr h₀ L h m → News h₀ L h ((I, oI) :: (C, oC) :: (D, lst ys) :: news) → Off3 I C D news → ((@Ne Nat I C) ∧ (@Ne Nat I D) ∧ (@Ne Nat C D)) →
        wpAny (model prog w) A (eval elt (compEnvC scope cl C env)) (CompEnd h₀ L m { s with heap := h, toks := tk } I oI C oC D (lst ys) S (fun u news' => Rest3 prog w A h₀ L m env elt x y z scope cl s S P Fin k (i + 1) (ys ++ [u]) news')) E' { s with heap := h, toks := tk }
theorem exPred {n i : Nat} (h : i < n) : ∃ j, n - i = j + 1 := ⟨n - i - 1, by omega⟩
theorem meas1 {n i : Nat} (h : i < n) : n + 1 - (i + 1) < n + 1 - i := by omega
theorem subPred {n i j : Nat} (h : n - i = j + 1) : n - (i + 1) = j := by omega
theorem block3 {elt iter : PySem.Expr} {x y z : Str} {px py pz tp : Pos} {kk : Nat} {scope : Scope} {cl : List (Str × Addr)} {pos : Pos} {s₂ : Shared} {I ax : Addr} {its : Array Value} {S : List (Addr × Obj) → Prop} {news : List (Addr × Obj)}
    {Fin : List Value → List (Addr × Obj) → Prop} {RR : Value → Addr → Result → Shared → Prop}
    (hh : A.handled = none) (hne : ax ≠ I) (hsz : its.size ≤ sizeLine) (hit : s₂.heap.IsListIter I ax 0) (hSl : ∀ h' nw, (∀ b o, h₀.get? b = some o → h'.get? b = some o) → News h₀ L h' nw → S nw → h'.IsList ax its)
    (hcell : ∀ q ∈ scope.names, q.2 ≠ .cell) (hkind : scope.kind = .function) (hx : scope.names.lookup x = some .local) (hy : scope.names.lookup y = some .local) (hz : scope.names.lookup z = some .local) (hxy : x ≠ y) (hxz : x ≠ z) (hyz : y ≠ z)
    (F : Fr h₀ L s₂.heap m) (N : News h₀ L s₂.heap news) (hIL : L ≠ I) (hI₀ : h₀.get? I = none) (off : ∀ p ∈ news, p.1 ≠ I) (hS : S news)
    (R : Rest3 prog w A h₀ L m env elt x y z scope cl s₂ S (fun i v => its[i]? = some v) Fin its.size 0 [] news)
    (hRR : ∀ D C h tk m' ys news', Fr h₀ L h m → News h₀ L h ((D, lst ys) :: news') → Off1 D news' → h.Ns C m' → h₀.get? C = none → h₀.get? D = none → C ≠ L → D ≠ L → C ≠ D → (∀ p ∈ news', p.1 ≠ C) → Fin ys news' → RR (.ref D) C (.ok .next) { s₂ with heap := h, toks := tk }) :
    wpAny (model prog w) A (newList []) (fun acc s₃ => wpAny (model prog w) A (newFunctionEnv scope env.globals cl [] env.qual none .none (some env)) (fun cenv s₄ =>
      codeAny (model prog w) A (.compStart (.ListComp elt [⟨.Tuple [.Name x px, .Name y py, .Name z pz] kk tp, iter, [], 0⟩] scope pos) 0 (.ref I) acc { cenv with scope := relabel scope env }) (RR acc cenv.locals) s₄) E s₃) E s₂ := by
  refine wpAny_newObj_type (wpAny_newFunctionEnv hcell (by intro q hq; simp at hq) (fun h₁ hns₁ hsb₁ => ?_) hkind)
  dsimp only at hns₁ hsb₁ ⊢
  generalize hH : s₂.heap.push { cls := .type "list", dict := none, data := .seq ([] : List Value).toArray } = H at hns₁ hsb₁ ⊢
  generalize hDd : s₂.heap.objs.size = D at *
  have hC : H.objs.size = D + 1 := by rw [← hH, Heap.size_push, hDd]
  generalize hCc : H.objs.size = C at *
  have hDC : D ≠ C := by rw [hC]; exact Nat.ne_of_lt (Nat.lt_succ_self _)
  have lt2 : ∀ b o, s₂.heap.get? b = some o → b ≠ C ∧ b ≠ D := fun b o e => by
    have hb : b < D := hDd ▸ Heap.lt_size e
    exact ⟨by rw [hC]; exact Nat.ne_of_lt (Nat.lt_succ_of_lt hb), Nat.ne_of_lt hb⟩
  have old : ∀ b o, s₂.heap.get? b = some o → h₁.get? b = some o := fun b o e => hsb₁.extBut b o (lt2 b o e).1 (Heap.get?_push_of_some _ (hH ▸ Heap.get?_push_of_some _ e))
  have hacc : h₁.get? D = some (lst []) := hsb₁.extBut _ _ hDC (Heap.get?_push_of_some _ (hDd ▸ hH ▸ Heap.get?_push_size _ rfl))
  have none₀ : ∀ a, D ≤ a → h₀.get? a = none := fun a ha => by
    cases e : h₀.get? a with
    | none => rfl
    | some o => exact absurd (Heap.lt_size (F.keep a o e)) (Nat.not_lt.mpr (hDd ▸ ha))
  have hD₀ : h₀.get? D = none := none₀ _ (Nat.le_refl _)
  have hC₀ : h₀.get? C = none := none₀ _ (by rw [hC]; exact Nat.le_succ _)
  have hLlt : L < D := hDd ▸ F.ns.lt
  have hDL : D ≠ L := Ne.symm (Nat.ne_of_lt hLlt)
  have hCL : C ≠ L := by rw [hC]; exact Ne.symm (Nat.ne_of_lt (Nat.lt_succ_of_lt hLlt))
  obtain ⟨oI₀, hoI₀, rI₀⟩ := id hit
  have hCI : I ≠ C := (lt2 I _ hoI₀).1
  have hDI : I ≠ D := (lt2 I _ hoI₀).2
  have hl₀ := hSl _ _ F.keep N hS
  have off₀ : Off3 I C D news := Off3.of fun p hp => ⟨off p hp, (lt2 _ _ (N p hp).1).1, (lt2 _ _ (N p hp).1).2⟩
  have W := Walks.list (prog := prog) (w := w) hh I ax hne its
  have loop : ∀ s₃ : Shared, s₃ = { s₂ with heap := h₁, toks := s₂.toks + ([] : List (Str × Value)).length } →
      codeAny (model prog w) A (.compLoop (.ListComp elt [⟨.Tuple [.Name x px, .Name y py, .Name z pz] kk tp, iter, [], 0⟩] scope pos) 0 (.ref I) (.ref D) (compEnvC scope cl C env)) (RR (.ref D) C) s₃ := by
    rintro s₃ rfl
    refine codeAny_compLoop_pair
      (fun k s' => ∃ h' tk i ys m' news', s' = { s₂ with heap := h', toks := tk } ∧ i ≤ its.size ∧ k = its.size + 1 - i ∧ ys.length = i ∧ h'.IsListIter I ax i ∧ Fr h₀ L h' m ∧ h'.Ns C m' ∧ News h₀ L h' ((D, lst ys) :: news') ∧
        Off3 I C D news' ∧ S news' ∧ Rest3 prog w A h₀ L m env elt x y z scope cl s₂ S (fun i v => its[i]? = some v) Fin (its.size - i) i ys news') ?_ (its.size + 1)
      ⟨h₁, _, 0, [], _, news, rfl, Nat.zero_le _, rfl, rfl, ⟨oI₀, old _ _ hoI₀, rI₀⟩, F.keeps old, hns₁, fun p hp => ?_, off₀, hS, R⟩
    · intro k s' hJ8
      refine Cut.out ?_
      intro G9 hG9
      obtain ⟨h', tk, i, ys, m', news', rfl, hi, rfl, hyl, hit', F', hn', N', off', hS', R'⟩ := hJ8
      refine hG9 ?_
      clear hG9
      have N'' : News h₀ L h' news' := fun p hp => N' p (List.mem_cons_of_mem _ hp)
      have hst' : h'.IsListIter I ax i ∧ h'.IsList ax its := ⟨hit', hSl _ _ F'.keep N'' hS'⟩
      have off3 := off'.mem
      by_cases hlt : i < its.size
      · obtain ⟨j, hj⟩ := exPred hlt
        rw [hj] at R'
        refine W.item i _ _ _ hlt hst' fun v h₂ tk₂ hPv hst₂ hk₂ => ?_
        refine Cut.out ?_
        intro G9 hG9
        obtain ⟨t, v₁, v₂, v₃, rfl, hmt, R''⟩ := R' v hPv
        refine hG9 ?_
        clear hG9
        have N₂ : News h₀ L h₂ ((D, lst ys) :: news') := news_but N' hk₂ fun p hp => by
          rcases List.mem_cons.mp hp with rfl | hp
          · exact Ne.symm hDI
          · exact (off3 p hp).1
        have ht : IsTup h₂ t #[v₁, v₂, v₃] := ⟨_, (N₂ _ (List.mem_cons_of_mem _ hmt)).1, rfl, _, rfl⟩
        refine wpAny_letOwnedTupleGo_listiter hst₂.1 ?_
        refine assign_Tuple_tuple hh ht rfl rfl fun h₃ he => ?_
        have e₃ : ∀ b o, h₂.get? b = some o → h₃.get? b = some o := fun b o e => he b o (Nat.ne_of_lt (Heap.lt_size e)) e
        have nC : h₃.Ns C m' := (hn'.at' fun o e => hk₂ _ o (by simpa using Ne.symm hCI) e).at' fun o e => e₃ _ o e
        refine assignInOrder_cons (wpAny_assign_Name (wpAny_storeName_local (lookup_relabel_local hx) nC (fun h₄ n₄ s₄ => ?_) (by simp [compEnvC, relabel, hkind])))
        refine assignInOrder_cons (wpAny_assign_Name (wpAny_storeName_local (lookup_relabel_local hy) n₄ (fun h₅ n₅ s₅ => ?_) (by simp [compEnvC, relabel, hkind])))
        refine assignInOrder_cons (wpAny_assign_Name (wpAny_storeName_local (lookup_relabel_local hz) n₅ (fun h₆ n₆ s₆ => ?_) (by simp [compEnvC, relabel, hkind])))
        refine assignInOrder_nil ?_
        have e₆ : ∀ b o, b ≠ C → h₂.get? b = some o → h₆.get? b = some o := fun b o hb e => s₆.extBut b o hb (s₅.extBut b o hb (s₄.extBut b o hb (e₃ b o e)))
        obtain ⟨oI, hoI, rI⟩ := hst₂.1
        have hoI₆ := e₆ _ _ hCI hoI
        obtain ⟨oC, heC, hoC⟩ := ns_obj n₆
        have F₆ : Fr h₀ L h₆ m := ((((fr_but F' hk₂ hIL hI₀).keeps e₃).change s₄ hCL hC₀).change s₅ hCL hC₀).change s₆ hCL hC₀
        have N₆ : News h₀ L h₆ ((I, oI) :: (C, oC) :: (D, lst ys) :: news') := fun p hp => by
          rcases List.mem_cons.mp hp with rfl | hp
          · exact ⟨hoI₆, Ne.symm hIL, hI₀⟩
          · rcases List.mem_cons.mp hp with rfl | hp
            · exact ⟨heC, hCL, hC₀⟩
            · have u := N₂ p hp
              refine ⟨e₆ _ _ ?_ u.1, u.2⟩
              rcases List.mem_cons.mp hp with rfl | hp
              · exact hDC
              · exact (off3 p hp).2.1
        refine wpAny_mono (R'' I oI C oC D _ h₆ _ _ hoC (by simp [hxy, hxz]) (by simp [hyz]) (by simp) F₆ N₆ off' ⟨hCI, hDI, Ne.symm hDC⟩) (fun u s₄ h₄ => ?_) fun _ _ e => e
        obtain ⟨h₇, tk₇, news₇, rfl, F₇, N₇, off₇, hS₇, R₇⟩ := h₄
        have zI := (N₇ (I, oI) List.mem_cons_self).1
        have zC := (N₇ (C, oC) (List.mem_cons_of_mem _ List.mem_cons_self)).1
        have zD := (N₇ (D, lst ys) (List.mem_cons_of_mem _ (List.mem_cons_of_mem _ List.mem_cons_self))).1
        have N₇' : News h₀ L h₇ news₇ := fun p hp => N₇ p (List.mem_cons_of_mem _ (List.mem_cons_of_mem _ (List.mem_cons_of_mem _ hp)))
        refine append_at (hsz := by show ys.toArray.size ≤ sizeLine; rw [List.size_toArray, hyl]; exact Nat.le_trans hi hsz) zD fun h₈ s₈ hD₈ => ?_
        have off4 := off₇.mem
        refine ⟨its.size + 1 - (i + 1), meas1 hlt, h₈, tk₇, i + 1, ys ++ [u], _, news₇, rfl, hlt, rfl, by rw [List.length_append, List.length_singleton, hyl], ⟨oI, s₈.extBut _ _ hDI zI, rI⟩, F₇.change s₈ hDL hD₀, (hoC.ns zC).sameBut s₈ (Ne.symm hDC), fun p hp => ?_, off₇, hS₇, ?_⟩
        · rcases List.mem_cons.mp hp with rfl | hp
          · exact ⟨hD₈.trans (congrArg some (lst_snoc ys u)), hDL, hD₀⟩
          · exact ⟨s₈.extBut _ _ (off4 p hp).2.2 (N₇' p hp).1, (N₇' p hp).2⟩
        · rw [subPred hj]
          exact R₇
      · obtain rfl : i = its.size := Nat.le_antisymm hi (Nat.not_lt.mp hlt)
        rw [Nat.sub_self] at R'
        refine W.done _ _ _ hst' fun h₂ tk₂ hk₂ => ?_
        exact hRR _ _ h₂ tk₂ _ ys news' (fr_but F' hk₂ hIL hI₀) (news_but N' hk₂ fun p hp => by
          rcases List.mem_cons.mp hp with rfl | hp
          · exact Ne.symm hDI
          · exact (off3 p hp).1) off'.one (hn'.at' fun o e => hk₂ _ o (by simpa using Ne.symm hCI) e) hC₀ hD₀ hCL hDL (Ne.symm hDC) (fun p hp => (off3 p hp).2.1) R'
    · rcases List.mem_cons.mp hp with rfl | hp
      · exact ⟨hacc, hDL, hD₀⟩
      · exact ⟨old _ _ (N p hp).1, (N p hp).2⟩
  exact codeAny_compStart_list (loop _ rfl) (W.self 0 _ _ _ ⟨⟨oI₀, old _ _ hoI₀, rI₀⟩, hSl _ _ (F.keeps old).keep (N.grown old) hS⟩ (loop _ rfl))
def Src3 (prog : Program) (w : World) (A : Around) (h₀ : Heap) (L : Addr) (m : Str → Option Value) (env : Env) (elt : PySem.Expr) (x y z : Str) (scope : Scope) (cl : List (Str × Addr)) (Fin : Shared → List Value → List (Addr × Obj) → Prop) (xv : Value) (s₁ : Shared) : Prop :=
  ∃ ax its news, xv = .ref ax ∧ A.handled = none ∧ Fr h₀ L s₁.heap m ∧ News h₀ L s₁.heap news ∧ SrcAt h₀ ax its news ∧ its.size ≤ sizeLine ∧
    ∀ s₂ : Shared, (∃ h, s₂ = { s₁ with heap := h }) → Rest3 prog w A h₀ L m env elt x y z scope cl s₂ (SrcAt h₀ ax its) (fun i v => its[i]? = some v) (Fin s₂) its.size 0 [] news
theorem ListComp_3 {elt iter : PySem.Expr} {x y z : Str} {px py pz tp : Pos} {kk : Nat} {scope : Scope} {cl : List (Str × Addr)} {pos : Pos} {Q : Value → Shared → Prop} (_ : Fr h₀ L s.heap m)
    (hclos : closureFor scope env = pure cl) (hcell : ∀ q ∈ scope.names, q.2 ≠ .cell) (hkind : scope.kind = .function)
    (hnames : ∀ q ∈ scope.names, q.2 = .local → scope.names.lookup q.1 = some .local) (hx : scope.names.lookup x = some .local) (hy : scope.names.lookup y = some .local) (hz : scope.names.lookup z = some .local) (hxy : x ≠ y) (hxz : x ≠ z) (hyz : y ≠ z)
    (h : wpAny (model prog w) A (eval iter env) (Src3 prog w A h₀ L m env elt x y z scope cl (fun s₂ => FinE h₀ L m s₂ Q)) E s)
    (hs : ∀ q, foldedSetIterable iter env q = pure q := by intro _; rfl) :
    wpAny (model prog w) A (eval (.ListComp elt [⟨.Tuple [.Name x px, .Name y py, .Name z pz] kk tp, iter, [], 0⟩] scope pos) env) Q E s := by
  rw [eval_ListComp]
  refine wpAny_comprehension_free (use := none) rfl hs hclos hkind hnames (wpAny_mono h (fun xv s₁ h₁ => ?_) fun _ _ e => e)
  obtain ⟨ax, its, news, rfl, hh, F, N, S, hsz, R⟩ := h₁
  have hl := S.list F.keep N
  have hlt : ax < s₁.heap.objs.size := by obtain ⟨_, e, _⟩ := hl; exact Heap.lt_size e
  refine wpAny_pyIter_list hl ?_
  have up : ∀ b o, s₁.heap.get? b = some o → (s₁.heap.push { cls := .type "list_iterator", data := .fields #[.ref ax, .int 0 0] }).get? b = some o := fun b o e => Heap.get?_push_of_some _ e
  refine block3 hh (Nat.ne_of_lt hlt) hsz ⟨_, Heap.get?_push_size _ rfl, rfl, rfl⟩ (fun h' nw k' N' S' => S'.list k' N') hcell hkind hx hy hz hxy hxz hyz (F.keeps up) (N.grown up) (Nat.ne_of_lt F.ns.lt) (next_is_new F) (fun p hp => Nat.ne_of_lt (Heap.lt_size (N p hp).1)) S (R _ ⟨_, rfl⟩) ?_
  · intro D C h tk m' ys news' F' N' o1 hn hC₀ hD₀ hCL hDL hCD offC fin
    refine ⟨m', hn, fun h'' hs'' => fin D h'' tk (F'.change hs'' hCL hC₀) (fun p hp => ?_) o1⟩
    refine ⟨hs''.extBut _ _ ?_ (N' p hp).1, (N' p hp).2⟩
    rcases List.mem_cons.mp hp with rfl | hp
    · exact Ne.symm hCD
    · exact offC p hp
end
end
section
section
/-- every way of a sort's tree, when the comparisons answer by the keys -/
noncomputable def TreeOk {α : Type} (n : Nat) (key : Nat → Int) : KasT α → (α → Prop) → Prop
  | .ret a, G => G a
  | .ask i j k, G => i < n ∧ j < n ∧ i ≠ j ∧ TreeOk n key (k (decide (key i < key j))) G
theorem TreeOk.mono {α : Type} {n : Nat} {key : Nat → Int} {G G' : α → Prop} (hg : ∀ a, G a → G' a) : ∀ {t : KasT α}, TreeOk n key t G → TreeOk n key t G'
  | .ret a, h => hg a h
  | .ask i j k, ⟨h1, h2, h3, h⟩ => ⟨h1, h2, h3, TreeOk.mono hg h⟩
theorem TreeOk.bind {α β : Type} {n : Nat} {key : Nat → Int} {f : α → KasT β} {G : β → Prop} : ∀ {t : KasT α}, TreeOk n key t (fun a => TreeOk n key (f a) G) → TreeOk n key (t.bind f) G
  | .ret a, h => h
  | .ask i j k, ⟨h1, h2, h3, h⟩ => ⟨h1, h2, h3, TreeOk.bind h⟩
theorem TreeOk.wp {α : Type} {n : Nat} {key : Nat → Int} {cmp : Nat → Nat → (Bool → Shared → Prop) → Shared → Prop} {G : α → Prop} {Q : α → Shared → Prop} {s : Shared} (hc : ∀ i j C, i < n → j < n → i ≠ j → C (decide (key i < key j)) s → cmp i j C s) (hq : ∀ a, G a → Q a s) :
    ∀ {t : KasT α}, TreeOk n key t G → t.kasWp cmp Q s
  | .ret a, h => hq a h
  | .ask i j k, ⟨h1, h2, h3, h⟩ => hc i j _ h1 h2 h3 (TreeOk.wp hc hq h)
variable {n : Nat} {key : Nat → Int}
noncomputable abbrev gd (p : Array Nat) (i : Nat) : Nat := p.getD i 0
def Prm (n : Nat) (p : Array Nat) : Prop := p.toList.Perm (List.range n)
theorem Prm.size {p : Array Nat} (h : Prm n p) : p.size = n := by
  have := h.length_eq
  simpa using this
theorem gd_eq {p : Array Nat} {i : Nat} (h : i < p.size) : gd p i = p[i] := by simp [gd, Array.getD, h]
theorem Prm.lt {p : Array Nat} (h : Prm n p) {i : Nat} (hi : i < n) : gd p i < n := by
  have hs : i < p.size := by rw [h.size]; exact hi
  rw [gd_eq hs]
  have : p[i] ∈ p.toList := by simp
  simpa using h.mem_iff.mp this
theorem Prm.ne {p : Array Nat} (h : Prm n p) {i j : Nat} (hi : i < n) (hj : j < n) (hij : i ≠ j) : gd p i ≠ gd p j := by
  have hsi : i < p.size := by rw [h.size]; exact hi
  have hsj : j < p.size := by rw [h.size]; exact hj
  rw [gd_eq hsi, gd_eq hsj]
  have nd : p.toList.Nodup := h.nodup_iff.mpr List.nodup_range
  have pw := List.pairwise_iff_getElem.mp nd
  rcases Nat.lt_or_gt_of_ne hij with h1 | h1
  · have := pw i j (by simpa using hsi) (by simpa using hsj) h1
    simpa using this
  · have := pw j i (by simpa using hsj) (by simpa using hsi) h1
    intro e
    exact this (by simpa using e.symm)
def Inj (n : Nat) (key : Nat → Int) : Prop := ∀ i j, i < n → j < n → i ≠ j → key i ≠ key j
def Asc (key : Nat → Int) (p : Array Nat) (k : Nat) : Prop := ∀ i j, i < j → j < k → key (gd p i) < key (gd p j)
def Dsc (key : Nat → Int) (p : Array Nat) (k : Nat) : Prop := ∀ i j, i < j → j < k → key (gd p j) < key (gd p i)
theorem j1lt {k j : Nat} (h : k < j) : j - 1 < j := Nat.sub_lt (Nat.lt_of_le_of_lt (Nat.zero_le k) h) Nat.one_pos
theorem Asc.succ {p : Array Nat} {k : Nat} (h : Asc key p k) (h0 : 1 ≤ k) (hk : key (gd p (k - 1)) < key (gd p k)) : Asc key p (k + 1) := by
  intro i j hij hj
  by_cases e : j = k
  · subst e
    by_cases e2 : i = j - 1
    · rw [e2]; exact hk
    · exact Int.lt_trans (h i (j - 1) (Nat.lt_of_le_of_ne (Nat.le_sub_one_of_lt hij) e2) (j1lt h0)) hk
  · exact h i j hij (Nat.lt_of_le_of_ne (Nat.le_of_lt_succ hj) e)
theorem Dsc.succ {p : Array Nat} {k : Nat} (h : Dsc key p k) (h0 : 1 ≤ k) (hk : key (gd p k) < key (gd p (k - 1))) : Dsc key p (k + 1) := by
  intro i j hij hj
  by_cases e : j = k
  · subst e
    by_cases e2 : i = j - 1
    · rw [e2]; exact hk
    · exact Int.lt_trans hk (h i (j - 1) (Nat.lt_of_le_of_ne (Nat.le_sub_one_of_lt hij) e2) (j1lt h0))
  · exact h i j hij (Nat.lt_of_le_of_ne (Nat.le_of_lt_succ hj) e)
theorem m_n {m f n : Nat} (h : m + (f + 1) ≤ n) : m < n := Nat.lt_of_lt_of_le (Nat.lt_add_of_pos_right (Nat.succ_pos f)) h
theorem m_s (m f : Nat) : m + 1 + f = m + (f + 1) := Nat.succ_add_eq_add_succ m f
theorem lt_of {a b : Int} (h : ¬ a < b) (e : a ≠ b) : b < a := Int.lt_iff_le_and_ne.mpr ⟨Int.not_lt.mp h, e.symm⟩
theorem asc_ok {p : Array Nat} (hp : Prm n p) (hk : Inj n key) : ∀ (f m : Nat), 1 ≤ m → m + f ≤ n → Asc key p m → TreeOk n key (kas_asc p f m) (fun r => Asc key p r ∧ m ≤ r ∧ r ≤ m + f ∧ (r < m + f → key (gd p r) < key (gd p (r - 1))))
  | 0, m, h1, h2, ha => ⟨ha, Nat.le_refl _, Nat.le_refl _, fun h => absurd h (Nat.lt_irrefl _)⟩
  | f + 1, m, h1, h2, ha => by
    have hm := m_n h2
    have hm1 := Nat.lt_of_le_of_lt (Nat.sub_le m 1) hm
    have hne := hp.ne hm hm1 (Nat.ne_of_gt (j1lt h1))
    refine ⟨hp.lt hm, hp.lt hm1, hne, ?_⟩
    by_cases h : key (gd p m) < key (gd p (m - 1))
    · rw [show decide (key (p.getD m 0) < key (p.getD (m - 1) 0)) = true from decide_eq_true h]; dsimp only; rw [if_pos rfl]
      exact ⟨ha, Nat.le_refl _, Nat.le_add_right _ _, fun _ => h⟩
    · rw [show decide (key (p.getD m 0) < key (p.getD (m - 1) 0)) = false from decide_eq_false h]; dsimp only; rw [if_neg (by decide)]
      refine (asc_ok hp hk f (m + 1) (Nat.le_add_left 1 m) (m_s m f ▸ h2) (ha.succ h1 (lt_of h (hk _ _ (hp.lt hm) (hp.lt hm1) hne)))).mono fun r hr => ?_
      rw [m_s] at hr
      exact ⟨hr.1, Nat.le_of_succ_le hr.2.1, hr.2.2⟩
theorem desc_ok {p : Array Nat} (hp : Prm n p) (hk : Inj n key) : ∀ (f m : Nat), 2 ≤ m → m + f ≤ n → Dsc key p m → TreeOk n key (kas_desc f p m 0) (fun r => r.1 = p ∧ r.2.2 = 0 ∧ Dsc key p r.2.1 ∧ m ≤ r.2.1 ∧ r.2.1 ≤ m + f)
  | 0, m, h1, h2, ha => ⟨rfl, rfl, ha, Nat.le_refl _, Nat.le_refl _⟩
  | f + 1, m, h1, h2, ha => by
    have hm := m_n h2
    have hm1 := Nat.lt_of_le_of_lt (Nat.sub_le m 1) hm
    have hne := hp.ne hm hm1 (Nat.ne_of_gt (j1lt h1))
    refine ⟨hp.lt hm, hp.lt hm1, hne, ?_⟩
    by_cases h : key (gd p m) < key (gd p (m - 1))
    · rw [show decide (key (p.getD m 0) < key (p.getD (m - 1) 0)) = true from decide_eq_true h]; dsimp only; rw [if_pos rfl, if_neg (by decide)]
      refine (desc_ok hp hk f (m + 1) (Nat.le_succ_of_le h1) (m_s m f ▸ h2) (ha.succ (Nat.le_of_succ_le h1) h)).mono fun r hr => ?_
      rw [m_s] at hr
      exact ⟨hr.1, hr.2.1, hr.2.2.1, Nat.le_of_succ_le hr.2.2.2.1, hr.2.2.2.2⟩
    · rw [show decide (key (p.getD m 0) < key (p.getD (m - 1) 0)) = false from decide_eq_false h]; dsimp only; rw [if_neg (by decide)]
      refine ⟨hp.lt hm1, hp.lt hm, hne.symm, ?_⟩
      rw [show decide (key (p.getD (m - 1) 0) < key (p.getD m 0)) = true from decide_eq_true (lt_of h (hk _ _ (hp.lt hm) (hp.lt hm1) hne))]; dsimp only; rw [if_pos rfl]
      exact ⟨rfl, rfl, ha, Nat.le_refl _, Nat.le_add_right _ _⟩
theorem Prm.of {p q : Array Nat} (h : Prm n p) (hq : q.Perm p) : Prm n q := (Array.perm_iff_toList_perm.mp hq).trans h
theorem gd_of {p q : Array Nat} {i j : Nat} (h : q[i]? = p[j]?) : gd q i = gd p j := by
  simp only [gd, Array.getD_eq_getD_getElem?, h]
theorem rev_a {i j r : Nat} (h : i < j) (hj : j < r) : r - 1 - j < r - 1 - i := by omega
theorem rev_b {i r : Nat} (h : i < r) : r - 1 - i < r := by omega
theorem rev_ok {p : Array Nat} (hp : Prm n p) {r : Nat} (hr : r ≤ n) (hd : Dsc key p r) : Prm n (kas_rev p 0 r) ∧ Asc key (kas_rev p 0 r) r := by
  refine ⟨hp.of (mirror_perm _ _ _ _), fun i j hij hj => ?_⟩
  have hs : r ≤ p.size := by rw [hp.size]; exact hr
  have e : ∀ k, k < r → gd (kas_rev p 0 r) k = gd p (r - 1 - k) := fun k hk => gd_of (by
    rw [kas_rev, getElem?_mirror_all hs, if_pos ⟨Nat.zero_le _, hk⟩]
    congr 1
    clear hp hr hd hij hj hs; omega)
  rw [e i (Nat.lt_trans hij hj), e j hj]
  exact hd _ _ (rev_a hij hj) (rev_b (Nat.lt_trans hij hj))
theorem up_n {r n : Nat} (h : r ≤ n) : r + (n - r) ≤ n := Nat.le_of_eq (Nat.add_sub_cancel' h)
theorem tail3_ok (hk : Inj n key) {p : Array Nat} (hp : Prm n p) {r : Nat} (h1 : 1 ≤ r) (hr : r ≤ n) (hd : Dsc key p r) : TreeOk n key (kas_tail3 r n p) (fun q => Prm n q.2 ∧ Asc key q.2 q.1 ∧ 1 ≤ q.1 ∧ q.1 ≤ n) := by
  obtain ⟨hp', ha⟩ := rev_ok (key := key) hp hr hd
  refine TreeOk.bind ((asc_ok hp' hk (n - r) r h1 (up_n hr) ha).mono fun m hm => ?_)
  exact ⟨hp', hm.1, Nat.le_trans h1 hm.2.1, Nat.le_trans hm.2.2.1 (up_n hr)⟩
theorem asc_1 (key : Nat → Int) (p : Array Nat) : Asc key p 1 := fun _ _ hij hj => absurd (Nat.lt_of_lt_of_le hij (Nat.le_of_lt_succ hj)) (Nat.not_lt_zero _)
theorem dsc_2 {p : Array Nat} (h : key (gd p 1) < key (gd p (1 - 1))) : Dsc key p 2 := fun i j hij hj => by
  have ej : j = 1 := Nat.le_antisymm (Nat.le_of_lt_succ hj) (Nat.lt_of_le_of_lt (Nat.zero_le i) hij)
  subst ej
  have ei : i = 0 := Nat.lt_one_iff.mp hij
  subst ei
  exact h
theorem count_ok (hk : Inj n key) {p : Array Nat} (hp : Prm n p) (h2 : 2 ≤ n) : TreeOk n key (kas_count n p) (fun q => Prm n q.2 ∧ Asc key q.2 q.1 ∧ 1 ≤ q.1 ∧ q.1 ≤ n) := by
  have h1n := Nat.le_of_succ_le h2
  refine TreeOk.bind ((asc_ok hp hk (n - 1) 1 (Nat.le_refl _) (up_n h1n) (asc_1 key p)).mono fun r hr => ?_)
  obtain ⟨ha, hr1, hr2, hr3⟩ := hr
  have hrn := Nat.le_trans hr2 (up_n h1n)
  by_cases e : r = n
  · rw [if_pos (by simpa using e)]
    exact ⟨hp, ha, hr1, hrn⟩
  · rw [if_neg (by simpa using e)]
    by_cases h1 : r > 1
    · rw [if_pos h1]
      have hl := j1lt hr1
      have hl0 := Nat.sub_pos_of_lt h1
      have hln := Nat.lt_of_lt_of_le hl hrn
      refine ⟨hp.lt h1n, hp.lt hln, hp.ne h1n hln (Nat.ne_of_lt hl0), ?_⟩
      rw [show decide (key (p.getD 0 0) < key (p.getD (r - 1) 0)) = true from decide_eq_true (ha 0 (r - 1) hl0 hl)]; dsimp only; rw [if_pos rfl]
      exact ⟨hp, ha, hr1, hrn⟩
    · rw [if_neg h1]
      have e1 : r = 1 := Nat.le_antisymm (Nat.not_lt.mp h1) hr1
      subst e1
      refine TreeOk.bind ((desc_ok hp hk (n - (1 + 1)) (1 + 1) (Nat.le_refl _) (up_n h2) (dsc_2 (hr3 (Nat.lt_of_lt_of_eq h2 (Nat.add_sub_cancel' h1n).symm)))).mono fun q hq => ?_)
      obtain ⟨q1, q2, q3⟩ := q
      obtain ⟨e1, e2, hd, hq1, hq2⟩ := hq
      dsimp only at e1 e2 hd hq1 hq2 ⊢
      subst e1 e2
      rw [if_neg (by decide)]
      exact tail3_ok hk hp (Nat.le_of_succ_le hq1) (Nat.le_trans hq2 (up_n h2)) hd
theorem mid_l {l r : Nat} (h : ¬ l ≥ r) : l ≤ (l + r) / 2 := by omega
theorem mid_r {l r : Nat} (h : ¬ l ≥ r) : (l + r) / 2 < r := by omega
theorem mid_f {l r f : Nat} (h : ¬ l ≥ r) (h3 : r - l ≤ f + 1) : (l + r) / 2 - l ≤ f := by omega
theorem mid_g {l r f : Nat} (h3 : r - l ≤ f + 1) : r - ((l + r) / 2 + 1) ≤ f := by omega
theorem place_ok {p : Array Nat} (hp : Prm n p) (hk : Inj n key) {k : Nat} (hkn : k < n) (ha : Asc key p k) : ∀ (f l r : Nat), l ≤ r → r ≤ k → r - l ≤ f → (∀ i, i < l → key (gd p i) < key (gd p k)) → (∀ i, r ≤ i → i < k → key (gd p k) < key (gd p i)) →
    TreeOk n key (kas_place p k f l r) (fun m => m ≤ k ∧ (∀ i, i < m → key (gd p i) < key (gd p k)) ∧ ∀ i, m ≤ i → i < k → key (gd p k) < key (gd p i))
  | 0, l, r, h1, h2, h3, hl, hr => ⟨Nat.le_trans h1 h2, hl, fun i hi => hr i (Nat.le_trans (Nat.le_of_sub_eq_zero (Nat.le_zero.mp h3)) hi)⟩
  | f + 1, l, r, h1, h2, h3, hl, hr => by
    unfold kas_place
    by_cases e : l ≥ r
    · rw [if_pos e]
      exact ⟨Nat.le_trans h1 h2, hl, fun i hi => hr i (Nat.le_trans e hi)⟩
    · rw [if_neg e]
      have hm := Nat.lt_of_lt_of_le (mid_r e) h2
      have hmn := Nat.lt_trans hm hkn
      have hne := hp.ne hkn hmn (Nat.ne_of_gt hm)
      refine ⟨hp.lt hkn, hp.lt hmn, hne, ?_⟩
      by_cases h : key (gd p k) < key (gd p ((l + r) / 2))
      · rw [show decide (key (p.getD k 0) < key (p.getD ((l + r) / 2) 0)) = true from decide_eq_true h]; dsimp only; rw [if_pos rfl]
        refine place_ok hp hk hkn ha f l ((l + r) / 2) (mid_l e) (Nat.le_of_lt hm) (mid_f e h3) hl fun i hi hik => ?_
        by_cases e2 : i = (l + r) / 2
        · rw [e2]; exact h
        · exact Int.lt_trans h (ha ((l + r) / 2) i (Nat.lt_of_le_of_ne hi (Ne.symm e2)) hik)
      · rw [show decide (key (p.getD k 0) < key (p.getD ((l + r) / 2) 0)) = false from decide_eq_false h]; dsimp only; rw [if_neg (by decide)]
        have h' := lt_of h (hk _ _ (hp.lt hkn) (hp.lt hmn) hne)
        refine place_ok hp hk hkn ha f ((l + r) / 2 + 1) r (mid_r e) h2 (mid_g h3) (fun i hi => ?_) hr
        by_cases e2 : i = (l + r) / 2
        · rw [e2]; exact h'
        · exact Int.lt_trans (ha i ((l + r) / 2) (Nat.lt_of_le_of_ne (Nat.le_of_lt_succ hi) e2) hm) h'
theorem bubble_ok {p : Array Nat} (hp : Prm n p) {k m : Nat} (hkn : k < n) (ha : Asc key p k) (hm : m ≤ k) (h1 : ∀ i, i < m → key (gd p i) < key (gd p k)) (h2 : ∀ i, m ≤ i → i < k → key (gd p k) < key (gd p i)) :
    Prm n (bubble p k (k - m)) ∧ Asc key (bubble p k (k - m)) (k + 1) := by
  refine ⟨hp.of (bubble_perm _ _ _), ?_⟩
  have hs : k < p.size := by rw [hp.size]; exact hkn
  have e : ∀ j, gd (bubble p k (k - m)) j = if j = m then gd p k else if m < j ∧ j ≤ k then gd p (j - 1) else gd p j := fun j => by
    have h := getElem?_bubble hs (k - m) (Nat.sub_le _ _) j
    rw [Nat.sub_sub_self hm] at h
    by_cases e : j = m
    · rw [if_pos e] at h ⊢; exact gd_of h
    · rw [if_neg e] at h ⊢
      by_cases e2 : m < j ∧ j ≤ k
      · rw [if_pos e2] at h ⊢; exact gd_of h
      · rw [if_neg e2] at h ⊢; exact gd_of h
  intro i j hij hj
  have hjk := Nat.le_of_lt_succ hj
  have hj1 := Nat.lt_of_lt_of_le (j1lt hij) hjk
  rw [e i, e j]
  by_cases a1 : i = m
  · have hmj : m < j := a1 ▸ hij
    rw [if_pos a1, if_neg (Nat.ne_of_gt hmj), if_pos ⟨hmj, hjk⟩]
    exact h2 _ (Nat.le_sub_one_of_lt hmj) hj1
  · rw [if_neg a1]
    by_cases a2 : m < i ∧ i ≤ k
    · have hmj := Nat.lt_trans a2.1 hij
      rw [if_pos a2, if_neg (Nat.ne_of_gt hmj), if_pos ⟨hmj, hjk⟩]
      exact ha _ _ (Nat.sub_lt_sub_right (Nat.lt_of_le_of_lt (Nat.zero_le m) a2.1) hij) hj1
    · rw [if_neg a2]
      have him : i < m := Nat.lt_of_le_of_ne (Nat.not_lt.mp fun h => a2 ⟨h, Nat.le_trans (Nat.le_of_lt hij) hjk⟩) a1
      by_cases b1 : j = m
      · rw [if_pos b1]; exact h1 i him
      · rw [if_neg b1]
        by_cases b2 : m < j ∧ j ≤ k
        · rw [if_pos b2]; exact ha _ _ (Nat.lt_of_lt_of_le him (Nat.le_sub_one_of_lt b2.1)) hj1
        · rw [if_neg b2]; exact ha _ _ hij (Nat.lt_of_lt_of_le (Nat.lt_of_le_of_ne (Nat.not_lt.mp fun h => b2 ⟨h, hjk⟩) b1) hm)
theorem bin_ok (hk : Inj n key) : ∀ (f k : Nat) (p : Array Nat), k + f = n → Prm n p → Asc key p k → TreeOk n key (kas_bin f p k) (fun q => Prm n q ∧ Asc key q n)
  | 0, k, p, h, hp, ha => ⟨hp, by rw [← h]; exact ha⟩
  | f + 1, k, p, h, hp, ha => by
    have hkn := m_n (Nat.le_of_eq h)
    refine TreeOk.bind ((place_ok hp hk hkn ha k 0 k (Nat.zero_le _) (Nat.le_refl _) (Nat.le_refl _) (fun i hi => absurd hi (Nat.not_lt_zero _)) (fun i hi hik => absurd hik (Nat.not_lt.mpr hi))).mono fun m hm => ?_)
    obtain ⟨hm1, hm2, hm3⟩ := hm
    obtain ⟨hp', ha'⟩ := bubble_ok hp hkn ha hm1 hm2 hm3
    exact bin_ok hk f (k + 1) _ ((m_s k f).trans h) hp' ha'
theorem sort_ok (hk : Inj n key) (h2 : 2 ≤ n) : TreeOk n key (kas_sort n) (fun q => Prm n q ∧ Asc key q n) := by
  have hp : Prm n (List.toArray (List.range n)) := List.Perm.refl _
  refine TreeOk.bind ((count_ok hk hp h2).mono fun r hr => ?_)
  obtain ⟨h1, h3, h4, h5⟩ := hr
  by_cases e : r.1 < n
  · rw [if_pos e, Nat.max_eq_left h4]
    exact bin_ok hk (n - r.1) r.1 r.2 (Nat.add_sub_cancel' h5) h1 h3
  · rw [if_neg e]
    exact ⟨h1, Nat.le_antisymm h5 (Nat.not_lt.mp e) ▸ h3⟩
end
end
section
section
variable {prog : Program} {w : World} {A : Around} {E : Value → Shared → Prop} {s : Shared} {h₀ : Heap} {L a : Addr} {m : Str → Option Value} {news : List (Addr × Obj)} {vs : List Value}
theorem list_sort_small {n : Nat} {P : PySem.Fin → Shared → Prop} (F : Fr h₀ L s.heap m) (N : News h₀ L s.heap news) (ho : s.heap.get? a = some (seqObj "list" vs.toArray n)) (haL : a ≠ L) (ha0 : h₀.get? a = none) (hna : ∀ p ∈ news, p.1 ≠ a) (h1 : vs.length < 2)
    (h : ∀ c h', Fr h₀ L h' m → News h₀ L h' ((a, listOf vs.toArray c) :: news) → P (.done (.ret .none)) { s with heap := h' }) :
    wpAny (model prog w) A (Builtin.«list.sort» ⟨[.ref a], []⟩) P E s := by
  have s1 := Heap.SameBut.update s.heap a (Obj.mapSeq fun _ => (#[] : Array Value))
  obtain ⟨e1, ho1⟩ : ∃ e1, (s.heap.update a (Obj.mapSeq fun _ => (#[] : Array Value))).get? a = some (seqObj "list" #[] e1) := ⟨_, get?_update_seq ho fun _ => #[]⟩
  have F3 : Fr h₀ L (((s.heap.update a (Obj.mapSeq fun _ => (#[] : Array Value))).push (seqObj "tuple" vs.toArray 0)).push (seqObj "list" #[] 0)) m := ((kas_fr F s1 haL ha0).push _).push _
  have ho6 : (((s.heap.update a (Obj.mapSeq fun _ => (#[] : Array Value))).push (seqObj "tuple" vs.toArray 0)).push (seqObj "list" #[] 0)).get? a = some (seqObj "list" #[] e1) := Heap.get?_push_of_some _ (Heap.get?_push_of_some _ ho1)
  have N2 : News h₀ L (((s.heap.update a (Obj.mapSeq fun _ => (#[] : Array Value))).push (seqObj "tuple" vs.toArray 0)).push (seqObj "list" #[] 0)) news :=
    (kas_news N s1 hna).grown fun b x e => Heap.get?_push_of_some _ (Heap.get?_push_of_some _ e)
  rw [list_sort_plain]
  refine wpAny_bind (listItems_at ho rfl ?_)
  refine wpAny_bind (listUpdate_at ho rfl ?_ (by rw [List.size_toArray, sizeLine_eq]; omega) (Nat.zero_le _))
  refine wpAny_bind (seqEpoch_at ho1 rfl ?_)
  refine wpAny_bind (wpAny_newTuple ?_ (by show vs.length ≤ _; rw [sizeLine_eq]; omega))
  refine wpAny_bind (wpAny_newList ?_ (Nat.zero_le _))
  refine wpAny_holding ?_
  show wpAny (model prog w) A _ P E { s with heap := ((s.heap.update a (Obj.mapSeq fun _ => (#[] : Array Value))).push (seqObj "tuple" vs.toArray 0)).push (seqObj "list" #[] 0) }
  dsimp only
  have hn2 : vs.toArray.size < 2 := by rw [List.size_toArray]; exact h1
  rw [if_pos hn2, if_pos hn2]
  refine wpAny_bind (wpAny_pure ?_)
  rw [StateT.run_pure]
  refine wpAny_bind (wpAny_pure ?_)
  dsimp only
  refine wpAny_bind (seqEpoch_at ho6 rfl ?_)
  have hout : ((vs.toArray.zip vs.toArray).map fun x : Value × Value => x.2) = vs.toArray := by
    apply Array.ext
    · simp
    · intro i h1 h2; simp
  refine wpAny_bind (listUpdate_at ho6 rfl ?_ (Nat.zero_le _) (by show (Array.map _ (vs.toArray.zip vs.toArray)).size ≤ _; rw [Array.size_map, Array.size_zip, List.size_toArray, sizeLine_eq]; omega))
  simp only [bne_self_eq_false, Bool.false_eq_true, if_false]
  have s2 := Heap.SameBut.update (((s.heap.update a (Obj.mapSeq fun _ => (#[] : Array Value))).push (seqObj "tuple" vs.toArray 0)).push (seqObj "list" #[] 0)) a (Obj.mapSeq fun _ => (vs.toArray.zip vs.toArray).map fun x : Value × Value => x.2)
  obtain ⟨c2, hc2⟩ : ∃ c2, ((((s.heap.update a (Obj.mapSeq fun _ => (#[] : Array Value))).push (seqObj "tuple" vs.toArray 0)).push (seqObj "list" #[] 0)).update a (Obj.mapSeq fun _ => (vs.toArray.zip vs.toArray).map fun x : Value × Value => x.2)).get? a = some (seqObj "list" ((vs.toArray.zip vs.toArray).map fun x : Value × Value => x.2) c2) := ⟨_, get?_update_seq ho6 fun _ => (vs.toArray.zip vs.toArray).map fun x : Value × Value => x.2⟩
  refine wpAny_pure (h c2 _ (kas_fr F3 s2 haL ha0) fun p hp => ?_)
  rcases List.mem_cons.mp hp with rfl | hp
  · exact ⟨hc2.trans (congrArg (fun x => some (seqObj "list" x c2)) hout), haL, ha0⟩
  · exact kas_news N2 s2 hna p hp
theorem sorted_small {l : Addr} {Q : Value → Shared → Prop} (F : Fr h₀ L s.heap m) (N : News h₀ L s.heap news) (hl : s.heap.IsList l vs.toArray) (h1 : vs.length < 2)
    (h : ∀ D c h', Fr h₀ L h' m → News h₀ L h' ((D, listOf vs.toArray c) :: news) → (∀ q ∈ news, @LT.lt Nat _ q.1 D) → Q (.ref D) { s with heap := h' }) :
    wpAny (model prog w) A (call (.builtin "sorted") [.ref l]) Q E s := by
  refine Calls.call_function_entry kind_sorted plain_sorted entry_sorted (args_sorted1 _) ?_
  unfold Builtin.«sorted»
  refine wpAny_bind (m := checkCount "sorted" 1 1 _) (wpAny_pure ?_)
  refine wpAny_bind (collect_list hl ?_ (by rw [sizeLine_eq]; omega))
  refine wpAny_bind (wpAny_newList ?_ (by rw [sizeLine_eq]; omega))
  have hsz : ((s.heap.push (seqObj "list" #[] 0)).update s.heap.objs.size (Obj.mapSeq (· ++ vs.toArray))).objs.size = s.heap.objs.size + 1 := by
    rw [Heap.size_update, size_push']
  have hoL : (((s.heap.push (seqObj "list" #[] 0)).update s.heap.objs.size (Obj.mapSeq (· ++ vs.toArray))).push (seqObj "list" vs.toArray 0)).get? (s.heap.objs.size + 1) = some (seqObj "list" vs.toArray 0) := by
    rw [← hsz]; exact Heap.get?_push_size _ rfl
  have keep : ∀ b o, s.heap.get? b = some o → (((s.heap.push (seqObj "list" #[] 0)).update s.heap.objs.size (Obj.mapSeq (· ++ vs.toArray))).push (seqObj "list" vs.toArray 0)).get? b = some o := fun b o q => by
    have hlt : b < s.heap.objs.size := Heap.lt_size q
    rw [Heap.get?_push_ne _ _ _ (by rw [hsz]; exact Nat.ne_of_lt (Nat.lt_succ_of_lt hlt)), Heap.get?_update_ne _ _ _ _ (Nat.ne_of_lt hlt), Heap.get?_push_ne _ _ _ (Nat.ne_of_lt hlt)]
    exact q
  have hL : L < s.heap.objs.size := F.ns.lt
  show wpAny _ _ _ _ _ { s with heap := ((s.heap.push (seqObj "list" #[] 0)).update s.heap.objs.size (Obj.mapSeq (· ++ vs.toArray))).push (seqObj "list" vs.toArray 0) }
  rw [hsz]
  refine wpAny_bind (wpAny_holding (wpAny_call_entry slot_list_sort ⟨_, hoL, rfl⟩ entry_list_sort ?body (args_list_sort _)))
  case body =>
    refine list_sort_small (s := { s with heap := ((s.heap.push (seqObj "list" #[] 0)).update s.heap.objs.size (Obj.mapSeq (· ++ vs.toArray))).push (seqObj "list" vs.toArray 0) })
      (F.kept keep) (N.grown keep) hoL (Nat.ne_of_gt (Nat.lt_succ_of_lt hL)) (Heap.get?_none_of_le (Nat.le_trans F.above (Nat.le_succ_of_le (Nat.le_of_lt hL))))
      (fun p hp => Nat.ne_of_lt (Nat.lt_succ_of_lt (Heap.lt_size (N p hp).1))) h1 fun c h' F' N' => ?_
    exact ⟨_, rfl, wpAny_pure ⟨_, rfl, h _ c h' F' N' fun q hq => Nat.lt_succ_of_lt (Heap.lt_size (N q hq).1)⟩⟩
end
theorem DueIn.get {R : List (Addr × Obj)} {vs : List Value} {due : List (Int × Str × Str)} (h : DueIn R vs due) : ∀ {i : Nat}, i < due.length → ∃ a t1 t2 t3, vs[i]? = some (.ref a) ∧ (a, tup [.int (due[i]?.getD (0, Str.ofString "", Str.ofString "")).1 t1, .str (due[i]?.getD (0, Str.ofString "", Str.ofString "")).2.1 t2, .str (due[i]?.getD (0, Str.ofString "", Str.ofString "")).2.2 t3]) ∈ R := by
  induction h with
  | nil => intro i hi; simp at hi
  | cons hm _ ih =>
    intro i hi
    cases i with
    | zero => exact ⟨_, _, _, _, rfl, by simpa using hm⟩
    | succ i => simpa using ih (i := i) (by simpa using hi)
noncomputable abbrev dueAt (due : List (Int × Str × Str)) (i : Nat) : Int × Str × Str := due[i]?.getD (0, Str.ofString "", Str.ofString "")
theorem DueIn.pick {R : List (Addr × Obj)} {vs : List Value} {due : List (Int × Str × Str)} (h : DueIn R vs due) : ∀ {q : List Nat}, (∀ i ∈ q, i < due.length) → DueIn R (q.map fun i => vs.getD i Value.none) (q.map (dueAt due))
  | [], _ => .nil
  | i :: r, hq => by
    obtain ⟨a, t1, t2, t3, hv, hm⟩ := h.get (hq i List.mem_cons_self)
    have e : vs.getD i Value.none = .ref a := by simp [List.getD, hv]
    rw [List.map_cons, List.map_cons, e]
    exact .cons hm (DueIn.pick h fun j hj => hq j (List.mem_cons_of_mem _ hj))
theorem due_firsts {h₀ h : Heap} {L : Addr} {R : List (Addr × Obj)} (N : News h₀ L h R) {vs : List Value} {due : List (Int × Str × Str)} (hd : DueIn R vs due) : ∃ fs, KatTups h vs fs ∧ (∀ f ∈ fs, ∃ i t, f = Value.int i t) ∧ fs.length = due.length := by
  induction hd with
  | nil => exact ⟨[], KatTups.nil, (fun f hf => nomatch hf), rfl⟩
  | @cons a i k n t1 t2 t3 vs due hm _ ih =>
    obtain ⟨fs, h1, h2, h3⟩ := ih
    refine ⟨.int i t1 :: fs, .cons (N _ hm).1 rfl rfl rfl h1, fun f hf => ?_, by simp [h3]⟩
    rcases List.mem_cons.mp hf with rfl | hf
    · exact ⟨i, t1, rfl⟩
    · exact h2 f hf
theorem due_range (due : List (Int × Str × Str)) : (List.range due.length).map (dueAt due) = due := by
  apply List.ext_getElem
  · simp
  · intro i h1 h2
    simp [dueAt, h2]
theorem sorted_due {prog : Program} {w : World} {A : Around} {E : Value → Shared → Prop} {s : Shared} {h₀ : Heap} {L du : Addr} {m : Str → Option Value} {news R : List (Addr × Obj)} {vs : List Value} {k : Nat} {due : List (Int × Str × Str)} {Q : Value → Shared → Prop}
    (F : Fr h₀ L s.heap m) (N : News h₀ L s.heap news) (hm : (du, listOf vs.toArray k) ∈ news) (hR : ∀ p ∈ R, p ∈ news) (hd : DueIn R vs due) (hinj : Inj due.length fun i => (dueAt due i).1) (h64 : due.length < 64)
    (h : ∀ D c h' vs' due', Fr h₀ L h' m → News h₀ L h' ((D, listOf (vs' : List Value).toArray c) :: news) → DueIn R vs' due' → due'.Perm due → due'.Pairwise (fun a b => a.1 < b.1) → (∀ q ∈ news, @LT.lt Nat _ q.1 D) → Q (.ref D) { s with heap := h' }) :
    wpAny (model prog w) A (call (.builtin "sorted") [.ref du]) Q E s := by
  have hl := hd.len
  by_cases h2 : due.length < 2
  · refine sorted_small F N (News.isList N hm) (by omega) fun D c h' F' N' hlt => h D c h' vs due F' N' hd (List.Perm.refl _) ?_ hlt
    match due, h2 with
    | [], _ => exact .nil
    | [_], _ => exact List.pairwise_singleton _ _
    | _ :: _ :: _, h2 => simp at h2; omega
  · refine kat_sorted F N (News.isList N hm) (by omega) (by omega) fun D e1 h' F' N' hlt => ?_
    have NR : News h₀ L h' R := fun p hp => N' p (List.mem_cons_of_mem _ (hR p hp))
    obtain ⟨fs, t, hT, hfl⟩ := due_firsts NR hd
    refine kat_kind (T := .type "int") t (by omega) (fun v hv => ?_) (by decide) ?_
    · obtain ⟨i, u, rfl⟩ := hT v hv
      exact Looks.now
    · rw [hl]
      refine TreeOk.wp (n := due.length) (key := fun i => (dueAt due i).1) (fun i j C hi hj hij hC => ?_) (fun p hp => ?_) (sort_ok hinj (by omega))
      · obtain ⟨a, t1, t2, t3, ha, ma⟩ := hd.get hi
        obtain ⟨b, u1, u2, u3, hb, mb⟩ := hd.get hj
        have ea : vs.getD i Value.none = .ref a := by simp [List.getD, ha]
        have eb : vs.getD j Value.none = .ref b := by simp [List.getD, hb]
        unfold kas_ask
        rw [ea, eb]
        refine kat_lt (NR _ ma).1 rfl (NR _ mb).1 rfl ?_
        refine kat_cons (PySem.SeqAt.EqAt.int_int _ _ _ _ prog w _ _ ?_)
        rw [show ((dueAt due i).1 == (dueAt due j).1) = false from by simpa using hinj i j hi hj hij]
        refine kat_no ?_
        exact oneLt_int hC
      · obtain ⟨hp1, hp2⟩ := hp
        refine KasFin.intro F' N' (.head fun q hq => Nat.ne_of_lt (hlt q hq)) fun h2 c F2 N2 => ?_
        refine h D c h2 _ (p.toList.map (dueAt due)) F2 N2 (hd.pick fun i hi => by simpa using hp1.mem_iff.mp hi) ?_ ?_ hlt
        · exact (hp1.map (dueAt due)).trans (by rw [due_range])
        · rw [List.pairwise_iff_getElem]
          intro i j hi hj hij
          have hs := hp1.size
          have hi' : i < p.size := by simpa using hi
          have hj' : j < p.size := by simpa using hj
          have := hp2 i j hij (by omega)
          rw [gd_eq hi', gd_eq hj'] at this
          simpa using this
end
section
theorem ne_of_lt_addr {a b : Addr} (h : @LT.lt Nat _ a b) : b ≠ a := fun e => Nat.lt_irrefl a (by subst e; exact h)
theorem RowsIn.get {R : List (Addr × Obj)} {vs : List Value} {rows : List Row} (h : RowsIn R vs rows) : ∀ {i : Nat} {v : Value}, vs[i]? = some v → ∃ a k j n t1 t2 t3, v = .ref a ∧ rows[i]? = some (k, j, n) ∧ (a, tup [.str k t1, .int j t2, .str n t3]) ∈ R := by
  induction h with
  | nil => intro i v e; simp at e
  | cons h _ ih =>
    intro i v e
    cases i with
    | zero => simp at e; subst e; exact ⟨_, _, _, _, _, _, _, rfl, rfl, h⟩
    | succ i => simp at e; simpa using ih e
open PySem.SeqAt in
inductive AllEq (A : Around) (s : Shared) : List Value → List Value → Prop
  | nil : AllEq A s [] []
  | cons {v v' : Value} {vs vs' : List Value} : EqAt A s v v' true → AllEq A s vs vs' → AllEq A s (v :: vs) (v' :: vs')
theorem AllEq.len {A : Around} {s : Shared} {vs vs' : List Value} (h : AllEq A s vs vs') : vs.length = vs'.length := by
  induction h with
  | nil => rfl
  | cons _ _ ih => simp [ih]
theorem AllEq.get {A : Around} {s : Shared} {vs vs' : List Value} (h : AllEq A s vs vs') : ∀ (j : Nat) (h1 : j < vs.length) (h2 : j < vs'.length), PySem.SeqAt.EqAt A s vs[j] vs'[j] true := by
  induction h with
  | nil => intro j h1; simp at h1
  | cons h _ ih =>
    intro j h1 h2
    cases j with
    | zero => exact h
    | succ j => exact ih j (by simpa using h1) (by simpa using h2)
theorem eqInt {A : Around} {s : Shared} {i : Int} {t u : Tok} : PySem.SeqAt.EqAt A s (.int i t) (.int i u) true := by
  have := PySem.SeqAt.EqAt.int_int (A := A) (s := s) i t i u
  rwa [beq_self_eq_true] at this
theorem eqStr {A : Around} {s : Shared} {x : Str} {t u : Tok} : PySem.SeqAt.EqAt A s (.str x t) (.str x u) true := by
  have := PySem.SeqAt.EqAt.str_str (A := A) (s := s) x t x u
  rwa [beq_self_eq_true] at this
theorem eqTup {A : Around} {s : Shared} {h₀ : Heap} {L l b : Addr} {all : List (Addr × Obj)} {vs vs' : List Value} (N : News h₀ L s.heap all) (hl : (l, tup vs) ∈ all) (hb : (b, tup vs') ∈ all) (hu : A.units < cLine) (he : AllEq A.in1 s vs vs') : PySem.SeqAt.EqAt A s (.ref l) (.ref b) true := by
  by_cases hlb : l = b
  · subst hlb; exact .same _
  · have hlen := he.len
    have r := PySem.SeqAt.RcAt.tuples (e := fun _ => true) (News.isTup N hl) (News.isTup N hb) hu (fun j h1 h2 => by
      have h1' : j < vs.length := by simpa using h1
      have h2' : j < vs'.length := by simpa using h2
      have := he.get j h1' h2'
      simpa using this)
    have e : ((List.range (min vs.toArray.size vs'.toArray.size)).all (fun _ => true) && vs.toArray.size == vs'.toArray.size) = true := by simp [hlen]
    rw [e] at r
    exact .of_refs hlb r
theorem strs_allEq {A : Around} {s : Shared} {vs vs' : List Value} {xs : List Str} (h : StrV vs xs) (h' : StrV vs' xs) : AllEq A s vs vs' := by
  induction h generalizing vs' with
  | nil => cases h'; exact .nil
  | cons _ ih => cases h' with
    | cons h' => exact .cons eqStr (ih h')
theorem eqEnt {A : Around} {s : Shared} {h₀ : Heap} {L : Addr} {all R R' : List (Addr × Obj)} {v v' : Value} {e : Ent} (N : News h₀ L s.heap all) (sR : ∀ p ∈ R, p ∈ all) (sR' : ∀ p ∈ R', p ∈ all) (h : EntIn R v e) (h' : EntIn R' v' e) (hu : A.units + 5 < cLine) : PySem.SeqAt.EqAt A s v v' true := by
  cases h with
  | mk hm hi =>
    cases h' with
    | mk hm' hi' =>
      refine eqTup N (sR _ hm) (sR' _ hm') (by omega) (.cons eqStr (.cons eqInt (.cons ?_ .nil)))
      cases hi with
      | neg => cases hi'; exact eqInt
      | sig h1 =>
        cases hi' with
        | sig h2 =>
          refine eqTup N (sR _ h1) (sR' _ h2) (by show A.units + 1 < cLine; omega) (.cons eqStr (.cons ?_ (.cons ?_ .nil))) <;> exact .same _
      | dirs h1 s1 =>
        cases hi' with
        | dirs h2 s2 => exact eqTup N (sR _ h1) (sR' _ h2) (by show A.units + 1 < cLine; omega) (strs_allEq s1 s2)
theorem rows_ne {prog : Program} {w : World} {A : Around} {E : Value → Shared → Prop} {s : Shared} {h₀ : Heap} {L d e : Addr} {all R R' : List (Addr × Obj)} {vs vs' : List Value} {rows : List Row} {n n' : Nat} {Q : Value → Shared → Prop}
    (N : News h₀ L s.heap all) (sR : ∀ p ∈ R, p ∈ all) (sR' : ∀ p ∈ R', p ∈ all) (hr : RowsIn R vs rows) (hr' : RowsIn R' vs' rows) (hm : (d, listOf vs.toArray n) ∈ all) (hm' : (e, listOf vs'.toArray n') ∈ all) (hu : A.units + 20 < cLine) (hQ : Q (.bool false) s) :
    wpAny (model prog w) A (compareOp .NotEq (.ref d) (.ref e)) Q E s := by
  have l1 := hr.length
  have l2 := hr'.length
  refine PySem.SeqAt.RcNeAt.lists (e := fun _ => true) (News.isList N hm) (News.isList N hm') (by simp; omega) (by omega) (fun j h1 h2 => ?_) prog w E Q (by
    have : (!(List.range vs.toArray.size).all fun _ => true) = false := by simp
    rw [this]; exact hQ)
  have hj1 : j < vs.length := by simpa using h1
  have hj2 : j < vs'.length := by simpa using h2
  obtain ⟨a, k, i, nn, t1, t2, t3, e1, q1, m1⟩ := hr.get (List.getElem?_eq_getElem hj1)
  obtain ⟨b, k', i', nn', u1, u2, u3, e2, q2, m2⟩ := hr'.get (List.getElem?_eq_getElem hj2)
  rw [q1] at q2
  cases q2
  have ev : vs.toArray[j] = .ref a := by simpa using e1
  have ev' : vs'.toArray[j] = .ref b := by simpa using e2
  rw [ev, ev']
  exact eqTup N (sR _ m1) (sR' _ m2) (by show A.units + 1 < cLine; omega) (.cons eqStr (.cons eqInt (.cons eqStr .nil)))
noncomputable def toRow (d : Int × Str × Str) : Row := (d.2.1, d.1, d.2.2)
section
open PyProof.Rows.LCg PyProof.Rows.LCp
variable {prog : Program} {w : World} {A : Around} {E : Value → Shared → Prop} {s : Shared} {h₀ : Heap} {L : Addr} {m : Str → Option Value} {env : Env}
theorem rest3_rows {elt : PySem.Expr} {x y z : Str} {scope : Scope} {cl : List (Str × Addr)} {S : List (Addr × Obj) → Prop} {P : Nat → Value → Prop} {Fin : List Value → List (Addr × Obj) → Prop} {n : Nat} {R news₀ : List (Addr × Obj)} {vs : List Value} {due : List (Int × Str × Str)}
    (hd : DueIn R vs due) (hR : ∀ p ∈ R, p ∈ news₀) (hn : vs.length = n) (hP : ∀ i v, P i v → vs[i]? = some v)
    (turn : ∀ mark kind name t1 t2 t3 I oI C oC D m₂ ys h tk news (E' : Value → Shared → Prop), (∀ p ∈ news₀, p ∈ news) → NsObj oC m₂ → m₂ x = some (.int mark t1) → m₂ y = some (.str kind t2) → m₂ z = some (.str name t3) → Fr h₀ L h m → News h₀ L h ((I, oI) :: (C, oC) :: (D, lst ys) :: news) → Off3 I C D news → ((@Ne Nat I C) ∧ (@Ne Nat I D) ∧ (@Ne Nat C D)) →
      wpAny (model prog w) A (eval elt (compEnvC scope cl C env)) (CompEnd h₀ L m { s with heap := h, toks := tk } I oI C oC D (lst ys) S (fun u news' => ∃ T u1 u2 u3, u = .ref T ∧ news' = (T, Mine.tup [.str kind u2, .int mark u1, .str name u3]) :: news)) E' { s with heap := h, toks := tk })
    (fin : ∀ ys news, RowsIn news ys (due.map toRow) → (∀ p ∈ news₀, p ∈ news) → Fin ys news) : Rest3 prog w A h₀ L m env elt x y z scope cl s S P Fin n 0 [] news₀ := by
  have hlen := hd.len
  have key : ∀ (j i : Nat) (ys : List Value) (news : List (Addr × Obj)), i + j = n → RowsIn news ys ((due.take i).map toRow) → (∀ p ∈ news₀, p ∈ news) → Rest3 prog w A h₀ L m env elt x y z scope cl s S P Fin j i ys news := by
    intro j
    induction j with
    | zero =>
      intro i ys news hi hr hs
      have e : i = n := by omega
      subst e
      rw [List.take_of_length_le (by omega)] at hr
      exact fin ys news hr hs
    | succ j ih =>
      intro i ys news hi hr hs v hv
      have hvi := hP i v hv
      have hil : i < due.length := by omega
      obtain ⟨a, t1, t2, t3, ha, hm⟩ := hd.get hil
      rw [hvi] at ha
      cases ha
      have hq : due[i]? = some (dueAt due i) := by simp [dueAt, hil]
      refine ⟨a, _, _, _, rfl, hs _ (hR _ hm), fun I oI C oC D m₂ h tk E' hC h1 h2 h3 F N off ne => ?_⟩
      refine wpAny_mono (turn _ _ _ _ _ _ I oI C oC D m₂ ys h tk news E' hs hC h1 h2 h3 F N off ne) (fun u s₂ hu => ?_) fun _ _ e => e
      obtain ⟨h', tk', nw, e, F', N', off', hS, T, u1, u2, u3, eu, en⟩ := hu
      subst eu
      refine ⟨h', tk', nw, e, F', N', off', hS, ih (i + 1) _ nw (by omega) ?_ (fun p hp => by rw [en]; exact List.mem_cons_of_mem _ (hs p hp))⟩
      have e2 : (due.take (i + 1)).map toRow = (due.take i).map toRow ++ [((dueAt due i).2.1, (dueAt due i).1, (dueAt due i).2.2)] := by
        rw [List.take_add_one, hq]
        simp [toRow]
      rw [e2]
      exact (hr.mono fun p hp => by rw [en]; exact List.mem_cons_of_mem _ hp).snoc (by rw [en]; exact List.mem_cons_self)
  exact key n 0 [] news₀ (by omega) .nil fun _ h => h
theorem Src3.ledger {elt : PySem.Expr} {x y z : Str} {scope : Scope} {cl : List (Str × Addr)} {Fin : Shared → List Value → List (Addr × Obj) → Prop} {ax : Addr} {vs : List Value} {k : Nat} {news : List (Addr × Obj)} {s₁ : Shared}
    (hh : A.handled = none) (F : Fr h₀ L s₁.heap m) (N : News h₀ L s₁.heap news) (hm : (ax, listOf vs.toArray k) ∈ news) (hsz : vs.length ≤ sizeLine)
    (h : ∀ g, Rest3 prog w A h₀ L m env elt x y z scope cl { s₁ with heap := g } (SrcAt h₀ ax vs.toArray) (fun i v => vs.toArray[i]? = some v) (Fin { s₁ with heap := g }) vs.toArray.size 0 [] news) :
    Src3 prog w A h₀ L m env elt x y z scope cl Fin (.ref ax) s₁ := ⟨ax, vs.toArray, news, rfl, hh, F, N, .inr ⟨_, hm, rfl, _, rfl⟩, by simpa using hsz, fun _ ⟨g, e⟩ => e ▸ h g⟩
end
section
open PyProof.Rows.LCg
theorem row_end {h₀ h' : Heap} {L I C D T : Addr} {m : Str → Option Value} {s₁ : Shared} {oI oC oD : Obj} {S : List (Addr × Obj) → Prop} {tk : Nat} {news all : List (Addr × Obj)} {kind name : Str} {mark : Int} {u1 u2 u3 : Tok}
    (F : Fr h₀ L h' m) (N : News h₀ L h' all) (mT : (T, Mine.tup [.str kind u2, .int mark u1, .str name u3]) ∈ all) (mI : (I, oI) ∈ all) (mC : (C, oC) ∈ all) (mD : (D, oD) ∈ all) (sN : ∀ p ∈ news, p ∈ all) (off : Off3 I C D news) (lI : @LT.lt Nat _ I T) (lC : @LT.lt Nat _ C T) (lD : @LT.lt Nat _ D T)
    (hS : S ((T, Mine.tup [.str kind u2, .int mark u1, .str name u3]) :: news)) :
    CompEnd h₀ L m s₁ I oI C oC D oD S (fun u news' => ∃ T u1 u2 u3, u = .ref T ∧ news' = (T, Mine.tup [.str kind u2, .int mark u1, .str name u3]) :: news) (.ref T) { s₁ with heap := h', toks := tk } := by
  refine ⟨h', tk, (T, Mine.tup [.str kind u2, .int mark u1, .str name u3]) :: news, rfl, F, ?_, Off3.of fun p hp => ?_, hS, T, u1, u2, u3, rfl, rfl⟩
  · intro p hp
    refine N p ?_
    simp only [List.mem_cons] at hp
    rcases hp with rfl | rfl | rfl | rfl | hp
    · exact mI
    · exact mC
    · exact mD
    · exact mT
    · exact sN p hp
  · rcases List.mem_cons.mp hp with rfl | hp
    · exact ⟨ne_of_lt_addr lI, ne_of_lt_addr lC, ne_of_lt_addr lD⟩
    · exact off.mem p hp
end
end
section
theorem lines_L14e : True := by
  k_with_none
  k_with "shSub" => first | (((with_reducible show wpAny _ _ (subscriptTail _ _ (Value.ref _) (Value.int _ _)) _ _ _))) | fail
  k_with "DIG" => first | (repeat (first | (with_reducible exact And.left) | (with_reducible exact id) | (with_reducible refine digR ?_))) | fail
  k_with "LT9" => first | (first | with_reducible assumption | (refine' ltLt ?h ?d; walk_at "HD")) | fail
  k_with "ALLLT" => first | (first | with_reducible assumption | (refine' allDig ?h ?d; walk_at "HD")) | fail
  k_with "K_NE" => first | ((refine neN ?_; first | with_reducible assumption | (refine Ne.symm ?_; with_reducible assumption) | (refine' neLt ?h ?d; walk_at "HD") | (refine' neGt ?h ?d; walk_at "HD") | (refine' neNe ?h ?d; walk_at "HD") | (refine' neEn ?h ?d; walk_at "HD") | (refine Nat.ne_of_lt ?_; with_reducible assumption) | (refine Nat.ne_of_gt ?_; with_reducible assumption) | ((try dsimp only); omega))) | fail
  k_with "MEM" => first | (first | with_reducible assumption | with_reducible exact List.mem_cons_self | (with_reducible refine List.mem_cons_of_mem _ ?_; walk_at "MEM")) | fail
  k_with "OM" => first | (first | exact dLe (by with_reducible assumption) rfl | exact dL0 (by with_reducible assumption) rfl | exact dLt (by with_reducible assumption) rfl | omega) | fail
  k_with "K_ALL" => first | (first | with_reducible assumption | (refine allLt_ne ?_; walk_at "ALLLT") | (refine off1_ne ?_; walk_at "ALLLT")) | fail
  k_with "TAIL" => first | ((intro p9 hp9; repeat (first | exact hp9 | refine List.mem_cons_of_mem _ ?_))) | fail
  k_with "K_ROOM" => first | (((simp only [depth_mark, depth_under_make, depth_under_kw, depth_in1, depth_deeper, depth_caller, ktrTop, recursionLimit]); walk_at "OM")) | fail
  k_with "K_UNITS" => first | ((have hcL := cLine_is; (simp only [units_in1, units_deeper, Around.mark_units, units_caller, ktrTop]); walk_at "OM")) | fail
  k_with "K_MEM" => first | (((fail_if_success refine' List.Mem.tail _ ?_); (show (_ : Addr × Obj) ∈ (_ : List (Addr × Obj))); with_reducible assumption)) | fail
  k_with "compareOp In str ref" => first | ((k_here; k_dflt (first | (refine' kd_in_some (by (k_asm; done)) (by (k_mem; done)) (by (with_reducible assumption; done)) (by (with_reducible assumption; done)) (by (with_reducible assumption; done)) ?_) | (refine' kd_in_none (by (k_asm; done)) (by (k_mem; done)) (by (with_reducible assumption; done)) (by (with_reducible assumption; done)) (by (with_reducible assumption; done)) ?_)))) | fail
  k_with "compareOp NotIn str ref" => first | ((k_here; k_dflt (first | (refine' kd_nin_some (by (k_asm; done)) (by (k_mem; done)) (by (with_reducible assumption; done)) (by (with_reducible assumption; done)) (by (with_reducible assumption; done)) ?_) | (refine' kd_nin_none (by (k_asm; done)) (by (k_mem; done)) (by (with_reducible assumption; done)) (by (with_reducible assumption; done)) (by (with_reducible assumption; done)) ?_) | (refine' nin2_f (by (k_asm; done)) (by (k_mem; done)) (by (with_reducible assumption; done)) ?_) | (refine' nin2_t (by (k_asm; done)) (by (k_mem; done)) (by (with_reducible assumption; done)) ?_)))) | fail
  k_with "subscriptTail" => first | ((k_here; (with_reducible show wpAny _ _ (subscriptTail _ _ (Value.ref _) (Value.str _ _)) _ _ _); k_dflt (refine' kd_item (by (k_asm; done)) (by (k_mem; done)) (by (with_reducible assumption; done)) (by (with_reducible assumption; done)) ?_ (by (with_unfolding_all rfl; done)) (by (intro _; with_unfolding_all rfl; done))))) | fail
  k_with "setItem ref str" => first | ((k_here; k_dflt (refine' kd_set (by (k_asm; done)) (by (k_asm; done)) (by (k_updF; done)) (by (with_reducible assumption; done)) (by (with_reducible assumption; done)) ?_); (intro h' o' F' N' hd'); (try dsimp only at N'))) | fail
  k_with "getItem ref" => first | ((k_here; (with_reducible show wpAny _ _ (getItem (Value.ref _) (Value.str _ _)) _ _ _); k_dflt (refine' kd_get (by (k_asm; done)) (by (k_mem; done)) (by (with_reducible assumption; done)) (by (with_reducible assumption; done)) ?_))) | fail
  k_with "compareOp NotEq str str" => first | ((k_here; first | (refine ne_str_t (by with_reducible assumption) ?_) | (refine ne_str_f (by with_reducible assumption) ?_))) | fail
  k_with "compareOp Eq str str" => first | ((k_here; first | (refine eq_str_f (by with_reducible assumption) ?_) | (refine eq_str_t (by with_reducible assumption) ?_))) | fail
  k_with "exec If Compare cons cons" => first | ((k_here; (with_reducible show wpAny _ _ (exec (Stmt.If (Expr.Compare (Expr.Name _ _) [CmpOp.Eq] [Expr.Constant (Const.str _) _ _] _) _ _ _) _) _ _ _); k_dflt (refine' if_str_no (by (k_asm; done)) (by (exact rfl; done)) (by (decide +kernel; done)) ?_))) | fail
  k_with "exec If Compare cons cons" => first | ((k_here; (with_reducible show wpAny _ _ (exec (Stmt.If (Expr.Compare (Expr.Name _ _) [CmpOp.Eq] [Expr.Constant (Const.str _) _ _] _) _ _ _) _) _ _ _); k_dflt (refine' if_str (by (k_asm; done)) (by (exact rfl; done)) (by (exact rfl; done)) ?_))) | fail
  k_with "subscriptTail Name Constant ref int" => first | ((k_here; walk_at "shSub"; k_dflt (first | (refine' item_tup0 (by (k_asm; done)) (by (k_mem; done)) (by (exact rfl; done)) (by (decide; done)) (by (decide; done)) ?_ (by (with_unfolding_all rfl; done))) | (refine' item_lst0 (by (k_asm; done)) (by (k_mem; done)) (by (exact rfl; done)) (by (decide; done)) (by (decide; done)) ?_ (by (with_unfolding_all rfl; done)))))) | fail
  k_with "subscriptTail Subscript Name Constant Constant ref int" => first | ((k_here; walk_at "shSub"; k_dflt (first | (refine' item_tup0 (by (k_asm; done)) (by (k_mem; done)) (by (exact rfl; done)) (by (decide; done)) (by (decide; done)) ?_ (by (with_unfolding_all rfl; done))) | (refine' item_lst0 (by (k_asm; done)) (by (k_mem; done)) (by (exact rfl; done)) (by (decide; done)) (by (decide; done)) ?_ (by (with_unfolding_all rfl; done)))))) | fail
  k_with "callWith builtin:list.append cons nil" => first | ((refine callWith_method1 ?_)) | fail
  k_with "execs nil" => first | ((with_reducible refine wpAny_execs_nil ?_)) | fail
  k_with "EC" => first | (first | k_fold | k_gentoks | (with_reducible refine wpAny_execs_cons ?_; try dsimp only)) | fail
  k_with "execs cons If nil" => first | (walk_at "EC") | fail
  k_with "execs cons If cons" => first | (walk_at "EC") | fail
  k_with "execs cons Assign cons" => first | (walk_at "EC") | fail
  k_with "execs cons Assign nil" => first | (walk_at "EC") | fail
  k_with "execs cons Return nil" => first | (walk_at "EC") | fail
  k_with "execs cons Return cons" => first | (walk_at "EC") | fail
  k_with "execs cons Expr nil" => first | (walk_at "EC") | fail
  k_with "execs cons Expr cons" => first | (walk_at "EC") | fail
  k_with "exec If Compare cons nil" => first | ((with_reducible refine wpAny_If ?_)) | fail
  k_with "spliced" => first | ((k_here; with_reducible first | refine args_cs ?_ | refine args_cn ?_ | refine args_ci ?_ | refine args_cb ?_)) | fail
  k_with "spliced" => first | ((k_here; (with_reducible show wpAny _ _ (spliced (backTo _ (starEach (Expr.Name _ _ :: _) (envOf _ _ _ _ _)))) _ _ _); k_dflt (refine' args_nm (by (k_asm; done)) (by (exact rfl; done)) ?_ (by rfl) (by rfl) (by decide)))) | fail
  k_with "compareOp NotEq ref ref" => first | ((refine Halt.out ?_)) | fail
  k_with "call builtin:sorted" => first | ((k_here; (with_reducible show wpAny _ _ (call (Value.builtin _) [Value.ref _]) _ _ _); k_dflt (refine' sorted_due (by (k_asm; done)) (by (k_asm; done)) (by (k_mem; done)) (by (walk_at "TAIL"; done)) (by (with_reducible assumption; done)) (by (with_reducible assumption; done)) (by (with_reducible assumption; done)) ?_); intro D' c' h' vs' due' F' N' hd' hp' hs' l1)) | fail
  k_with "eval ListComp" => first | ((k_here; k_dflt (refine ListComp_3 (by k_asm) (by with_unfolding_all rfl) (by decide) (by rfl) (by decide) (by rfl) (by rfl) (by rfl) (by decide) (by decide) (by decide) ?_))) | fail
  k_with "Src3" => first | ((k_dflt (refine Src3.ledger (by rfl) (by k_asm) (by k_asm) (by k_mem) (by walk_at "SZ4") ?_; intro g'))) | fail
  k_with "SZ4" => first | (((rename DueIn _ _ _ => di9); (rename List.Perm _ _ => pm9); (rw [PySem.sizeLine_eq]); (have hl9 := DueIn.len di9); (have hq9 := List.Perm.length_eq pm9); omega)) | fail
  k_with "Rest3" => first | ((k_dflt ((refine' rest3_rows (by (with_reducible assumption; done)) (by (walk_at "TAIL"; done)) (by (rfl; done)) (by (exact arrP; done)) ?_ ?_) <;> first | walk_at "R3TURN" | (intro ys8 news8 hr8 hs8)))) | fail
  k_with "R3TURN" => first | ((intro mark9 kind9 name9 t19 t29 t39 I9 oI9 C9 oC9 D9 m9 ys9 h9 tk9 news9 E9 hs9 hC9 h19 h29 h39 F9 N9 off9 ne9)) | fail
  k_with "CompEnd" => first | (((rename (∀ p ∈ _, p ∈ _) => hs9); exact row_end (by k_asm) (by k_asm) (by k_mem) (by k_mem) (by k_mem) (by k_mem) (by walk_at "TAIL") (by with_reducible assumption) (by walk_at "LT9") (by walk_at "LT9") (by walk_at "LT9") (Or.inr ⟨_, List.mem_cons_of_mem _ (hs9 _ (by k_mem)), rfl, _, rfl⟩))) | fail
  trivial





set_option maxRecDepth 100000 in
set_option maxHeartbeats 8000000 in
theorem rows_if {w : World} {loose : List Str} {mean : ExcName → Option Value} {mg mb : Str → Option Value} {L fa cd : Addr} {h₀ : Heap} {m : Str → Option Value} {s : Shared} {Q : Flow → Shared → Prop}
    {rep repd rl du : Addr} {t1 t2 t3 : Tok} {nv tv : Value} {nn nr k : Nat} {rs dus : List Value} {rows : List Row} {due : List (Int × Str × Str)} {R : List (Addr × Obj)}
    (K0 : Below callerA h₀ [] h₀) (F : Fr h₀ L s.heap m) (X : (Mine.hdE.heap_1_1 w.params).In h₀) (T : Top Mine.hdE.view_1_2 loose mean mg mb h₀)
    (N : News h₀ L s.heap R) (b1 : (rep, instObj 38 repd) ∈ R) (b2 : (repd, repDict w t1 t2 t3 nv tv rl nn) ∈ R) (mr : (rl, listOf rs.toArray nr) ∈ R) (md : (du, listOf dus.toArray k) ∈ R)
    (hr : RowsIn R rs rows) (hd : DueIn R dus due) (hinj : Inj due.length fun i => (dueAt due i).1) (h64 : due.length < 64)
    (hgood : ∀ due' : List (Int × Str × Str), due'.Perm due → due'.Pairwise (fun a b => a.1 < b.1) → rows = due'.map toRow)
    (f1 : m (Str.ofString "notes") = some (.ref rep)) (f2 : m (Str.ofString "due") = some (.ref du))
    (hret : ∀ h' tk', Fr h₀ L h' m → News h₀ L h' R → Q .next { s with heap := h', toks := tk' }) :
    wpAny (model PySem.Challenge.rw_sj0028_01.row.prog w) (lawA L fa cd) (exec (nthS 12 lawB) (lawE L fa cd)) Q (fun _ _ => False) s := by
  w_top off
  unfold lawA lawE
  conv => pattern (nthS 12 lawB); whnf
  conv => pattern (occs := *) lawS <;> (whnf; zeta)
  have Fm := Fr.two F f1 f2
  clear F
  revert X
  k_fill
  intro X
  k_steps
  all_goals (unfold Halt)
  rename RowsIn _ _ (List.map toRow _) => hr8
  rename (∀ p ∈ _, p ∈ _) => hs8
  rename List.Perm _ _ => hp8
  rename List.Pairwise _ _ => hw8
  rename News _ _ _ _ => N8
  have hrow := hgood _ hp8 hw8
  rw [← hrow] at hr8
  refine rows_ne (by k_asm) (fun p hp => List.mem_cons_of_mem _ (hs8 p (List.mem_cons_of_mem _ hp))) (fun p hp => List.mem_cons_of_mem _ hp) hr hr8 (List.mem_cons_of_mem _ (hs8 _ (List.mem_cons_of_mem _ mr))) List.mem_cons_self (by (simp only [units_deeper, units_caller]); decide) ?_
  k_steps
  have e : (fun y => if y = Str.ofString "notes" then some (Value.ref rep) else if y = Str.ofString "due" then some (Value.ref du) else m y) = m := funext (keep2i f1 f2)
  rename Fr _ _ _ _ => F8
  exact hret _ _ (e ▸ F8) (fun p hp => N8 p (List.mem_cons_of_mem _ (hs8 p (List.mem_cons_of_mem _ hp))))
end
section
inductive EntsIn (R : List (Addr × Obj)) : List Value → List Ent → Prop
  | nil : EntsIn R [] []
  | cons {v : Value} {e : Ent} {vs : List Value} {es : List Ent} : EntIn R v e → EntsIn R vs es → EntsIn R (v :: vs) (e :: es)
theorem EntsIn.snoc {R : List (Addr × Obj)} {vs : List Value} {es : List Ent} {v : Value} {e : Ent} (h : EntsIn R vs es) (hi : EntIn R v e) : EntsIn R (vs ++ [v]) (es ++ [e]) := by
  induction h with
  | nil => exact .cons hi .nil
  | cons h _ ih => exact .cons h ih
theorem EntsIn.len {R : List (Addr × Obj)} {vs : List Value} {es : List Ent} (h : EntsIn R vs es) : vs.length = es.length := by
  induction h with
  | nil => rfl
  | cons _ _ ih => simp [ih]
theorem EntsIn.get {R : List (Addr × Obj)} {vs : List Value} {es : List Ent} (h : EntsIn R vs es) : ∀ {i : Nat} {v : Value}, vs[i]? = some v → ∃ e, es[i]? = some e ∧ EntIn R v e := by
  induction h with
  | nil => intro i v e; simp at e
  | cons h _ ih =>
    intro i v e
    cases i with
    | zero => simp at e; subst e; exact ⟨_, rfl, h⟩
    | succ i => simp at e; simpa using ih e
theorem EntsIn.mono {R R' : List (Addr × Obj)} (hs : ∀ p ∈ R, p ∈ R') {vs : List Value} {es : List Ent} (h : EntsIn R vs es) : EntsIn R' vs es := by
  induction h with
  | nil => exact .nil
  | cons h _ ih => exact .cons (h.mono hs) ih
theorem EntsIn.last {R : List (Addr × Obj)} {vs : List Value} {es : List Ent} (h : EntsIn R vs es) : (vs = [] ∧ es = []) ∨ ∃ pre v e, vs = pre ++ [v] ∧ es.getLast? = some e ∧ EntIn R v e := by
  induction h with
  | nil => exact .inl ⟨rfl, rfl⟩
  | @cons v e vs es h _ ih =>
    rcases ih with ⟨rfl, rfl⟩ | ⟨pre, v', e', rfl, he, hi⟩
    · exact .inr ⟨[], v, e, rfl, rfl, h⟩
    · refine .inr ⟨v :: pre, v', e', rfl, ?_, hi⟩
      rw [List.getLast?_cons, he]; rfl
noncomputable def tab3 (t0 t1 t2 : List (Str × Ent)) : Nat → List (Str × Ent)
  | 0 => t0
  | 1 => t1
  | _ => t2
noncomputable def nearE (t0 t1 t2 : List (Str × Ent)) (n : Str) (i : Nat) : List Ent := (List.range i).filterMap fun j => entAt (tab3 t0 t1 t2 j) n
theorem nearE_some {t0 t1 t2 : List (Str × Ent)} {n : Str} {i : Nat} {e : Ent} (h : entAt (tab3 t0 t1 t2 i) n = some e) : nearE t0 t1 t2 n (i + 1) = nearE t0 t1 t2 n i ++ [e] := by
  simp [nearE, List.range_succ, List.filterMap_append, h]
theorem nearE_none {t0 t1 t2 : List (Str × Ent)} {n : Str} {i : Nat} (h : entAt (tab3 t0 t1 t2 i) n = none) : nearE t0 t1 t2 n (i + 1) = nearE t0 t1 t2 n i := by
  simp [nearE, List.range_succ, List.filterMap_append, h]
theorem small3 {l : Nat} (h : l ≤ 2) : Builtin.Range.small 0 ((l : Int) + 1) 1 = true := by
  have : l = 0 ∨ l = 1 ∨ l = 2 := by omega
  rcases this with rfl | rfl | rfl <;> decide
section
open PyProof.Rows.LCt PyProof.Rows.LCg
variable {prog : Program} {w : World} {A : Around} {h₀ : Heap} {L : Addr} {m : Str → Option Value} {env : Env} {ct elt : PySem.Expr} {x : Str} {scope : Scope} {cl : List (Str × Addr)} {s : Shared} {S : List (Addr × Obj) → Prop} {P : Nat → Value → Prop} {Fin : List Value → List (Addr × Obj) → Prop} {news : List (Addr × Obj)}
def NearYes (R : List (Addr × Obj)) (o : Option Ent) (news : List (Addr × Obj)) (y : Value) (news' : List (Addr × Obj)) : Prop := news' = news ∧ ∃ e, o = some e ∧ EntIn R y e
def NearNo (o : Option Ent) (news : List (Addr × Obj)) (_ : Value) (news' : List (Addr × Obj)) : Prop := news' = news ∧ o = none
theorem cf_near {n : Nat} {R : List (Addr × Obj)} {t0 t1 t2 : List (Str × Ent)} {nm : Str} (hP : ∀ i v, P i v → ∃ t, v = .int (i : Int) t) (hn : n ≤ 3)
    (turn : ∀ (i : Nat) t I oI C oC D m₂ ys h tk (E' : Value → Shared → Prop), (i = 0 ∨ i = 1 ∨ i = 2) → NsObj oC m₂ → m₂ x = some (.int (i : Int) t) → Fr h₀ L h m → News h₀ L h ((I, oI) :: (C, oC) :: (D, lst ys) :: news) → Off3 I C D news → ((@Ne Nat I C) ∧ (@Ne Nat I D) ∧ (@Ne Nat C D)) →
      wpAny (model prog w) A (isTrue ct (compEnvC scope cl C env) (eval ct (compEnvC scope cl C env))) (fun b s' => if b = true then wpAny (model prog w) A (eval elt (compEnvC scope cl C env)) (CompEnd h₀ L m { s with heap := h, toks := tk } I oI C oC D (lst ys) S (NearYes R (entAt (tab3 t0 t1 t2 i) nm) news)) E' s'
        else CompEnd h₀ L m { s with heap := h, toks := tk } I oI C oC D (lst ys) S (NearNo (entAt (tab3 t0 t1 t2 i) nm) news) Value.none s') E' { s with heap := h, toks := tk })
    (fin : ∀ ys, EntsIn R ys (nearE t0 t1 t2 nm n) → Fin ys news) : CompRestT prog w A h₀ L m env ct elt x scope cl s S P Fin n 0 [] news := by
  refine cf_rest (fun i ys => EntsIn R ys (nearE t0 t1 t2 nm i)) .nil ?_ fin
  intro i v I oI C oC D m₂ ys h tk E' hi hPv hJ hC hx F N off ne
  obtain ⟨t, rfl⟩ := hP i v hPv
  refine wpAny_mono (turn i t I oI C oC D m₂ ys h tk E' (by omega) hC hx F N off ne) (fun b s₂ hq => ?_) fun _ _ e => e
  cases b with
  | true =>
    simp only [if_true] at hq ⊢
    refine wpAny_mono hq (fun y s₃ hr => ?_) fun _ _ e => e
    obtain ⟨h', tk', nw, e, F', N', off', hS, hn', en, ho, hi⟩ := hr
    exact ⟨h', tk', nw, e, F', N', off', hS, hn', by rw [nearE_some ho]; exact hJ.snoc hi⟩
  | false =>
    simp only [Bool.false_eq_true, if_false] at hq ⊢
    obtain ⟨h', tk', nw, e, F', N', off', hS, hn', ho⟩ := hq
    exact ⟨h', tk', nw, e, F', N', off', hS, hn', by rw [nearE_none ho]; exact hJ⟩
theorem cf_routs {n : Nat} {R : List (Addr × Obj)} {vs : List Value} {es : List Ent} (hes : EntsIn R vs es) (hn : vs.length = n) (hP : ∀ i v, P i v → vs[i]? = some v)
    (turn : ∀ a wh t1 xs I oI C oC D m₂ ys h tk (E' : Value → Shared → Prop), (a, Mine.tup (.str wh t1 :: xs)) ∈ R → NsObj oC m₂ → m₂ x = some (.ref a) → Fr h₀ L h m → News h₀ L h ((I, oI) :: (C, oC) :: (D, lst ys) :: news) → Off3 I C D news → ((@Ne Nat I C) ∧ (@Ne Nat I D) ∧ (@Ne Nat C D)) →
      wpAny (model prog w) A (isTrue ct (compEnvC scope cl C env) (eval ct (compEnvC scope cl C env))) (fun b s' => if b = true then wpAny (model prog w) A (eval elt (compEnvC scope cl C env)) (CompEnd h₀ L m { s with heap := h, toks := tk } I oI C oC D (lst ys) S (fun y news' => news' = news ∧ y = .ref a ∧ [Str.ofString "task", Str.ofString "function"].any (· == wh) = true)) E' s'
        else CompEnd h₀ L m { s with heap := h, toks := tk } I oI C oC D (lst ys) S (fun _ news' => news' = news ∧ [Str.ofString "task", Str.ofString "function"].any (· == wh) = false) Value.none s') E' { s with heap := h, toks := tk })
    (fin : ∀ ys, EntsIn R ys (es.filter Ent.isR) → Fin ys news) : CompRestT prog w A h₀ L m env ct elt x scope cl s S P Fin n 0 [] news := by
  have isr : ∀ e : Ent, [Str.ofString "task", Str.ofString "function"].any (· == e.what) = e.isR := fun e => by
    simp only [List.any_cons, List.any_nil, Bool.or_false, Ent.isR]
    rw [Bool.beq_comm (a := Str.ofString "task"), Bool.beq_comm (a := Str.ofString "function")]
  refine cf_rest (fun i ys => EntsIn R ys ((es.take i).filter Ent.isR)) .nil ?_ ?_
  · intro i v I oI C oC D m₂ ys h tk E' hi hPv hJ hC hx F N off ne
    obtain ⟨e, hei, hE⟩ := hes.get (hP i v hPv)
    have hs : es.take (i + 1) = es.take i ++ [e] := by simp [List.take_add_one, hei]
    have hE' := hE
    cases hE with
    | @mk a wh i0 t1 t2 iv inf hm hinf =>
      refine wpAny_mono (turn a wh t1 _ I oI C oC D m₂ ys h tk E' hm hC hx F N off ne) (fun b s₂ hq => ?_) fun _ _ e => e
      have his := isr ⟨wh, i0, inf⟩
      cases b with
      | true =>
        simp only [if_true] at hq ⊢
        refine wpAny_mono hq (fun y s₃ hr => ?_) fun _ _ e => e
        obtain ⟨h', tk', nw, e, F', N', off', hS, hn', hy, hp⟩ := hr
        refine ⟨h', tk', nw, e, F', N', off', hS, hn', ?_⟩
        rw [hs, List.filter_append, List.filter_cons_of_pos (by rw [← his]; exact hp), List.filter_nil, hy]
        exact hJ.snoc hE'
      | false =>
        simp only [Bool.false_eq_true, if_false] at hq ⊢
        obtain ⟨h', tk', nw, e, F', N', off', hS, hn', hp⟩ := hq
        refine ⟨h', tk', nw, e, F', N', off', hS, hn', ?_⟩
        rw [hs, List.filter_append, List.filter_cons_of_neg (by rw [← his]; simp [hp]), List.filter_nil, List.append_nil]
        exact hJ
  · intro ys hJ
    have : es.take n = es := by rw [← hn, hes.len]; exact List.take_length
    rw [this] at hJ
    exact fin ys hJ
end
theorem keep1n {m : Str → Option Value} {x1 y : Str} {v1 v : Value} (g1 : m x1 = some v1) : (fun z => if z = y then some v else if z = x1 then some v1 else m z) = fun z => if z = y then some v else m z := by
  funext z
  split
  · rfl
  · split
    · next e => rw [e, g1]
    · rfl
end
section
theorem lines_L15b : True := by
  k_with_none
  k_with "shSub" => first | (((with_reducible show wpAny _ _ (subscriptTail _ _ (Value.ref _) (Value.int _ _)) _ _ _))) | fail
  k_with "DIG" => first | (repeat (first | (with_reducible exact And.left) | (with_reducible exact id) | (with_reducible refine digR ?_))) | fail
  k_with "LT9" => first | (first | with_reducible assumption | (refine' ltLt ?h ?d; walk_at "HD")) | fail
  k_with "ALLLT" => first | (first | with_reducible assumption | (refine' allDig ?h ?d; walk_at "HD")) | fail
  k_with "K_NE" => first | ((refine neN ?_; first | with_reducible assumption | (refine Ne.symm ?_; with_reducible assumption) | (refine' neLt ?h ?d; walk_at "HD") | (refine' neGt ?h ?d; walk_at "HD") | (refine' neNe ?h ?d; walk_at "HD") | (refine' neEn ?h ?d; walk_at "HD") | (refine Nat.ne_of_lt ?_; with_reducible assumption) | (refine Nat.ne_of_gt ?_; with_reducible assumption) | ((try dsimp only); omega))) | fail
  k_with "MEM" => first | (first | with_reducible assumption | with_reducible exact List.mem_cons_self | (with_reducible refine List.mem_cons_of_mem _ ?_; walk_at "MEM")) | fail
  k_with "OM" => first | (first | exact dLe (by with_reducible assumption) rfl | exact dL0 (by with_reducible assumption) rfl | exact dLt (by with_reducible assumption) rfl | omega) | fail
  k_with "K_ALL" => first | (first | with_reducible assumption | (refine allLt_ne ?_; walk_at "ALLLT") | (refine off1_ne ?_; walk_at "ALLLT")) | fail
  k_with "TAIL" => first | ((intro p9 hp9; repeat (first | exact hp9 | refine List.mem_cons_of_mem _ ?_))) | fail
  k_with "K_ROOM" => first | (((simp only [depth_mark, depth_under_make, depth_under_kw, depth_in1, depth_deeper, depth_caller, ktrTop, recursionLimit]); walk_at "OM")) | fail
  k_with "K_UNITS" => first | ((have hcL := cLine_is; (simp only [units_in1, units_deeper, Around.mark_units, units_caller, ktrTop]); walk_at "OM")) | fail
  k_with "K_MEM" => first | (((fail_if_success refine' List.Mem.tail _ ?_); (show (_ : Addr × Obj) ∈ (_ : List (Addr × Obj))); with_reducible assumption)) | fail
  k_with "compareOp In str ref" => first | ((k_here; k_dflt (first | (refine' kd_in_some (by (k_asm; done)) (by (k_mem; done)) (by (with_reducible assumption; done)) (by (with_reducible assumption; done)) (by (with_reducible assumption; done)) ?_) | (refine' kd_in_none (by (k_asm; done)) (by (k_mem; done)) (by (with_reducible assumption; done)) (by (with_reducible assumption; done)) (by (with_reducible assumption; done)) ?_)))) | fail
  k_with "compareOp NotIn str ref" => first | ((k_here; k_dflt (first | (refine' kd_nin_some (by (k_asm; done)) (by (k_mem; done)) (by (with_reducible assumption; done)) (by (with_reducible assumption; done)) (by (with_reducible assumption; done)) ?_) | (refine' kd_nin_none (by (k_asm; done)) (by (k_mem; done)) (by (with_reducible assumption; done)) (by (with_reducible assumption; done)) (by (with_reducible assumption; done)) ?_) | (refine' nin2_f (by (k_asm; done)) (by (k_mem; done)) (by (with_reducible assumption; done)) ?_) | (refine' nin2_t (by (k_asm; done)) (by (k_mem; done)) (by (with_reducible assumption; done)) ?_)))) | fail
  k_with "subscriptTail" => first | ((k_here; (with_reducible show wpAny _ _ (subscriptTail _ _ (Value.ref _) (Value.str _ _)) _ _ _); k_dflt (refine' kd_item (by (k_asm; done)) (by (k_mem; done)) (by (with_reducible assumption; done)) (by (with_reducible assumption; done)) ?_ (by (with_unfolding_all rfl; done)) (by (intro _; with_unfolding_all rfl; done))))) | fail
  k_with "setItem ref str" => first | ((k_here; k_dflt (refine' kd_set (by (k_asm; done)) (by (k_asm; done)) (by (k_updF; done)) (by (with_reducible assumption; done)) (by (with_reducible assumption; done)) ?_); (intro h' o' F' N' hd'); (try dsimp only at N'))) | fail
  k_with "getItem ref" => first | ((k_here; (with_reducible show wpAny _ _ (getItem (Value.ref _) (Value.str _ _)) _ _ _); k_dflt (refine' kd_get (by (k_asm; done)) (by (k_mem; done)) (by (with_reducible assumption; done)) (by (with_reducible assumption; done)) ?_))) | fail
  k_with "compareOp NotEq str str" => first | ((k_here; first | (refine ne_str_t (by with_reducible assumption) ?_) | (refine ne_str_f (by with_reducible assumption) ?_))) | fail
  k_with "compareOp Eq str str" => first | ((k_here; first | (refine eq_str_f (by with_reducible assumption) ?_) | (refine eq_str_t (by with_reducible assumption) ?_))) | fail
  k_with "exec If Compare cons cons" => first | ((k_here; (with_reducible show wpAny _ _ (exec (Stmt.If (Expr.Compare (Expr.Name _ _) [CmpOp.Eq] [Expr.Constant (Const.str _) _ _] _) _ _ _) _) _ _ _); k_dflt (refine' if_str_no (by (k_asm; done)) (by (exact rfl; done)) (by (decide +kernel; done)) ?_))) | fail
  k_with "exec If Compare cons cons" => first | ((k_here; (with_reducible show wpAny _ _ (exec (Stmt.If (Expr.Compare (Expr.Name _ _) [CmpOp.Eq] [Expr.Constant (Const.str _) _ _] _) _ _ _) _) _ _ _); k_dflt (refine' if_str (by (k_asm; done)) (by (exact rfl; done)) (by (exact rfl; done)) ?_))) | fail
  k_with "subscriptTail Name Constant ref int" => first | ((k_here; walk_at "shSub"; k_dflt (first | (refine' item_tup0 (by (k_asm; done)) (by (k_mem; done)) (by (exact rfl; done)) (by (decide; done)) (by (decide; done)) ?_ (by (with_unfolding_all rfl; done))) | (refine' item_lst0 (by (k_asm; done)) (by (k_mem; done)) (by (exact rfl; done)) (by (decide; done)) (by (decide; done)) ?_ (by (with_unfolding_all rfl; done)))))) | fail
  k_with "subscriptTail Subscript Name Constant Constant ref int" => first | ((k_here; walk_at "shSub"; k_dflt (first | (refine' item_tup0 (by (k_asm; done)) (by (k_mem; done)) (by (exact rfl; done)) (by (decide; done)) (by (decide; done)) ?_ (by (with_unfolding_all rfl; done))) | (refine' item_lst0 (by (k_asm; done)) (by (k_mem; done)) (by (exact rfl; done)) (by (decide; done)) (by (decide; done)) ?_ (by (with_unfolding_all rfl; done)))))) | fail
  k_with "callWith builtin:list.append cons nil" => first | ((refine callWith_method1 ?_)) | fail
  k_with "execs nil" => first | ((with_reducible refine wpAny_execs_nil ?_)) | fail
  k_with "EC" => first | (first | k_fold | k_gentoks | (with_reducible refine wpAny_execs_cons ?_; try dsimp only)) | fail
  k_with "execs cons If nil" => first | (walk_at "EC") | fail
  k_with "execs cons If cons" => first | (walk_at "EC") | fail
  k_with "execs cons Assign cons" => first | (walk_at "EC") | fail
  k_with "execs cons Assign nil" => first | (walk_at "EC") | fail
  k_with "execs cons Return nil" => first | (walk_at "EC") | fail
  k_with "execs cons Return cons" => first | (walk_at "EC") | fail
  k_with "execs cons Expr nil" => first | (walk_at "EC") | fail
  k_with "execs cons Expr cons" => first | (walk_at "EC") | fail
  k_with "exec If Compare cons nil" => first | ((with_reducible refine wpAny_If ?_)) | fail
  k_with "spliced" => first | ((k_here; with_reducible first | refine args_cs ?_ | refine args_cn ?_ | refine args_ci ?_ | refine args_cb ?_)) | fail
  k_with "spliced" => first | ((k_here; (with_reducible show wpAny _ _ (spliced (backTo _ (starEach (Expr.Name _ _ :: _) (envOf _ _ _ _ _)))) _ _ _); k_dflt (refine' args_nm (by (k_asm; done)) (by (exact rfl; done)) ?_ (by rfl) (by rfl) (by decide)))) | fail
  k_with "call ref" => first | (((with_reducible show wpAny _ _ (call (Value.ref 124) _) _ _ _); refine Halt.out ?_)) | fail
  k_with "UnrEnd" => first | ((refine Halt.out ?_)) | fail
  k_with "call type:range" => first | ((k_here; (with_reducible show wpAny _ _ (call (Value.type "range") [Value.int _ _]) _ _ _); (refine range1_rows (by k_asm) (by k_asm) ?_); intro h' tk' t' u' v' hr' F' N' hk')) | fail
  k_with "PYITER" => first | ((k_here; (with_reducible show wpAny _ _ (pyIter (Value.ref _)) (fun it s₂ => LoopAtV _ _ _ _ _ _ _ _ _ it s₂) _ _); (refine Halt.out ?_))) | fail
  k_with "exec Assign cons ListComp" => first | ((k_here; (rename DoneMark => dm9); k_dflt (refine PyProof.Rows.LCt.Assign_ListComp_T (F₀ := by k_asm) (by rfl) (by with_unfolding_all rfl) (by with_unfolding_all rfl) (by decide) (by rfl) (by decide) (by rfl) (by rfl) (by rfl) ?_))) | fail
  k_with "CompSrcT" => first | ((refine Halt.out ?_)) | fail
  k_with "CompEnd" => first | ((refine Halt.out ?_)) | fail
  k_with "subscriptTail Name Name ref int" => first | ((k_here; walk_at "shSub"; k_dflt (refine' item_lst0 (by (k_asm; done)) (by (k_mem; done)) (by (exact rfl; done)) (by (decide; done)) (by (decide; done)) ?_ (by (with_unfolding_all rfl; done))))) | fail
  trivial






set_option maxRecDepth 100000 in
set_option maxHeartbeats 8000000 in
theorem near_ok {w : World} {loose : List Str} {mean : ExcName → Option Value} {mg mb : Str → Option Value} {L fa cd : Addr} {h₀ : Heap} {m : Str → Option Value} {s : Shared} {Q : Flow → Shared → Prop}
    {el ed0 ed1 ed2 : Addr} {l : Nat} {tl tn : Tok} {n : Str} {ne : Nat} {oe0 oe1 oe2 oc1 oc : Obj} {k0 k1 k2 : List (Str × Value)} {t0 t1 t2 : List (Str × Ent)} {R : List (Addr × Obj)}
    (K0 : Below callerA h₀ [] h₀) (F : Fr h₀ L s.heap m) (X : (Mine.hdE.heap_1_1 w.params).In h₀) (T : Top Mine.hdE.view_1_2 loose mean mg mb h₀)
    (N : News h₀ L s.heap R) (mel : (el, listOf [Value.ref ed0, Value.ref ed1, Value.ref ed2].toArray ne) ∈ R) (mc1 : (L + 1, oc1) ∈ R) (hc1 : oc1.data = .cell (some (.ref el))) (mc : (L + 1 + 1, oc) ∈ R) (hc : oc.data = .cell (some (.str n tn)))
    (me0 : (ed0, oe0) ∈ R) (me1 : (ed1, oe1) ∈ R) (me2 : (ed2, oe2) ∈ R) (D0 : oe0.IsDictOf (PySem.strKind PySem.Challenge.rw_sj0028_01.row.prog w) k0) (D1 : oe1.IsDictOf (PySem.strKind PySem.Challenge.rw_sj0028_01.row.prog w) k1) (D2 : oe2.IsDictOf (PySem.strKind PySem.Challenge.rw_sj0028_01.row.prog w) k2)
    (lo0 : (ed0 == sysModules) = false) (lo1 : (ed1 == sysModules) = false) (lo2 : (ed2 == sysModules) = false) (T0 : TabIn R k0 t0) (T1 : TabIn R k1 t1) (T2 : TabIn R k2 t2) (hl2 : l ≤ 2)
    (f2 : m (Str.ofString "level") = some (.int (l : Int) tl))
    (hret : ∀ D ys h' tk', Fr h₀ L h' (fun z => if z = Str.ofString "near" then some (.ref D) else m z) → News h₀ L h' ((D, PyProof.Rows.LCg.lst ys) :: R) → EntsIn R ys (nearE t0 t1 t2 n (l + 1)) → (∀ p ∈ R, p.1 ≠ D) → Q .next { s with heap := h', toks := tk' }) :
    wpAny (model PySem.Challenge.rw_sj0028_01.row.prog w) (lawA L fa cd) (exec (nthS 0 (bodyOf (nthS 1 (bodyOf (nthS 13 lawB))))) (lawE L fa cd)) Q (fun _ _ => False) s := by
  w_top off
  unfold lawA lawE
  conv => pattern (nthS 0 (bodyOf (nthS 1 (bodyOf (nthS 13 lawB))))); whnf
  conv => pattern (occs := *) lawS <;> (whnf; zeta)
  have hmark : DoneMark := ⟨⟩
  have Fm := Fr.one F f2
  clear F
  revert X
  k_fill
  intro X
  k_steps
  all_goals (unfold Halt)
  rename IsRange _ _ _ _ _ _ _ _ => hr9
  refine PyProof.Rows.LCt.CompSrcT.range (by rfl) (by k_asm) (by k_asm) hr9 (small3 hl2) (rangeSize_nat _ _) (by rw [PySem.sizeLine_eq]; omega) ?_
  intro g9
  refine cf_near (R := R) (t0 := t0) (t1 := t1) (t2 := t2) (nm := n) (fun i v hv => by obtain ⟨t, rfl⟩ := hv; exact ⟨t, by rw [Int.zero_add]⟩) (by omega) ?turn ?fin
  case turn =>
    intro i9 t9 I9 oI9 C9 oC9 D9 m9 ys9 h9 tk9 E9 hi9 hC9 hx9 F9 N9 off9 ne9
    rcases hi9 with rfl | rfl | rfl
    · rcases T0.look n with ⟨hv9, he9⟩ | ⟨v9, e9, hv9, he9, hE9⟩
      · k_steps
        all_goals (unfold Halt)
        exact compEnd2 (by k_asm) (by k_asm) (show NearNo _ _ _ _ from ⟨rfl, he9⟩) off9 trivial (by walk_at "TAIL")
      · k_steps
        all_goals (unfold Halt)
        exact compEnd2 (by k_asm) (by k_asm) (show NearYes _ _ _ _ _ from ⟨rfl, e9, he9, hE9⟩) off9 trivial (by walk_at "TAIL")
    · rcases T1.look n with ⟨hv9, he9⟩ | ⟨v9, e9, hv9, he9, hE9⟩
      · k_steps
        all_goals (unfold Halt)
        exact compEnd2 (by k_asm) (by k_asm) (show NearNo _ _ _ _ from ⟨rfl, he9⟩) off9 trivial (by walk_at "TAIL")
      · k_steps
        all_goals (unfold Halt)
        exact compEnd2 (by k_asm) (by k_asm) (show NearYes _ _ _ _ _ from ⟨rfl, e9, he9, hE9⟩) off9 trivial (by walk_at "TAIL")
    · rcases T2.look n with ⟨hv9, he9⟩ | ⟨v9, e9, hv9, he9, hE9⟩
      · k_steps
        all_goals (unfold Halt)
        exact compEnd2 (by k_asm) (by k_asm) (show NearNo _ _ _ _ from ⟨rfl, he9⟩) off9 trivial (by walk_at "TAIL")
      · k_steps
        all_goals (unfold Halt)
        exact compEnd2 (by k_asm) (by k_asm) (show NearYes _ _ _ _ _ from ⟨rfl, e9, he9, hE9⟩) off9 trivial (by walk_at "TAIL")
  case fin =>
    intro ys8 hy8
    k_steps
    rename Fr _ _ _ _ => F8
    rename News _ _ _ _ => N8
    rename PyProof.Rows.LCg.Off1 _ _ => o8
    exact hret _ _ _ _ (keep1n f2 ▸ F8) N8 hy8 (off1_ne o8)
end
section
theorem lines_L15c : True := by
  k_with_none
  k_with "shSub" => first | (((with_reducible show wpAny _ _ (subscriptTail _ _ (Value.ref _) (Value.int _ _)) _ _ _))) | fail
  k_with "DIG" => first | (repeat (first | (with_reducible exact And.left) | (with_reducible exact id) | (with_reducible refine digR ?_))) | fail
  k_with "LT9" => first | (first | with_reducible assumption | (refine' ltLt ?h ?d; walk_at "HD")) | fail
  k_with "ALLLT" => first | (first | with_reducible assumption | (refine' allDig ?h ?d; walk_at "HD")) | fail
  k_with "K_NE" => first | ((refine neN ?_; first | with_reducible assumption | (refine Ne.symm ?_; with_reducible assumption) | (refine' neLt ?h ?d; walk_at "HD") | (refine' neGt ?h ?d; walk_at "HD") | (refine' neNe ?h ?d; walk_at "HD") | (refine' neEn ?h ?d; walk_at "HD") | (refine Nat.ne_of_lt ?_; with_reducible assumption) | (refine Nat.ne_of_gt ?_; with_reducible assumption) | ((try dsimp only); omega))) | fail
  k_with "MEM" => first | (first | with_reducible assumption | with_reducible exact List.mem_cons_self | (with_reducible refine List.mem_cons_of_mem _ ?_; walk_at "MEM")) | fail
  k_with "OM" => first | (first | exact dLe (by with_reducible assumption) rfl | exact dL0 (by with_reducible assumption) rfl | exact dLt (by with_reducible assumption) rfl | omega) | fail
  k_with "K_ALL" => first | (first | with_reducible assumption | (refine allLt_ne ?_; walk_at "ALLLT") | (refine off1_ne ?_; walk_at "ALLLT")) | fail
  k_with "TAIL" => first | ((intro p9 hp9; repeat (first | exact hp9 | refine List.mem_cons_of_mem _ ?_))) | fail
  k_with "K_ROOM" => first | (((simp only [depth_mark, depth_under_make, depth_under_kw, depth_in1, depth_deeper, depth_caller, ktrTop, recursionLimit]); walk_at "OM")) | fail
  k_with "K_UNITS" => first | ((have hcL := cLine_is; (simp only [units_in1, units_deeper, Around.mark_units, units_caller, ktrTop]); walk_at "OM")) | fail
  k_with "K_MEM" => first | (((fail_if_success refine' List.Mem.tail _ ?_); (show (_ : Addr × Obj) ∈ (_ : List (Addr × Obj))); with_reducible assumption)) | fail
  k_with "compareOp In str ref" => first | ((k_here; k_dflt (first | (refine' kd_in_some (by (k_asm; done)) (by (k_mem; done)) (by (with_reducible assumption; done)) (by (with_reducible assumption; done)) (by (with_reducible assumption; done)) ?_) | (refine' kd_in_none (by (k_asm; done)) (by (k_mem; done)) (by (with_reducible assumption; done)) (by (with_reducible assumption; done)) (by (with_reducible assumption; done)) ?_)))) | fail
  k_with "compareOp NotIn str ref" => first | ((k_here; k_dflt (first | (refine' kd_nin_some (by (k_asm; done)) (by (k_mem; done)) (by (with_reducible assumption; done)) (by (with_reducible assumption; done)) (by (with_reducible assumption; done)) ?_) | (refine' kd_nin_none (by (k_asm; done)) (by (k_mem; done)) (by (with_reducible assumption; done)) (by (with_reducible assumption; done)) (by (with_reducible assumption; done)) ?_) | (refine' nin2_f (by (k_asm; done)) (by (k_mem; done)) (by (with_reducible assumption; done)) ?_) | (refine' nin2_t (by (k_asm; done)) (by (k_mem; done)) (by (with_reducible assumption; done)) ?_)))) | fail
  k_with "subscriptTail" => first | ((k_here; (with_reducible show wpAny _ _ (subscriptTail _ _ (Value.ref _) (Value.str _ _)) _ _ _); k_dflt (refine' kd_item (by (k_asm; done)) (by (k_mem; done)) (by (with_reducible assumption; done)) (by (with_reducible assumption; done)) ?_ (by (with_unfolding_all rfl; done)) (by (intro _; with_unfolding_all rfl; done))))) | fail
  k_with "setItem ref str" => first | ((k_here; k_dflt (refine' kd_set (by (k_asm; done)) (by (k_asm; done)) (by (k_updF; done)) (by (with_reducible assumption; done)) (by (with_reducible assumption; done)) ?_); (intro h' o' F' N' hd'); (try dsimp only at N'))) | fail
  k_with "getItem ref" => first | ((k_here; (with_reducible show wpAny _ _ (getItem (Value.ref _) (Value.str _ _)) _ _ _); k_dflt (refine' kd_get (by (k_asm; done)) (by (k_mem; done)) (by (with_reducible assumption; done)) (by (with_reducible assumption; done)) ?_))) | fail
  k_with "compareOp NotEq str str" => first | ((k_here; first | (refine ne_str_t (by with_reducible assumption) ?_) | (refine ne_str_f (by with_reducible assumption) ?_))) | fail
  k_with "compareOp Eq str str" => first | ((k_here; first | (refine eq_str_f (by with_reducible assumption) ?_) | (refine eq_str_t (by with_reducible assumption) ?_))) | fail
  k_with "exec If Compare cons cons" => first | ((k_here; (with_reducible show wpAny _ _ (exec (Stmt.If (Expr.Compare (Expr.Name _ _) [CmpOp.Eq] [Expr.Constant (Const.str _) _ _] _) _ _ _) _) _ _ _); k_dflt (refine' if_str_no (by (k_asm; done)) (by (exact rfl; done)) (by (decide +kernel; done)) ?_))) | fail
  k_with "exec If Compare cons cons" => first | ((k_here; (with_reducible show wpAny _ _ (exec (Stmt.If (Expr.Compare (Expr.Name _ _) [CmpOp.Eq] [Expr.Constant (Const.str _) _ _] _) _ _ _) _) _ _ _); k_dflt (refine' if_str (by (k_asm; done)) (by (exact rfl; done)) (by (exact rfl; done)) ?_))) | fail
  k_with "subscriptTail Name Constant ref int" => first | ((k_here; walk_at "shSub"; k_dflt (first | (refine' item_tup0 (by (k_asm; done)) (by (k_mem; done)) (by (exact rfl; done)) (by (decide; done)) (by (decide; done)) ?_ (by (with_unfolding_all rfl; done))) | (refine' item_lst0 (by (k_asm; done)) (by (k_mem; done)) (by (exact rfl; done)) (by (decide; done)) (by (decide; done)) ?_ (by (with_unfolding_all rfl; done)))))) | fail
  k_with "subscriptTail Subscript Name Constant Constant ref int" => first | ((k_here; walk_at "shSub"; k_dflt (first | (refine' item_tup0 (by (k_asm; done)) (by (k_mem; done)) (by (exact rfl; done)) (by (decide; done)) (by (decide; done)) ?_ (by (with_unfolding_all rfl; done))) | (refine' item_lst0 (by (k_asm; done)) (by (k_mem; done)) (by (exact rfl; done)) (by (decide; done)) (by (decide; done)) ?_ (by (with_unfolding_all rfl; done)))))) | fail
  k_with "callWith builtin:list.append cons nil" => first | ((refine callWith_method1 ?_)) | fail
  k_with "execs nil" => first | ((with_reducible refine wpAny_execs_nil ?_)) | fail
  k_with "EC" => first | (first | k_fold | k_gentoks | (with_reducible refine wpAny_execs_cons ?_; try dsimp only)) | fail
  k_with "execs cons If nil" => first | (walk_at "EC") | fail
  k_with "execs cons If cons" => first | (walk_at "EC") | fail
  k_with "execs cons Assign cons" => first | (walk_at "EC") | fail
  k_with "execs cons Assign nil" => first | (walk_at "EC") | fail
  k_with "execs cons Return nil" => first | (walk_at "EC") | fail
  k_with "execs cons Return cons" => first | (walk_at "EC") | fail
  k_with "execs cons Expr nil" => first | (walk_at "EC") | fail
  k_with "execs cons Expr cons" => first | (walk_at "EC") | fail
  k_with "exec If Compare cons nil" => first | ((with_reducible refine wpAny_If ?_)) | fail
  k_with "spliced" => first | ((k_here; with_reducible first | refine args_cs ?_ | refine args_cn ?_ | refine args_ci ?_ | refine args_cb ?_)) | fail
  k_with "spliced" => first | ((k_here; (with_reducible show wpAny _ _ (spliced (backTo _ (starEach (Expr.Name _ _ :: _) (envOf _ _ _ _ _)))) _ _ _); k_dflt (refine' args_nm (by (k_asm; done)) (by (exact rfl; done)) ?_ (by rfl) (by rfl) (by decide)))) | fail
  k_with "compareOp In str ref" => first | (((fail_if_success (rename LoopMark => lm9)); (with_reducible show wpAny _ _ (compareOp _ (Value.str _ _) (Value.ref _)) _ _ _); k_dflt (first | (refine' in3_c (by (k_asm; done)) (by (k_mem; done)) (by (with_reducible assumption; done)) ?_) | (refine' in2_c (by (k_asm; done)) (by (k_mem; done)) (by (with_reducible assumption; done)) ?_)))) | fail
  k_with "call ref" => first | (((with_reducible show wpAny _ _ (call (Value.ref 124) _) _ _ _); refine Halt.out ?_)) | fail
  k_with "UnrEnd" => first | ((refine Halt.out ?_)) | fail
  k_with "call type:range" => first | ((k_here; (with_reducible show wpAny _ _ (call (Value.type "range") [Value.int _ _]) _ _ _); (refine range1_rows (by k_asm) (by k_asm) ?_); intro h' tk' t' u' v' hr' F' N' hk')) | fail
  k_with "PYITER" => first | ((k_here; (with_reducible show wpAny _ _ (pyIter (Value.ref _)) (fun it s₂ => LoopAtV _ _ _ _ _ _ _ _ _ it s₂) _ _); (refine Halt.out ?_))) | fail
  k_with "exec Assign cons ListComp" => first | ((k_here; (rename DoneMark => dm9); k_dflt (refine PyProof.Rows.LCt.Assign_ListComp_T (F₀ := by k_asm) (by rfl) (by with_unfolding_all rfl) (by with_unfolding_all rfl) (by decide) (by rfl) (by decide) (by rfl) (by rfl) (by rfl) ?_))) | fail
  k_with "CompSrcT" => first | ((refine Halt.out ?_)) | fail
  k_with "CompEnd" => first | ((refine Halt.out ?_)) | fail
  k_with "subscriptTail Name Name ref int" => first | ((k_here; walk_at "shSub"; k_dflt (refine' item_lst0 (by (k_asm; done)) (by (k_mem; done)) (by (exact rfl; done)) (by (decide; done)) (by (decide; done)) ?_ (by (with_unfolding_all rfl; done))))) | fail
  trivial







set_option maxRecDepth 100000 in
set_option maxHeartbeats 8000000 in
theorem routs_ok {w : World} {loose : List Str} {mean : ExcName → Option Value} {mg mb : Str → Option Value} {L fa cd : Addr} {h₀ : Heap} {m : Str → Option Value} {s : Shared} {Q : Flow → Shared → Prop}
    {nr : Addr} {ys : List Value} {es : List Ent} {R : List (Addr × Obj)}
    (K0 : Below callerA h₀ [] h₀) (F : Fr h₀ L s.heap m) (X : (Mine.hdE.heap_1_1 w.params).In h₀) (T : Top Mine.hdE.view_1_2 loose mean mg mb h₀)
    (N : News h₀ L s.heap R) (mn : (nr, PyProof.Rows.LCg.lst ys) ∈ R) (hes : EntsIn R ys es) (hlen : ys.length ≤ 10)
    (f1 : m (Str.ofString "near") = some (.ref nr))
    (hret : ∀ D ys' h' tk', Fr h₀ L h' (fun z => if z = Str.ofString "routines" then some (.ref D) else m z) → News h₀ L h' ((D, PyProof.Rows.LCg.lst ys') :: R) → EntsIn R ys' (es.filter Ent.isR) → (∀ p ∈ R, p.1 ≠ D) → Q .next { s with heap := h', toks := tk' }) :
    wpAny (model PySem.Challenge.rw_sj0028_01.row.prog w) (lawA L fa cd) (exec (nthS 1 (bodyOf (nthS 1 (bodyOf (nthS 13 lawB))))) (lawE L fa cd)) Q (fun _ _ => False) s := by
  w_top off
  unfold lawA lawE
  conv => pattern (nthS 1 (bodyOf (nthS 1 (bodyOf (nthS 13 lawB))))); whnf
  conv => pattern (occs := *) lawS <;> (whnf; zeta)
  have hmark : DoneMark := ⟨⟩
  have Fm := Fr.one F f1
  clear F
  revert X
  k_fill
  intro X
  k_steps
  all_goals (unfold Halt)
  refine PyProof.Rows.LCt.CompSrcT.ledger (by rfl) (by k_asm) (by k_asm) (by k_mem) (by rw [PySem.sizeLine_eq, List.size_toArray]; omega) ?_
  intro g9
  refine cf_routs (R := R) hes rfl arrP ?turn ?fin
  case turn =>
    intro a9 wh9 t9 xs9 I9 oI9 C9 oC9 D9 m9 ys9 h9 tk9 E9 hm9 hC9 hx9 F9 N9 off9 ne9
    by_cases hb9 : [Str.ofString "task", Str.ofString "function"].any (· == wh9) = true
    · k_steps
      all_goals (unfold Halt)
      exact compEnd2 (by k_asm) (by k_asm) ⟨rfl, rfl, hb9⟩ off9 (Or.inr ⟨_, mn, rfl, _, rfl⟩) (by walk_at "TAIL")
    · replace hb9 := Bool.eq_false_iff.mpr hb9
      k_steps
      all_goals (unfold Halt)
      exact compEnd2 (by k_asm) (by k_asm) ⟨rfl, hb9⟩ off9 (Or.inr ⟨_, mn, rfl, _, rfl⟩) (by walk_at "TAIL")
  case fin =>
    intro ys8 hy8
    k_steps
    rename Fr _ _ _ _ => F8
    rename News _ _ _ _ => N8
    rename PyProof.Rows.LCg.Off1 _ _ => o8
    exact hret _ _ _ _ (keep1n f1 ▸ F8) N8 hy8 (off1_ne o8)
end
section
theorem neEnt {A : Around} {s : Shared} {h₀ : Heap} {L : Addr} {all R R' : List (Addr × Obj)} {v v' : Value} {e : Ent} {prog : Program} {w : World} {E : Value → Shared → Prop} {Q : Value → Shared → Prop} (N : News h₀ L s.heap all) (sR : ∀ p ∈ R, p ∈ all) (sR' : ∀ p ∈ R', p ∈ all) (h : EntIn R v e) (h' : EntIn R' v' e) (hu : A.units + 6 < cLine) (hQ : Q (.bool false) s) :
    wpAny (model prog w) A (compareOp .NotEq v v') Q E s := by
  obtain ⟨a, b, vs, vs', rfl, rfl, m1, m2, hall⟩ : ∃ a b vs vs', v = .ref a ∧ v' = .ref b ∧ (a, tup vs) ∈ R ∧ (b, tup vs') ∈ R' ∧ AllEq A.in1 s vs vs' := by
    cases h with
    | mk hm hi =>
      cases h' with
      | mk hm' hi' =>
        refine ⟨_, _, _, _, rfl, rfl, hm, hm', .cons eqStr (.cons eqInt (.cons ?_ .nil))⟩
        cases hi with
        | neg => cases hi'; exact eqInt
        | sig h1 =>
          cases hi' with
          | sig h2 =>
            refine eqTup N (sR _ h1) (sR' _ h2) (by show A.units + 1 < cLine; omega) (.cons eqStr (.cons ?_ (.cons ?_ .nil))) <;> exact .same _
        | dirs h1 s1 =>
          cases hi' with
          | dirs h2 s2 => exact eqTup N (sR _ h1) (sR' _ h2) (by show A.units + 1 < cLine; omega) (strs_allEq s1 s2)
  have hlen := hall.len
  refine PySem.SeqAt.RcNeAt.tuples (e := fun _ => true) (News.isTup N (sR _ m1)) (News.isTup N (sR' _ m2)) (by omega) (fun j h1 h2 => by
    have h1' : j < vs.length := by simpa using h1
    have h2' : j < vs'.length := by simpa using h2
    have := hall.get j h1' h2'
    simpa using this) prog w E Q (by
      have e : (!((List.range (min vs.toArray.size vs'.toArray.size)).all (fun _ => true) && vs.toArray.size == vs'.toArray.size)) = false := by simp [hlen]
      rw [e]; exact hQ)
theorem neNone {A : Around} {s : Shared} {prog : Program} {w : World} {E : Value → Shared → Prop} {Q : Value → Shared → Prop} (hQ : Q (.bool false) s) : wpAny (model prog w) A (compareOp .NotEq .none .none) Q E s :=
  PySem.SeqAt.RcNeAt.none_none prog w E Q hQ
theorem ChainT.mono {w : World} {R R' : List (Addr × Obj)} (hs : ∀ p ∈ R, p ∈ R') {v : Value} {tabs : List (List (Str × Ent))} (h : ChainT w R v tabs) : ChainT w R' v tabs := by
  induction h with
  | nil => exact .nil
  | cons h1 h2 h3 h4 h5 h6 _ ih => exact .cons (hs _ h1) (hs _ h2) (hs _ h3) h4 h5 (h6.mono hs) ih
section
variable {prog : Program} {w : World} {A : Around} {E : Value → Shared → Prop} {s : Shared} {h₀ : Heap} {L : Addr} {news : List (Addr × Obj)}
theorem item_last {value slice : PySem.Expr} {a : Addr} {pre : List Value} {n : Nat} {u : Tok} {v : Value} {Q : Value → Shared → Prop}
    (N : News h₀ L s.heap news) (hm : (a, listOf (pre ++ [v]).toArray n) ∈ news) (h : Q v s)
    (hs : subscripted slice false (.ref a) (.int (-1) u) = operate [.ref a, .int (-1) u] (getItem (.ref a) (.int (-1) u)) := by with_unfolding_all rfl) :
    wpAny (model prog w) A (subscriptTail value slice (.ref a) (.int (-1) u)) Q E s := by
  have hl : s.heap.IsList a (pre ++ [v]).toArray := ⟨_, (N _ hm).1, rfl, n, rfl⟩
  refine tail_any hl.typeIs PySem.F.slot_list_getitem.lookup (wpAny_getItem_list_neg hl (by decide) ?_ (by decide) ?_ h) hs
  · simp only [List.size_toArray, List.length_append, List.length_singleton]; omega
  · have : (-1 + (((pre ++ [v]).toArray.size : Nat) : Int)).toNat = pre.length := by
      simp only [List.size_toArray, List.length_append, List.length_singleton]; omega
    rw [this]
    simp
theorem ne_snoc_t {d e : Addr} {pre : List Value} {v : Value} {n n2 : Nat} {Q : Value → Shared → Prop} (N : News h₀ L s.heap news) (hm1 : (d, listOf (pre ++ [v]).toArray n) ∈ news) (hm2 : (e, listOf ([] : List Value).toArray n2) ∈ news) (hu : A.units < cLine) (h : Q (.bool true) s) : wpAny (model prog w) A (compareOp .NotEq (.ref d) (.ref e)) Q E s :=
  ne_len_t N hm1 hm2 (by simp) hu h
end
theorem keep3i {m : Str → Option Value} {x1 x2 x3 : Str} {v1 v2 v3 : Value} (g1 : m x1 = some v1) (g2 : m x2 = some v2) (g3 : m x3 = some v3) (x : Str) : (if x = x1 then some v1 else if x = x2 then some v2 else if x = x3 then some v3 else m x) = m x := by
  split
  · next e => rw [e, g1]
  · exact keep2i g2 g3 x
theorem ChainT.monoH {w : World} {R R' : List (Addr × Obj)} {v : Value} {tabs : List (List (Str × Ent))} (h : ChainT w R v tabs) (hs : ∀ p ∈ R, p ∈ R') : ChainT w R' v tabs := h.mono hs
end
section
theorem lines_L15e : True := by
  k_with_none
  k_with "shSub" => first | (((with_reducible show wpAny _ _ (subscriptTail _ _ (Value.ref _) (Value.int _ _)) _ _ _))) | fail
  k_with "DIG" => first | (repeat (first | (with_reducible exact And.left) | (with_reducible exact id) | (with_reducible refine digR ?_))) | fail
  k_with "LT9" => first | (first | with_reducible assumption | (refine' ltLt ?h ?d; walk_at "HD")) | fail
  k_with "ALLLT" => first | (first | with_reducible assumption | (refine' allDig ?h ?d; walk_at "HD")) | fail
  k_with "K_NE" => first | ((refine neN ?_; first | with_reducible assumption | (refine Ne.symm ?_; with_reducible assumption) | (refine' neLt ?h ?d; walk_at "HD") | (refine' neGt ?h ?d; walk_at "HD") | (refine' neNe ?h ?d; walk_at "HD") | (refine' neEn ?h ?d; walk_at "HD") | (refine Nat.ne_of_lt ?_; with_reducible assumption) | (refine Nat.ne_of_gt ?_; with_reducible assumption) | ((try dsimp only); omega))) | fail
  k_with "MEM" => first | (first | with_reducible assumption | with_reducible exact List.mem_cons_self | (with_reducible refine List.mem_cons_of_mem _ ?_; walk_at "MEM")) | fail
  k_with "OM" => first | (first | exact dLe (by with_reducible assumption) rfl | exact dL0 (by with_reducible assumption) rfl | exact dLt (by with_reducible assumption) rfl | omega) | fail
  k_with "K_ALL" => first | (first | with_reducible assumption | (refine allLt_ne ?_; walk_at "ALLLT") | (refine off1_ne ?_; walk_at "ALLLT")) | fail
  k_with "TAIL" => first | ((intro p9 hp9; repeat (first | exact hp9 | refine List.mem_cons_of_mem _ ?_))) | fail
  k_with "K_ROOM" => first | (((simp only [depth_mark, depth_under_make, depth_under_kw, depth_in1, depth_deeper, depth_caller, ktrTop, recursionLimit]); walk_at "OM")) | fail
  k_with "K_UNITS" => first | ((have hcL := cLine_is; (simp only [units_in1, units_deeper, Around.mark_units, units_caller, ktrTop]); walk_at "OM")) | fail
  k_with "K_MEM" => first | (((fail_if_success refine' List.Mem.tail _ ?_); (show (_ : Addr × Obj) ∈ (_ : List (Addr × Obj))); with_reducible assumption)) | fail
  k_with "compareOp In str ref" => first | ((k_here; k_dflt (first | (refine' kd_in_some (by (k_asm; done)) (by (k_mem; done)) (by (with_reducible assumption; done)) (by (with_reducible assumption; done)) (by (with_reducible assumption; done)) ?_) | (refine' kd_in_none (by (k_asm; done)) (by (k_mem; done)) (by (with_reducible assumption; done)) (by (with_reducible assumption; done)) (by (with_reducible assumption; done)) ?_)))) | fail
  k_with "compareOp NotIn str ref" => first | ((k_here; k_dflt (first | (refine' kd_nin_some (by (k_asm; done)) (by (k_mem; done)) (by (with_reducible assumption; done)) (by (with_reducible assumption; done)) (by (with_reducible assumption; done)) ?_) | (refine' kd_nin_none (by (k_asm; done)) (by (k_mem; done)) (by (with_reducible assumption; done)) (by (with_reducible assumption; done)) (by (with_reducible assumption; done)) ?_) | (refine' nin2_f (by (k_asm; done)) (by (k_mem; done)) (by (with_reducible assumption; done)) ?_) | (refine' nin2_t (by (k_asm; done)) (by (k_mem; done)) (by (with_reducible assumption; done)) ?_)))) | fail
  k_with "subscriptTail" => first | ((k_here; (with_reducible show wpAny _ _ (subscriptTail _ _ (Value.ref _) (Value.str _ _)) _ _ _); k_dflt (refine' kd_item (by (k_asm; done)) (by (k_mem; done)) (by (with_reducible assumption; done)) (by (with_reducible assumption; done)) ?_ (by (with_unfolding_all rfl; done)) (by (intro _; with_unfolding_all rfl; done))))) | fail
  k_with "setItem ref str" => first | ((k_here; k_dflt (refine' kd_set (by (k_asm; done)) (by (k_asm; done)) (by (k_updF; done)) (by (with_reducible assumption; done)) (by (with_reducible assumption; done)) ?_); (intro h' o' F' N' hd'); (try dsimp only at N'))) | fail
  k_with "getItem ref" => first | ((k_here; (with_reducible show wpAny _ _ (getItem (Value.ref _) (Value.str _ _)) _ _ _); k_dflt (refine' kd_get (by (k_asm; done)) (by (k_mem; done)) (by (with_reducible assumption; done)) (by (with_reducible assumption; done)) ?_))) | fail
  k_with "compareOp NotEq str str" => first | ((k_here; first | (refine ne_str_t (by with_reducible assumption) ?_) | (refine ne_str_f (by with_reducible assumption) ?_))) | fail
  k_with "compareOp Eq str str" => first | ((k_here; first | (refine eq_str_f (by with_reducible assumption) ?_) | (refine eq_str_t (by with_reducible assumption) ?_))) | fail
  k_with "exec If Compare cons cons" => first | ((k_here; (with_reducible show wpAny _ _ (exec (Stmt.If (Expr.Compare (Expr.Name _ _) [CmpOp.Eq] [Expr.Constant (Const.str _) _ _] _) _ _ _) _) _ _ _); k_dflt (refine' if_str_no (by (k_asm; done)) (by (exact rfl; done)) (by (decide +kernel; done)) ?_))) | fail
  k_with "exec If Compare cons cons" => first | ((k_here; (with_reducible show wpAny _ _ (exec (Stmt.If (Expr.Compare (Expr.Name _ _) [CmpOp.Eq] [Expr.Constant (Const.str _) _ _] _) _ _ _) _) _ _ _); k_dflt (refine' if_str (by (k_asm; done)) (by (exact rfl; done)) (by (exact rfl; done)) ?_))) | fail
  k_with "subscriptTail Name Constant ref int" => first | ((k_here; walk_at "shSub"; k_dflt (first | (refine' item_tup0 (by (k_asm; done)) (by (k_mem; done)) (by (exact rfl; done)) (by (decide; done)) (by (decide; done)) ?_ (by (with_unfolding_all rfl; done))) | (refine' item_lst0 (by (k_asm; done)) (by (k_mem; done)) (by (exact rfl; done)) (by (decide; done)) (by (decide; done)) ?_ (by (with_unfolding_all rfl; done)))))) | fail
  k_with "subscriptTail Subscript Name Constant Constant ref int" => first | ((k_here; walk_at "shSub"; k_dflt (first | (refine' item_tup0 (by (k_asm; done)) (by (k_mem; done)) (by (exact rfl; done)) (by (decide; done)) (by (decide; done)) ?_ (by (with_unfolding_all rfl; done))) | (refine' item_lst0 (by (k_asm; done)) (by (k_mem; done)) (by (exact rfl; done)) (by (decide; done)) (by (decide; done)) ?_ (by (with_unfolding_all rfl; done)))))) | fail
  k_with "callWith builtin:list.append cons nil" => first | ((refine callWith_method1 ?_)) | fail
  k_with "execs nil" => first | ((with_reducible refine wpAny_execs_nil ?_)) | fail
  k_with "EC" => first | (first | k_fold | k_gentoks | (with_reducible refine wpAny_execs_cons ?_; try dsimp only)) | fail
  k_with "execs cons If nil" => first | (walk_at "EC") | fail
  k_with "execs cons If cons" => first | (walk_at "EC") | fail
  k_with "execs cons Assign cons" => first | (walk_at "EC") | fail
  k_with "execs cons Assign nil" => first | (walk_at "EC") | fail
  k_with "execs cons Return nil" => first | (walk_at "EC") | fail
  k_with "execs cons Return cons" => first | (walk_at "EC") | fail
  k_with "execs cons Expr nil" => first | (walk_at "EC") | fail
  k_with "execs cons Expr cons" => first | (walk_at "EC") | fail
  k_with "exec If Compare cons nil" => first | ((with_reducible refine wpAny_If ?_)) | fail
  k_with "spliced" => first | ((k_here; with_reducible first | refine args_cs ?_ | refine args_cn ?_ | refine args_ci ?_ | refine args_cb ?_)) | fail
  k_with "spliced" => first | ((k_here; (with_reducible show wpAny _ _ (spliced (backTo _ (starEach (Expr.Name _ _ :: _) (envOf _ _ _ _ _)))) _ _ _); k_dflt (refine' args_nm (by (k_asm; done)) (by (exact rfl; done)) ?_ (by rfl) (by rfl) (by decide)))) | fail
  k_with "call ref" => first | ((k_here; (with_reducible show wpAny _ _ (call (Value.ref 70) _) _ _ _); k_dflt (refine' find_ok (by (k_asm; done)) (by (k_asm; done)) (by (k_asm; done)) (by (k_asm; done)) (by (k_asm; done)) (by (rfl; done)) (by (exact ChainT.monoH (by with_reducible assumption) (by walk_at "TAIL"); done)) (by (((simp only [depth_deeper, depth_caller]); decide); done)) (by (((simp only [units_deeper, units_caller]); decide); done)) ?_); (intro v' h' tk' F' N' hf'; refine Halt.out ?_))) | fail
  k_with "call ref" => first | ((k_here; (with_reducible show wpAny _ _ (call (Value.ref 77) _) _ _ _); k_dflt (refine' findr_ok (by (k_asm; done)) (by (k_asm; done)) (by (k_asm; done)) (by (k_asm; done)) (by (k_asm; done)) (by (rfl; done)) (by (exact ChainT.monoH (by with_reducible assumption) (by walk_at "TAIL"); done)) (by (((simp only [depth_deeper, depth_caller]); decide); done)) (by (((simp only [units_deeper, units_caller]); decide); done)) ?_); (intro v' h' tk' F' N' hf'; refine Halt.out ?_))) | fail
  k_with "subscriptTail Name Name ref int" => first | ((k_here; walk_at "shSub"; k_dflt (refine' item_lst0 (by (k_asm; done)) (by (k_mem; done)) (by (with_reducible assumption; done)) (by (with_reducible assumption; done)) (by (with_reducible assumption; done)) ?_ (by (with_unfolding_all rfl; done))))) | fail
  k_with "subscriptTail Name UnaryOp ref int" => first | ((k_here; walk_at "shSub"; k_dflt (refine' item_last (by (k_asm; done)) (by (k_mem; done)) ?_ (by (with_unfolding_all rfl; done))))) | fail
  k_with "compareOp NotEq ref ref" => first | (((rename DoneMark => dm9); (with_reducible show wpAny _ _ (compareOp _ (Value.ref _) (Value.ref _)) _ _ _); k_dflt (first | (refine' ne_snoc_t (by (k_asm; done)) (by (k_mem; done)) (by (k_mem; done)) (by ((simp only [units_deeper, units_caller]); decide; done)) ?_) | (refine' ne_nil_f (by (k_asm; done)) (by (k_mem; done)) (by (k_mem; done)) (by ((simp only [units_deeper, units_caller]); decide; done)) ?_)))) | fail
  k_with "compareOp NotEq" => first | ((refine Halt.out ?_)) | fail
  trivial





set_option maxRecDepth 100000 in
set_option maxHeartbeats 8000000 in
theorem find_if {w : World} {loose : List Str} {mean : ExcName → Option Value} {mg mb : Str → Option Value} {L fa cd : Addr} {h₀ : Heap} {m : Str → Option Value} {s : Shared} {Q : Flow → Shared → Prop}
    {nr tl tb : Addr} {l : Nat} {tk0 tn : Tok} {n : Str} {nl ny : Nat} {oc : Obj} {ys ts : List Value} {es : List Ent} {tabs : List (List (Str × Ent))} {R : List (Addr × Obj)}
    (K0 : Below callerA h₀ [] h₀) (F : Fr h₀ L s.heap m) (X : (Mine.hdE.heap_1_1 w.params).In h₀) (T : Top Mine.hdE.view_1_2 loose mean mg mb h₀)
    (N : News h₀ L s.heap R) (mn : (nr, listOf ys.toArray ny) ∈ R) (hes : EntsIn R ys es) (mtl : (tl, listOf ts.toArray nl) ∈ R) (hx : ts[(l : Int).toNat]? = some (.ref tb)) (hl0 : (0 : Int) ≤ (l : Int)) (hl1 : (l : Int) < 100)
    (hch : ChainT w R (.ref tb) tabs) (mc : (L + 1 + 1, oc) ∈ R) (hc : oc.data = .cell (some (.str n tn))) (hpure : findE tabs n = es.getLast?)
    (f1 : m (Str.ofString "level") = some (.int (l : Int) tk0)) (f2 : m (Str.ofString "tables") = some (.ref tl)) (f3 : m (Str.ofString "near") = some (.ref nr))
    (hret : ∀ h' tk', Fr h₀ L h' m → News h₀ L h' R → Q .next { s with heap := h', toks := tk' }) :
    wpAny (model PySem.Challenge.rw_sj0028_01.row.prog w) (lawA L fa cd) (exec (nthS 2 (bodyOf (nthS 1 (bodyOf (nthS 13 lawB))))) (lawE L fa cd)) Q (fun _ _ => False) s := by
  w_top off
  unfold lawA lawE
  conv => pattern (nthS 2 (bodyOf (nthS 1 (bodyOf (nthS 13 lawB))))); whnf
  conv => pattern (occs := *) lawS <;> (whnf; zeta)
  have Fm := Fr.three F f1 f2 f3
  clear F
  revert X
  k_fill
  intro X
  have hmark : DoneMark := ⟨⟩
  have hmem : ∀ p ∈ R, p ∈ R := fun _ h => h
  rcases hes.last with ⟨rfl, rfl⟩ | ⟨pre, v9, e9, rfl, he9, hE9⟩
  · k_steps
    all_goals (unfold Halt)
    rename FoundIn _ _ _ => hf9
    rcases hf9 with ⟨hf1, hf2⟩ | ⟨e8, hf1, hf2⟩
    · subst hf2
      k_steps
      rename Fr _ _ _ _ => F8
      rename News _ _ _ _ => N8
      have e : (fun y => if y = Str.ofString "level" then some (Value.int (l : Int) tk0) else if y = Str.ofString "tables" then some (Value.ref tl) else if y = Str.ofString "near" then some (Value.ref nr) else m y) = m := funext (keep3i f1 f2 f3)
      exact hret _ _ (e ▸ F8) (fun p hp => N8 p (by simp [hp]))
    · rw [hpure] at hf1; simp at hf1
  · k_steps
    all_goals (unfold Halt)
    rename FoundIn _ _ _ => hf9
    rcases hf9 with ⟨hf1, hf2⟩ | ⟨e8, hf1, hf2⟩
    · rw [hpure, he9] at hf1; cases hf1
    · rw [hpure, he9] at hf1
      cases hf1
      k_steps
      all_goals (unfold Halt)
      rename News _ _ _ _ => N8
      refine neEnt N8 (fun p hp => by simp [hp]) (fun p hp => by simp [hp]) hf2 hE9 (by (simp only [units_deeper, units_caller]); decide) ?_
      k_steps
      rename Fr _ _ _ _ => F8
      rename News _ _ _ _ => N8
      have e : (fun y => if y = Str.ofString "level" then some (Value.int (l : Int) tk0) else if y = Str.ofString "tables" then some (Value.ref tl) else if y = Str.ofString "near" then some (Value.ref nr) else m y) = m := funext (keep3i f1 f2 f3)
      exact hret _ _ (e ▸ F8) (fun p hp => N8 p (by simp [hp]))
end
section
theorem lines_L15f : True := by
  k_with_none
  k_with "shSub" => first | (((with_reducible show wpAny _ _ (subscriptTail _ _ (Value.ref _) (Value.int _ _)) _ _ _))) | fail
  k_with "DIG" => first | (repeat (first | (with_reducible exact And.left) | (with_reducible exact id) | (with_reducible refine digR ?_))) | fail
  k_with "LT9" => first | (first | with_reducible assumption | (refine' ltLt ?h ?d; walk_at "HD")) | fail
  k_with "ALLLT" => first | (first | with_reducible assumption | (refine' allDig ?h ?d; walk_at "HD")) | fail
  k_with "K_NE" => first | ((refine neN ?_; first | with_reducible assumption | (refine Ne.symm ?_; with_reducible assumption) | (refine' neLt ?h ?d; walk_at "HD") | (refine' neGt ?h ?d; walk_at "HD") | (refine' neNe ?h ?d; walk_at "HD") | (refine' neEn ?h ?d; walk_at "HD") | (refine Nat.ne_of_lt ?_; with_reducible assumption) | (refine Nat.ne_of_gt ?_; with_reducible assumption) | ((try dsimp only); omega))) | fail
  k_with "MEM" => first | (first | with_reducible assumption | with_reducible exact List.mem_cons_self | (with_reducible refine List.mem_cons_of_mem _ ?_; walk_at "MEM")) | fail
  k_with "OM" => first | (first | exact dLe (by with_reducible assumption) rfl | exact dL0 (by with_reducible assumption) rfl | exact dLt (by with_reducible assumption) rfl | omega) | fail
  k_with "K_ALL" => first | (first | with_reducible assumption | (refine allLt_ne ?_; walk_at "ALLLT") | (refine off1_ne ?_; walk_at "ALLLT")) | fail
  k_with "TAIL" => first | ((intro p9 hp9; repeat (first | exact hp9 | refine List.mem_cons_of_mem _ ?_))) | fail
  k_with "K_ROOM" => first | (((simp only [depth_mark, depth_under_make, depth_under_kw, depth_in1, depth_deeper, depth_caller, ktrTop, recursionLimit]); walk_at "OM")) | fail
  k_with "K_UNITS" => first | ((have hcL := cLine_is; (simp only [units_in1, units_deeper, Around.mark_units, units_caller, ktrTop]); walk_at "OM")) | fail
  k_with "K_MEM" => first | (((fail_if_success refine' List.Mem.tail _ ?_); (show (_ : Addr × Obj) ∈ (_ : List (Addr × Obj))); with_reducible assumption)) | fail
  k_with "compareOp In str ref" => first | ((k_here; k_dflt (first | (refine' kd_in_some (by (k_asm; done)) (by (k_mem; done)) (by (with_reducible assumption; done)) (by (with_reducible assumption; done)) (by (with_reducible assumption; done)) ?_) | (refine' kd_in_none (by (k_asm; done)) (by (k_mem; done)) (by (with_reducible assumption; done)) (by (with_reducible assumption; done)) (by (with_reducible assumption; done)) ?_)))) | fail
  k_with "compareOp NotIn str ref" => first | ((k_here; k_dflt (first | (refine' kd_nin_some (by (k_asm; done)) (by (k_mem; done)) (by (with_reducible assumption; done)) (by (with_reducible assumption; done)) (by (with_reducible assumption; done)) ?_) | (refine' kd_nin_none (by (k_asm; done)) (by (k_mem; done)) (by (with_reducible assumption; done)) (by (with_reducible assumption; done)) (by (with_reducible assumption; done)) ?_) | (refine' nin2_f (by (k_asm; done)) (by (k_mem; done)) (by (with_reducible assumption; done)) ?_) | (refine' nin2_t (by (k_asm; done)) (by (k_mem; done)) (by (with_reducible assumption; done)) ?_)))) | fail
  k_with "subscriptTail" => first | ((k_here; (with_reducible show wpAny _ _ (subscriptTail _ _ (Value.ref _) (Value.str _ _)) _ _ _); k_dflt (refine' kd_item (by (k_asm; done)) (by (k_mem; done)) (by (with_reducible assumption; done)) (by (with_reducible assumption; done)) ?_ (by (with_unfolding_all rfl; done)) (by (intro _; with_unfolding_all rfl; done))))) | fail
  k_with "setItem ref str" => first | ((k_here; k_dflt (refine' kd_set (by (k_asm; done)) (by (k_asm; done)) (by (k_updF; done)) (by (with_reducible assumption; done)) (by (with_reducible assumption; done)) ?_); (intro h' o' F' N' hd'); (try dsimp only at N'))) | fail
  k_with "getItem ref" => first | ((k_here; (with_reducible show wpAny _ _ (getItem (Value.ref _) (Value.str _ _)) _ _ _); k_dflt (refine' kd_get (by (k_asm; done)) (by (k_mem; done)) (by (with_reducible assumption; done)) (by (with_reducible assumption; done)) ?_))) | fail
  k_with "compareOp NotEq str str" => first | ((k_here; first | (refine ne_str_t (by with_reducible assumption) ?_) | (refine ne_str_f (by with_reducible assumption) ?_))) | fail
  k_with "compareOp Eq str str" => first | ((k_here; first | (refine eq_str_f (by with_reducible assumption) ?_) | (refine eq_str_t (by with_reducible assumption) ?_))) | fail
  k_with "exec If Compare cons cons" => first | ((k_here; (with_reducible show wpAny _ _ (exec (Stmt.If (Expr.Compare (Expr.Name _ _) [CmpOp.Eq] [Expr.Constant (Const.str _) _ _] _) _ _ _) _) _ _ _); k_dflt (refine' if_str_no (by (k_asm; done)) (by (exact rfl; done)) (by (decide +kernel; done)) ?_))) | fail
  k_with "exec If Compare cons cons" => first | ((k_here; (with_reducible show wpAny _ _ (exec (Stmt.If (Expr.Compare (Expr.Name _ _) [CmpOp.Eq] [Expr.Constant (Const.str _) _ _] _) _ _ _) _) _ _ _); k_dflt (refine' if_str (by (k_asm; done)) (by (exact rfl; done)) (by (exact rfl; done)) ?_))) | fail
  k_with "subscriptTail Name Constant ref int" => first | ((k_here; walk_at "shSub"; k_dflt (first | (refine' item_tup0 (by (k_asm; done)) (by (k_mem; done)) (by (exact rfl; done)) (by (decide; done)) (by (decide; done)) ?_ (by (with_unfolding_all rfl; done))) | (refine' item_lst0 (by (k_asm; done)) (by (k_mem; done)) (by (exact rfl; done)) (by (decide; done)) (by (decide; done)) ?_ (by (with_unfolding_all rfl; done)))))) | fail
  k_with "subscriptTail Subscript Name Constant Constant ref int" => first | ((k_here; walk_at "shSub"; k_dflt (first | (refine' item_tup0 (by (k_asm; done)) (by (k_mem; done)) (by (exact rfl; done)) (by (decide; done)) (by (decide; done)) ?_ (by (with_unfolding_all rfl; done))) | (refine' item_lst0 (by (k_asm; done)) (by (k_mem; done)) (by (exact rfl; done)) (by (decide; done)) (by (decide; done)) ?_ (by (with_unfolding_all rfl; done)))))) | fail
  k_with "callWith builtin:list.append cons nil" => first | ((refine callWith_method1 ?_)) | fail
  k_with "execs nil" => first | ((with_reducible refine wpAny_execs_nil ?_)) | fail
  k_with "EC" => first | (first | k_fold | k_gentoks | (with_reducible refine wpAny_execs_cons ?_; try dsimp only)) | fail
  k_with "execs cons If nil" => first | (walk_at "EC") | fail
  k_with "execs cons If cons" => first | (walk_at "EC") | fail
  k_with "execs cons Assign cons" => first | (walk_at "EC") | fail
  k_with "execs cons Assign nil" => first | (walk_at "EC") | fail
  k_with "execs cons Return nil" => first | (walk_at "EC") | fail
  k_with "execs cons Return cons" => first | (walk_at "EC") | fail
  k_with "execs cons Expr nil" => first | (walk_at "EC") | fail
  k_with "execs cons Expr cons" => first | (walk_at "EC") | fail
  k_with "exec If Compare cons nil" => first | ((with_reducible refine wpAny_If ?_)) | fail
  k_with "spliced" => first | ((k_here; with_reducible first | refine args_cs ?_ | refine args_cn ?_ | refine args_ci ?_ | refine args_cb ?_)) | fail
  k_with "spliced" => first | ((k_here; (with_reducible show wpAny _ _ (spliced (backTo _ (starEach (Expr.Name _ _ :: _) (envOf _ _ _ _ _)))) _ _ _); k_dflt (refine' args_nm (by (k_asm; done)) (by (exact rfl; done)) ?_ (by rfl) (by rfl) (by decide)))) | fail
  k_with "call ref" => first | ((k_here; (with_reducible show wpAny _ _ (call (Value.ref 70) _) _ _ _); k_dflt (refine' find_ok (by (k_asm; done)) (by (k_asm; done)) (by (k_asm; done)) (by (k_asm; done)) (by (k_asm; done)) (by (rfl; done)) (by (exact ChainT.monoH (by with_reducible assumption) (by walk_at "TAIL"); done)) (by (((simp only [depth_deeper, depth_caller]); decide); done)) (by (((simp only [units_deeper, units_caller]); decide); done)) ?_); (intro v' h' tk' F' N' hf'; refine Halt.out ?_))) | fail
  k_with "call ref" => first | ((k_here; (with_reducible show wpAny _ _ (call (Value.ref 77) _) _ _ _); k_dflt (refine' findr_ok (by (k_asm; done)) (by (k_asm; done)) (by (k_asm; done)) (by (k_asm; done)) (by (k_asm; done)) (by (rfl; done)) (by (exact ChainT.monoH (by with_reducible assumption) (by walk_at "TAIL"); done)) (by (((simp only [depth_deeper, depth_caller]); decide); done)) (by (((simp only [units_deeper, units_caller]); decide); done)) ?_); (intro v' h' tk' F' N' hf'; refine Halt.out ?_))) | fail
  k_with "subscriptTail Name Name ref int" => first | ((k_here; walk_at "shSub"; k_dflt (refine' item_lst0 (by (k_asm; done)) (by (k_mem; done)) (by (with_reducible assumption; done)) (by (with_reducible assumption; done)) (by (with_reducible assumption; done)) ?_ (by (with_unfolding_all rfl; done))))) | fail
  k_with "subscriptTail Name UnaryOp ref int" => first | ((k_here; walk_at "shSub"; k_dflt (refine' item_last (by (k_asm; done)) (by (k_mem; done)) ?_ (by (with_unfolding_all rfl; done))))) | fail
  k_with "compareOp NotEq ref ref" => first | (((rename DoneMark => dm9); (with_reducible show wpAny _ _ (compareOp _ (Value.ref _) (Value.ref _)) _ _ _); k_dflt (first | (refine' ne_snoc_t (by (k_asm; done)) (by (k_mem; done)) (by (k_mem; done)) (by ((simp only [units_deeper, units_caller]); decide; done)) ?_) | (refine' ne_nil_f (by (k_asm; done)) (by (k_mem; done)) (by (k_mem; done)) (by ((simp only [units_deeper, units_caller]); decide; done)) ?_)))) | fail
  k_with "compareOp NotEq" => first | ((refine Halt.out ?_)) | fail
  trivial





set_option maxRecDepth 100000 in
set_option maxHeartbeats 8000000 in
theorem findr_if {w : World} {loose : List Str} {mean : ExcName → Option Value} {mg mb : Str → Option Value} {L fa cd : Addr} {h₀ : Heap} {m : Str → Option Value} {s : Shared} {Q : Flow → Shared → Prop}
    {nr tl tb : Addr} {l : Nat} {tk0 tn : Tok} {n : Str} {nl ny : Nat} {oc : Obj} {ys ts : List Value} {es : List Ent} {tabs : List (List (Str × Ent))} {R : List (Addr × Obj)}
    (K0 : Below callerA h₀ [] h₀) (F : Fr h₀ L s.heap m) (X : (Mine.hdE.heap_1_1 w.params).In h₀) (T : Top Mine.hdE.view_1_2 loose mean mg mb h₀)
    (N : News h₀ L s.heap R) (mn : (nr, listOf ys.toArray ny) ∈ R) (hes : EntsIn R ys es) (mtl : (tl, listOf ts.toArray nl) ∈ R) (hx : ts[(l : Int).toNat]? = some (.ref tb)) (hl0 : (0 : Int) ≤ (l : Int)) (hl1 : (l : Int) < 100)
    (hch : ChainT w R (.ref tb) tabs) (mc : (L + 1 + 1, oc) ∈ R) (hc : oc.data = .cell (some (.str n tn))) (hpure : findR tabs n = es.getLast?)
    (f1 : m (Str.ofString "level") = some (.int (l : Int) tk0)) (f2 : m (Str.ofString "tables") = some (.ref tl)) (f3 : m (Str.ofString "routines") = some (.ref nr))
    (hret : ∀ h' tk', Fr h₀ L h' m → News h₀ L h' R → Q .next { s with heap := h', toks := tk' }) :
    wpAny (model PySem.Challenge.rw_sj0028_01.row.prog w) (lawA L fa cd) (exec (nthS 3 (bodyOf (nthS 1 (bodyOf (nthS 13 lawB))))) (lawE L fa cd)) Q (fun _ _ => False) s := by
  w_top off
  unfold lawA lawE
  conv => pattern (nthS 3 (bodyOf (nthS 1 (bodyOf (nthS 13 lawB))))); whnf
  conv => pattern (occs := *) lawS <;> (whnf; zeta)
  have Fm := Fr.three F f1 f2 f3
  clear F
  revert X
  k_fill
  intro X
  have hmark : DoneMark := ⟨⟩
  have hmem : ∀ p ∈ R, p ∈ R := fun _ h => h
  rcases hes.last with ⟨rfl, rfl⟩ | ⟨pre, v9, e9, rfl, he9, hE9⟩
  · k_steps
    all_goals (unfold Halt)
    rename FoundIn _ _ _ => hf9
    rcases hf9 with ⟨hf1, hf2⟩ | ⟨e8, hf1, hf2⟩
    · subst hf2
      k_steps
      rename Fr _ _ _ _ => F8
      rename News _ _ _ _ => N8
      have e : (fun y => if y = Str.ofString "level" then some (Value.int (l : Int) tk0) else if y = Str.ofString "tables" then some (Value.ref tl) else if y = Str.ofString "routines" then some (Value.ref nr) else m y) = m := funext (keep3i f1 f2 f3)
      exact hret _ _ (e ▸ F8) (fun p hp => N8 p (by simp [hp]))
    · rw [hpure] at hf1; simp at hf1
  · k_steps
    all_goals (unfold Halt)
    rename FoundIn _ _ _ => hf9
    rcases hf9 with ⟨hf1, hf2⟩ | ⟨e8, hf1, hf2⟩
    · rw [hpure, he9] at hf1; cases hf1
    · rw [hpure, he9] at hf1
      cases hf1
      k_steps
      all_goals (unfold Halt)
      rename News _ _ _ _ => N8
      refine neEnt N8 (fun p hp => by simp [hp]) (fun p hp => by simp [hp]) hf2 hE9 (by (simp only [units_deeper, units_caller]); decide) ?_
      k_steps
      rename Fr _ _ _ _ => F8
      rename News _ _ _ _ => N8
      have e : (fun y => if y = Str.ofString "level" then some (Value.int (l : Int) tk0) else if y = Str.ofString "tables" then some (Value.ref tl) else if y = Str.ofString "routines" then some (Value.ref nr) else m y) = m := funext (keep3i f1 f2 f3)
      exact hret _ _ (e ▸ F8) (fun p hp => N8 p (by simp [hp]))
end
section
noncomputable abbrev names6 : List Str := [Str.ofString "a", Str.ofString "b", Str.ofString "c", Str.ofString "d", Str.ofString "z", Str.ofString "y"]
def SJ (R : List (Addr × Obj)) (c2 tl tp : Addr) (tupo : Obj) (l : Nat) (tl0 : Tok) (_ : Nat) (m : Str → Option Value) (nx : List (Addr × Obj)) : Prop :=
  ∃ oc vc, (∀ p ∈ (tp, tupo) :: (c2, oc) :: R, p ∈ nx) ∧ oc.data = .cell vc ∧ m (Str.ofString "level") = some (.int (l : Int) tl0) ∧ m (Str.ofString "tables") = some (.ref tl)
theorem nearE_len {t0 t1 t2 : List (Str × Ent)} {n : Str} {i : Nat} : (nearE t0 t1 t2 n i).length ≤ i := by
  have := List.length_filterMap_le (fun j => entAt (tab3 t0 t1 t2 j) n) (List.range i)
  simpa [nearE] using this
theorem sj_end {g h' : Heap} {L I c2 tp tl : Addr} {m' : Str → Option Value} {R all : List (Addr × Obj)} {o oc : Obj} {s₁ : Shared} {tk i l : Nat} {tl0 : Tok} {xs : List Value} {vc : Option Value}
    (F : Fr g L h' m') (N : News g L h' all) (mI : (I, o) ∈ all) (mc : (c2, oc) ∈ all) (mt : (tp, tup xs) ∈ all) (sR : ∀ p ∈ R, p ∈ all) (hcI : @Ne Nat c2 I) (htI : @Ne Nat tp I) (oI : ∀ p ∈ R, p.1 ≠ I) (hc : oc.data = .cell vc) (f1 : m' (Str.ofString "level") = some (.int (l : Int) tl0)) (f2 : m' (Str.ofString "tables") = some (.ref tl)) :
    UnrEndW g L s₁ [(I, o)] (fun m' n' => SubL [(tp, tup xs)] n' ∧ SJ R c2 tl tp (tup xs) l tl0 (i + 1) m' n') { s₁ with heap := h', toks := tk } := by
  refine ⟨h', tk, m', (tp, tup xs) :: (c2, oc) :: R, rfl, F, ?_, ?_, ⟨List.mem_cons_self, trivial⟩, oc, vc, fun _ hp => hp, hc, f1, f2⟩
  · intro p hp
    refine N p ?_
    simp only [List.cons_append, List.nil_append, List.mem_cons] at hp
    rcases hp with rfl | rfl | rfl | hp
    · exact mI
    · exact mt
    · exact mc
    · exact sR p hp
  · intro p hp q hq
    rw [List.mem_singleton.mp hq]
    simp only [List.mem_cons] at hp
    rcases hp with rfl | rfl | hp
    · exact htI
    · exact hcI
    · exact oI p hp
section
variable {prog : Program} {w : World} {A : Around} {E : Value → Shared → Prop} {s : Shared} {env : Env} {h₀ : Heap} {target : Expr} {body : List Stmt} {Q : Flow → Shared → Prop}
theorem sj_items {I : Addr} {c : String} {keep : List (Addr × Obj)} {xs : List Value} {m₀ : Str → Option Value} {news₀ : List (Addr × Obj)} {g1 h1 : Heap} {L1 c2 tl tp : Addr} {R Y : List (Addr × Obj)} {tupo : Obj} {l : Nat} {tl0 : Tok}
    (_ : News g1 L1 h1 ((tp, tupo) :: Y))
    (h0 : SJ R c2 tl tp tupo l tl0 0 m₀ news₀)
    (turn : ∀ i v m news h tk o, xs[i]? = some v → SJ R c2 tl tp tupo l tl0 i m news → o.cls = .type c → Fr h₀ env.locals h m → News h₀ env.locals h ((I, o) :: news) →
      wpAny (model prog w) A (assign target env v) (fun _ s₂ => wpAny (model prog w) A (execs body env) (UnrPostW h₀ env.locals { s with heap := h, toks := tk } [(I, o)] (fun m' n' => SubL keep n' ∧ SJ R c2 tl tp tupo l tl0 (i + 1) m' n') Q) E s₂) E { s with heap := h, toks := tk })
    (done : ∀ m news h tk, SJ R c2 tl tp tupo l tl0 xs.length m news → Fr h₀ env.locals h m → News h₀ env.locals h news → Q .next { s with heap := h, toks := tk }) :
    ItemsRest prog w A E h₀ env target body Q s [(I, c)] keep (xs.map .val) m₀ news₀ := items_ind (SJ R c2 tl tp tupo l tl0) h0 turn done
end
theorem upR3 {g h : Heap} {L : Addr} {a b c : Addr × Obj} {R : List (Addr × Obj)} (_ : News g L h (a :: b :: c :: R)) : ∀ p ∈ R, p ∈ a :: b :: c :: R := fun _ hp => List.mem_cons_of_mem _ (List.mem_cons_of_mem _ (List.mem_cons_of_mem _ hp))
end
section
theorem lines_L16b : True := by
  k_with_none
  k_with "shSub" => first | (((with_reducible show wpAny _ _ (subscriptTail _ _ (Value.ref _) (Value.int _ _)) _ _ _))) | fail
  k_with "DIG" => first | (repeat (first | (with_reducible exact And.left) | (with_reducible exact id) | (with_reducible refine digR ?_))) | fail
  k_with "LT9" => first | (first | with_reducible assumption | (refine' ltLt ?h ?d; walk_at "HD")) | fail
  k_with "ALLLT" => first | (first | with_reducible assumption | (refine' allDig ?h ?d; walk_at "HD")) | fail
  k_with "K_NE" => first | ((refine neN ?_; first | with_reducible assumption | (refine Ne.symm ?_; with_reducible assumption) | (refine' neLt ?h ?d; walk_at "HD") | (refine' neGt ?h ?d; walk_at "HD") | (refine' neNe ?h ?d; walk_at "HD") | (refine' neEn ?h ?d; walk_at "HD") | (refine Nat.ne_of_lt ?_; with_reducible assumption) | (refine Nat.ne_of_gt ?_; with_reducible assumption) | ((try dsimp only); omega))) | fail
  k_with "MEM" => first | (first | with_reducible assumption | with_reducible exact List.mem_cons_self | (with_reducible refine List.mem_cons_of_mem _ ?_; walk_at "MEM")) | fail
  k_with "OM" => first | (first | exact dLe (by with_reducible assumption) rfl | exact dL0 (by with_reducible assumption) rfl | exact dLt (by with_reducible assumption) rfl | omega) | fail
  k_with "K_ALL" => first | (first | with_reducible assumption | (refine allLt_ne ?_; walk_at "ALLLT") | (refine off1_ne ?_; walk_at "ALLLT")) | fail
  k_with "TAIL" => first | ((intro p9 hp9; repeat (first | exact hp9 | refine List.mem_cons_of_mem _ ?_))) | fail
  k_with "K_ROOM" => first | (((simp only [depth_mark, depth_under_make, depth_under_kw, depth_in1, depth_deeper, depth_caller, ktrTop, recursionLimit]); walk_at "OM")) | fail
  k_with "K_UNITS" => first | ((have hcL := cLine_is; (simp only [units_in1, units_deeper, Around.mark_units, units_caller, ktrTop]); walk_at "OM")) | fail
  k_with "K_MEM" => first | (((fail_if_success refine' List.Mem.tail _ ?_); (show (_ : Addr × Obj) ∈ (_ : List (Addr × Obj))); with_reducible assumption)) | fail
  k_with "compareOp In str ref" => first | ((k_here; k_dflt (first | (refine' kd_in_some (by (k_asm; done)) (by (k_mem; done)) (by (with_reducible assumption; done)) (by (with_reducible assumption; done)) (by (with_reducible assumption; done)) ?_) | (refine' kd_in_none (by (k_asm; done)) (by (k_mem; done)) (by (with_reducible assumption; done)) (by (with_reducible assumption; done)) (by (with_reducible assumption; done)) ?_)))) | fail
  k_with "compareOp NotIn str ref" => first | ((k_here; k_dflt (first | (refine' kd_nin_some (by (k_asm; done)) (by (k_mem; done)) (by (with_reducible assumption; done)) (by (with_reducible assumption; done)) (by (with_reducible assumption; done)) ?_) | (refine' kd_nin_none (by (k_asm; done)) (by (k_mem; done)) (by (with_reducible assumption; done)) (by (with_reducible assumption; done)) (by (with_reducible assumption; done)) ?_) | (refine' nin2_f (by (k_asm; done)) (by (k_mem; done)) (by (with_reducible assumption; done)) ?_) | (refine' nin2_t (by (k_asm; done)) (by (k_mem; done)) (by (with_reducible assumption; done)) ?_)))) | fail
  k_with "subscriptTail" => first | ((k_here; (with_reducible show wpAny _ _ (subscriptTail _ _ (Value.ref _) (Value.str _ _)) _ _ _); k_dflt (refine' kd_item (by (k_asm; done)) (by (k_mem; done)) (by (with_reducible assumption; done)) (by (with_reducible assumption; done)) ?_ (by (with_unfolding_all rfl; done)) (by (intro _; with_unfolding_all rfl; done))))) | fail
  k_with "setItem ref str" => first | ((k_here; k_dflt (refine' kd_set (by (k_asm; done)) (by (k_asm; done)) (by (k_updF; done)) (by (with_reducible assumption; done)) (by (with_reducible assumption; done)) ?_); (intro h' o' F' N' hd'); (try dsimp only at N'))) | fail
  k_with "getItem ref" => first | ((k_here; (with_reducible show wpAny _ _ (getItem (Value.ref _) (Value.str _ _)) _ _ _); k_dflt (refine' kd_get (by (k_asm; done)) (by (k_mem; done)) (by (with_reducible assumption; done)) (by (with_reducible assumption; done)) ?_))) | fail
  k_with "compareOp NotEq str str" => first | ((k_here; first | (refine ne_str_t (by with_reducible assumption) ?_) | (refine ne_str_f (by with_reducible assumption) ?_))) | fail
  k_with "compareOp Eq str str" => first | ((k_here; first | (refine eq_str_f (by with_reducible assumption) ?_) | (refine eq_str_t (by with_reducible assumption) ?_))) | fail
  k_with "exec If Compare cons cons" => first | ((k_here; (with_reducible show wpAny _ _ (exec (Stmt.If (Expr.Compare (Expr.Name _ _) [CmpOp.Eq] [Expr.Constant (Const.str _) _ _] _) _ _ _) _) _ _ _); k_dflt (refine' if_str_no (by (k_asm; done)) (by (exact rfl; done)) (by (decide +kernel; done)) ?_))) | fail
  k_with "exec If Compare cons cons" => first | ((k_here; (with_reducible show wpAny _ _ (exec (Stmt.If (Expr.Compare (Expr.Name _ _) [CmpOp.Eq] [Expr.Constant (Const.str _) _ _] _) _ _ _) _) _ _ _); k_dflt (refine' if_str (by (k_asm; done)) (by (exact rfl; done)) (by (exact rfl; done)) ?_))) | fail
  k_with "subscriptTail Name Constant ref int" => first | ((k_here; walk_at "shSub"; k_dflt (first | (refine' item_tup0 (by (k_asm; done)) (by (k_mem; done)) (by (exact rfl; done)) (by (decide; done)) (by (decide; done)) ?_ (by (with_unfolding_all rfl; done))) | (refine' item_lst0 (by (k_asm; done)) (by (k_mem; done)) (by (exact rfl; done)) (by (decide; done)) (by (decide; done)) ?_ (by (with_unfolding_all rfl; done)))))) | fail
  k_with "subscriptTail Subscript Name Constant Constant ref int" => first | ((k_here; walk_at "shSub"; k_dflt (first | (refine' item_tup0 (by (k_asm; done)) (by (k_mem; done)) (by (exact rfl; done)) (by (decide; done)) (by (decide; done)) ?_ (by (with_unfolding_all rfl; done))) | (refine' item_lst0 (by (k_asm; done)) (by (k_mem; done)) (by (exact rfl; done)) (by (decide; done)) (by (decide; done)) ?_ (by (with_unfolding_all rfl; done)))))) | fail
  k_with "callWith builtin:list.append cons nil" => first | ((refine callWith_method1 ?_)) | fail
  k_with "execs nil" => first | ((with_reducible refine wpAny_execs_nil ?_)) | fail
  k_with "EC" => first | (first | k_fold | k_gentoks | (with_reducible refine wpAny_execs_cons ?_; try dsimp only)) | fail
  k_with "execs cons If nil" => first | (walk_at "EC") | fail
  k_with "execs cons If cons" => first | (walk_at "EC") | fail
  k_with "execs cons Assign cons" => first | (walk_at "EC") | fail
  k_with "execs cons Assign nil" => first | (walk_at "EC") | fail
  k_with "execs cons Return nil" => first | (walk_at "EC") | fail
  k_with "execs cons Return cons" => first | (walk_at "EC") | fail
  k_with "execs cons Expr nil" => first | (walk_at "EC") | fail
  k_with "execs cons Expr cons" => first | (walk_at "EC") | fail
  k_with "exec If Compare cons nil" => first | ((with_reducible refine wpAny_If ?_)) | fail
  k_with "spliced" => first | ((k_here; with_reducible first | refine args_cs ?_ | refine args_cn ?_ | refine args_ci ?_ | refine args_cb ?_)) | fail
  k_with "spliced" => first | ((k_here; (with_reducible show wpAny _ _ (spliced (backTo _ (starEach (Expr.Name _ _ :: _) (envOf _ _ _ _ _)))) _ _ _); k_dflt (refine' args_nm (by (k_asm; done)) (by (exact rfl; done)) ?_ (by rfl) (by rfl) (by decide)))) | fail
  k_with "UnrEndW" => first | ((refine Halt.out ?_)) | fail
  k_with "exec For Tuple Name cons nil" => first | ((refine Halt.out ?_)) | fail
  k_with "call ref" => first | (((with_reducible show wpAny _ _ (call (Value.ref 136) _) _ _ _); refine Halt.out ?_)) | fail
  k_with "exec For Name Tuple cons nil" => first | ((k_here; (rename Fr _ _ _ _ => lF'); (with_unfolding_all refine' For_turns lF' ?_; k_whole))) | fail
  k_with "PYITER" => first | ((k_here; (with_reducible show wpAny _ _ (pyIter (Value.ref _)) (fun it s₂ => TurnsAt _ _ _ _ _ _ _ _ _ it s₂) _ _); k_dflt (refine' iter_tupTurns (by (rfl; done)) (by (k_asm; done)) (by (k_asm; done)) (by (k_mem; done)) (by (exact rfl; done)) (by (exact rfl; done)) ?_); (intro I' l1; refine Halt.out ?_))) | fail
  k_with "storeName" => first | ((k_here; k_dflt (refine' storeC_F (by (k_asm; done)) (by (k_asm; done)) (by (rfl; done)) (by (k_updF; done)) (by (with_reducible assumption; done)) ?_ (by (rfl; done)) (by (rfl; done)); k_whole); intro h' o' F' N' d'; (try dsimp only at N'))) | fail
  k_with "subscriptTail Name Name ref int" => first | ((k_here; walk_at "shSub"; k_dflt (refine' item_lst0 (by (k_asm; done)) (by (k_mem; done)) (by (with_reducible assumption; done)) (by (with_reducible assumption; done)) (by (with_reducible assumption; done)) ?_ (by (with_unfolding_all rfl; done))))) | fail
  k_with "exec Assign cons ListComp" => first | ((refine Halt.out ?_)) | fail
  k_with "exec If Compare cons nil" => first | ((refine Halt.out ?_)) | fail
  trivial






set_option maxRecDepth 100000 in
set_option maxHeartbeats 8000000 in
theorem names6_loop {w : World} {loose : List Str} {mean : ExcName → Option Value} {mg mb : Str → Option Value} {L fa cd : Addr} {h₀ : Heap} {m : Str → Option Value} {s : Shared} {Q : Flow → Shared → Prop}
    {el ed0 ed1 ed2 tl tb : Addr} {l : Nat} {tk0 : Tok} {ne nl : Nat} {oe0 oe1 oe2 oc1 oc : Obj} {vc : Option Value} {k0 k1 k2 : List (Str × Value)} {t0 t1 t2 : List (Str × Ent)} {tabs : List (List (Str × Ent))} {ts : List Value} {R : List (Addr × Obj)}
    (K0 : Below callerA h₀ [] h₀) (F : Fr h₀ L s.heap m) (X : (Mine.hdE.heap_1_1 w.params).In h₀) (T : Top Mine.hdE.view_1_2 loose mean mg mb h₀)
    (N : News h₀ L s.heap ((L + 1 + 1, oc) :: R)) (hc : oc.data = .cell vc) (hoff : ∀ p ∈ R, p.1 ≠ L + 1 + 1) (mel : (el, listOf [Value.ref ed0, Value.ref ed1, Value.ref ed2].toArray ne) ∈ R) (mc1 : (L + 1, oc1) ∈ R) (hc1 : oc1.data = .cell (some (.ref el)))
    (me0 : (ed0, oe0) ∈ R) (me1 : (ed1, oe1) ∈ R) (me2 : (ed2, oe2) ∈ R) (D0 : oe0.IsDictOf (PySem.strKind PySem.Challenge.rw_sj0028_01.row.prog w) k0) (D1 : oe1.IsDictOf (PySem.strKind PySem.Challenge.rw_sj0028_01.row.prog w) k1) (D2 : oe2.IsDictOf (PySem.strKind PySem.Challenge.rw_sj0028_01.row.prog w) k2)
    (lo0 : (ed0 == sysModules) = false) (lo1 : (ed1 == sysModules) = false) (lo2 : (ed2 == sysModules) = false) (T0 : TabIn R k0 t0) (T1 : TabIn R k1 t1) (T2 : TabIn R k2 t2) (hl2 : l ≤ 2)
    (mtl : (tl, listOf ts.toArray nl) ∈ R) (hx : ts[(l : Int).toNat]? = some (.ref tb)) (hch : ChainT w R (.ref tb) tabs)
    (hpure : ∀ n ∈ names6, findE tabs n = (nearE t0 t1 t2 n (l + 1)).getLast? ∧ findR tabs n = ((nearE t0 t1 t2 n (l + 1)).filter Ent.isR).getLast?)
    (f1 : m (Str.ofString "level") = some (.int (l : Int) tk0)) (f2 : m (Str.ofString "tables") = some (.ref tl))
    (hret : ∀ oc' vc' m' h' tk', Fr h₀ L h' m' → News h₀ L h' ((L + 1 + 1, oc') :: R) → oc'.data = .cell vc' → m' (Str.ofString "tables") = some (.ref tl) → Q .next { s with heap := h', toks := tk' }) :
    wpAny (model PySem.Challenge.rw_sj0028_01.row.prog w) (lawA L fa cd) (exec (nthS 1 (bodyOf (nthS 13 lawB))) (lawE L fa cd)) Q (fun _ _ => False) s := by
  w_top off
  unfold lawA lawE
  conv => pattern (nthS 1 (bodyOf (nthS 13 lawB))); whnf
  conv => pattern (occs := *) lawS <;> (whnf; zeta)
  have Fm := Fr.two F f1 f2
  clear F
  revert X
  k_fill
  intro X
  k_steps
  unfold Halt
  rename ∀ p ∈ _, _ => hlt9
  rename Addr => I9
  have hbI : ∀ p ∈ R, p.1 ≠ I9 := fun p hp => lt_ne (hlt9 p (by (first | walk_at "MEM" | simp [hp])))
  have hcI : @Ne Nat (L + 1 + 1) I9 := lt_ne (hlt9 (L + 1 + 1, oc) (by first | walk_at "MEM" | simp))
  have hIc : @Ne Nat I9 (L + 1 + 1) := Ne.symm hcI
  have htI := lt_ne (hlt9 _ List.mem_cons_self)
  have hlt8 := hlt9
  clear hlt9
  rename News _ _ _ _ => lN
  refine sj_items (R := R) (c2 := L + 1 + 1) (tl := tl) (l := l) (tl0 := tk0) lN ?h0 ?turn ?done
  case h0 => exact ⟨oc, vc, fun _ hp => hp, hc, by with_unfolding_all rfl, by with_unfolding_all rfl⟩
  case done =>
    intro m₁ nx h tk hJ F N
    k_sweep
    refine Cut.out ?_
    intro G9 hG9
    obtain ⟨oc', vc', hnx, hc', g1, g2⟩ := hJ
    refine hG9 ?_
    clear hG9
    exact hret oc' vc' m₁ h tk F (fun p hp => N p (hnx p (List.mem_cons_of_mem _ hp))) hc' g2
  case turn =>
    intro i v m₁ nx h tk o hv hJ hcl F N
    k_sweep
    refine Cut.out ?_
    intro G9 hG9
    obtain ⟨oc', vc', hnx, hc', g1, g2⟩ := hJ
    refine hG9 ?_
    clear hG9
    replace N := fun p hp => N p (subCons hnx p hp)
    clear lN hnx f1 f2 hc
    have Fm := Fr.two F g1 g2
    clear F
    obtain ⟨n, tn, rfl, hni⟩ : ∃ n t, v = .str n t ∧ names6[i]? = some n := StrV.get (.cons (.cons (.cons (.cons (.cons (.cons .nil)))))) hv
    obtain ⟨hp1, hp2⟩ := hpure n (List.mem_of_getElem? hni)
    k_steps
    all_goals (unfold Halt)
    rename Obj => oc9
    rename Obj.data _ = Data.cell (some (Value.str n tn)) => hc9
    rename News _ _ _ _ => N1
    have s1 := upR3 N1
    refine near_ok (n := n) (tn := tn) (l := l) (tl := tk0) K0 (by k_asm) X T N1 (s1 _ mel) (s1 _ mc1) hc1 (by first | walk_at "MEM" | simp) hc9 (s1 _ me0) (s1 _ me1) (s1 _ me2) D0 D1 D2 lo0 lo1 lo2 (T0.mono s1) (T1.mono s1) (T2.mono s1) hl2 (by with_unfolding_all rfl) ?_
    intro Dn ys h2 tk2 F2 N2 hE2 ho2
    k_steps
    all_goals (unfold Halt)
    have hyl : ys.length ≤ 10 := by
      have h1 := hE2.len
      have h3 := nearE_len (t0 := t0) (t1 := t1) (t2 := t2) (n := n) (i := l + 1)
      omega
    refine routs_ok (ys := ys) (nr := Dn) K0 (by k_asm) X T N2 List.mem_cons_self (hE2.mono fun p hp => List.mem_cons_of_mem _ hp) hyl (by with_unfolding_all rfl) ?_
    intro Dr zs h3 tk3 F3 N3 hE3 ho3
    k_steps
    all_goals (unfold Halt)
    have s3 := fun (p : Addr × Obj) (hp : p ∈ R) => List.mem_cons_of_mem (Dr, PyProof.Rows.LCg.lst zs) (List.mem_cons_of_mem (Dn, PyProof.Rows.LCg.lst ys) (s1 p hp))
    refine find_if (l := l) (n := n) (tn := tn) (ys := ys) (nr := Dn) (tb := tb) (tl := tl) (tabs := tabs) K0 (by k_asm) X T N3 (show (Dn, PyProof.Rows.LCg.lst ys) ∈ _ from List.mem_cons_of_mem _ List.mem_cons_self) (hE2.mono fun p hp => List.mem_cons_of_mem _ (List.mem_cons_of_mem _ hp)) (s3 _ mtl) hx (by omega) (by omega) (hch.mono s3) (by first | walk_at "MEM" | simp) hc9 hp1 (by with_unfolding_all rfl) (by with_unfolding_all rfl) (by with_unfolding_all rfl) ?_
    intro h4 tk4 F4 N4
    k_steps
    all_goals (unfold Halt)
    refine findr_if (l := l) (n := n) (tn := tn) (ys := zs) (nr := Dr) (tb := tb) (tl := tl) (tabs := tabs) K0 (by k_asm) X T N4 (show (Dr, PyProof.Rows.LCg.lst zs) ∈ _ from List.mem_cons_self) (hE3.mono fun p hp => List.mem_cons_of_mem _ hp) (s3 _ mtl) hx (by omega) (by omega) (hch.mono s3) (by first | walk_at "MEM" | simp) hc9 hp2 (by with_unfolding_all rfl) (by with_unfolding_all rfl) (by with_unfolding_all rfl) ?_
    intro h5 tk5 F5 N5
    k_steps
    all_goals (unfold Halt)
    exact sj_end (by k_asm) N5 (by first | walk_at "MEM" | simp) (by first | walk_at "MEM" | simp) (by first | walk_at "MEM" | simp) s3 hcI htI hbI hc9 (by with_unfolding_all rfl) (by with_unfolding_all rfl)
end
section
theorem dict_nodup {prog : Program} {w : World} {o : Obj} {kvs : List (Str × Value)} (h : o.IsDictOf (PySem.strKind prog w) kvs) : (kvs.map (·.1)).Nodup := by
  obtain ⟨_, _, _, _, _, _, h⟩ := h
  exact h
theorem TabIn.fst {R : List (Addr × Obj)} {kvs : List (Str × Value)} {tab : List (Str × Ent)} (h : TabIn R kvs tab) : kvs.map (·.1) = tab.map (·.1) := by
  induction h with
  | nil => rfl
  | cons _ _ ih => simp [ih]
theorem TabIn.mem {R : List (Addr × Obj)} {kvs : List (Str × Value)} {tab : List (Str × Ent)} (h : TabIn R kvs tab) : ∀ kv ∈ kvs, ∃ e, EntIn R kv.2 e ∧ (kv.1, e) ∈ tab := by
  induction h with
  | nil => intro kv h; exact nomatch h
  | cons he _ ih =>
    intro kv hkv
    rcases List.mem_cons.mp hkv with rfl | hkv
    · exact ⟨_, he, List.mem_cons_self⟩
    · obtain ⟨e, h1, h2⟩ := ih kv hkv
      exact ⟨e, h1, List.mem_cons_of_mem _ h2⟩
theorem entAt_mem {tab : List (Str × Ent)} (hn : (tab.map (·.1)).Nodup) {k : Str} {e : Ent} (h : (k, e) ∈ tab) : entAt tab k = some e := by
  induction tab with
  | nil => exact nomatch h
  | cons q r ih =>
    obtain ⟨q1, q2⟩ := q
    simp only [List.map_cons, List.nodup_cons] at hn
    rcases List.mem_cons.mp h with h | h
    · cases h
      simp [entAt]
    · have hne : ¬ q1 = k := fun e' => hn.1 (by subst e'; exact List.mem_map.mpr ⟨_, h, rfl⟩)
      have := ih hn.2 h
      simpa [entAt, hne] using this
theorem entAt_key {tab : List (Str × Ent)} {k : Str} : k ∈ tab.map (·.1) ↔ ∃ e, entAt tab k = some e := by
  induction tab with
  | nil => simp [entAt]
  | cons q r ih =>
    obtain ⟨q1, q2⟩ := q
    by_cases h : q1 = k
    · subst h
      simp [entAt]
    · have h' : ¬ k = q1 := fun e => h e.symm
      have : entAt ((q1, q2) :: r) k = entAt r k := by simp [entAt, h]
      rw [this]
      simp only [List.map_cons, List.mem_cons, h', false_or]
      exact ih
theorem hits_of {A : Around} {s : Shared} {kb : List (Str × Value)} : ∀ {l : List (Str × Value)}, (∀ kv ∈ l, ∃ y, valueAt kb kv.1 = some y ∧ PySem.SeqAt.EqAt A s kv.2 y true) → KeqHits A s kb l true
  | [], _ => .nil
  | (k, v) :: r, h => by
    obtain ⟨y, h1, h2⟩ := h (k, v) List.mem_cons_self
    exact KeqHits.hit (e := true) (b := true) h1 h2 (hits_of fun kv hkv => h kv (List.mem_cons_of_mem _ hkv))
theorem neDict {prog : Program} {w : World} {A : Around} {E : Value → Shared → Prop} {s : Shared} {h₀ : Heap} {L a b : Addr} {all R R' : List (Addr × Obj)} {oa ob : Obj} {ka kb : List (Str × Value)} {ta tb : List (Str × Ent)} {Q : Value → Shared → Prop}
    (N : News h₀ L s.heap all) (sR : ∀ p ∈ R, p ∈ all) (sR' : ∀ p ∈ R', p ∈ all) (pa : (a, oa) ∈ all) (pb : (b, ob) ∈ all) (da : oa.IsDictOf (PySem.strKind prog w) ka) (db : ob.IsDictOf (PySem.strKind prog w) kb) (la : (a == sysModules) = false) (lb : (b == sysModules) = false)
    (T : TabIn R ka ta) (T' : TabIn R' kb tb) (heq : ∀ k, entAt ta k = entAt tb k) (hu : A.units + 20 < cLine) (h : Q (.bool false) s) : wpAny (model prog w) A (compareOp .NotEq (.ref a) (.ref b)) Q E s := by
  have na := dict_nodup da
  have nb := dict_nodup db
  have hperm : (ka.map (·.1)).Perm (kb.map (·.1)) := (List.perm_ext_iff_of_nodup na nb).mpr fun k => by
    rw [T.fst, T'.fst, entAt_key, entAt_key, heq]
  have hl : ka.length = kb.length := by simpa using hperm.length_eq
  rw [T.fst] at na
  refine kne_pairs (knd := PySem.strKind prog w) (r := true) N pa pb da db la lb hl (by omega) (hits_of fun kv hkv => ?_) h
  obtain ⟨e, he, hm⟩ := T.mem kv hkv
  have h1 := entAt_mem na hm
  rcases T'.look kv.1 with ⟨_, h2⟩ | ⟨y, e', h2, h3, h4⟩
  · rw [← heq, h1] at h2; cases h2
  · rw [← heq, h1] at h3
    cases h3
    exact ⟨y, h2, eqEnt N sR sR' he h4 (by show A.units + 1 + 5 < cLine; omega)⟩
end
section
theorem lines_L17b : True := by
  k_with_none
  k_with "shSub" => first | (((with_reducible show wpAny _ _ (subscriptTail _ _ (Value.ref _) (Value.int _ _)) _ _ _))) | fail
  k_with "DIG" => first | (repeat (first | (with_reducible exact And.left) | (with_reducible exact id) | (with_reducible refine digR ?_))) | fail
  k_with "LT9" => first | (first | with_reducible assumption | (refine' ltLt ?h ?d; walk_at "HD")) | fail
  k_with "ALLLT" => first | (first | with_reducible assumption | (refine' allDig ?h ?d; walk_at "HD")) | fail
  k_with "K_NE" => first | ((refine neN ?_; first | with_reducible assumption | (refine Ne.symm ?_; with_reducible assumption) | (refine' neLt ?h ?d; walk_at "HD") | (refine' neGt ?h ?d; walk_at "HD") | (refine' neNe ?h ?d; walk_at "HD") | (refine' neEn ?h ?d; walk_at "HD") | (refine Nat.ne_of_lt ?_; with_reducible assumption) | (refine Nat.ne_of_gt ?_; with_reducible assumption) | ((try dsimp only); omega))) | fail
  k_with "MEM" => first | (first | with_reducible assumption | with_reducible exact List.mem_cons_self | (with_reducible refine List.mem_cons_of_mem _ ?_; walk_at "MEM")) | fail
  k_with "OM" => first | (first | exact dLe (by with_reducible assumption) rfl | exact dL0 (by with_reducible assumption) rfl | exact dLt (by with_reducible assumption) rfl | omega) | fail
  k_with "K_ALL" => first | (first | with_reducible assumption | (refine allLt_ne ?_; walk_at "ALLLT") | (refine off1_ne ?_; walk_at "ALLLT")) | fail
  k_with "TAIL" => first | ((intro p9 hp9; repeat (first | exact hp9 | refine List.mem_cons_of_mem _ ?_))) | fail
  k_with "K_ROOM" => first | (((simp only [depth_mark, depth_under_make, depth_under_kw, depth_in1, depth_deeper, depth_caller, ktrTop, recursionLimit]); walk_at "OM")) | fail
  k_with "K_UNITS" => first | ((have hcL := cLine_is; (simp only [units_in1, units_deeper, Around.mark_units, units_caller, ktrTop]); walk_at "OM")) | fail
  k_with "K_MEM" => first | (((fail_if_success refine' List.Mem.tail _ ?_); (show (_ : Addr × Obj) ∈ (_ : List (Addr × Obj))); with_reducible assumption)) | fail
  k_with "compareOp In str ref" => first | ((k_here; k_dflt (first | (refine' kd_in_some (by (k_asm; done)) (by (k_mem; done)) (by (with_reducible assumption; done)) (by (with_reducible assumption; done)) (by (with_reducible assumption; done)) ?_) | (refine' kd_in_none (by (k_asm; done)) (by (k_mem; done)) (by (with_reducible assumption; done)) (by (with_reducible assumption; done)) (by (with_reducible assumption; done)) ?_)))) | fail
  k_with "compareOp NotIn str ref" => first | ((k_here; k_dflt (first | (refine' kd_nin_some (by (k_asm; done)) (by (k_mem; done)) (by (with_reducible assumption; done)) (by (with_reducible assumption; done)) (by (with_reducible assumption; done)) ?_) | (refine' kd_nin_none (by (k_asm; done)) (by (k_mem; done)) (by (with_reducible assumption; done)) (by (with_reducible assumption; done)) (by (with_reducible assumption; done)) ?_) | (refine' nin2_f (by (k_asm; done)) (by (k_mem; done)) (by (with_reducible assumption; done)) ?_) | (refine' nin2_t (by (k_asm; done)) (by (k_mem; done)) (by (with_reducible assumption; done)) ?_)))) | fail
  k_with "subscriptTail" => first | ((k_here; (with_reducible show wpAny _ _ (subscriptTail _ _ (Value.ref _) (Value.str _ _)) _ _ _); k_dflt (refine' kd_item (by (k_asm; done)) (by (k_mem; done)) (by (with_reducible assumption; done)) (by (with_reducible assumption; done)) ?_ (by (with_unfolding_all rfl; done)) (by (intro _; with_unfolding_all rfl; done))))) | fail
  k_with "setItem ref str" => first | ((k_here; k_dflt (refine' kd_set (by (k_asm; done)) (by (k_asm; done)) (by (k_updF; done)) (by (with_reducible assumption; done)) (by (with_reducible assumption; done)) ?_); (intro h' o' F' N' hd'); (try dsimp only at N'))) | fail
  k_with "getItem ref" => first | ((k_here; (with_reducible show wpAny _ _ (getItem (Value.ref _) (Value.str _ _)) _ _ _); k_dflt (refine' kd_get (by (k_asm; done)) (by (k_mem; done)) (by (with_reducible assumption; done)) (by (with_reducible assumption; done)) ?_))) | fail
  k_with "compareOp NotEq str str" => first | ((k_here; first | (refine ne_str_t (by with_reducible assumption) ?_) | (refine ne_str_f (by with_reducible assumption) ?_))) | fail
  k_with "compareOp Eq str str" => first | ((k_here; first | (refine eq_str_f (by with_reducible assumption) ?_) | (refine eq_str_t (by with_reducible assumption) ?_))) | fail
  k_with "exec If Compare cons cons" => first | ((k_here; (with_reducible show wpAny _ _ (exec (Stmt.If (Expr.Compare (Expr.Name _ _) [CmpOp.Eq] [Expr.Constant (Const.str _) _ _] _) _ _ _) _) _ _ _); k_dflt (refine' if_str_no (by (k_asm; done)) (by (exact rfl; done)) (by (decide +kernel; done)) ?_))) | fail
  k_with "exec If Compare cons cons" => first | ((k_here; (with_reducible show wpAny _ _ (exec (Stmt.If (Expr.Compare (Expr.Name _ _) [CmpOp.Eq] [Expr.Constant (Const.str _) _ _] _) _ _ _) _) _ _ _); k_dflt (refine' if_str (by (k_asm; done)) (by (exact rfl; done)) (by (exact rfl; done)) ?_))) | fail
  k_with "subscriptTail Name Constant ref int" => first | ((k_here; walk_at "shSub"; k_dflt (first | (refine' item_tup0 (by (k_asm; done)) (by (k_mem; done)) (by (exact rfl; done)) (by (decide; done)) (by (decide; done)) ?_ (by (with_unfolding_all rfl; done))) | (refine' item_lst0 (by (k_asm; done)) (by (k_mem; done)) (by (exact rfl; done)) (by (decide; done)) (by (decide; done)) ?_ (by (with_unfolding_all rfl; done)))))) | fail
  k_with "subscriptTail Subscript Name Constant Constant ref int" => first | ((k_here; walk_at "shSub"; k_dflt (first | (refine' item_tup0 (by (k_asm; done)) (by (k_mem; done)) (by (exact rfl; done)) (by (decide; done)) (by (decide; done)) ?_ (by (with_unfolding_all rfl; done))) | (refine' item_lst0 (by (k_asm; done)) (by (k_mem; done)) (by (exact rfl; done)) (by (decide; done)) (by (decide; done)) ?_ (by (with_unfolding_all rfl; done)))))) | fail
  k_with "callWith builtin:list.append cons nil" => first | ((refine callWith_method1 ?_)) | fail
  k_with "execs nil" => first | ((with_reducible refine wpAny_execs_nil ?_)) | fail
  k_with "EC" => first | (first | k_fold | k_gentoks | (with_reducible refine wpAny_execs_cons ?_; try dsimp only)) | fail
  k_with "execs cons If nil" => first | (walk_at "EC") | fail
  k_with "execs cons If cons" => first | (walk_at "EC") | fail
  k_with "execs cons Assign cons" => first | (walk_at "EC") | fail
  k_with "execs cons Assign nil" => first | (walk_at "EC") | fail
  k_with "execs cons Return nil" => first | (walk_at "EC") | fail
  k_with "execs cons Return cons" => first | (walk_at "EC") | fail
  k_with "execs cons Expr nil" => first | (walk_at "EC") | fail
  k_with "execs cons Expr cons" => first | (walk_at "EC") | fail
  k_with "exec If Compare cons nil" => first | ((with_reducible refine wpAny_If ?_)) | fail
  k_with "spliced" => first | ((k_here; with_reducible first | refine args_cs ?_ | refine args_cn ?_ | refine args_ci ?_ | refine args_cb ?_)) | fail
  k_with "spliced" => first | ((k_here; (with_reducible show wpAny _ _ (spliced (backTo _ (starEach (Expr.Name _ _ :: _) (envOf _ _ _ _ _)))) _ _ _); k_dflt (refine' args_nm (by (k_asm; done)) (by (exact rfl; done)) ?_ (by rfl) (by rfl) (by decide)))) | fail
  k_with "compareOp NotEq ref ref" => first | ((refine Halt.out ?_)) | fail
  k_with "subscriptTail Name Name ref int" => first | ((k_here; walk_at "shSub"; k_dflt (refine' item_lst0 (by (k_asm; done)) (by (k_mem; done)) (by (with_reducible assumption; done)) (by (with_reducible assumption; done)) (by (with_reducible assumption; done)) ?_ (by (with_unfolding_all rfl; done))))) | fail
  trivial





set_option maxRecDepth 100000 in
set_option maxHeartbeats 8000000 in
theorem dicts_if {w : World} {loose : List Str} {mean : ExcName → Option Value} {mg mb : Str → Option Value} {L fa cd : Addr} {h₀ : Heap} {m : Str → Option Value} {s : Shared} {Q : Flow → Shared → Prop}
    {el ed tl tb tbd en : Addr} {l : Nat} {tk0 u1 u2 : Tok} {pv : Value} {ne nl mm : Nat} {oe od oc1 : Obj} {kvs kvs' : List (Str × Value)} {tab tab' : List (Str × Ent)} {ts es : List Value} {R : List (Addr × Obj)}
    (K0 : Below callerA h₀ [] h₀) (F : Fr h₀ L s.heap m) (X : (Mine.hdE.heap_1_1 w.params).In h₀) (T : Top Mine.hdE.view_1_2 loose mean mg mb h₀)
    (N : News h₀ L s.heap R) (mel : (el, listOf es.toArray ne) ∈ R) (mc1 : (L + 1, oc1) ∈ R) (hc1 : oc1.data = .cell (some (.ref el))) (hex : es[(l : Int).toNat]? = some (.ref ed)) (med : (ed, od) ∈ R) (hDd : od.IsDictOf (PySem.strKind PySem.Challenge.rw_sj0028_01.row.prog w) kvs') (lod : (ed == sysModules) = false) (Td : TabIn R kvs' tab')
    (mtl : (tl, listOf ts.toArray nl) ∈ R) (hx : ts[(l : Int).toNat]? = some (.ref tb)) (mtb : (tb, instObj 59 tbd) ∈ R) (mtd : (tbd, tabDict w u1 u2 pv en mm) ∈ R) (men : (en, oe) ∈ R) (hDe : oe.IsDictOf (PySem.strKind PySem.Challenge.rw_sj0028_01.row.prog w) kvs) (loe : (en == sysModules) = false) (Te : TabIn R kvs tab)
    (hl0 : (0 : Int) ≤ (l : Int)) (hl1 : (l : Int) < 100) (heq : ∀ k, entAt tab k = entAt tab' k)
    (f1 : m (Str.ofString "level") = some (.int (l : Int) tk0)) (f2 : m (Str.ofString "tables") = some (.ref tl))
    (hret : ∀ h' tk', Fr h₀ L h' m → News h₀ L h' R → Q .next { s with heap := h', toks := tk' }) :
    wpAny (model PySem.Challenge.rw_sj0028_01.row.prog w) (lawA L fa cd) (exec (nthS 0 (bodyOf (nthS 13 lawB))) (lawE L fa cd)) Q (fun _ _ => False) s := by
  w_top off
  unfold lawA lawE
  conv => pattern (nthS 0 (bodyOf (nthS 13 lawB))); whnf
  conv => pattern (occs := *) lawS <;> (whnf; zeta)
  have Fm := Fr.two F f1 f2
  clear F
  revert X
  k_fill
  intro X
  k_steps
  all_goals (unfold Halt)
  refine neDict (by k_asm) (fun p hp => hp) (fun p hp => hp) men med hDe hDd loe lod Te Td heq (by (simp only [units_deeper, units_caller]); decide) ?_
  k_steps
  have e : (fun y => if y = Str.ofString "level" then some (Value.int (l : Int) tk0) else if y = Str.ofString "tables" then some (Value.ref tl) else m y) = m := funext (keep2i f1 f2)
  rename Fr _ _ _ _ => F8
  exact hret _ _ (e ▸ F8) (by k_asm)
end
section
theorem near_find {d0 d1 d2 t0 t1 t2 : List (Str × Ent)} (h0 : ∀ k, entAt d0 k = entAt t0 k) (h1 : ∀ k, entAt d1 k = entAt t1 k) (h2 : ∀ k, entAt d2 k = entAt t2 k) (n : Str) :
    (findE [d0] n = (nearE t0 t1 t2 n 1).getLast? ∧ findR [d0] n = ((nearE t0 t1 t2 n 1).filter Ent.isR).getLast?) ∧
    (findE [d1, d0] n = (nearE t0 t1 t2 n 2).getLast? ∧ findR [d1, d0] n = ((nearE t0 t1 t2 n 2).filter Ent.isR).getLast?) ∧
    (findE [d2, d1, d0] n = (nearE t0 t1 t2 n 3).getLast? ∧ findR [d2, d1, d0] n = ((nearE t0 t1 t2 n 3).filter Ent.isR).getLast?) := by
  have r1 : List.range 1 = [0] := rfl
  have r2 : List.range 2 = [0, 1] := rfl
  have r3 : List.range 3 = [0, 1, 2] := rfl
  simp only [nearE, r1, r2, r3, findE, findR, h0, h1, h2, List.filterMap_cons, List.filterMap_nil, tab3]
  rcases entAt t0 n with _ | a <;> rcases entAt t1 n with _ | b <;> rcases entAt t2 n with _ | c <;> simp only [List.filter_cons, List.filter_nil, List.getLast?_nil, List.getLast?_singleton, List.getLast?_cons_cons, true_and, and_true] <;> (try rcases ha : a.isR with _ | _) <;> (try rcases hb : b.isR with _ | _) <;> (try rcases hc : c.isR with _ | _) <;> simp [*]
def CJ (R : List (Addr × Obj)) (c2 tl : Addr) (_ : Nat) (m : Str → Option Value) (nx : List (Addr × Obj)) : Prop :=
  ∃ oc vc, (∀ p ∈ (c2, oc) :: R, p ∈ nx) ∧ oc.data = .cell vc ∧ m (Str.ofString "tables") = some (.ref tl)
theorem cj_end {g h' : Heap} {L I c2 tl : Addr} {m' : Str → Option Value} {R all : List (Addr × Obj)} {o oc : Obj} {s₁ : Shared} {tk i : Nat} {vc : Option Value}
    (F : Fr g L h' m') (N : News g L h' all) (mI : (I, o) ∈ all) (mc : (c2, oc) ∈ all) (sR : ∀ p ∈ R, p ∈ all) (hcI : @Ne Nat c2 I) (oI : ∀ p ∈ R, p.1 ≠ I) (hc : oc.data = .cell vc) (f2 : m' (Str.ofString "tables") = some (.ref tl)) :
    UnrEnd g L s₁ I o (CJ R c2 tl (i + 1)) { s₁ with heap := h', toks := tk } := by
  refine ⟨h', tk, m', (c2, oc) :: R, rfl, F, ?_, ?_, oc, vc, fun _ hp => hp, hc, f2⟩
  · intro p hp
    refine N p ?_
    simp only [List.mem_cons] at hp
    rcases hp with rfl | rfl | hp
    · exact mI
    · exact mc
    · exact sR p hp
  · intro p hp
    simp only [List.mem_cons] at hp
    rcases hp with rfl | hp
    · exact hcI
    · exact oI p hp
end
section
theorem lines_L18b : True := by
  k_with_none
  k_with "shSub" => first | (((with_reducible show wpAny _ _ (subscriptTail _ _ (Value.ref _) (Value.int _ _)) _ _ _))) | fail
  k_with "DIG" => first | (repeat (first | (with_reducible exact And.left) | (with_reducible exact id) | (with_reducible refine digR ?_))) | fail
  k_with "LT9" => first | (first | with_reducible assumption | (refine' ltLt ?h ?d; walk_at "HD")) | fail
  k_with "ALLLT" => first | (first | with_reducible assumption | (refine' allDig ?h ?d; walk_at "HD")) | fail
  k_with "K_NE" => first | ((refine neN ?_; first | with_reducible assumption | (refine Ne.symm ?_; with_reducible assumption) | (refine' neLt ?h ?d; walk_at "HD") | (refine' neGt ?h ?d; walk_at "HD") | (refine' neNe ?h ?d; walk_at "HD") | (refine' neEn ?h ?d; walk_at "HD") | (refine Nat.ne_of_lt ?_; with_reducible assumption) | (refine Nat.ne_of_gt ?_; with_reducible assumption) | ((try dsimp only); omega))) | fail
  k_with "MEM" => first | (first | with_reducible assumption | with_reducible exact List.mem_cons_self | (with_reducible refine List.mem_cons_of_mem _ ?_; walk_at "MEM")) | fail
  k_with "OM" => first | (first | exact dLe (by with_reducible assumption) rfl | exact dL0 (by with_reducible assumption) rfl | exact dLt (by with_reducible assumption) rfl | omega) | fail
  k_with "K_ALL" => first | (first | with_reducible assumption | (refine allLt_ne ?_; walk_at "ALLLT") | (refine off1_ne ?_; walk_at "ALLLT")) | fail
  k_with "TAIL" => first | ((intro p9 hp9; repeat (first | exact hp9 | refine List.mem_cons_of_mem _ ?_))) | fail
  k_with "K_ROOM" => first | (((simp only [depth_mark, depth_under_make, depth_under_kw, depth_in1, depth_deeper, depth_caller, ktrTop, recursionLimit]); walk_at "OM")) | fail
  k_with "K_UNITS" => first | ((have hcL := cLine_is; (simp only [units_in1, units_deeper, Around.mark_units, units_caller, ktrTop]); walk_at "OM")) | fail
  k_with "K_MEM" => first | (((fail_if_success refine' List.Mem.tail _ ?_); (show (_ : Addr × Obj) ∈ (_ : List (Addr × Obj))); with_reducible assumption)) | fail
  k_with "compareOp In str ref" => first | ((k_here; k_dflt (first | (refine' kd_in_some (by (k_asm; done)) (by (k_mem; done)) (by (with_reducible assumption; done)) (by (with_reducible assumption; done)) (by (with_reducible assumption; done)) ?_) | (refine' kd_in_none (by (k_asm; done)) (by (k_mem; done)) (by (with_reducible assumption; done)) (by (with_reducible assumption; done)) (by (with_reducible assumption; done)) ?_)))) | fail
  k_with "compareOp NotIn str ref" => first | ((k_here; k_dflt (first | (refine' kd_nin_some (by (k_asm; done)) (by (k_mem; done)) (by (with_reducible assumption; done)) (by (with_reducible assumption; done)) (by (with_reducible assumption; done)) ?_) | (refine' kd_nin_none (by (k_asm; done)) (by (k_mem; done)) (by (with_reducible assumption; done)) (by (with_reducible assumption; done)) (by (with_reducible assumption; done)) ?_) | (refine' nin2_f (by (k_asm; done)) (by (k_mem; done)) (by (with_reducible assumption; done)) ?_) | (refine' nin2_t (by (k_asm; done)) (by (k_mem; done)) (by (with_reducible assumption; done)) ?_)))) | fail
  k_with "subscriptTail" => first | ((k_here; (with_reducible show wpAny _ _ (subscriptTail _ _ (Value.ref _) (Value.str _ _)) _ _ _); k_dflt (refine' kd_item (by (k_asm; done)) (by (k_mem; done)) (by (with_reducible assumption; done)) (by (with_reducible assumption; done)) ?_ (by (with_unfolding_all rfl; done)) (by (intro _; with_unfolding_all rfl; done))))) | fail
  k_with "setItem ref str" => first | ((k_here; k_dflt (refine' kd_set (by (k_asm; done)) (by (k_asm; done)) (by (k_updF; done)) (by (with_reducible assumption; done)) (by (with_reducible assumption; done)) ?_); (intro h' o' F' N' hd'); (try dsimp only at N'))) | fail
  k_with "getItem ref" => first | ((k_here; (with_reducible show wpAny _ _ (getItem (Value.ref _) (Value.str _ _)) _ _ _); k_dflt (refine' kd_get (by (k_asm; done)) (by (k_mem; done)) (by (with_reducible assumption; done)) (by (with_reducible assumption; done)) ?_))) | fail
  k_with "compareOp NotEq str str" => first | ((k_here; first | (refine ne_str_t (by with_reducible assumption) ?_) | (refine ne_str_f (by with_reducible assumption) ?_))) | fail
  k_with "compareOp Eq str str" => first | ((k_here; first | (refine eq_str_f (by with_reducible assumption) ?_) | (refine eq_str_t (by with_reducible assumption) ?_))) | fail
  k_with "exec If Compare cons cons" => first | ((k_here; (with_reducible show wpAny _ _ (exec (Stmt.If (Expr.Compare (Expr.Name _ _) [CmpOp.Eq] [Expr.Constant (Const.str _) _ _] _) _ _ _) _) _ _ _); k_dflt (refine' if_str_no (by (k_asm; done)) (by (exact rfl; done)) (by (decide +kernel; done)) ?_))) | fail
  k_with "exec If Compare cons cons" => first | ((k_here; (with_reducible show wpAny _ _ (exec (Stmt.If (Expr.Compare (Expr.Name _ _) [CmpOp.Eq] [Expr.Constant (Const.str _) _ _] _) _ _ _) _) _ _ _); k_dflt (refine' if_str (by (k_asm; done)) (by (exact rfl; done)) (by (exact rfl; done)) ?_))) | fail
  k_with "subscriptTail Name Constant ref int" => first | ((k_here; walk_at "shSub"; k_dflt (first | (refine' item_tup0 (by (k_asm; done)) (by (k_mem; done)) (by (exact rfl; done)) (by (decide; done)) (by (decide; done)) ?_ (by (with_unfolding_all rfl; done))) | (refine' item_lst0 (by (k_asm; done)) (by (k_mem; done)) (by (exact rfl; done)) (by (decide; done)) (by (decide; done)) ?_ (by (with_unfolding_all rfl; done)))))) | fail
  k_with "subscriptTail Subscript Name Constant Constant ref int" => first | ((k_here; walk_at "shSub"; k_dflt (first | (refine' item_tup0 (by (k_asm; done)) (by (k_mem; done)) (by (exact rfl; done)) (by (decide; done)) (by (decide; done)) ?_ (by (with_unfolding_all rfl; done))) | (refine' item_lst0 (by (k_asm; done)) (by (k_mem; done)) (by (exact rfl; done)) (by (decide; done)) (by (decide; done)) ?_ (by (with_unfolding_all rfl; done)))))) | fail
  k_with "callWith builtin:list.append cons nil" => first | ((refine callWith_method1 ?_)) | fail
  k_with "execs nil" => first | ((with_reducible refine wpAny_execs_nil ?_)) | fail
  k_with "EC" => first | (first | k_fold | k_gentoks | (with_reducible refine wpAny_execs_cons ?_; try dsimp only)) | fail
  k_with "execs cons If nil" => first | (walk_at "EC") | fail
  k_with "execs cons If cons" => first | (walk_at "EC") | fail
  k_with "execs cons Assign cons" => first | (walk_at "EC") | fail
  k_with "execs cons Assign nil" => first | (walk_at "EC") | fail
  k_with "execs cons Return nil" => first | (walk_at "EC") | fail
  k_with "execs cons Return cons" => first | (walk_at "EC") | fail
  k_with "execs cons Expr nil" => first | (walk_at "EC") | fail
  k_with "execs cons Expr cons" => first | (walk_at "EC") | fail
  k_with "exec If Compare cons nil" => first | ((with_reducible refine wpAny_If ?_)) | fail
  k_with "spliced" => first | ((k_here; with_reducible first | refine args_cs ?_ | refine args_cn ?_ | refine args_ci ?_ | refine args_cb ?_)) | fail
  k_with "spliced" => first | ((k_here; (with_reducible show wpAny _ _ (spliced (backTo _ (starEach (Expr.Name _ _ :: _) (envOf _ _ _ _ _)))) _ _ _); k_dflt (refine' args_nm (by (k_asm; done)) (by (exact rfl; done)) ?_ (by rfl) (by rfl) (by decide)))) | fail
  k_with "call ref" => first | (((with_reducible show wpAny _ _ (call (Value.ref 124) _) _ _ _); refine Halt.out ?_)) | fail
  k_with "UnrEnd" => first | ((refine Halt.out ?_)) | fail
  k_with "call type:range" => first | ((k_here; (with_reducible show wpAny _ _ (call (Value.type "range") [Value.int _ _]) _ _ _); (refine range1_rows (by k_asm) (by k_asm) ?_); intro h' tk' t' u' v' hr' F' N' hk')) | fail
  k_with "PYITER" => first | ((k_here; (with_reducible show wpAny _ _ (pyIter (Value.ref _)) (fun it s₂ => LoopAtV _ _ _ _ _ _ _ _ _ it s₂) _ _); (refine Halt.out ?_))) | fail
  k_with "UnrEnd" => first | ((refine Halt.out ?_)) | fail
  k_with "exec For Name Tuple cons nil" => first | ((refine Halt.out ?_)) | fail
  k_with "exec If Compare cons nil" => first | ((refine Halt.out ?_)) | fail
  trivial






set_option maxRecDepth 100000 in
set_option maxHeartbeats 8000000 in
theorem checks_loop {w : World} {loose : List Str} {mean : ExcName → Option Value} {mg mb : Str → Option Value} {L fa cd : Addr} {h₀ : Heap} {m : Str → Option Value} {s : Shared} {Q : Flow → Shared → Prop}
    {el ed0 ed1 ed2 tl tb0 tb1 tb2 tbd0 tbd1 tbd2 en0 en1 en2 : Addr} {u01 u02 u11 u12 u21 u22 : Tok} {mm0 mm1 mm2 ne nl : Nat} {oe0 oe1 oe2 od0 od1 od2 oc1 oc : Obj} {vc : Option Value} {k0 k1 k2 j0 j1 j2 : List (Str × Value)} {d0 d1 d2 t0 t1 t2 : List (Str × Ent)} {R : List (Addr × Obj)}
    (K0 : Below callerA h₀ [] h₀) (F : Fr h₀ L s.heap m) (X : (Mine.hdE.heap_1_1 w.params).In h₀) (T : Top Mine.hdE.view_1_2 loose mean mg mb h₀)
    (N : News h₀ L s.heap ((L + 1 + 1, oc) :: R)) (hc : oc.data = .cell vc) (hoff : ∀ p ∈ R, p.1 ≠ L + 1 + 1) (mel : (el, listOf [Value.ref ed0, Value.ref ed1, Value.ref ed2].toArray ne) ∈ R) (mc1 : (L + 1, oc1) ∈ R) (hc1 : oc1.data = .cell (some (.ref el)))
    (me0 : (ed0, oe0) ∈ R) (me1 : (ed1, oe1) ∈ R) (me2 : (ed2, oe2) ∈ R) (D0 : oe0.IsDictOf (PySem.strKind PySem.Challenge.rw_sj0028_01.row.prog w) k0) (D1 : oe1.IsDictOf (PySem.strKind PySem.Challenge.rw_sj0028_01.row.prog w) k1) (D2 : oe2.IsDictOf (PySem.strKind PySem.Challenge.rw_sj0028_01.row.prog w) k2)
    (lo0 : (ed0 == sysModules) = false) (lo1 : (ed1 == sysModules) = false) (lo2 : (ed2 == sysModules) = false) (T0 : TabIn R k0 t0) (T1 : TabIn R k1 t1) (T2 : TabIn R k2 t2)
    (mtl : (tl, listOf [Value.ref tb0, Value.ref tb1, Value.ref tb2].toArray nl) ∈ R)
    (b0 : (tb0, instObj 59 tbd0) ∈ R) (b1 : (tb1, instObj 59 tbd1) ∈ R) (b2 : (tb2, instObj 59 tbd2) ∈ R)
    (g0 : (tbd0, tabDict w u01 u02 .none en0 mm0) ∈ R) (g1 : (tbd1, tabDict w u11 u12 (.ref tb0) en1 mm1) ∈ R) (g2 : (tbd2, tabDict w u21 u22 (.ref tb1) en2 mm2) ∈ R)
    (n0 : (en0, od0) ∈ R) (n1 : (en1, od1) ∈ R) (n2 : (en2, od2) ∈ R) (q0 : od0.IsDictOf (PySem.strKind PySem.Challenge.rw_sj0028_01.row.prog w) j0) (q1 : od1.IsDictOf (PySem.strKind PySem.Challenge.rw_sj0028_01.row.prog w) j1) (q2 : od2.IsDictOf (PySem.strKind PySem.Challenge.rw_sj0028_01.row.prog w) j2)
    (z0 : (en0 == sysModules) = false) (z1 : (en1 == sysModules) = false) (z2 : (en2 == sysModules) = false) (W0 : TabIn R j0 d0) (W1 : TabIn R j1 d1) (W2 : TabIn R j2 d2)
    (e0 : ∀ k, entAt d0 k = entAt t0 k) (e1 : ∀ k, entAt d1 k = entAt t1 k) (e2 : ∀ k, entAt d2 k = entAt t2 k)
    (f2 : m (Str.ofString "tables") = some (.ref tl))
    (hret : ∀ oc' m' h' tk', Fr h₀ L h' m' → News h₀ L h' ((L + 1 + 1, oc') :: R) → Q .next { s with heap := h', toks := tk' }) :
    wpAny (model PySem.Challenge.rw_sj0028_01.row.prog w) (lawA L fa cd) (exec (nthS 13 lawB) (lawE L fa cd)) Q (fun _ _ => False) s := by
  w_top off
  unfold lawA lawE
  conv => pattern (nthS 13 lawB); whnf
  conv => pattern (occs := *) lawS <;> (whnf; zeta)
  have C0 : ChainT w R (.ref tb0) [d0] := .cons b0 g0 n0 q0 z0 W0 .nil
  have C1 : ChainT w R (.ref tb1) [d1, d0] := .cons b1 g1 n1 q1 z1 W1 C0
  have C2 : ChainT w R (.ref tb2) [d2, d1, d0] := .cons b2 g2 n2 q2 z2 W2 C1
  revert X
  k_fill
  intro X
  k_steps
  unfold Halt
  rename IsRange _ _ _ _ _ _ _ _ => hr9
  refine iter_rangeUnr (n := 3) (by rfl) hr9 (by decide) (by rfl) (by k_asm) (by k_asm) ?_
  intro I9 hlt9
  have hbI : ∀ p ∈ R, p.1 ≠ I9 := fun p hp => lt_ne (hlt9 p (by (first | walk_at "MEM" | simp [hp])))
  have hcI : @Ne Nat (L + 1 + 1) I9 := lt_ne (hlt9 (L + 1 + 1, oc) (by first | walk_at "MEM" | simp))
  refine range_ind (CJ R (L + 1 + 1) tl) ?h0 ?turn ?done
  case h0 => exact ⟨oc, vc, fun _ h => h, hc, f2⟩
  case done =>
    intro m₁ nx h tk hJ F N
    obtain ⟨oc', vc', hnx, hc', h2⟩ := hJ
    exact hret oc' m₁ h tk F fun p hp => N p (hnx p hp)
  case turn =>
    intro i t m₁ nx h tk hi3 hJ F N
    obtain ⟨oc', vc', hnx, hc', h2⟩ := hJ
    replace N := fun p hp => N p (subCons hnx p hp)
    have h2' : (fun y => if y = Str.ofString "level" then some (Value.int (0 + (i : Int)) t) else m₁ y) (Str.ofString "tables") = some (.ref tl) := (if_neg (by decide)).trans h2
    simp only [Int.zero_add] at F h2'
    k_steps
    all_goals (unfold Halt)
    have hcase : i = 0 ∨ i = 1 ∨ i = 2 := by omega
    have hp9 := near_find e0 e1 e2
    rcases hcase with rfl | rfl | rfl
    · have s1 : ∀ p ∈ R, p ∈ (I9, itR (0 + (((0 : Nat) + 1 : Nat) : Int)) (((3 : Nat) : Int) - (((0 : Nat) + 1 : Nat) : Int))) :: (L + 1 + 1, oc') :: R := fun p hp => List.mem_cons_of_mem _ (List.mem_cons_of_mem _ hp)
      refine dicts_if (l := 0) (tk0 := t) (tl := tl) (tb := tb0) (el := el) (ed := ed0) K0 F X T N (s1 _ mel) (s1 _ mc1) hc1 rfl (s1 _ me0) D0 lo0 (T0.mono s1) (s1 _ mtl) rfl (s1 _ b0) (s1 _ g0) (s1 _ n0) q0 z0 (W0.mono s1) (by decide) (by decide) e0 (if_pos rfl) h2' ?_
      intro h3 tk3 F3 N3
      k_steps
      all_goals (unfold Halt)
      refine names6_loop (l := 0) (tk0 := t) (oc := oc') (vc := vc') (tl := tl) (tb := tb0) (tabs := [d0]) (el := el) (R := (I9, itR (0 + (((0 : Nat) + 1 : Nat) : Int)) (((3 : Nat) : Int) - (((0 : Nat) + 1 : Nat) : Int))) :: R) K0 F3 X T (fun p hp => N3 p (by simp only [List.mem_cons] at hp; rcases hp with h | h | h <;> (first | (subst h; walk_at "MEM") | walk_at "MEM" | simp [h]))) hc' ?off (List.mem_cons_of_mem _ mel) (List.mem_cons_of_mem _ mc1) hc1 (List.mem_cons_of_mem _ me0) (List.mem_cons_of_mem _ me1) (List.mem_cons_of_mem _ me2) D0 D1 D2 lo0 lo1 lo2 (T0.mono fun p hp => List.mem_cons_of_mem _ hp) (T1.mono fun p hp => List.mem_cons_of_mem _ hp) (T2.mono fun p hp => List.mem_cons_of_mem _ hp) (by decide) (List.mem_cons_of_mem _ mtl) rfl (C0.mono fun p hp => List.mem_cons_of_mem _ hp) (fun n _ => (hp9 n).1) (if_pos rfl) h2' ?_
      case off =>
        intro p hp
        rcases List.mem_cons.mp hp with rfl | hp
        · exact Ne.symm hcI
        · exact hoff p hp
      intro oc5 vc5 m5 h5 tk5 F5 N5 hc5 f5
      k_steps
      all_goals (unfold Halt)
      exact cj_end F5 N5 (by first | walk_at "MEM" | simp) (by first | walk_at "MEM" | simp) (fun p hp => by (first | walk_at "MEM" | simp [hp])) hcI hbI hc5 f5
    · have s1 : ∀ p ∈ R, p ∈ (I9, itR (0 + (((1 : Nat) + 1 : Nat) : Int)) (((3 : Nat) : Int) - (((1 : Nat) + 1 : Nat) : Int))) :: (L + 1 + 1, oc') :: R := fun p hp => List.mem_cons_of_mem _ (List.mem_cons_of_mem _ hp)
      refine dicts_if (l := 1) (tk0 := t) (tl := tl) (tb := tb1) (el := el) (ed := ed1) K0 F X T N (s1 _ mel) (s1 _ mc1) hc1 rfl (s1 _ me1) D1 lo1 (T1.mono s1) (s1 _ mtl) rfl (s1 _ b1) (s1 _ g1) (s1 _ n1) q1 z1 (W1.mono s1) (by decide) (by decide) e1 (if_pos rfl) h2' ?_
      intro h3 tk3 F3 N3
      k_steps
      all_goals (unfold Halt)
      refine names6_loop (l := 1) (tk0 := t) (oc := oc') (vc := vc') (tl := tl) (tb := tb1) (tabs := [d1, d0]) (el := el) (R := (I9, itR (0 + (((1 : Nat) + 1 : Nat) : Int)) (((3 : Nat) : Int) - (((1 : Nat) + 1 : Nat) : Int))) :: R) K0 F3 X T (fun p hp => N3 p (by simp only [List.mem_cons] at hp; rcases hp with h | h | h <;> (first | (subst h; walk_at "MEM") | walk_at "MEM" | simp [h]))) hc' ?off (List.mem_cons_of_mem _ mel) (List.mem_cons_of_mem _ mc1) hc1 (List.mem_cons_of_mem _ me0) (List.mem_cons_of_mem _ me1) (List.mem_cons_of_mem _ me2) D0 D1 D2 lo0 lo1 lo2 (T0.mono fun p hp => List.mem_cons_of_mem _ hp) (T1.mono fun p hp => List.mem_cons_of_mem _ hp) (T2.mono fun p hp => List.mem_cons_of_mem _ hp) (by decide) (List.mem_cons_of_mem _ mtl) rfl (C1.mono fun p hp => List.mem_cons_of_mem _ hp) (fun n _ => (hp9 n).2.1) (if_pos rfl) h2' ?_
      case off =>
        intro p hp
        rcases List.mem_cons.mp hp with rfl | hp
        · exact Ne.symm hcI
        · exact hoff p hp
      intro oc5 vc5 m5 h5 tk5 F5 N5 hc5 f5
      k_steps
      all_goals (unfold Halt)
      exact cj_end F5 N5 (by first | walk_at "MEM" | simp) (by first | walk_at "MEM" | simp) (fun p hp => by (first | walk_at "MEM" | simp [hp])) hcI hbI hc5 f5
    · have s1 : ∀ p ∈ R, p ∈ (I9, itR (0 + (((2 : Nat) + 1 : Nat) : Int)) (((3 : Nat) : Int) - (((2 : Nat) + 1 : Nat) : Int))) :: (L + 1 + 1, oc') :: R := fun p hp => List.mem_cons_of_mem _ (List.mem_cons_of_mem _ hp)
      refine dicts_if (l := 2) (tk0 := t) (tl := tl) (tb := tb2) (el := el) (ed := ed2) K0 F X T N (s1 _ mel) (s1 _ mc1) hc1 rfl (s1 _ me2) D2 lo2 (T2.mono s1) (s1 _ mtl) rfl (s1 _ b2) (s1 _ g2) (s1 _ n2) q2 z2 (W2.mono s1) (by decide) (by decide) e2 (if_pos rfl) h2' ?_
      intro h3 tk3 F3 N3
      k_steps
      all_goals (unfold Halt)
      refine names6_loop (l := 2) (tk0 := t) (oc := oc') (vc := vc') (tl := tl) (tb := tb2) (tabs := [d2, d1, d0]) (el := el) (R := (I9, itR (0 + (((2 : Nat) + 1 : Nat) : Int)) (((3 : Nat) : Int) - (((2 : Nat) + 1 : Nat) : Int))) :: R) K0 F3 X T (fun p hp => N3 p (by simp only [List.mem_cons] at hp; rcases hp with h | h | h <;> (first | (subst h; walk_at "MEM") | walk_at "MEM" | simp [h]))) hc' ?off (List.mem_cons_of_mem _ mel) (List.mem_cons_of_mem _ mc1) hc1 (List.mem_cons_of_mem _ me0) (List.mem_cons_of_mem _ me1) (List.mem_cons_of_mem _ me2) D0 D1 D2 lo0 lo1 lo2 (T0.mono fun p hp => List.mem_cons_of_mem _ hp) (T1.mono fun p hp => List.mem_cons_of_mem _ hp) (T2.mono fun p hp => List.mem_cons_of_mem _ hp) (by decide) (List.mem_cons_of_mem _ mtl) rfl (C2.mono fun p hp => List.mem_cons_of_mem _ hp) (fun n _ => (hp9 n).2.2) (if_pos rfl) h2' ?_
      case off =>
        intro p hp
        rcases List.mem_cons.mp hp with rfl | hp
        · exact Ne.symm hcI
        · exact hoff p hp
      intro oc5 vc5 m5 h5 tk5 F5 N5 hc5 f5
      k_steps
      all_goals (unfold Halt)
      exact cj_end F5 N5 (by first | walk_at "MEM" | simp) (by first | walk_at "MEM" | simp) (fun p hp => by (first | walk_at "MEM" | simp [hp])) hcI hbI hc5 f5
end
section
noncomputable def dropS : Nat → List Stmt → List Stmt
  | 0, l => l
  | _ + 1, [] => []
  | n + 1, _ :: r => dropS n r
structure PlainLaw (dr : List (Int × It)) : Prop where
  len : (dueN dr 3).length < 64
  inj : Inj (dueN dr 3).length fun i => (dueAt (dueN dr 3) i).1
  rows : ∀ due' : List (Int × Str × Str), due'.Perm (dueN dr 3) → due'.Pairwise (fun a b => a.1 < b.1) → (dfold dr).rows = due'.map toRow
  e0 : ∀ k, entAt (dfold dr).t0 k = entAt (lawTab dr ((0 : Nat) : Int) names5) k
  e1 : ∀ k, entAt (dfold dr).t1 k = entAt (lawTab dr ((1 : Nat) : Int) names5) k
  e2 : ∀ k, entAt (dfold dr).t2 k = entAt (lawTab dr ((2 : Nat) : Int) names5) k
theorem order8 {g h : Heap} {L : Addr} {el e2 e1 e0 du c1 c2 : Addr × Obj} {R : List (Addr × Obj)} (N : News g L h (el :: e2 :: e1 :: e0 :: du :: c1 :: c2 :: R)) : News g L h (du :: e0 :: e1 :: e2 :: c2 :: el :: c1 :: R) := fun p hp => N p (by
  simp only [List.mem_cons] at hp ⊢
  rcases hp with h | h | h | h | h | h | h | h <;> simp [h])
theorem bag8 {bs R : List (Addr × Obj)} {x y : Addr × Obj} (h : Bag bs R) : Bag (x :: y :: bs) (x :: y :: R) := by
  refine ⟨fun p hp => ?_, fun p hp => ?_⟩
  · simp only [List.mem_cons] at hp ⊢
    rcases hp with h' | h' | h'
    · exact .inl h'
    · exact .inr (.inl h')
    · exact .inr (.inr (h.sub p h'))
  · simp only [List.mem_cons] at hp
    rcases hp with h' | h' | h'
    · exact .inl (by simp [h'])
    · exact .inl (by simp [h'])
    · rcases h.tup p h' with h2 | h2
      · exact .inl (by simp [h2])
      · exact .inr h2
theorem off8 {R : List (Addr × Obj)} {x y : Addr × Obj} {d : Addr} (h1 : @Ne Nat x.1 d) (h2 : @Ne Nat y.1 d) (h : ∀ p ∈ R, p.1 ≠ d) : ∀ p ∈ x :: y :: R, p.1 ≠ d := by
  intro p hp
  simp only [List.mem_cons] at hp
  rcases hp with rfl | rfl | hp
  · exact h1
  · exact h2
  · exact h p hp
theorem allLt_up {d x : Addr} (h : @LT.lt Nat _ d x) : ∀ {l : List (Addr × Obj)}, AllLt d l → AllLt x l
  | [], _ => trivial
  | _ :: _, ⟨h1, h2⟩ => ⟨Nat.lt_trans h1 h, allLt_up h h2⟩
theorem mc {α : Type} {a : α} {l : List α} {C : α → Prop} (h1 : C a) (h2 : ∀ p ∈ l, C p) : ∀ p ∈ a :: l, C p := List.forall_mem_cons.mpr ⟨h1, h2⟩
theorem mz {α : Type} {C : α → Prop} : ∀ p ∈ ([] : List α), C p := fun _ h => nomatch h
end
section
theorem lines_L20b : True := by
  k_with_none
  k_with "shSub" => first | (((with_reducible show wpAny _ _ (subscriptTail _ _ (Value.ref _) (Value.int _ _)) _ _ _))) | fail
  k_with "DIG" => first | (repeat (first | (with_reducible exact And.left) | (with_reducible exact id) | (with_reducible refine digR ?_))) | fail
  k_with "LT9" => first | (first | with_reducible assumption | (refine' ltLt ?h ?d; walk_at "HD")) | fail
  k_with "ALLLT" => first | (first | with_reducible assumption | (refine' allDig ?h ?d; walk_at "HD")) | fail
  k_with "K_NE" => first | ((refine neN ?_; first | with_reducible assumption | (refine Ne.symm ?_; with_reducible assumption) | (refine' neLt ?h ?d; walk_at "HD") | (refine' neGt ?h ?d; walk_at "HD") | (refine' neNe ?h ?d; walk_at "HD") | (refine' neEn ?h ?d; walk_at "HD") | (refine Nat.ne_of_lt ?_; with_reducible assumption) | (refine Nat.ne_of_gt ?_; with_reducible assumption) | ((try dsimp only); omega))) | fail
  k_with "MEM" => first | (first | with_reducible assumption | with_reducible exact List.mem_cons_self | (with_reducible refine List.mem_cons_of_mem _ ?_; walk_at "MEM")) | fail
  k_with "OM" => first | (first | exact dLe (by with_reducible assumption) rfl | exact dL0 (by with_reducible assumption) rfl | exact dLt (by with_reducible assumption) rfl | omega) | fail
  k_with "K_ALL" => first | (first | with_reducible assumption | (refine allLt_ne ?_; walk_at "ALLLT") | (refine off1_ne ?_; walk_at "ALLLT")) | fail
  k_with "TAIL" => first | ((intro p9 hp9; repeat (first | exact hp9 | refine List.mem_cons_of_mem _ ?_))) | fail
  k_with "K_ROOM" => first | (((simp only [depth_mark, depth_under_make, depth_under_kw, depth_in1, depth_deeper, depth_caller, ktrTop, recursionLimit]); walk_at "OM")) | fail
  k_with "K_UNITS" => first | ((have hcL := cLine_is; (simp only [units_in1, units_deeper, Around.mark_units, units_caller, ktrTop]); walk_at "OM")) | fail
  k_with "K_MEM" => first | (((fail_if_success refine' List.Mem.tail _ ?_); (show (_ : Addr × Obj) ∈ (_ : List (Addr × Obj))); with_reducible assumption)) | fail
  k_with "compareOp In str ref" => first | ((k_here; k_dflt (first | (refine' kd_in_some (by (k_asm; done)) (by (k_mem; done)) (by (with_reducible assumption; done)) (by (with_reducible assumption; done)) (by (with_reducible assumption; done)) ?_) | (refine' kd_in_none (by (k_asm; done)) (by (k_mem; done)) (by (with_reducible assumption; done)) (by (with_reducible assumption; done)) (by (with_reducible assumption; done)) ?_)))) | fail
  k_with "compareOp NotIn str ref" => first | ((k_here; k_dflt (first | (refine' kd_nin_some (by (k_asm; done)) (by (k_mem; done)) (by (with_reducible assumption; done)) (by (with_reducible assumption; done)) (by (with_reducible assumption; done)) ?_) | (refine' kd_nin_none (by (k_asm; done)) (by (k_mem; done)) (by (with_reducible assumption; done)) (by (with_reducible assumption; done)) (by (with_reducible assumption; done)) ?_) | (refine' nin2_f (by (k_asm; done)) (by (k_mem; done)) (by (with_reducible assumption; done)) ?_) | (refine' nin2_t (by (k_asm; done)) (by (k_mem; done)) (by (with_reducible assumption; done)) ?_)))) | fail
  k_with "subscriptTail" => first | ((k_here; (with_reducible show wpAny _ _ (subscriptTail _ _ (Value.ref _) (Value.str _ _)) _ _ _); k_dflt (refine' kd_item (by (k_asm; done)) (by (k_mem; done)) (by (with_reducible assumption; done)) (by (with_reducible assumption; done)) ?_ (by (with_unfolding_all rfl; done)) (by (intro _; with_unfolding_all rfl; done))))) | fail
  k_with "setItem ref str" => first | ((k_here; k_dflt (refine' kd_set (by (k_asm; done)) (by (k_asm; done)) (by (k_updF; done)) (by (with_reducible assumption; done)) (by (with_reducible assumption; done)) ?_); (intro h' o' F' N' hd'); (try dsimp only at N'))) | fail
  k_with "getItem ref" => first | ((k_here; (with_reducible show wpAny _ _ (getItem (Value.ref _) (Value.str _ _)) _ _ _); k_dflt (refine' kd_get (by (k_asm; done)) (by (k_mem; done)) (by (with_reducible assumption; done)) (by (with_reducible assumption; done)) ?_))) | fail
  k_with "compareOp NotEq str str" => first | ((k_here; first | (refine ne_str_t (by with_reducible assumption) ?_) | (refine ne_str_f (by with_reducible assumption) ?_))) | fail
  k_with "compareOp Eq str str" => first | ((k_here; first | (refine eq_str_f (by with_reducible assumption) ?_) | (refine eq_str_t (by with_reducible assumption) ?_))) | fail
  k_with "exec If Compare cons cons" => first | ((k_here; (with_reducible show wpAny _ _ (exec (Stmt.If (Expr.Compare (Expr.Name _ _) [CmpOp.Eq] [Expr.Constant (Const.str _) _ _] _) _ _ _) _) _ _ _); k_dflt (refine' if_str_no (by (k_asm; done)) (by (exact rfl; done)) (by (decide +kernel; done)) ?_))) | fail
  k_with "exec If Compare cons cons" => first | ((k_here; (with_reducible show wpAny _ _ (exec (Stmt.If (Expr.Compare (Expr.Name _ _) [CmpOp.Eq] [Expr.Constant (Const.str _) _ _] _) _ _ _) _) _ _ _); k_dflt (refine' if_str (by (k_asm; done)) (by (exact rfl; done)) (by (exact rfl; done)) ?_))) | fail
  k_with "subscriptTail Name Constant ref int" => first | ((k_here; walk_at "shSub"; k_dflt (first | (refine' item_tup0 (by (k_asm; done)) (by (k_mem; done)) (by (exact rfl; done)) (by (decide; done)) (by (decide; done)) ?_ (by (with_unfolding_all rfl; done))) | (refine' item_lst0 (by (k_asm; done)) (by (k_mem; done)) (by (exact rfl; done)) (by (decide; done)) (by (decide; done)) ?_ (by (with_unfolding_all rfl; done)))))) | fail
  k_with "subscriptTail Subscript Name Constant Constant ref int" => first | ((k_here; walk_at "shSub"; k_dflt (first | (refine' item_tup0 (by (k_asm; done)) (by (k_mem; done)) (by (exact rfl; done)) (by (decide; done)) (by (decide; done)) ?_ (by (with_unfolding_all rfl; done))) | (refine' item_lst0 (by (k_asm; done)) (by (k_mem; done)) (by (exact rfl; done)) (by (decide; done)) (by (decide; done)) ?_ (by (with_unfolding_all rfl; done)))))) | fail
  k_with "callWith builtin:list.append cons nil" => first | ((refine callWith_method1 ?_)) | fail
  k_with "execs nil" => first | ((with_reducible refine wpAny_execs_nil ?_)) | fail
  k_with "EC" => first | (first | k_fold | k_gentoks | (with_reducible refine wpAny_execs_cons ?_; try dsimp only)) | fail
  k_with "execs cons If nil" => first | (walk_at "EC") | fail
  k_with "execs cons If cons" => first | (walk_at "EC") | fail
  k_with "execs cons Assign cons" => first | (walk_at "EC") | fail
  k_with "execs cons Assign nil" => first | (walk_at "EC") | fail
  k_with "execs cons Return nil" => first | (walk_at "EC") | fail
  k_with "execs cons Return cons" => first | (walk_at "EC") | fail
  k_with "execs cons Expr nil" => first | (walk_at "EC") | fail
  k_with "execs cons Expr cons" => first | (walk_at "EC") | fail
  k_with "exec If Compare cons nil" => first | ((with_reducible refine wpAny_If ?_)) | fail
  k_with "spliced" => first | ((k_here; with_reducible first | refine args_cs ?_ | refine args_cn ?_ | refine args_ci ?_ | refine args_cb ?_)) | fail
  k_with "spliced" => first | ((k_here; (with_reducible show wpAny _ _ (spliced (backTo _ (starEach (Expr.Name _ _ :: _) (envOf _ _ _ _ _)))) _ _ _); k_dflt (refine' args_nm (by (k_asm; done)) (by (exact rfl; done)) ?_ (by rfl) (by rfl) (by decide)))) | fail
  k_with "exec For Name Call cons nil" => first | ((refine Halt.out ?_)) | fail
  k_with "exec For Tuple Name cons nil" => first | ((refine Halt.out ?_)) | fail
  k_with "exec If Compare cons cons" => first | ((refine Halt.out ?_)) | fail
  k_with "exec If Compare cons nil" => first | ((refine Halt.out ?_)) | fail
  trivial





set_option maxRecDepth 100000 in
set_option maxHeartbeats 8000000 in
theorem law_rest3 {w : World} {loose : List Str} {mean : ExcName → Option Value} {mg mb : Str → Option Value} {L fa cd : Addr} {h₀ : Heap} {m : Str → Option Value} {s : Shared} {Q : Flow → Shared → Prop}
    {rep repd rl tl dl tb0 tbd0 en0 tb1 tbd1 en1 tb2 tbd2 en2 du el ed0 ed1 ed2 : Addr} {t1 t2 t3 u01 u02 u11 u12 u21 u22 : Tok} {nv tv : Value} {nn mm0 mm1 mm2 nr nl nd ne k : Nat} {oe0 oe1 oe2 oc1 oc2 od0 od1 od2 : Obj} {v2 : Option Value} {R : List (Addr × Obj)} {ds rs : List Value} {dr : List (Int × It)} {k0 k1 k2 : List (Str × Value)}
    (K0 : Below callerA h₀ [] h₀) (F : Fr h₀ L s.heap m) (X : (Mine.hdE.heap_1_1 w.params).In h₀) (T : Top Mine.hdE.view_1_2 loose mean mg mb h₀)
    (N : News h₀ L s.heap ((du, listOf ([] : List Value).toArray k) :: (ed0, od0) :: (ed1, od1) :: (ed2, od2) :: (L + 1 + 1, oc2) :: R))
    (hB : Bag [(el, listOf [Value.ref ed0, Value.ref ed1, Value.ref ed2].toArray ne), (L + 1, oc1), (rl, listOf rs.toArray nr), (en0, oe0), (en1, oe1), (en2, oe2), (rep, instObj 38 repd), (repd, repDict w t1 t2 t3 nv tv rl nn), (tl, listOf [Value.ref tb0, Value.ref tb1, Value.ref tb2].toArray nl), (tb0, instObj 59 tbd0), (tbd0, tabDict w u01 u02 .none en0 mm0), (tb1, instObj 59 tbd1), (tbd1, tabDict w u11 u12 (.ref tb0) en1 mm1), (tb2, instObj 59 tbd2), (tbd2, tabDict w u21 u22 (.ref tb1) en2 mm2), (dl, listOf ds.toArray nd)] R)
    (hc1 : oc1.data = .cell (some (.ref el))) (hc2 : oc2.data = .cell v2)
    (hb1 : ∀ p ∈ R, p.1 ≠ du) (hb2 : ∀ p ∈ R, p.1 ≠ ed0) (hb3 : ∀ p ∈ R, p.1 ≠ ed1) (hb4 : ∀ p ∈ R, p.1 ≠ ed2) (hb5 : ∀ p ∈ R, p.1 ≠ L + 1 + 1) (hdc : @Ne Nat du (L + 1 + 1)) (hec0 : @Ne Nat ed0 (L + 1 + 1)) (hec1 : @Ne Nat ed1 (L + 1 + 1)) (hec2 : @Ne Nat ed2 (L + 1 + 1))
    (e01 : @Ne Nat ed0 ed1) (e02 : @Ne Nat ed0 ed2) (e12 : @Ne Nat ed1 ed2) (lo0 : (ed0 == sysModules) = false) (lo1 : (ed1 == sysModules) = false) (lo2 : (ed2 == sysModules) = false) (z0 : (en0 == sysModules) = false) (z1 : (en1 == sysModules) = false) (z2 : (en2 == sysModules) = false)
    (q0 : od0.IsDictOf (PySem.strKind PySem.Challenge.rw_sj0028_01.row.prog w) []) (q1 : od1.IsDictOf (PySem.strKind PySem.Challenge.rw_sj0028_01.row.prog w) []) (q2 : od2.IsDictOf (PySem.strKind PySem.Challenge.rw_sj0028_01.row.prog w) [])
    (D0 : oe0.IsDictOf (PySem.strKind PySem.Challenge.rw_sj0028_01.row.prog w) k0) (D1 : oe1.IsDictOf (PySem.strKind PySem.Challenge.rw_sj0028_01.row.prog w) k1) (D2 : oe2.IsDictOf (PySem.strKind PySem.Challenge.rw_sj0028_01.row.prog w) k2)
    (T0 : TabIn R k0 (dfold dr).t0) (T1 : TabIn R k1 (dfold dr).t1) (T2 : TabIn R k2 (dfold dr).t2) (hrw : RowsIn R rs (dfold dr).rows) (hdr : DrawnIn R ds dr) (hdo : DrOk dr 100) (hdl : dr.length ≤ 18) (hpl : PlainLaw dr)
    (f1 : m (Str.ofString "drawn") = some (.ref dl)) (f3 : m (Str.ofString "due") = some (.ref du)) (f4 : m (Str.ofString "notes") = some (.ref rep)) (f5 : m (Str.ofString "tables") = some (.ref tl))
    (hret : ∀ h' tk' m' news', Fr h₀ L h' m' → News h₀ L h' news' → Q (.ret (.bool true)) { s with heap := h', toks := tk' }) :
    wpAny (model PySem.Challenge.rw_sj0028_01.row.prog w) (lawA L fa cd) (execs (dropS 11 lawB) (lawE L fa cd)) Q (fun _ _ => False) s := by
  w_top off
  unfold lawA lawE
  conv => pattern (dropS 11 lawB); whnf
  conv => pattern (occs := *) lawS <;> (whnf; zeta)
  revert X
  k_fill
  intro X
  have bs := hB.sub
  k_steps
  all_goals (unfold Halt)
  refine level_loop (el := el) (dl := dl) (oc1 := oc1) (ne := ne) (nd := nd) (ds := ds) (dr := dr) K0 F X T N hB (by first | walk_at "MEM" | simp) (by first | walk_at "MEM" | simp) (by first | walk_at "MEM" | simp) hc1 hc2 lo0 lo1 lo2 (fun p hp => hb1 p (bs p hp)) (fun p hp => hb2 p (bs p hp)) (fun p hp => hb3 p (bs p hp)) (fun p hp => hb4 p (bs p hp)) (fun p hp => hb5 p (bs p hp)) hdc hec0 hec1 hec2 e01 e02 e12 q0 q1 q2 hdr (fun p hp => (hdo.2 p hp).2.1) (by omega) f1 f3 f4 f5 ?_
  intro dus kd od0' od1' od2' j0 j1 j2 oc2' v2' R2 m2 h2 tk2 F2 N2 hB2 hS2 hd2 q0' q1' q2' W0 W1 W2 hc2' g1 g3 g4 g5
  k_steps
  all_goals (unfold Halt)
  have bs2 := hB2.sub
  have up : ∀ p ∈ R2, p ∈ (du, listOf dus.toArray kd) :: (ed0, od0') :: (ed1, od1') :: (ed2, od2') :: (L + 1 + 1, oc2') :: R2 := fun p hp => by (first | walk_at "MEM" | simp [hp])
  refine rows_if (rep := rep) (repd := repd) (rl := rl) (du := du) (due := dueN dr 3) (rows := (dfold dr).rows) K0 F2 X T N2 (up _ (bs2 (rep, instObj 38 repd) (by first | walk_at "MEM" | simp))) (up _ (bs2 (repd, repDict w t1 t2 t3 nv tv rl nn) (by first | walk_at "MEM" | simp))) (up _ (bs2 (rl, listOf rs.toArray nr) (by first | walk_at "MEM" | simp))) List.mem_cons_self ((hrw.monoT hS2).mono up) (hd2.monoT fun p hp _ => up p hp) hpl.inj hpl.len hpl.rows g4 g3 ?_
  intro h3 tk3 F3 N3
  k_steps
  all_goals (unfold Halt)
  have up3 : ∀ p ∈ R2, p ∈ (du, listOf dus.toArray kd) :: (ed0, od0') :: (ed1, od1') :: (ed2, od2') :: R2 := fun p hp => by (first | walk_at "MEM" | simp [hp])
  have uS : ∀ p ∈ R, IsT p.2 → p ∈ (du, listOf dus.toArray kd) :: (ed0, od0') :: (ed1, od1') :: (ed2, od2') :: R2 := fun p hp ht => up3 p (hS2 p hp ht)
  refine checks_loop (oc := oc2') (oc1 := oc1) (tl := tl) (el := el) (R := (du, listOf dus.toArray kd) :: (ed0, od0') :: (ed1, od1') :: (ed2, od2') :: R2) K0 F3 X T (fun p hp => N3 p (by simp only [List.mem_cons] at hp; rcases hp with h | h | h | h | h | h <;> (first | (subst h; walk_at "MEM") | walk_at "MEM" | simp [h]))) hc2' ?off (up3 _ (bs2 (el, listOf [Value.ref ed0, Value.ref ed1, Value.ref ed2].toArray ne) (by first | walk_at "MEM" | simp))) (up3 _ (bs2 (L + 1, oc1) (by first | walk_at "MEM" | simp))) hc1 (by first | walk_at "MEM" | simp) (by first | walk_at "MEM" | simp) (by first | walk_at "MEM" | simp) q0' q1' q2' lo0 lo1 lo2 (W0.monoT fun p hp _ => up3 p hp) (W1.monoT fun p hp _ => up3 p hp) (W2.monoT fun p hp _ => up3 p hp)
    (up3 _ (bs2 (tl, listOf [Value.ref tb0, Value.ref tb1, Value.ref tb2].toArray nl) (by first | walk_at "MEM" | simp))) (up3 _ (bs2 (tb0, instObj 59 tbd0) (by first | walk_at "MEM" | simp))) (up3 _ (bs2 (tb1, instObj 59 tbd1) (by first | walk_at "MEM" | simp))) (up3 _ (bs2 (tb2, instObj 59 tbd2) (by first | walk_at "MEM" | simp))) (up3 _ (bs2 (tbd0, tabDict w u01 u02 .none en0 mm0) (by first | walk_at "MEM" | simp))) (up3 _ (bs2 (tbd1, tabDict w u11 u12 (.ref tb0) en1 mm1) (by first | walk_at "MEM" | simp))) (up3 _ (bs2 (tbd2, tabDict w u21 u22 (.ref tb1) en2 mm2) (by first | walk_at "MEM" | simp)))
    (up3 _ (bs2 (en0, oe0) (by first | walk_at "MEM" | simp))) (up3 _ (bs2 (en1, oe1) (by first | walk_at "MEM" | simp))) (up3 _ (bs2 (en2, oe2) (by first | walk_at "MEM" | simp))) D0 D1 D2 z0 z1 z2 (T0.monoT uS) (T1.monoT uS) (T2.monoT uS) hpl.e0 hpl.e1 hpl.e2 g5 ?_
  case off =>
    intro p hp
    simp only [List.mem_cons] at hp
    rcases hp with rfl | rfl | rfl | rfl | hp
    · exact hdc
    · exact hec0
    · exact hec1
    · exact hec2
    · exact hB2.offCell N2 up (o := oc2') (by first | walk_at "MEM" | simp) hc2' (fun q hq => hb5 q (bs q hq)) p hp
  intro oc4 m4 h4 tk4 F4 N4
  k_steps
  exact hret _ _ _ _ F4 N4
end
section
theorem lines_L20c : True := by
  k_with_none
  k_with "shSub" => first | (((with_reducible show wpAny _ _ (subscriptTail _ _ (Value.ref _) (Value.int _ _)) _ _ _))) | fail
  k_with "DIG" => first | (repeat (first | (with_reducible exact And.left) | (with_reducible exact id) | (with_reducible refine digR ?_))) | fail
  k_with "LT9" => first | (first | with_reducible assumption | (refine' ltLt ?h ?d; walk_at "HD")) | fail
  k_with "ALLLT" => first | (first | with_reducible assumption | (refine' allDig ?h ?d; walk_at "HD")) | fail
  k_with "K_NE" => first | ((refine neN ?_; first | with_reducible assumption | (refine Ne.symm ?_; with_reducible assumption) | (refine' neLt ?h ?d; walk_at "HD") | (refine' neGt ?h ?d; walk_at "HD") | (refine' neNe ?h ?d; walk_at "HD") | (refine' neEn ?h ?d; walk_at "HD") | (refine Nat.ne_of_lt ?_; with_reducible assumption) | (refine Nat.ne_of_gt ?_; with_reducible assumption) | ((try dsimp only); omega))) | fail
  k_with "MEM" => first | (first | with_reducible assumption | with_reducible exact List.mem_cons_self | (with_reducible refine List.mem_cons_of_mem _ ?_; walk_at "MEM")) | fail
  k_with "OM" => first | (first | exact dLe (by with_reducible assumption) rfl | exact dL0 (by with_reducible assumption) rfl | exact dLt (by with_reducible assumption) rfl | omega) | fail
  k_with "K_ALL" => first | (first | with_reducible assumption | (refine allLt_ne ?_; walk_at "ALLLT") | (refine off1_ne ?_; walk_at "ALLLT")) | fail
  k_with "TAIL" => first | ((intro p9 hp9; repeat (first | exact hp9 | refine List.mem_cons_of_mem _ ?_))) | fail
  k_with "K_ROOM" => first | (((simp only [depth_mark, depth_under_make, depth_under_kw, depth_in1, depth_deeper, depth_caller, ktrTop, recursionLimit]); walk_at "OM")) | fail
  k_with "K_UNITS" => first | ((have hcL := cLine_is; (simp only [units_in1, units_deeper, Around.mark_units, units_caller, ktrTop]); walk_at "OM")) | fail
  k_with "K_MEM" => first | (((fail_if_success refine' List.Mem.tail _ ?_); (show (_ : Addr × Obj) ∈ (_ : List (Addr × Obj))); with_reducible assumption)) | fail
  k_with "compareOp In str ref" => first | ((k_here; k_dflt (first | (refine' kd_in_some (by (k_asm; done)) (by (k_mem; done)) (by (with_reducible assumption; done)) (by (with_reducible assumption; done)) (by (with_reducible assumption; done)) ?_) | (refine' kd_in_none (by (k_asm; done)) (by (k_mem; done)) (by (with_reducible assumption; done)) (by (with_reducible assumption; done)) (by (with_reducible assumption; done)) ?_)))) | fail
  k_with "compareOp NotIn str ref" => first | ((k_here; k_dflt (first | (refine' kd_nin_some (by (k_asm; done)) (by (k_mem; done)) (by (with_reducible assumption; done)) (by (with_reducible assumption; done)) (by (with_reducible assumption; done)) ?_) | (refine' kd_nin_none (by (k_asm; done)) (by (k_mem; done)) (by (with_reducible assumption; done)) (by (with_reducible assumption; done)) (by (with_reducible assumption; done)) ?_) | (refine' nin2_f (by (k_asm; done)) (by (k_mem; done)) (by (with_reducible assumption; done)) ?_) | (refine' nin2_t (by (k_asm; done)) (by (k_mem; done)) (by (with_reducible assumption; done)) ?_)))) | fail
  k_with "subscriptTail" => first | ((k_here; (with_reducible show wpAny _ _ (subscriptTail _ _ (Value.ref _) (Value.str _ _)) _ _ _); k_dflt (refine' kd_item (by (k_asm; done)) (by (k_mem; done)) (by (with_reducible assumption; done)) (by (with_reducible assumption; done)) ?_ (by (with_unfolding_all rfl; done)) (by (intro _; with_unfolding_all rfl; done))))) | fail
  k_with "setItem ref str" => first | ((k_here; k_dflt (refine' kd_set (by (k_asm; done)) (by (k_asm; done)) (by (k_updF; done)) (by (with_reducible assumption; done)) (by (with_reducible assumption; done)) ?_); (intro h' o' F' N' hd'); (try dsimp only at N'))) | fail
  k_with "getItem ref" => first | ((k_here; (with_reducible show wpAny _ _ (getItem (Value.ref _) (Value.str _ _)) _ _ _); k_dflt (refine' kd_get (by (k_asm; done)) (by (k_mem; done)) (by (with_reducible assumption; done)) (by (with_reducible assumption; done)) ?_))) | fail
  k_with "compareOp NotEq str str" => first | ((k_here; first | (refine ne_str_t (by with_reducible assumption) ?_) | (refine ne_str_f (by with_reducible assumption) ?_))) | fail
  k_with "compareOp Eq str str" => first | ((k_here; first | (refine eq_str_f (by with_reducible assumption) ?_) | (refine eq_str_t (by with_reducible assumption) ?_))) | fail
  k_with "exec If Compare cons cons" => first | ((k_here; (with_reducible show wpAny _ _ (exec (Stmt.If (Expr.Compare (Expr.Name _ _) [CmpOp.Eq] [Expr.Constant (Const.str _) _ _] _) _ _ _) _) _ _ _); k_dflt (refine' if_str_no (by (k_asm; done)) (by (exact rfl; done)) (by (decide +kernel; done)) ?_))) | fail
  k_with "exec If Compare cons cons" => first | ((k_here; (with_reducible show wpAny _ _ (exec (Stmt.If (Expr.Compare (Expr.Name _ _) [CmpOp.Eq] [Expr.Constant (Const.str _) _ _] _) _ _ _) _) _ _ _); k_dflt (refine' if_str (by (k_asm; done)) (by (exact rfl; done)) (by (exact rfl; done)) ?_))) | fail
  k_with "subscriptTail Name Constant ref int" => first | ((k_here; walk_at "shSub"; k_dflt (first | (refine' item_tup0 (by (k_asm; done)) (by (k_mem; done)) (by (exact rfl; done)) (by (decide; done)) (by (decide; done)) ?_ (by (with_unfolding_all rfl; done))) | (refine' item_lst0 (by (k_asm; done)) (by (k_mem; done)) (by (exact rfl; done)) (by (decide; done)) (by (decide; done)) ?_ (by (with_unfolding_all rfl; done)))))) | fail
  k_with "subscriptTail Subscript Name Constant Constant ref int" => first | ((k_here; walk_at "shSub"; k_dflt (first | (refine' item_tup0 (by (k_asm; done)) (by (k_mem; done)) (by (exact rfl; done)) (by (decide; done)) (by (decide; done)) ?_ (by (with_unfolding_all rfl; done))) | (refine' item_lst0 (by (k_asm; done)) (by (k_mem; done)) (by (exact rfl; done)) (by (decide; done)) (by (decide; done)) ?_ (by (with_unfolding_all rfl; done)))))) | fail
  k_with "callWith builtin:list.append cons nil" => first | ((refine callWith_method1 ?_)) | fail
  k_with "execs nil" => first | ((with_reducible refine wpAny_execs_nil ?_)) | fail
  k_with "EC" => first | (first | k_fold | k_gentoks | (with_reducible refine wpAny_execs_cons ?_; try dsimp only)) | fail
  k_with "execs cons If nil" => first | (walk_at "EC") | fail
  k_with "execs cons If cons" => first | (walk_at "EC") | fail
  k_with "execs cons Assign cons" => first | (walk_at "EC") | fail
  k_with "execs cons Assign nil" => first | (walk_at "EC") | fail
  k_with "execs cons Return nil" => first | (walk_at "EC") | fail
  k_with "execs cons Return cons" => first | (walk_at "EC") | fail
  k_with "execs cons Expr nil" => first | (walk_at "EC") | fail
  k_with "execs cons Expr cons" => first | (walk_at "EC") | fail
  k_with "exec If Compare cons nil" => first | ((with_reducible refine wpAny_If ?_)) | fail
  k_with "spliced" => first | ((k_here; with_reducible first | refine args_cs ?_ | refine args_cn ?_ | refine args_ci ?_ | refine args_cb ?_)) | fail
  k_with "spliced" => first | ((k_here; (with_reducible show wpAny _ _ (spliced (backTo _ (starEach (Expr.Name _ _ :: _) (envOf _ _ _ _ _)))) _ _ _); k_dflt (refine' args_nm (by (k_asm; done)) (by (exact rfl; done)) ?_ (by rfl) (by rfl) (by decide)))) | fail
  k_with "exec For Name Call cons nil" => first | ((refine Halt.out ?_)) | fail
  k_with "exec For Tuple Name cons nil" => first | ((refine Halt.out ?_)) | fail
  k_with "exec If Compare cons cons" => first | ((refine Halt.out ?_)) | fail
  k_with "exec If Compare cons nil" => first | ((refine Halt.out ?_)) | fail
  k_with "storeName" => first | ((k_here; k_dflt (refine' storeC_F (by (k_asm; done)) (by (k_asm; done)) (by (rfl; done)) (by (k_updF; done)) (by (with_reducible assumption; done)) ?_ (by (rfl; done)) (by (rfl; done)); k_whole); intro h' o' F' N' d'; (try dsimp only at N'))) | fail
  k_with "execs cons For cons" => first | ((refine Halt.out ?_)) | fail
  trivial







set_option maxRecDepth 100000 in
set_option maxHeartbeats 8000000 in
theorem law_rest2 {w : World} {loose : List Str} {mean : ExcName → Option Value} {mg mb : Str → Option Value} {L fa cd : Addr} {h₀ : Heap} {m : Str → Option Value} {s : Shared} {Q : Flow → Shared → Prop}
    {rep repd rl tl dl tb0 tbd0 en0 tb1 tbd1 en1 tb2 tbd2 en2 nm : Addr} {t1 t2 t3 u01 u02 u11 u12 u21 u22 : Tok} {nv tv : Value} {nn mm0 mm1 mm2 nr nl nd : Nat} {oe0 oe1 oe2 onm oc1 oc2 : Obj} {v1 v2 : Option Value} {R : List (Addr × Obj)} {ds : List Value} {dr : List (Int × It)}
    (K0 : Below callerA h₀ [] h₀) (F : Fr h₀ L s.heap m) (X : (Mine.hdE.heap_1_1 w.params).In h₀) (T : Top Mine.hdE.view_1_2 loose mean mg mb h₀)
    (N : News h₀ L s.heap ((rl, listOf ([] : List Value).toArray nr) :: (rep, instObj 38 repd) :: (repd, repDict w t1 t2 t3 nv tv rl nn) :: (nm, onm) :: (tl, listOf [Value.ref tb0, Value.ref tb1, Value.ref tb2].toArray nl) :: (en2, oe2) :: (tb2, instObj 59 tbd2) :: (tbd2, tabDict w u21 u22 (.ref tb1) en2 mm2) :: (en1, oe1) :: (tb1, instObj 59 tbd1) :: (tbd1, tabDict w u11 u12 (.ref tb0) en1 mm1) :: (en0, oe0) :: (tb0, instObj 59 tbd0) :: (tbd0, tabDict w u01 u02 .none en0 mm0) :: (dl, listOf ds.toArray nd) :: R))
    (hB : Bag [(L + 1 + 1, oc2), (L + 1, oc1)] R) (hc1 : oc1.data = .cell v1) (hc2 : oc2.data = .cell v2)
    (hrl : (@Ne Nat rep rl) ∧ (@Ne Nat repd rl) ∧ (@Ne Nat tl rl) ∧ (@Ne Nat tb0 rl) ∧ (@Ne Nat tbd0 rl) ∧ (@Ne Nat tb1 rl) ∧ (@Ne Nat tbd1 rl) ∧ (@Ne Nat tb2 rl) ∧ (@Ne Nat tbd2 rl) ∧ (@Ne Nat dl rl))
    (hn0 : (@Ne Nat rep en0) ∧ (@Ne Nat repd en0) ∧ (@Ne Nat tl en0) ∧ (@Ne Nat tb0 en0) ∧ (@Ne Nat tbd0 en0) ∧ (@Ne Nat tb1 en0) ∧ (@Ne Nat tbd1 en0) ∧ (@Ne Nat tb2 en0) ∧ (@Ne Nat tbd2 en0) ∧ (@Ne Nat dl en0))
    (hn1 : (@Ne Nat rep en1) ∧ (@Ne Nat repd en1) ∧ (@Ne Nat tl en1) ∧ (@Ne Nat tb0 en1) ∧ (@Ne Nat tbd0 en1) ∧ (@Ne Nat tb1 en1) ∧ (@Ne Nat tbd1 en1) ∧ (@Ne Nat tb2 en1) ∧ (@Ne Nat tbd2 en1) ∧ (@Ne Nat dl en1))
    (hn2 : (@Ne Nat rep en2) ∧ (@Ne Nat repd en2) ∧ (@Ne Nat tl en2) ∧ (@Ne Nat tb0 en2) ∧ (@Ne Nat tbd0 en2) ∧ (@Ne Nat tb1 en2) ∧ (@Ne Nat tbd1 en2) ∧ (@Ne Nat tb2 en2) ∧ (@Ne Nat tbd2 en2) ∧ (@Ne Nat dl en2))
    (e01 : @Ne Nat en0 en1) (e02 : @Ne Nat en0 en2) (e12 : @Ne Nat en1 en2)
    (a0 : AllLt rl R) (a1 : AllLt en0 R) (a2 : AllLt en1 R) (a3 : AllLt en2 R) (a4 : AllLt rep R) (a5 : AllLt repd R) (a6 : AllLt tl R) (a7 : AllLt tb0 R) (a8 : AllLt tbd0 R) (a9 : AllLt tb1 R) (a10 : AllLt tbd1 R) (a11 : AllLt tb2 R) (a12 : AllLt tbd2 R) (a13 : @LT.lt Nat _ (L + 1 + 1) dl)
    (z0 : (en0 == sysModules) = false) (z1 : (en1 == sysModules) = false) (z2 : (en2 == sysModules) = false)
    (q0 : oe0.IsDictOf (PySem.strKind PySem.Challenge.rw_sj0028_01.row.prog w) []) (q1 : oe1.IsDictOf (PySem.strKind PySem.Challenge.rw_sj0028_01.row.prog w) []) (q2 : oe2.IsDictOf (PySem.strKind PySem.Challenge.rw_sj0028_01.row.prog w) [])
    (hdr : DrawnIn R ds dr) (hdo : DrOk dr 100) (hdl : dr.length ≤ 18) (hpl : PlainLaw dr)
    (f1 : m (Str.ofString "drawn") = some (.ref dl)) (f4 : m (Str.ofString "notes") = some (.ref rep)) (f5 : m (Str.ofString "tables") = some (.ref tl))
    (hret : ∀ h' tk' m' news', Fr h₀ L h' m' → News h₀ L h' news' → Q (.ret (.bool true)) { s with heap := h', toks := tk' }) :
    wpAny (model PySem.Challenge.rw_sj0028_01.row.prog w) (lawA L fa cd) (execs (dropS 8 lawB) (lawE L fa cd)) Q (fun _ _ => False) s := by
  w_top off
  have hbs : ∀ x, AllLt x R → ∀ p ∈ [(L + 1 + 1, oc2), (L + 1, oc1)], p.1 ≠ x := fun x hx p hp => allLt_ne hx p (hB.sub p hp)
  have c2lt : ∀ x, AllLt x R → @LT.lt Nat _ (L + 1 + 1) x := fun x hx => allLt_mem hx (L + 1 + 1, oc2) (hB.sub _ (by first | walk_at "MEM" | simp))
  have c1lt : ∀ x, AllLt x R → @LT.lt Nat _ (L + 1) x := fun x hx => allLt_mem hx (L + 1, oc1) (hB.sub _ (by first | walk_at "MEM" | simp))
  unfold lawA lawE
  conv => pattern (dropS 8 lawB); whnf
  conv => pattern (occs := *) lawS <;> (whnf; zeta)
  revert X
  k_fill
  intro X
  refine wpAny_execs_cons ?_
  have offs : ∀ x, AllLt x R → (@Ne Nat rep x) ∧ (@Ne Nat repd x) ∧ (@Ne Nat tl x) ∧ (@Ne Nat tb0 x) ∧ (@Ne Nat tbd0 x) ∧ (@Ne Nat tb1 x) ∧ (@Ne Nat tbd1 x) ∧ (@Ne Nat tb2 x) ∧ (@Ne Nat tbd2 x) ∧ (@Ne Nat dl x) → ∀ p ∈ [(rep, instObj 38 repd), (repd, repDict w t1 t2 t3 nv tv rl nn), (tl, listOf [Value.ref tb0, Value.ref tb1, Value.ref tb2].toArray nl), (tb0, instObj 59 tbd0), (tbd0, tabDict w u01 u02 .none en0 mm0), (tb1, instObj 59 tbd1), (tbd1, tabDict w u11 u12 (.ref tb0) en1 mm1), (tb2, instObj 59 tbd2), (tbd2, tabDict w u21 u22 (.ref tb1) en2 mm2), (dl, listOf ds.toArray nd), (L + 1 + 1, oc2), (L + 1, oc1)], p.1 ≠ x := by
    intro x hx hn p hp
    obtain ⟨y1, y2, y3, y4, y5, y6, y7, y8, y9, y10⟩ := hn
    exact (mc (y1) (mc (y2) (mc (y3) (mc (y4) (mc (y5) (mc (y6) (mc (y7) (mc (y8) (mc (y9) (mc (y10) (mc (lt_ne (c2lt x hx)) (mc (lt_ne (c1lt x hx)) (mz)))))))))))) : ∀ p ∈ _, p.1 ≠ x) p hp
  refine decl_loop (R := bagOf [(rep, instObj 38 repd), (repd, repDict w t1 t2 t3 nv tv rl nn), (tl, listOf [Value.ref tb0, Value.ref tb1, Value.ref tb2].toArray nl), (tb0, instObj 59 tbd0), (tbd0, tabDict w u01 u02 .none en0 mm0), (tb1, instObj 59 tbd1), (tbd1, tabDict w u11 u12 (.ref tb0) en1 mm1), (tb2, instObj 59 tbd2), (tbd2, tabDict w u21 u22 (.ref tb1) en2 mm2), (dl, listOf ds.toArray nd), (L + 1 + 1, oc2), (L + 1, oc1)] R)
    (rep := rep) (repd := repd) (rl := rl) (tl := tl) (dl := dl) (tb0 := tb0) (tbd0 := tbd0) (en0 := en0) (tb1 := tb1) (tbd1 := tbd1) (en1 := en1) (tb2 := tb2) (tbd2 := tbd2) (en2 := en2) (t1 := t1) (t2 := t2) (t3 := t3) (u1 := u01) (u2 := u02) (v1 := u11) (v2 := u12) (w1 := u21) (w2 := u22) (pv0 := .none) (pv1 := .ref tb0) (pv2 := .ref tb1) (nv := nv) (tv := tv) (nn := nn) (mm0 := mm0) (mm1 := mm1) (mm2 := mm2) (nl := nl) (nd := nd) (dr := dr) (ds := ds) (nr := nr) (oe0 := oe0) (oe1 := oe1) (oe2 := oe2)
    K0 F X T ?N1 (bagOf_bag _ _) (by first | walk_at "MEM" | simp) (by first | walk_at "MEM" | simp) (by first | walk_at "MEM" | simp) (by first | walk_at "MEM" | simp) (by first | walk_at "MEM" | simp) (by first | walk_at "MEM" | simp) (by first | walk_at "MEM" | simp) (by first | walk_at "MEM" | simp) (by first | walk_at "MEM" | simp) (by first | walk_at "MEM" | simp) (offs rl a0 hrl) (offs en0 a1 hn0) (offs en1 a2 hn1) (offs en2 a3 hn2) e01 e02 e12 z0 z1 z2 q0 q1 q2 (hdr.monoT bagOf_subT) (fun p hp => (hdo.2 p hp).2.2) (fun p hp => (hdo.2 p hp).2.1) (by omega) f4 f5 f1 ?_
  case N1 =>
    exact fun p hp => N p ((mc (by walk_at "MEM") (mc (by walk_at "MEM") (mc (by walk_at "MEM") (mc (by walk_at "MEM") (fun p hp => (bagOf_mem hp).elim (fun hp => (mc (by walk_at "MEM") (mc (by walk_at "MEM") (mc (by walk_at "MEM") (mc (by walk_at "MEM") (mc (by walk_at "MEM") (mc (by walk_at "MEM") (mc (by walk_at "MEM") (mc (by walk_at "MEM") (mc (by walk_at "MEM") (mc (by walk_at "MEM") (mc ((by walk_at "TAIL" : ∀ p ∈ R, p ∈ _) _ (hB.sub _ (by walk_at "MEM"))) (mc ((by walk_at "TAIL" : ∀ p ∈ R, p ∈ _) _ (hB.sub _ (by walk_at "MEM"))) (mz)))))))))))) : ∀ p ∈ _, p ∈ _) p hp) (fun hp => (by walk_at "TAIL" : ∀ p ∈ R, p ∈ _) p hp))))) : ∀ p ∈ _, p ∈ _) p hp)
  intro rs9 nr9 oe0' oe1' oe2' k0 k1 k2 R2 m2 h2 tk2 F2 N2 hB2 hS2 D0 D1 D2 T0 T1 T2 hrw g4 g5 g1
  have hs2 := hB2.sub
  have upc : ∀ p ∈ [(rl, listOf rs9.toArray nr9), (en0, oe0'), (en1, oe1'), (en2, oe2'), (rep, instObj 38 repd), (repd, repDict w t1 t2 t3 nv tv rl nn), (tl, listOf [Value.ref tb0, Value.ref tb1, Value.ref tb2].toArray nl), (tb0, instObj 59 tbd0), (tbd0, tabDict w u01 u02 .none en0 mm0), (tb1, instObj 59 tbd1), (tbd1, tabDict w u11 u12 (.ref tb0) en1 mm1), (tb2, instObj 59 tbd2), (tbd2, tabDict w u21 u22 (.ref tb1) en2 mm2), (dl, listOf ds.toArray nd)], p ∈ (rl, listOf rs9.toArray nr9) :: (en0, oe0') :: (en1, oe1') :: (en2, oe2') :: R2 := by
    exact mc (by walk_at "MEM") (mc (by walk_at "MEM") (mc (by walk_at "MEM") (mc (by walk_at "MEM") (mc ((by walk_at "TAIL" : ∀ p ∈ R2, p ∈ _) _ (hs2 _ (by walk_at "MEM"))) (mc ((by walk_at "TAIL" : ∀ p ∈ R2, p ∈ _) _ (hs2 _ (by walk_at "MEM"))) (mc ((by walk_at "TAIL" : ∀ p ∈ R2, p ∈ _) _ (hs2 _ (by walk_at "MEM"))) (mc ((by walk_at "TAIL" : ∀ p ∈ R2, p ∈ _) _ (hs2 _ (by walk_at "MEM"))) (mc ((by walk_at "TAIL" : ∀ p ∈ R2, p ∈ _) _ (hs2 _ (by walk_at "MEM"))) (mc ((by walk_at "TAIL" : ∀ p ∈ R2, p ∈ _) _ (hs2 _ (by walk_at "MEM"))) (mc ((by walk_at "TAIL" : ∀ p ∈ R2, p ∈ _) _ (hs2 _ (by walk_at "MEM"))) (mc ((by walk_at "TAIL" : ∀ p ∈ R2, p ∈ _) _ (hs2 _ (by walk_at "MEM"))) (mc ((by walk_at "TAIL" : ∀ p ∈ R2, p ∈ _) _ (hs2 _ (by walk_at "MEM"))) (mc ((by walk_at "TAIL" : ∀ p ∈ R2, p ∈ _) _ (hs2 _ (by walk_at "MEM"))) (mz))))))))))))))
  have mc1' : (L + 1, oc1) ∈ R2 := hs2 _ (by first | walk_at "MEM" | simp)
  have mc2' : (L + 1 + 1, oc2) ∈ R2 := hs2 _ (by first | walk_at "MEM" | simp)
  have lt3 : ∀ p ∈ [(rl, listOf rs9.toArray nr9), (en0, oe0'), (en1, oe1'), (en2, oe2'), (rep, instObj 38 repd), (repd, repDict w t1 t2 t3 nv tv rl nn), (tl, listOf [Value.ref tb0, Value.ref tb1, Value.ref tb2].toArray nl), (tb0, instObj 59 tbd0), (tbd0, tabDict w u01 u02 .none en0 mm0), (tb1, instObj 59 tbd1), (tbd1, tabDict w u11 u12 (.ref tb0) en1 mm1), (tb2, instObj 59 tbd2), (tbd2, tabDict w u21 u22 (.ref tb1) en2 mm2), (dl, listOf ds.toArray nd)], @LT.lt Nat _ (L + 1 + 1) p.1 := by
    exact mc (c2lt _ a0) (mc (c2lt _ a1) (mc (c2lt _ a2) (mc (c2lt _ a3) (mc (c2lt _ a4) (mc (c2lt _ a5) (mc (c2lt _ a6) (mc (c2lt _ a7) (mc (c2lt _ a8) (mc (c2lt _ a9) (mc (c2lt _ a10) (mc (c2lt _ a11) (mc (c2lt _ a12) (mc (a13) (mz))))))))))))))
  have N3 : News h₀ L h2 ((L + 1, oc1) :: (L + 1 + 1, oc2) :: bagOf [(rl, listOf rs9.toArray nr9), (en0, oe0'), (en1, oe1'), (en2, oe2'), (rep, instObj 38 repd), (repd, repDict w t1 t2 t3 nv tv rl nn), (tl, listOf [Value.ref tb0, Value.ref tb1, Value.ref tb2].toArray nl), (tb0, instObj 59 tbd0), (tbd0, tabDict w u01 u02 .none en0 mm0), (tb1, instObj 59 tbd1), (tbd1, tabDict w u11 u12 (.ref tb0) en1 mm1), (tb2, instObj 59 tbd2), (tbd2, tabDict w u21 u22 (.ref tb1) en2 mm2), (dl, listOf ds.toArray nd)] R2) := by
    intro p hp
    refine N2 p ?_
    simp only [List.mem_cons] at hp
    rcases hp with rfl | rfl | hp
    · (first | walk_at "MEM" | simp [mc1'])
    · (first | walk_at "MEM" | simp [mc2'])
    · rcases bagOf_mem hp with hp | hp
      · exact upc p hp
      · (first | walk_at "MEM" | simp [hp])
  have oc2off : ∀ p ∈ bagOf [(rl, listOf rs9.toArray nr9), (en0, oe0'), (en1, oe1'), (en2, oe2'), (rep, instObj 38 repd), (repd, repDict w t1 t2 t3 nv tv rl nn), (tl, listOf [Value.ref tb0, Value.ref tb1, Value.ref tb2].toArray nl), (tb0, instObj 59 tbd0), (tbd0, tabDict w u01 u02 .none en0 mm0), (tb1, instObj 59 tbd1), (tbd1, tabDict w u11 u12 (.ref tb0) en1 mm1), (tb2, instObj 59 tbd2), (tbd2, tabDict w u21 u22 (.ref tb1) en2 mm2), (dl, listOf ds.toArray nd)] R2, p.1 ≠ L + 1 + 1 := (bagOf_bag _ _).offCell N3 (fun p hp => by (first | walk_at "MEM" | simp [hp])) (o := oc2) (by first | walk_at "MEM" | simp) hc2 (fun p hp => ne_of_lt_addr (lt3 p hp))
  have oc1off : ∀ p ∈ bagOf [(rl, listOf rs9.toArray nr9), (en0, oe0'), (en1, oe1'), (en2, oe2'), (rep, instObj 38 repd), (repd, repDict w t1 t2 t3 nv tv rl nn), (tl, listOf [Value.ref tb0, Value.ref tb1, Value.ref tb2].toArray nl), (tb0, instObj 59 tbd0), (tbd0, tabDict w u01 u02 .none en0 mm0), (tb1, instObj 59 tbd1), (tbd1, tabDict w u11 u12 (.ref tb0) en1 mm1), (tb2, instObj 59 tbd2), (tbd2, tabDict w u21 u22 (.ref tb1) en2 mm2), (dl, listOf ds.toArray nd)] R2, p.1 ≠ L + 1 := (bagOf_bag _ _).offCell N3 (fun p hp => by (first | walk_at "MEM" | simp [hp])) (o := oc1) (by first | walk_at "MEM" | simp) hc1 (fun p hp => ne_of_lt_addr (Nat.lt_trans (Nat.lt_succ_self _) (lt3 p hp)))
  have hB3 := bagOf_bag [(rl, listOf rs9.toArray nr9), (en0, oe0'), (en1, oe1'), (en2, oe2'), (rep, instObj 38 repd), (repd, repDict w t1 t2 t3 nv tv rl nn), (tl, listOf [Value.ref tb0, Value.ref tb1, Value.ref tb2].toArray nl), (tb0, instObj 59 tbd0), (tbd0, tabDict w u01 u02 .none en0 mm0), (tb1, instObj 59 tbd1), (tbd1, tabDict w u11 u12 (.ref tb0) en1 mm1), (tb2, instObj 59 tbd2), (tbd2, tabDict w u21 u22 (.ref tb1) en2 mm2), (dl, listOf ds.toArray nd)] R2
  have sub3 : SubT R2 (bagOf [(rl, listOf rs9.toArray nr9), (en0, oe0'), (en1, oe1'), (en2, oe2'), (rep, instObj 38 repd), (repd, repDict w t1 t2 t3 nv tv rl nn), (tl, listOf [Value.ref tb0, Value.ref tb1, Value.ref tb2].toArray nl), (tb0, instObj 59 tbd0), (tbd0, tabDict w u01 u02 .none en0 mm0), (tb1, instObj 59 tbd1), (tbd1, tabDict w u11 u12 (.ref tb0) en1 mm1), (tb2, instObj 59 tbd2), (tbd2, tabDict w u21 u22 (.ref tb1) en2 mm2), (dl, listOf ds.toArray nd)] R2) := bagOf_subT
  have F3 := Fr.three F2 g1 g4 g5
  have c12 : @Ne Nat (L + 1 + 1) (L + 1) := ne_of_lt_addr (Nat.lt_succ_self _)
  generalize hR3 : bagOf [(rl, listOf rs9.toArray nr9), (en0, oe0'), (en1, oe1'), (en2, oe2'), (rep, instObj 38 repd), (repd, repDict w t1 t2 t3 nv tv rl nn), (tl, listOf [Value.ref tb0, Value.ref tb1, Value.ref tb2].toArray nl), (tb0, instObj 59 tbd0), (tbd0, tabDict w u01 u02 .none en0 mm0), (tb1, instObj 59 tbd1), (tbd1, tabDict w u11 u12 (.ref tb0) en1 mm1), (tb2, instObj 59 tbd2), (tbd2, tabDict w u21 u22 (.ref tb1) en2 mm2), (dl, listOf ds.toArray nd)] R2 = R3 at N3 oc2off oc1off hB3 sub3
  clear F2 N2 F N
  k_steps
  all_goals (unfold Halt)
  rename Obj.data _ = Data.cell (some (Value.ref _)) => hcel
  rename News _ _ _ _ => N8
  refine law_rest3 (oc2 := oc2) K0 (by k_asm) X T (order8 N8) (bag8 hB3) hcel hc2 (off8 ?o1 ?o1' ?o1'') (off8 ?o2 ?o2' ?o2'') (off8 ?o3 ?o3' ?o3'') (off8 ?o4 ?o4' ?o4'') (off8 ?o5 ?o5' oc2off) ?u1 ?u2 ?u3 ?u4 ?u5 ?u6 ?u7 ?l0 ?l1 ?l2 z0 z1 z2 ?q0 ?q1 ?q2 D0 D1 D2 (T0.monoT ?s0) (T1.monoT ?s1) (T2.monoT ?s2) (hrw.monoT ?s3) ((hdr.monoT ?s4)) hdo hdl hpl (by with_unfolding_all rfl) (by with_unfolding_all rfl) (by with_unfolding_all rfl) (by with_unfolding_all rfl) hret
  case s0 => exact fun p hp ht => by simp [sub3 p hp ht]
  case s1 => exact fun p hp ht => by simp [sub3 p hp ht]
  case s2 => exact fun p hp ht => by simp [sub3 p hp ht]
  case s3 => exact fun p hp ht => by simp [sub3 p hp ht]
  case s4 => exact fun p hp ht => by simp [sub3 _ (hS2 _ (bagOf_tup hp ht) ht) ht]
  all_goals first
    | with_reducible assumption
    | (refine allLt_ne ?_; walk_at "ALLLT")
    | (show @Ne Nat _ _; k_ne)
end
section
theorem lines_L20d : True := by
  k_with_none
  k_with "shSub" => first | (((with_reducible show wpAny _ _ (subscriptTail _ _ (Value.ref _) (Value.int _ _)) _ _ _))) | fail
  k_with "DIG" => first | (repeat (first | (with_reducible exact And.left) | (with_reducible exact id) | (with_reducible refine digR ?_))) | fail
  k_with "LT9" => first | (first | with_reducible assumption | (refine' ltLt ?h ?d; walk_at "HD")) | fail
  k_with "ALLLT" => first | (first | with_reducible assumption | (refine' allDig ?h ?d; walk_at "HD")) | fail
  k_with "K_NE" => first | ((refine neN ?_; first | with_reducible assumption | (refine Ne.symm ?_; with_reducible assumption) | (refine' neLt ?h ?d; walk_at "HD") | (refine' neGt ?h ?d; walk_at "HD") | (refine' neNe ?h ?d; walk_at "HD") | (refine' neEn ?h ?d; walk_at "HD") | (refine Nat.ne_of_lt ?_; with_reducible assumption) | (refine Nat.ne_of_gt ?_; with_reducible assumption) | ((try dsimp only); omega))) | fail
  k_with "MEM" => first | (first | with_reducible assumption | with_reducible exact List.mem_cons_self | (with_reducible refine List.mem_cons_of_mem _ ?_; walk_at "MEM")) | fail
  k_with "OM" => first | (first | exact dLe (by with_reducible assumption) rfl | exact dL0 (by with_reducible assumption) rfl | exact dLt (by with_reducible assumption) rfl | omega) | fail
  k_with "K_ALL" => first | (first | with_reducible assumption | (refine allLt_ne ?_; walk_at "ALLLT") | (refine off1_ne ?_; walk_at "ALLLT")) | fail
  k_with "TAIL" => first | ((intro p9 hp9; repeat (first | exact hp9 | refine List.mem_cons_of_mem _ ?_))) | fail
  k_with "K_ROOM" => first | (((simp only [depth_mark, depth_under_make, depth_under_kw, depth_in1, depth_deeper, depth_caller, ktrTop, recursionLimit]); walk_at "OM")) | fail
  k_with "K_UNITS" => first | ((have hcL := cLine_is; (simp only [units_in1, units_deeper, Around.mark_units, units_caller, ktrTop]); walk_at "OM")) | fail
  k_with "K_MEM" => first | (((fail_if_success refine' List.Mem.tail _ ?_); (show (_ : Addr × Obj) ∈ (_ : List (Addr × Obj))); with_reducible assumption)) | fail
  k_with "compareOp In str ref" => first | ((k_here; k_dflt (first | (refine' kd_in_some (by (k_asm; done)) (by (k_mem; done)) (by (with_reducible assumption; done)) (by (with_reducible assumption; done)) (by (with_reducible assumption; done)) ?_) | (refine' kd_in_none (by (k_asm; done)) (by (k_mem; done)) (by (with_reducible assumption; done)) (by (with_reducible assumption; done)) (by (with_reducible assumption; done)) ?_)))) | fail
  k_with "compareOp NotIn str ref" => first | ((k_here; k_dflt (first | (refine' kd_nin_some (by (k_asm; done)) (by (k_mem; done)) (by (with_reducible assumption; done)) (by (with_reducible assumption; done)) (by (with_reducible assumption; done)) ?_) | (refine' kd_nin_none (by (k_asm; done)) (by (k_mem; done)) (by (with_reducible assumption; done)) (by (with_reducible assumption; done)) (by (with_reducible assumption; done)) ?_) | (refine' nin2_f (by (k_asm; done)) (by (k_mem; done)) (by (with_reducible assumption; done)) ?_) | (refine' nin2_t (by (k_asm; done)) (by (k_mem; done)) (by (with_reducible assumption; done)) ?_)))) | fail
  k_with "subscriptTail" => first | ((k_here; (with_reducible show wpAny _ _ (subscriptTail _ _ (Value.ref _) (Value.str _ _)) _ _ _); k_dflt (refine' kd_item (by (k_asm; done)) (by (k_mem; done)) (by (with_reducible assumption; done)) (by (with_reducible assumption; done)) ?_ (by (with_unfolding_all rfl; done)) (by (intro _; with_unfolding_all rfl; done))))) | fail
  k_with "setItem ref str" => first | ((k_here; k_dflt (refine' kd_set (by (k_asm; done)) (by (k_asm; done)) (by (k_updF; done)) (by (with_reducible assumption; done)) (by (with_reducible assumption; done)) ?_); (intro h' o' F' N' hd'); (try dsimp only at N'))) | fail
  k_with "getItem ref" => first | ((k_here; (with_reducible show wpAny _ _ (getItem (Value.ref _) (Value.str _ _)) _ _ _); k_dflt (refine' kd_get (by (k_asm; done)) (by (k_mem; done)) (by (with_reducible assumption; done)) (by (with_reducible assumption; done)) ?_))) | fail
  k_with "compareOp NotEq str str" => first | ((k_here; first | (refine ne_str_t (by with_reducible assumption) ?_) | (refine ne_str_f (by with_reducible assumption) ?_))) | fail
  k_with "compareOp Eq str str" => first | ((k_here; first | (refine eq_str_f (by with_reducible assumption) ?_) | (refine eq_str_t (by with_reducible assumption) ?_))) | fail
  k_with "exec If Compare cons cons" => first | ((k_here; (with_reducible show wpAny _ _ (exec (Stmt.If (Expr.Compare (Expr.Name _ _) [CmpOp.Eq] [Expr.Constant (Const.str _) _ _] _) _ _ _) _) _ _ _); k_dflt (refine' if_str_no (by (k_asm; done)) (by (exact rfl; done)) (by (decide +kernel; done)) ?_))) | fail
  k_with "exec If Compare cons cons" => first | ((k_here; (with_reducible show wpAny _ _ (exec (Stmt.If (Expr.Compare (Expr.Name _ _) [CmpOp.Eq] [Expr.Constant (Const.str _) _ _] _) _ _ _) _) _ _ _); k_dflt (refine' if_str (by (k_asm; done)) (by (exact rfl; done)) (by (exact rfl; done)) ?_))) | fail
  k_with "subscriptTail Name Constant ref int" => first | ((k_here; walk_at "shSub"; k_dflt (first | (refine' item_tup0 (by (k_asm; done)) (by (k_mem; done)) (by (exact rfl; done)) (by (decide; done)) (by (decide; done)) ?_ (by (with_unfolding_all rfl; done))) | (refine' item_lst0 (by (k_asm; done)) (by (k_mem; done)) (by (exact rfl; done)) (by (decide; done)) (by (decide; done)) ?_ (by (with_unfolding_all rfl; done)))))) | fail
  k_with "subscriptTail Subscript Name Constant Constant ref int" => first | ((k_here; walk_at "shSub"; k_dflt (first | (refine' item_tup0 (by (k_asm; done)) (by (k_mem; done)) (by (exact rfl; done)) (by (decide; done)) (by (decide; done)) ?_ (by (with_unfolding_all rfl; done))) | (refine' item_lst0 (by (k_asm; done)) (by (k_mem; done)) (by (exact rfl; done)) (by (decide; done)) (by (decide; done)) ?_ (by (with_unfolding_all rfl; done)))))) | fail
  k_with "callWith builtin:list.append cons nil" => first | ((refine callWith_method1 ?_)) | fail
  k_with "execs nil" => first | ((with_reducible refine wpAny_execs_nil ?_)) | fail
  k_with "EC" => first | (first | k_fold | k_gentoks | (with_reducible refine wpAny_execs_cons ?_; try dsimp only)) | fail
  k_with "execs cons If nil" => first | (walk_at "EC") | fail
  k_with "execs cons If cons" => first | (walk_at "EC") | fail
  k_with "execs cons Assign cons" => first | (walk_at "EC") | fail
  k_with "execs cons Assign nil" => first | (walk_at "EC") | fail
  k_with "execs cons Return nil" => first | (walk_at "EC") | fail
  k_with "execs cons Return cons" => first | (walk_at "EC") | fail
  k_with "execs cons Expr nil" => first | (walk_at "EC") | fail
  k_with "execs cons Expr cons" => first | (walk_at "EC") | fail
  k_with "exec If Compare cons nil" => first | ((with_reducible refine wpAny_If ?_)) | fail
  k_with "spliced" => first | ((k_here; with_reducible first | refine args_cs ?_ | refine args_cn ?_ | refine args_ci ?_ | refine args_cb ?_)) | fail
  k_with "spliced" => first | ((k_here; (with_reducible show wpAny _ _ (spliced (backTo _ (starEach (Expr.Name _ _ :: _) (envOf _ _ _ _ _)))) _ _ _); k_dflt (refine' args_nm (by (k_asm; done)) (by (exact rfl; done)) ?_ (by rfl) (by rfl) (by decide)))) | fail
  k_with "exec For Name Call cons nil" => first | ((refine Halt.out ?_)) | fail
  k_with "exec For Tuple Name cons nil" => first | ((refine Halt.out ?_)) | fail
  k_with "exec If Compare cons cons" => first | ((refine Halt.out ?_)) | fail
  k_with "exec If Compare cons nil" => first | ((refine Halt.out ?_)) | fail
  k_with "execs cons For cons" => first | ((refine Halt.out ?_)) | fail
  trivial






set_option maxRecDepth 100000 in
set_option maxHeartbeats 8000000 in
theorem law_rest {w : World} {loose : List Str} {mean : ExcName → Option Value} {mg mb : Str → Option Value} {L fa cd : Addr} {h₀ : Heap} {m : Str → Option Value} {s : Shared} {Q : Flow → Shared → Prop}
    {feed cells dl : Addr} {c r : Int} {tc tr : Tok} {nf nc nd : Nat} {vs ds : List Value} {ns : List Int} {o1 o2 : Obj} {v1 v2 : Option Value} {R : List (Addr × Obj)} {dr : List (Int × It)}
    (K0 : Below callerA h₀ [] h₀) (F : Fr h₀ L s.heap m) (X : (Mine.hdE.heap_1_1 w.params).In h₀) (T : Top Mine.hdE.view_1_2 loose mean mg mb h₀)
    (N : News h₀ L s.heap ((feed, feedObj cells c tc r tr nf) :: (cells, listOf vs.toArray nc) :: (dl, listOf ds.toArray nd) :: R)) (hB : Bag [(L + 1 + 1, o2), (L + 1, o1)] R) (hc1 : o1.data = .cell v1) (hc2 : o2.data = .cell v2)
    (hbf : @LT.lt Nat _ (L + 1 + 1) feed) (hbc : ∀ p ∈ [(L + 1 + 1, o2), (L + 1, o1)], p.1 ≠ cells) (hbd : @LT.lt Nat _ (L + 1 + 1) dl) (hfc : @Ne Nat feed cells) (hfd : @Ne Nat dl feed) (hcd : @Ne Nat dl cells)
    (hi : IntsAre vs ns) (hlen : vs.length < 100) (hr0 : 0 ≤ r) (hr1 : r < 2147483647) (hdr : DrawnIn R ds dr) (hdo : DrOk dr 10) (hdl : dr.length = 4)
    (mf : m (Str.ofString "feed") = some (.ref feed)) (md : m (Str.ofString "drawn") = some (.ref dl))
    (hpl : ∀ dr, DrOk dr 100 → dr.length ≤ 18 → PlainLaw dr)
    (hret : ∀ h' tk' m' news', Fr h₀ L h' m' → News h₀ L h' news' → Q (.ret (.bool true)) { s with heap := h', toks := tk' }) :
    wpAny (model PySem.Challenge.rw_sj0028_01.row.prog w) (lawA L fa cd) (execs (dropS 3 lawB) (lawE L fa cd)) Q (fun _ _ => False) s := by
  w_top off
  have offB : ∀ x, @LT.lt Nat _ (L + 1 + 1) x → ∀ p ∈ [(L + 1 + 1, o2), (L + 1, o1)], p.1 ≠ x := by
    intro x hx p hp
    simp only [List.mem_cons, List.not_mem_nil, or_false] at hp
    rcases hp with rfl | rfl
    · exact lt_ne hx
    · exact lt_ne (Nat.lt_trans (Nat.lt_succ_self _) hx)
  unfold lawA lawE
  conv => pattern (dropS 3 lawB); whnf
  conv => pattern (occs := *) lawS <;> (whnf; zeta)
  revert X
  k_fill
  intro X
  refine wpAny_execs_cons ?_
  refine draw_loop K0 F X T N hB (offB _ hbf) hbc (offB _ hbd) hfc hfd hcd hi hlen hr0 hr1 hdr hdo hdl mf md ?_
  intro ds1 nd1 dr1 R1 m1 h1 tk1 F1 N1 hB1 hdr1 hdo1 hdl1 md1
  have Fm := Fr.one F1 md1
  clear F1 F N
  k_steps
  all_goals (unfold Halt)
  rename News _ _ _ _ => N8
  refine law_rest2 K0 (by k_asm) X T N8 hB1 hc1 hc2 ?hrl ?hn0 ?hn1 ?hn2 ?e01 ?e02 ?e12 ?a0 ?a1 ?a2 ?a3 ?a4 ?a5 ?a6 ?a7 ?a8 ?a9 ?a10 ?a11 ?a12 hbd ?z0 ?z1 ?z2 ?q0 ?q1 ?q2 hdr1 hdo1 hdl1 (hpl _ hdo1 hdl1) (by with_unfolding_all rfl) (by with_unfolding_all rfl) (by with_unfolding_all rfl) hret
  case hrl => refine ⟨?_, ?_, ?_, ?_, ?_, ?_, ?_, ?_, ?_, ?_⟩ <;> k_ne
  case hn0 => refine ⟨?_, ?_, ?_, ?_, ?_, ?_, ?_, ?_, ?_, ?_⟩ <;> k_ne
  case hn1 => refine ⟨?_, ?_, ?_, ?_, ?_, ?_, ?_, ?_, ?_, ?_⟩ <;> k_ne
  case hn2 => refine ⟨?_, ?_, ?_, ?_, ?_, ?_, ?_, ?_, ?_, ?_⟩ <;> k_ne
  all_goals first
    | with_reducible assumption
    | (walk_at "ALLLT")
    | k_ne
    | (refine' allLt_up ?h0 ?h1; (case h0 => with_reducible assumption); (case h1 => walk_at "ALLLT"))
end
section
noncomputable def lawEntO (own : Bool) : List It → Option Ent
  | [] => none
  | f :: its => some (entryEnt own (its.foldl pairStep ([f], [])).1)
noncomputable def lawRowsM (own : Bool) : List It → List (Str × Int)
  | [] => []
  | f :: its => (its.foldl pairStep ([f], [])).2 ++ entryRows own (its.foldl pairStep ([f], [])).1
noncomputable def newRows (own : Bool) (mine : List It) (it : It) : List (Str × Int) := match mine with
  | [] => []
  | f :: its => if (its.foldl pairStep ([f], [])).1.length = 1 ∧ (((its.foldl pairStep ([f], [])).1 ++ [it]).filter It.isPort).length = 1 ∧ (((its.foldl pairStep ([f], [])).1 ++ [it]).filter It.isWire).length = 1 then entryRows own ((its.foldl pairStep ([f], [])).1 ++ [it]) else [(Str.ofString "duplicate", it.at)]
theorem entryRows_one (own : Bool) (x : It) : entryRows own [x] = [] := by
  cases x with
  | ev g i n => cases g <;> rfl
  | _ => rfl
theorem rowsM_snoc (own : Bool) (mine : List It) (it : It) : (lawRowsM own (mine ++ [it])).Perm (lawRowsM own mine ++ newRows own mine it) := by
  cases mine with
  | nil =>
    show ([] ++ entryRows own [it]).Perm ([] ++ [])
    rw [entryRows_one]
  | cons f its =>
    have e : lawRowsM own (f :: its ++ [it]) = (pairStep (its.foldl pairStep ([f], [])) it).2 ++ entryRows own (pairStep (its.foldl pairStep ([f], [])) it).1 := by
      simp [lawRowsM, List.foldl_append]
    rw [e]
    simp only [newRows, lawRowsM]
    generalize its.foldl pairStep ([f], []) = P
    unfold pairStep
    by_cases hc : P.1.length = 1 ∧ ((P.1 ++ [it]).filter It.isPort).length = 1 ∧ ((P.1 ++ [it]).filter It.isWire).length = 1
    · rw [if_pos hc, if_pos hc]
      obtain ⟨x, hx⟩ := List.length_eq_one_iff.mp hc.1
      simp only
      have : entryRows own P.1 = [] := by rw [hx]; exact entryRows_one own x
      rw [this, List.append_nil]
    · rw [if_neg hc, if_neg hc]
      simp only [List.append_assoc]
      exact List.Perm.append_left _ List.perm_append_comm
theorem entO_snoc_no {own : Bool} {f it : It} {its : List It} (hc : ¬ ((its.foldl pairStep ([f], [])).1.length = 1 ∧ (((its.foldl pairStep ([f], [])).1 ++ [it]).filter It.isPort).length = 1 ∧ (((its.foldl pairStep ([f], [])).1 ++ [it]).filter It.isWire).length = 1)) :
    lawEntO own (f :: its ++ [it]) = lawEntO own (f :: its) ∧ newRows own (f :: its) it = [(Str.ofString "duplicate", it.at)] := by
  refine ⟨?_, ?_⟩
  · simp only [lawEntO, List.cons_append, List.foldl_append, List.foldl_cons, List.foldl_nil]
    rw [pairStep, if_neg hc]
  · simp only [newRows]
    rw [if_neg hc]
theorem entO_snoc_yes {own : Bool} {f it : It} {its : List It} (hc : (its.foldl pairStep ([f], [])).1.length = 1 ∧ (((its.foldl pairStep ([f], [])).1 ++ [it]).filter It.isPort).length = 1 ∧ (((its.foldl pairStep ([f], [])).1 ++ [it]).filter It.isWire).length = 1) :
    lawEntO own (f :: its ++ [it]) = some (entryEnt own ((its.foldl pairStep ([f], [])).1 ++ [it])) ∧ newRows own (f :: its) it = entryRows own ((its.foldl pairStep ([f], [])).1 ++ [it]) := by
  refine ⟨?_, ?_⟩
  · simp only [lawEntO, List.cons_append, List.foldl_append, List.foldl_cons, List.foldl_nil]
    rw [pairStep, if_pos hc]
  · simp only [newRows]
    rw [if_pos hc]
theorem addName_dup {rows : List Row} {tab : List (Str × Ent)} {n wh : Str} {i : Int} {inf : Info} {e : Ent} (h : entAt tab n = some e) : addName (rows, tab) n wh i inf = (rows ++ [(Str.ofString "duplicate", i, n)], tab) := addName_some h
theorem addPort_dup2 {rows : List Row} {tab : List (Str × Ent)} {n : Str} {i : Int} {d : Str} {inR : Bool} {e : Ent} (h : entAt tab n = some e) (hi : ∀ d' p w, e.info = .sig d' p w → p = true) : addPort (rows, tab) n i d inR = (rows ++ [(Str.ofString "duplicate", i, n)], tab) := by
  obtain ⟨wh, a, inf⟩ := e
  simp only [addPort, h]
  cases inf with
  | neg => rfl
  | dirs ds => rfl
  | sig d' p w =>
    have := hi d' p w rfl
    subst this
    simp
theorem addSignal_dup2 {rows : List Row} {tab : List (Str × Ent)} {n wh : Str} {i : Int} {inR : Bool} {e : Ent} (h : entAt tab n = some e) (hi : ∀ d' p w, e.info = .sig d' p w → w = true) : addSignal (rows, tab) n wh i inR = (rows ++ [(Str.ofString "duplicate", i, n)], tab) := by
  obtain ⟨wh', a, inf⟩ := e
  simp only [addSignal, h]
  cases inf with
  | neg => rfl
  | dirs ds => rfl
  | sig d' p w =>
    have := hi d' p w rfl
    subst this
    simp
theorem addPort_put {rows : List Row} {tab : List (Str × Ent)} {n wh : Str} {i i0 : Int} {d d' : Str} {w inR : Bool} (h : entAt tab n = some ⟨wh, i0, .sig d' false w⟩) (hw : wh = Str.ofString "net" ∨ wh = Str.ofString "var") :
    addPort (rows, tab) n i d inR = (if wh = Str.ofString "var" ∧ d ≠ Str.ofString "output" ∧ inR = false then rows ++ [(Str.ofString "variable_port_input", i, n)] else rows, storedE tab n ⟨wh, i0, .sig d true true⟩) := by
  simp only [addPort, h]
  rw [if_pos ⟨hw, trivial⟩]
theorem addSignal_put {rows : List Row} {tab : List (Str × Ent)} {n wh wh' : Str} {i i0 : Int} {d' : Str} {p inR : Bool} (h : entAt tab n = some ⟨wh', i0, .sig d' p false⟩) (hw : wh' = Str.ofString "net" ∨ wh' = Str.ofString "var") :
    addSignal (rows, tab) n wh i inR = (if wh = Str.ofString "var" ∧ d' ≠ Str.ofString "output" ∧ inR = false then rows ++ [(Str.ofString "variable_port_input", i, n)] else rows, storedE tab n ⟨wh, i0, .sig d' true true⟩) := by
  simp only [addSignal, h]
  rw [if_pos ⟨hw, trivial⟩]
/-- what one item does to a table, said by the law's own words -/
def StepOk (rows : List Row) (tab : List (Str × Ent)) (it : It) (own : Bool) (n : Str) (mine : List It) : Prop :=
  (declare (rows, tab) it own).1 = rows ++ (newRows own mine it).map (fun r => (r.1, r.2, n)) ∧ ∀ k, entAt (declare (rows, tab) it own).2 k = if k = n then lawEntO own (mine ++ [it]) else entAt tab k
theorem step_put {rows : List Row} {tab : List (Str × Ent)} {it : It} {own : Bool} {n : Str} {mine : List It} {e : Ent} {rs : List (Str × Int)} (h : declare (rows, tab) it own = (rows ++ rs.map (fun r => (r.1, r.2, n)), storedE tab n e)) (hr : newRows own mine it = rs) (he : lawEntO own (mine ++ [it]) = some e) : StepOk rows tab it own n mine := by
  refine ⟨by rw [h, hr], fun k => ?_⟩
  rw [h, entAt_stored, he]
theorem step_dup {rows : List Row} {tab : List (Str × Ent)} {it f : It} {own : Bool} {n : Str} {its : List It} (h : declare (rows, tab) it own = (rows ++ [(Str.ofString "duplicate", it.at, n)], tab)) (he : entAt tab n = lawEntO own (f :: its))
    (hc : ¬ ((its.foldl pairStep ([f], [])).1.length = 1 ∧ (((its.foldl pairStep ([f], [])).1 ++ [it]).filter It.isPort).length = 1 ∧ (((its.foldl pairStep ([f], [])).1 ++ [it]).filter It.isWire).length = 1)) : StepOk rows tab it own n (f :: its) := by
  obtain ⟨h1, h2⟩ := entO_snoc_no (own := own) hc
  refine ⟨by rw [h, h2]; rfl, fun k => ?_⟩
  rw [h, h1]
  split
  · next e => rw [e, he]
  · rfl
theorem step_first {rows : List Row} {tab : List (Str × Ent)} {it : It} {own : Bool} {n : Str} (hn : it.name = some n) (he : entAt tab n = none) : StepOk rows tab it own n [] := by
  have hP : lawEntO own ([] ++ [it]) = some (entryEnt own [it]) := rfl
  cases it with
  | port i d n' => cases hn; exact step_put (rs := []) (by unfold declare; dsimp only; unfold addPort; rw [he]; cases own <;> (show (_, _) = (rows ++ [], _); rw [List.append_nil]; rfl)) rfl hP
  | net i n' => cases hn; exact step_put (rs := []) (by unfold declare; dsimp only; unfold addSignal; rw [he]; show (_, _) = (rows ++ [], _); rw [List.append_nil]; rfl) rfl hP
  | var i n' => cases hn; exact step_put (rs := []) (by unfold declare; dsimp only; unfold addSignal; rw [he]; show (_, _) = (rows ++ [], _); rw [List.append_nil]; rfl) rfl hP
  | ev g i n' => cases g <;> (cases hn; exact step_put (rs := []) (by unfold declare; dsimp only; unfold addName; rw [he]; show (_, _) = (rows ++ [], _); rw [List.append_nil]; rfl) rfl hP)
  | param i n' => cases hn; exact step_put (rs := []) (by unfold declare; dsimp only; unfold addName; rw [he]; show (_, _) = (rows ++ [], _); rw [List.append_nil]; rfl) rfl hP
  | rout i k n' ds => cases hn; exact step_put (rs := []) (by unfold declare; dsimp only; unfold addName; rw [he]; show (_, _) = (rows ++ [], _); rw [List.append_nil]; rfl) rfl hP
  | inst i g => cases hn; exact step_put (rs := []) (by unfold declare; dsimp only; unfold addName; rw [he]; show (_, _) = (rows ++ [], _); rw [List.append_nil]; rfl) rfl hP
  | gate i g => cases hn; exact step_put (rs := []) (by unfold declare; dsimp only; unfold addName; rw [he]; show (_, _) = (rows ++ [], _); rw [List.append_nil]; rfl) rfl hP
  | cas i => cases hn
end
section
theorem is_port {x : It} (h : x.isPort = true) : ∃ i d n, x = .port i d n := by
  cases x with
  | port i d n => exact ⟨i, d, n, rfl⟩
  | ev g i n => cases g <;> exact absurd h (by simp only [It.isPort, It.tag]; decide)
  | net i n => exact absurd h (by simp only [It.isPort, It.tag]; decide)
  | var i n => exact absurd h (by simp only [It.isPort, It.tag]; decide)
  | param i n => exact absurd h (by simp only [It.isPort, It.tag]; decide)
  | rout i k n ds => exact absurd h (by simp only [It.isPort, It.tag]; decide)
  | inst i g => exact absurd h (by simp only [It.isPort, It.tag]; decide)
  | gate i g => exact absurd h (by simp only [It.isPort, It.tag]; decide)
  | cas i => exact absurd h (by simp only [It.isPort, It.tag]; decide)
theorem is_wire {x : It} (h : x.isWire = true) : (∃ i n, x = .net i n) ∨ ∃ i n, x = .var i n := by
  cases x with
  | net i n => exact .inl ⟨i, n, rfl⟩
  | var i n => exact .inr ⟨i, n, rfl⟩
  | ev g i n => cases g <;> exact absurd h (by simp only [It.isWire, It.tag]; decide)
  | port i d n => exact absurd h (by simp only [It.isWire, It.tag]; decide)
  | param i n => exact absurd h (by simp only [It.isWire, It.tag]; decide)
  | rout i k n ds => exact absurd h (by simp only [It.isWire, It.tag]; decide)
  | inst i g => exact absurd h (by simp only [It.isWire, It.tag]; decide)
  | gate i g => exact absurd h (by simp only [It.isWire, It.tag]; decide)
  | cas i => exact absurd h (by simp only [It.isWire, It.tag]; decide)
theorem ent2 {own : Bool} {f g : It} (h : (f.isPort = true ∧ g.isWire = true) ∨ (f.isWire = true ∧ g.isPort = true)) : ∃ wh a d, entryEnt own [f, g] = ⟨wh, a, .sig d true true⟩ := by
  rcases h with ⟨h1, h2⟩ | ⟨h1, h2⟩
  · obtain ⟨i, d, n, rfl⟩ := is_port h1
    exact ⟨_, _, _, (entPW (own := own) h2).1⟩
  · obtain ⟨i, d, n, rfl⟩ := is_port h2
    exact ⟨_, _, _, (entWP (own := own) h1).1⟩
theorem info_noWire {own : Bool} {f : It} (h : f.isWire = false) : ∀ d' p w, (entryEnt own [f]).info = .sig d' p w → p = true := by
  cases f with
  | port i d n => intro d' p w e; cases e; rfl
  | ev g i n => cases g <;> (intro d' p w e; cases e)
  | net i n => exact absurd h (by simp only [It.isWire, It.tag]; decide)
  | var i n => exact absurd h (by simp only [It.isWire, It.tag]; decide)
  | param i n => intro d' p w e; cases e
  | rout i k n ds => intro d' p w e; cases e
  | inst i g => intro d' p w e; cases e
  | gate i g => intro d' p w e; cases e
  | cas i => intro d' p w e; cases e
theorem info_noPort {own : Bool} {f : It} (h : f.isPort = false) : ∀ d' p w, (entryEnt own [f]).info = .sig d' p w → w = true := by
  cases f with
  | port i d n => exact absurd h (by simp only [It.isPort, It.tag]; decide)
  | ev g i n => cases g <;> (intro d' p w e; cases e)
  | net i n => intro d' p w e; cases e; rfl
  | var i n => intro d' p w e; cases e; rfl
  | param i n => intro d' p w e; cases e
  | rout i k n ds => intro d' p w e; cases e
  | inst i g => intro d' p w e; cases e
  | gate i g => intro d' p w e; cases e
  | cas i => intro d' p w e; cases e
theorem rows_same {rows : List Row} {n k : Str} {i : Int} {a b : Prop} [Decidable a] [Decidable b] (hab : a ↔ b) : (if a then rows ++ [(k, i, n)] else rows) = rows ++ (if b then [(k, i)] else []).map (fun r : Str × Int => (r.1, r.2, n)) := by
  by_cases h : a
  · rw [if_pos h, if_pos (hab.mp h)]; rfl
  · rw [if_neg h, if_neg fun q => h (hab.mpr q)]; simp
theorem step_next {rows : List Row} {tab : List (Str × Ent)} {it f : It} {own : Bool} {n : Str} {its : List It} (hn : it.name = some n) (he : entAt tab n = lawEntO own (f :: its)) : StepOk rows tab it own n (f :: its) := by
  have hs := pair_shape f its
  have he' : entAt tab n = some (entryEnt own (its.foldl pairStep ([f], [])).1) := he
  rcases hs with hP | ⟨g, hP, hk⟩
  · rw [hP] at he'
    have other : it.isPort = false → it.isWire = false → (∃ wh inf, declare (rows, tab) it own = addName (rows, tab) n wh it.at inf) → StepOk rows tab it own n (f :: its) := by
      intro h1 h2 ⟨wh, inf, hd⟩
      refine step_dup (by rw [hd]; exact addName_dup he') he ?_
      rw [hP]
      rintro ⟨-, hp, hw⟩
      have p1 : f.isPort = true := by
        cases hq : f.isPort with
        | true => rfl
        | false => simp [hq, h1] at hp
      have p2 : f.isWire = true := by
        cases hq : f.isWire with
        | true => rfl
        | false => simp [hq, h2] at hw
      rw [port_not_wire p1] at p2
      cases p2
    have wire : ∀ wh, (wh = Str.ofString "net" ∨ wh = Str.ofString "var") → it.isPort = false → it.isWire = true → it.tag = wh → declare (rows, tab) it own = addSignal (rows, tab) n wh it.at own → StepOk rows tab it own n (f :: its) := by
      intro wh hwh h1 h2 htag hd
      cases hp : f.isPort with
      | false =>
        refine step_dup (by rw [hd]; exact addSignal_dup2 he' (info_noPort hp)) he ?_
        rw [hP]
        rintro ⟨-, hp', -⟩
        simp [hp, h1] at hp'
      | true =>
        obtain ⟨i0, d0, n0, rfl⟩ := is_port hp
        have hc : (its.foldl pairStep ([It.port i0 d0 n0], [])).1.length = 1 ∧ (((its.foldl pairStep ([It.port i0 d0 n0], [])).1 ++ [it]).filter It.isPort).length = 1 ∧ (((its.foldl pairStep ([It.port i0 d0 n0], [])).1 ++ [it]).filter It.isWire).length = 1 := by
          rw [hP]
          refine ⟨rfl, ?_, ?_⟩
          · simp [hp, h1]
          · simp [port_not_wire hp, h2]
        obtain ⟨e1, e2⟩ := entO_snoc_yes (own := own) hc
        rw [hP] at e1 e2
        obtain ⟨p1, p2⟩ := entPW (own := own) (i := i0) (d := d0) (n := n0) h2
        have hd' := hd.trans (addSignal_put (wh := wh) (rows := rows) (i := it.at) (inR := own) he' (by cases own <;> simp))
        refine step_put (e := ⟨wh, i0, .sig d0 true true⟩) (rs := entryRows own [It.port i0 d0 n0, it]) (by rw [hd', p2, htag]; exact congrArg (fun z => (z, storedE tab n ⟨wh, i0, .sig d0 true true⟩)) (rows_same ⟨fun a => ⟨a.2.2, a.1, a.2.1⟩, fun b => ⟨b.2.1, b.2.2, b.1⟩⟩)) e2 (by rw [e1]; exact congrArg some (p1.trans (by rw [htag])))
    cases it with
    | port i d n' =>
      cases hn
      cases hw : f.isWire with
      | false =>
        refine step_dup (addPort_dup2 he' (info_noWire hw)) he ?_
        rw [hP]
        rintro ⟨-, -, hw'⟩
        have : (It.port i d n).isWire = false := port_not_wire rfl
        simp [hw, this] at hw'
      | true =>
        have fp : f.isPort = false := by
          cases hq : f.isPort with
          | false => rfl
          | true => rw [port_not_wire hq] at hw; cases hw
        have hc : (its.foldl pairStep ([f], [])).1.length = 1 ∧ (((its.foldl pairStep ([f], [])).1 ++ [It.port i d n]).filter It.isPort).length = 1 ∧ (((its.foldl pairStep ([f], [])).1 ++ [It.port i d n]).filter It.isWire).length = 1 := by
          rw [hP]
          have h1 : (It.port i d n).isPort = true := rfl
          have h2 : (It.port i d n).isWire = false := port_not_wire rfl
          refine ⟨rfl, ?_, ?_⟩
          · simp [fp, h1]
          · simp [hw, h2]
        obtain ⟨e1, e2⟩ := entO_snoc_yes (own := own) hc
        rw [hP] at e1 e2
        obtain ⟨p1, p2⟩ := entWP (own := own) (i := i) (d := d) (n := n) hw
        have hft : f.tag = Str.ofString "net" ∨ f.tag = Str.ofString "var" := by
          rcases is_wire hw with ⟨a, b, rfl⟩ | ⟨a, b, rfl⟩
          · exact .inl rfl
          · exact .inr rfl
        have hd' := addPort_put (rows := rows) (i := i) (d := d) (inR := own) (he'.trans (congrArg some (entW1 (own := own) hw).1)) hft
        refine step_put (e := ⟨f.tag, f.at, .sig d true true⟩) (rs := entryRows own [f, It.port i d n]) ((show declare (rows, tab) (It.port i d n) own = addPort (rows, tab) n i d own from rfl).trans (by rw [hd', p2]; exact congrArg (fun z => (z, storedE tab n ⟨f.tag, f.at, .sig d true true⟩)) (rows_same ⟨fun a => ⟨a.2.2, a.1, a.2.1⟩, fun b => ⟨b.2.1, b.2.2, b.1⟩⟩))) e2 (by rw [e1]; exact congrArg some p1)
    | net i n' => cases hn; exact wire (Str.ofString "net") (.inl rfl) (by simp only [It.isPort, It.tag]; decide) (by simp only [It.isWire, It.tag]; decide) rfl rfl
    | var i n' => cases hn; exact wire (Str.ofString "var") (.inr rfl) (by simp only [It.isPort, It.tag]; decide) (by simp only [It.isWire, It.tag]; decide) rfl rfl
    | ev g i n' => cases g <;> (cases hn; exact other (by simp only [It.isPort, It.tag]; decide) (by simp only [It.isWire, It.tag]; decide) ⟨_, _, rfl⟩)
    | param i n' => cases hn; exact other (by simp only [It.isPort, It.tag]; decide) (by simp only [It.isWire, It.tag]; decide) ⟨_, _, rfl⟩
    | rout i k n' ds => cases hn; exact other (by simp only [It.isPort, It.tag]; decide) (by simp only [It.isWire, It.tag]; decide) ⟨_, _, rfl⟩
    | inst i g => cases hn; exact other (by simp only [It.isPort, It.tag]; decide) (by simp only [It.isWire, It.tag]; decide) ⟨_, _, rfl⟩
    | gate i g => cases hn; exact other (by simp only [It.isPort, It.tag]; decide) (by simp only [It.isWire, It.tag]; decide) ⟨_, _, rfl⟩
    | cas i => cases hn
  · rw [hP] at he'
    obtain ⟨wh, a, d, he2⟩ := ent2 (own := own) hk
    rw [he2] at he'
    have hc : ¬ ((its.foldl pairStep ([f], [])).1.length = 1 ∧ (((its.foldl pairStep ([f], [])).1 ++ [it]).filter It.isPort).length = 1 ∧ (((its.foldl pairStep ([f], [])).1 ++ [it]).filter It.isWire).length = 1) := by
      rw [hP]
      exact fun h => absurd h.1 (show ¬ (2 : Nat) = 1 by decide)
    have di : ∀ d' p w, (Ent.mk wh a (.sig d true true)).info = .sig d' p w → p = true := fun d' p w e => by cases e; rfl
    have di2 : ∀ d' p w, (Ent.mk wh a (.sig d true true)).info = .sig d' p w → w = true := fun d' p w e => by cases e; rfl
    cases it with
    | port i d n' => cases hn; exact step_dup (addPort_dup2 he' di) he hc
    | net i n' => cases hn; exact step_dup (addSignal_dup2 he' di2) he hc
    | var i n' => cases hn; exact step_dup (addSignal_dup2 he' di2) he hc
    | ev g i n' => cases g <;> (cases hn; exact step_dup (addName_dup he') he hc)
    | param i n' => cases hn; exact step_dup (addName_dup he') he hc
    | rout i k n' ds => cases hn; exact step_dup (addName_dup he') he hc
    | inst i g => cases hn; exact step_dup (addName_dup he') he hc
    | gate i g => cases hn; exact step_dup (addName_dup he') he hc
    | cas i => cases hn
end
section
theorem flat_congr {α β : Type} {f g : α → List β} : ∀ {l : List α}, (∀ a ∈ l, f a = g a) → l.flatMap f = l.flatMap g
  | [], _ => rfl
  | a :: r, h => by
    rw [List.flatMap_cons, List.flatMap_cons, h a List.mem_cons_self, flat_congr fun b hb => h b (List.mem_cons_of_mem _ hb)]
theorem flat_one {α β : Type} [DecidableEq α] {a : α} {f g : α → List β} {x : List β} (h1 : ∀ b, b ≠ a → g b = f b) (h2 : (g a).Perm (f a ++ x)) : ∀ {l : List α}, l.Nodup → a ∈ l → (l.flatMap g).Perm (l.flatMap f ++ x)
  | [], _, h => nomatch h
  | b :: r, hn, ha => by
    simp only [List.nodup_cons] at hn
    simp only [List.flatMap_cons]
    by_cases hb : b = a
    · subst hb
      have hr : r.flatMap g = r.flatMap f := flat_congr fun c hc => h1 c fun e => hn.1 (e ▸ hc)
      rw [hr, List.append_assoc]
      refine (List.Perm.append_right _ h2).trans ?_
      rw [List.append_assoc]
      exact List.Perm.append_left _ List.perm_append_comm
    · have ha' : a ∈ r := by
        rcases List.mem_cons.mp ha with h | h
        · exact absurd h.symm hb
        · exact h
      rw [h1 b hb, List.append_assoc]
      exact List.Perm.append_left _ (flat_one h1 h2 hn.2 ha')
theorem sort_uniq : ∀ {a b : List Row}, a.Perm b → a.Pairwise (fun x y => x.2.1 < y.2.1) → b.Pairwise (fun x y => x.2.1 < y.2.1) → a = b
  | [], b, p, _, _ => (List.Perm.nil_eq p)
  | x :: a, [], p, _, _ => absurd p.length_eq (by simp)
  | x :: a, y :: b, p, ha, hb => by
    have e : x = y := by
      have hx : x ∈ y :: b := p.mem_iff.mp List.mem_cons_self
      have hy : y ∈ x :: a := p.mem_iff.mpr List.mem_cons_self
      rcases List.mem_cons.mp hx with h | h
      · exact h
      · rcases List.mem_cons.mp hy with h' | h'
        · exact h'.symm
        · have q1 := (List.pairwise_cons.mp hb).1 x h
          have q2 := (List.pairwise_cons.mp ha).1 y h'
          omega
    subst e
    rw [sort_uniq (List.Perm.cons_inv p) (List.pairwise_cons.mp ha).2 (List.pairwise_cons.mp hb).2]
theorem lawRows_M {dr : List (Int × It)} {l : Int} {n : Str} : lawRows dr l n = lawRowsM (l == 2) (mineOf dr l n) := by
  unfold lawRows lawRowsM
  cases mineOf dr l n <;> rfl
theorem mineOf_snoc {dr : List (Int × It)} {p : Int × It} {l : Int} {n : Str} : mineOf (dr ++ [p]) l n = mineOf dr l n ++ if p.1 = l ∧ p.2.name = some n then [p.2] else [] := by
  unfold mineOf
  rw [List.filter_append, List.map_append]
  congr 1
  by_cases h : p.1 = l ∧ p.2.name = some n
  · rw [if_pos h]; simp [h.1, h.2]
  · rw [if_neg h]
    have : (decide (p.1 = l) && decide (p.2.name = some n)) = false := by
      rcases Decidable.em (p.1 = l) with a | a
      · have : ¬ p.2.name = some n := fun b => h ⟨a, b⟩
        simp [this]
      · simp [a]
    simp [this]
theorem newRows_at {own : Bool} {mine : List It} {it : It} : (newRows own mine it).length ≤ 1 ∧ ∀ r ∈ newRows own mine it, r.2 = it.at := by
  cases mine with
  | nil => exact ⟨by simp [newRows], by simp [newRows]⟩
  | cons f its =>
    simp only [newRows]
    split
    · next hc =>
      refine ⟨entryRows_len _ _, ?_⟩
      obtain ⟨x, hx⟩ := List.length_eq_one_iff.mp hc.1
      rw [hx]
      show ∀ r ∈ entryRows own [x, it], r.2 = it.at
      unfold entryRows
      split
      · next e =>
        simp only [List.cons.injEq, and_true] at e
        obtain ⟨-, rfl⟩ := e
        split
        · intro r hr; rw [List.mem_singleton.mp hr]; rfl
        · intro r hr; exact nomatch hr
      · next e =>
        simp only [List.cons.injEq, and_true] at e
        obtain ⟨-, rfl⟩ := e
        split
        · intro r hr; rw [List.mem_singleton.mp hr]; rfl
        · intro r hr; exact nomatch hr
      · intro r hr; exact nomatch hr
    · exact ⟨by simp, fun r hr => by rw [List.mem_singleton.mp hr]⟩
noncomputable def tabOf (st : D3) (l : Int) : List (Str × Ent) := if l = 0 then st.t0 else if l = 1 then st.t1 else st.t2
structure Inv (dr : List (Int × It)) : Prop where
  tab : ∀ l, (l = 0 ∨ l = 1 ∨ l = 2) → ∀ k, entAt (tabOf (dfold dr) l) k = lawEntO (l == 2) (mineOf dr l k)
  rows : (dfold dr).rows.Perm ((dueN dr 3).map toRow)
  marks : (dfold dr).rows.Pairwise (fun x y => x.2.1 < y.2.1) ∧ ∀ r ∈ (dfold dr).rows, ∃ p ∈ dr, r.2.1 = p.2.at
theorem dfold_snoc {dr : List (Int × It)} {p : Int × It} : dfold (dr ++ [p]) = dstep (dfold dr) p := by simp [dfold, List.foldl_append]
theorem dueN_flat {dr : List (Int × It)} : dueN dr 3 = ([0, 1, 2] : List Int).flatMap fun l => names5.flatMap fun n => rowsDue (lawRows dr l n) n := by
  simp [dueN, lawDue]
theorem declare_none {st : St} {it : It} {inR : Bool} (h : it.name = none) : declare st it inR = st := by
  cases it with
  | port i d n => cases h
  | net i n => cases h
  | var i n => cases h
  | ev g i n => cases h
  | param i n => cases h
  | rout i k n ds => cases h
  | inst i g => cases h; rfl
  | gate i g => cases h; rfl
  | cas i => rfl
theorem dstep_eq {st : D3} {p : Int × It} (hl : p.1 = 0 ∨ p.1 = 1 ∨ p.1 = 2) : (dstep st p).rows = (declare (st.rows, tabOf st p.1) p.2 (p.1 == 2)).1 ∧ ∀ l, (l = 0 ∨ l = 1 ∨ l = 2) → tabOf (dstep st p) l = if l = p.1 then (declare (st.rows, tabOf st p.1) p.2 (p.1 == 2)).2 else tabOf st l := by
  obtain ⟨l0, it⟩ := p
  rcases hl with h | h | h <;> dsimp only at h <;> subst h <;> refine ⟨rfl, ?_⟩ <;> (rintro l (rfl | rfl | rfl) <;> rfl)
theorem step_ok {rows : List Row} {tab : List (Str × Ent)} {it : It} {own : Bool} {n : Str} {mine : List It} (hn : it.name = some n) (he : entAt tab n = lawEntO own mine) : StepOk rows tab it own n mine := by
  cases mine with
  | nil => exact step_first hn he
  | cons f its => exact step_next hn he
theorem inv_snoc {dr : List (Int × It)} {p : Int × It} (h : Inv dr) (hl : p.1 = 0 ∨ p.1 = 1 ∨ p.1 = 2) (hok : p.2.ok) (hlt : ∀ q ∈ dr, q.2.at < p.2.at) : Inv (dr ++ [p]) := by
  obtain ⟨hT, hR, hM1, hM2⟩ := h
  obtain ⟨d1, d2⟩ := dstep_eq (st := dfold dr) hl
  cases hn : p.2.name with
  | none =>
    have hd := declare_none (st := ((dfold dr).rows, tabOf (dfold dr) p.1)) (inR := (p.1 == 2)) hn
    rw [hd] at d1 d2
    have hm : ∀ l k, mineOf (dr ++ [p]) l k = mineOf dr l k := fun l k => by rw [mineOf_snoc, hn]; simp
    have hdue : dueN (dr ++ [p]) 3 = dueN dr 3 := by
      rw [dueN_flat, dueN_flat]
      simp only [lawRows_M, hm]
    refine ⟨fun l hl' k => ?_, ?_, ?_, ?_⟩
    · rw [dfold_snoc, d2 l hl', hm]
      split
      · next e => rw [e]; exact hT p.1 hl k
      · exact hT l hl' k
    · rw [dfold_snoc, d1, hdue]; exact hR
    · rw [dfold_snoc, d1]; exact hM1
    · rw [dfold_snoc, d1]
      intro r hr
      obtain ⟨q, hq, e⟩ := hM2 r hr
      exact ⟨q, List.mem_append.mpr (.inl hq), e⟩
  | some n =>
    have hn5 : n ∈ names5 := by
      revert hok hn
      cases p.2 with
      | port i d n' => intro h hn; cases hn; exact h.2
      | rout i k n' ds => intro h hn; cases hn; exact h.2.1
      | net i n' => intro h hn; exact h n hn
      | var i n' => intro h hn; exact h n hn
      | ev g i n' => intro h hn; exact h n hn
      | param i n' => intro h hn; exact h n hn
      | inst i g => intro h hn; exact h n hn
      | gate i g => intro h hn; exact h n hn
      | cas i => intro h hn; exact h n hn
    obtain ⟨s1, s2⟩ := step_ok (rows := (dfold dr).rows) (own := (p.1 == 2)) hn (hT p.1 hl n)
    obtain ⟨n1, n2⟩ := newRows_at (own := (p.1 == 2)) (mine := mineOf dr p.1 n) (it := p.2)
    have hm : ∀ l k, mineOf (dr ++ [p]) l k = if p.1 = l ∧ n = k then mineOf dr l k ++ [p.2] else mineOf dr l k := fun l k => by
      rw [mineOf_snoc, hn]
      by_cases a : p.1 = l ∧ n = k
      · rw [if_pos a, if_pos ⟨a.1, congrArg some a.2⟩]
      · rw [if_neg a, if_neg fun b => a ⟨b.1, Option.some.inj b.2⟩, List.append_nil]
    have hdue : (dueN (dr ++ [p]) 3).Perm (dueN dr 3 ++ rowsDue (newRows (p.1 == 2) (mineOf dr p.1 n) p.2) n) := by
      rw [dueN_flat, dueN_flat]
      refine flat_one (a := p.1) (fun l hl' => ?_) ?_ (by decide) (by rcases hl with h | h | h <;> simp [h])
      · simp only [lawRows_M]
        refine flat_congr fun k _ => ?_
        rw [hm, if_neg fun b => hl' b.1.symm]
      · refine flat_one (a := n) (fun k hk => ?_) ?_ (by decide) hn5
        · simp only [lawRows_M]
          rw [hm, if_neg fun b => hk b.2.symm]
        · simp only [lawRows_M]
          rw [hm, if_pos ⟨rfl, rfl⟩]
          unfold rowsDue
          rw [← List.map_append]
          exact (rowsM_snoc _ _ _).map _
    refine ⟨fun l hl' k => ?_, ?_, ?_, ?_⟩
    · rw [dfold_snoc, d2 l hl', hm]
      by_cases e : l = p.1
      · rw [if_pos e, s2 k, e]
        by_cases e2 : k = n
        · rw [if_pos e2, if_pos ⟨rfl, e2.symm⟩, e2]
        · rw [if_neg e2, if_neg fun b => e2 b.2.symm]; exact hT p.1 hl k
      · rw [if_neg e, if_neg fun b => e b.1.symm]; exact hT l hl' k
    · rw [dfold_snoc, d1, s1]
      refine (List.Perm.append_right _ hR).trans ?_
      refine List.Perm.trans ?_ (hdue.map toRow).symm
      rw [List.map_append]
      refine List.Perm.append_left _ ?_
      rw [rowsDue, List.map_map]
      exact List.Perm.refl _
    · rw [dfold_snoc, d1, s1]
      refine List.pairwise_append.mpr ⟨hM1, ?_, fun r hr r' hr' => ?_⟩
      · match hnr : newRows (p.1 == 2) (mineOf dr p.1 n) p.2, n1 with
        | [], _ => exact .nil
        | [x], _ => exact List.pairwise_singleton _ _
        | _ :: _ :: _, h => simp at h
      · obtain ⟨x, hx, rfl⟩ := List.mem_map.mp hr'
        obtain ⟨q, hq, e⟩ := hM2 r hr
        rw [e]
        show q.2.at < x.2
        rw [n2 x hx]
        exact hlt q hq
    · rw [dfold_snoc, d1, s1]
      intro r hr
      rcases List.mem_append.mp hr with hr | hr
      · obtain ⟨q, hq, e⟩ := hM2 r hr
        exact ⟨q, List.mem_append.mpr (.inl hq), e⟩
      · obtain ⟨x, hx, rfl⟩ := List.mem_map.mp hr
        exact ⟨p, by simp, n2 x hx⟩
end
section
theorem inv_nil : Inv [] := by
  refine ⟨fun l hl k => ?_, List.Perm.refl _, .nil, fun r hr => nomatch hr⟩
  rcases hl with rfl | rfl | rfl <;> rfl
theorem inv_all {dr : List (Int × It)} {b : Int} (h : DrOk dr b) : Inv dr := by
  have key : ∀ i, i ≤ dr.length → Inv (dr.take i) := by
    intro i
    induction i with
    | zero => intro _; exact inv_nil
    | succ i ih =>
      intro hi
      have hlt : i < dr.length := by omega
      have e : dr.take (i + 1) = dr.take i ++ [dr[i]] := by rw [List.take_add_one, List.getElem?_eq_getElem hlt]; rfl
      rw [e]
      have hm := h.2 dr[i] (List.getElem_mem hlt)
      refine inv_snoc (ih (by omega)) hm.2.2 hm.2.1 fun q hq => ?_
      obtain ⟨j, hj, rfl⟩ := List.getElem_of_mem hq
      have hj' : j < i := by
        have := hj
        rw [List.length_take] at this
        omega
      have := List.pairwise_iff_getElem.mp h.1 j i (by omega) hlt hj'
      simpa using this
  have := key dr.length (Nat.le_refl _)
  rwa [List.take_length] at this
theorem lawTab_at {dr : List (Int × It)} {l : Int} {k : Str} : ∀ (ns : List Str) (tab : List (Str × Ent)), ns.Nodup → entAt (ns.foldl (fun tab n => match mineOf dr l n with
    | [] => tab
    | f :: its => storedE tab n (entryEnt (l == 2) (its.foldl pairStep ([f], [])).1)) tab) k = if k ∈ ns then (match lawEntO (l == 2) (mineOf dr l k) with
      | some e => some e
      | none => entAt tab k) else entAt tab k
  | [], tab, _ => by simp
  | n :: r, tab, hn => by
    simp only [List.nodup_cons] at hn
    rw [List.foldl_cons, lawTab_at r _ hn.2]
    by_cases hk : k = n
    · subst hk
      rw [if_neg hn.1, if_pos List.mem_cons_self]
      cases hm : mineOf dr l k with
      | nil => rfl
      | cons f its =>
        show entAt (storedE tab k _) k = _
        rw [entAt_stored, if_pos rfl]
        rfl
    · have hs : entAt (match mineOf dr l n with
          | [] => tab
          | f :: its => storedE tab n (entryEnt (l == 2) (its.foldl pairStep ([f], [])).1)) k = entAt tab k := by
        cases mineOf dr l n with
        | nil => rfl
        | cons f its => exact entAt_stored.trans (if_neg hk)
      rw [hs]
      by_cases hr : k ∈ r
      · rw [if_pos hr, if_pos (List.mem_cons_of_mem _ hr)]
      · rw [if_neg hr, if_neg fun h => by
          rcases List.mem_cons.mp h with h | h
          · exact hk h
          · exact hr h]
theorem name_ok {it : It} {n : Str} (h : it.ok) (hn : it.name = some n) : n ∈ names5 := by
  cases it with
  | port i d n' => cases hn; exact h.2
  | rout i k n' ds => cases hn; exact h.2.1
  | net i n' => exact h n hn
  | var i n' => exact h n hn
  | ev g i n' => exact h n hn
  | param i n' => exact h n hn
  | inst i g => exact h n hn
  | gate i g => exact h n hn
  | cas i => exact h n hn
theorem law_ent {dr : List (Int × It)} {b l : Int} (h : DrOk dr b) (k : Str) : entAt (lawTab dr l names5) k = lawEntO (l == 2) (mineOf dr l k) := by
  have := lawTab_at (dr := dr) (l := l) (k := k) names5 [] (by decide)
  refine Eq.trans (b := _) (show entAt (lawTab dr l names5) k = _ from this) ?_
  by_cases hk : k ∈ names5
  · rw [if_pos hk]
    cases lawEntO (l == 2) (mineOf dr l k) <;> rfl
  · rw [if_neg hk]
    have hm : mineOf dr l k = [] := by
      unfold mineOf
      rw [List.map_eq_nil_iff, List.filter_eq_nil_iff]
      intro p hp hc
      simp only [Bool.and_eq_true, decide_eq_true_eq] at hc
      exact hk (name_ok (h.2 p hp).2.1 hc.2)
    rw [hm]
    rfl
theorem plain_law {dr : List (Int × It)} (h : DrOk dr 100) (hl : dr.length ≤ 18) : PlainLaw dr := by
  obtain ⟨hT, hR, hM1, hM2⟩ := inv_all h
  have hrl := (dfold_ok (dr := dr) fun p hp => (h.2 p hp).2.1).1
  have hlen : (dueN dr 3).length ≤ 18 := by
    have := hR.length_eq
    rw [List.length_map] at this
    omega
  have hmarks : ((dueN dr 3).map (·.1)).Nodup := by
    have h1 : ((dfold dr).rows.map (fun r => r.2.1)).Nodup := by
      refine List.pairwise_map.mpr (hM1.imp fun {a b} hab => ?_)
      exact Int.ne_of_lt hab
    have h2 : ((dfold dr).rows.map (fun r => r.2.1)).Perm (((dueN dr 3).map toRow).map (fun r => r.2.1)) := hR.map _
    have h3 : ((dueN dr 3).map toRow).map (fun r => r.2.1) = (dueN dr 3).map (·.1) := by
      rw [List.map_map]; rfl
    rw [h3] at h2
    exact h2.nodup_iff.mp h1
  refine ⟨by omega, ?_, ?_, ?_, ?_, ?_⟩
  · intro i j hi hj hij
    have pw := List.pairwise_iff_getElem.mp hmarks
    have ei : (dueAt (dueN dr 3) i).1 = ((dueN dr 3).map (·.1))[i]'(by simpa using hi) := by simp [dueAt, hi]
    have ej : (dueAt (dueN dr 3) j).1 = ((dueN dr 3).map (·.1))[j]'(by simpa using hj) := by simp [dueAt, hj]
    show (dueAt (dueN dr 3) i).1 ≠ (dueAt (dueN dr 3) j).1
    rw [ei, ej]
    rcases Nat.lt_or_gt_of_ne hij with h1 | h1
    · exact pw i j _ _ h1
    · exact (pw j i _ _ h1).symm
  · intro due' hp hw
    refine sort_uniq (hR.trans (hp.map toRow).symm) hM1 ?_
    exact List.pairwise_map.mpr (hw.imp fun {a b} hab => hab)
  · intro k
    exact (hT 0 (.inl rfl) k).trans (law_ent (l := 0) h k).symm
  · intro k
    exact (hT 1 (.inr (.inl rfl)) k).trans (law_ent (l := 1) h k).symm
  · intro k
    exact (hT 2 (.inr (.inr rfl)) k).trans (law_ent (l := 2) h k).symm
end
section
theorem lines_L22a : True := by
  k_with_none
  k_with "shSub" => first | (((with_reducible show wpAny _ _ (subscriptTail _ _ (Value.ref _) (Value.int _ _)) _ _ _))) | fail
  k_with "DIG" => first | (repeat (first | (with_reducible exact And.left) | (with_reducible exact id) | (with_reducible refine digR ?_))) | fail
  k_with "LT9" => first | (first | with_reducible assumption | (refine' ltLt ?h ?d; walk_at "HD")) | fail
  k_with "ALLLT" => first | (first | with_reducible assumption | (refine' allDig ?h ?d; walk_at "HD")) | fail
  k_with "K_NE" => first | ((refine neN ?_; first | with_reducible assumption | (refine Ne.symm ?_; with_reducible assumption) | (refine' neLt ?h ?d; walk_at "HD") | (refine' neGt ?h ?d; walk_at "HD") | (refine' neNe ?h ?d; walk_at "HD") | (refine' neEn ?h ?d; walk_at "HD") | (refine Nat.ne_of_lt ?_; with_reducible assumption) | (refine Nat.ne_of_gt ?_; with_reducible assumption) | ((try dsimp only); omega))) | fail
  k_with "MEM" => first | (first | with_reducible assumption | with_reducible exact List.mem_cons_self | (with_reducible refine List.mem_cons_of_mem _ ?_; walk_at "MEM")) | fail
  k_with "OM" => first | (first | exact dLe (by with_reducible assumption) rfl | exact dL0 (by with_reducible assumption) rfl | exact dLt (by with_reducible assumption) rfl | omega) | fail
  k_with "K_ALL" => first | (first | with_reducible assumption | (refine allLt_ne ?_; walk_at "ALLLT") | (refine off1_ne ?_; walk_at "ALLLT")) | fail
  trivial
theorem fmod_room {x : Int} : 0 ≤ 7 + x.fmod 1000003 ∧ 7 + x.fmod 1000003 < 2147483647 := by
  have h1 := Int.fmod_nonneg_of_pos x (show (0 : Int) < 1000003 by decide)
  have h2 := Int.fmod_lt_of_pos x (show (0 : Int) < 1000003 by decide)
  omega
theorem law_start {w : World} {loose : List Str} {mean : ExcName → Option Value} {mg mb : Str → Option Value} {L fa cd : Addr} {h₀ : Heap} {m : Str → Option Value} {s : Shared} {Q : Flow → Shared → Prop}
    {A1 A2 A3 A4 A5 A6 A7 A8 A9 A10 A11 feed cells dl wsl : Addr} {r : Int} {x1 x2 x3 x4 x5 x6 x7 x8 x9 x10 x11 x12 x13 x14 x15 x16 x17 x18 x19 x20 x21 x22 tc tr : Tok} {nf nd nw : Nat} {vs ws : List Value} {ns : List Int} {o1 o2 : Obj} {v1 v2 : Option Value}
    (K0 : Below callerA h₀ [] h₀) (F : Fr h₀ L s.heap m) (X : (Mine.hdE.heap_1_1 w.params).In h₀) (T : Top Mine.hdE.view_1_2 loose mean mg mb h₀)
    (N : News h₀ L s.heap [(A1, tup [.int 2 x1, .ref A2]), (A2, tup [.str (Str.ofString "var") x2, .int (2 + 2) x3, .str (Str.ofString "reg") x4, .bool false, .none, .str (Str.ofString "z") x5, .ref A3, .none]), (A3, tup []), (A4, tup [.int 2 x6, .ref A5]), (A5, tup [.str (Str.ofString "port") x7, .int (1 + 2) x8, .str (Str.ofString "input") x9, .bool false, .none, .str (Str.ofString "z") x10]),
      (A6, tup [.int 0 x11, .ref A7]), (A7, tup [.str (Str.ofString "var") x12, .int (2 + 0) x13, .str (Str.ofString "reg") x14, .bool false, .none, .str (Str.ofString "z") x15, .ref A8, .none]), (A8, tup []), (A9, tup [.int 0 x16, .ref A10]), (A10, tup [.str (Str.ofString "port") x17, .int (1 + 0) x18, .str (Str.ofString "input") x19, .bool false, .none, .str (Str.ofString "z") x20]), (A11, tup [.int 0 x21, .int 2 x22]),
      (dl, listOf [Value.ref A9, Value.ref A6, Value.ref A4, Value.ref A1].toArray nd), (feed, feedObj cells 0 tc (7 + r.fmod 1000003) tr nf), (cells, PyProof.Rows.LCg.lst vs), (wsl, listOf ws.toArray nw), (L + 1 + 1, o2), (L + 1, o1)])
    (hc1 : o1.data = .cell v1) (hc2 : o2.data = .cell v2) (hbf : @LT.lt Nat _ (L + 1 + 1) feed) (hbc : (@Ne Nat (L + 1 + 1) cells) ∧ (@Ne Nat (L + 1) cells)) (hbd : @LT.lt Nat _ (L + 1 + 1) dl) (hfc : @Ne Nat feed cells) (hfd : @Ne Nat dl feed) (hcd : @Ne Nat dl cells)
    (hi : IntsAre vs ns) (hlen : vs.length < 100)
    (mf : m (Str.ofString "feed") = some (.ref feed)) (md : m (Str.ofString "drawn") = some (.ref dl))
    (hret : ∀ h' tk' m' news', Fr h₀ L h' m' → News h₀ L h' news' → Q (.ret (.bool true)) { s with heap := h', toks := tk' }) :
    wpAny (model PySem.Challenge.rw_sj0028_01.row.prog w) (lawA L fa cd) (execs (dropS 3 lawB) (lawE L fa cd)) Q (fun _ _ => False) s := by
  refine law_rest (vs := vs) (ns := ns) (feed := feed) (cells := cells) (dl := dl) (nd := nd) (nc := vs.length) (r := 7 + r.fmod 1000003) (c := 0) (tc := tc) (tr := tr) (nf := nf) (o1 := o1) (o2 := o2) (v1 := v1) (v2 := v2)
    (ds := [Value.ref A9, Value.ref A6, Value.ref A4, Value.ref A1]) (dr := [(0, .port (1 + 0) (Str.ofString "input") (Str.ofString "z")), (0, .var (2 + 0) (Str.ofString "z")), (2, .port (1 + 2) (Str.ofString "input") (Str.ofString "z")), (2, .var (2 + 2) (Str.ofString "z"))])
    (R := [(A1, tup [.int 2 x1, .ref A2]), (A2, tup [.str (Str.ofString "var") x2, .int (2 + 2) x3, .str (Str.ofString "reg") x4, .bool false, .none, .str (Str.ofString "z") x5, .ref A3, .none]), (A4, tup [.int 2 x6, .ref A5]), (A5, tup [.str (Str.ofString "port") x7, .int (1 + 2) x8, .str (Str.ofString "input") x9, .bool false, .none, .str (Str.ofString "z") x10]),
      (A6, tup [.int 0 x11, .ref A7]), (A7, tup [.str (Str.ofString "var") x12, .int (2 + 0) x13, .str (Str.ofString "reg") x14, .bool false, .none, .str (Str.ofString "z") x15, .ref A8, .none]), (A9, tup [.int 0 x16, .ref A10]), (A10, tup [.str (Str.ofString "port") x17, .int (1 + 0) x18, .str (Str.ofString "input") x19, .bool false, .none, .str (Str.ofString "z") x20]), (L + 1 + 1, o2), (L + 1, o1)])
    K0 F X T ?N ?B hc1 hc2 hbf ?bc hbd hfc hfd hcd hi hlen fmod_room.1 fmod_room.2 ?dr ?ok rfl mf md (fun dr h hl => plain_law h hl) hret
  case N =>
    intro p hp
    refine N p ?_
    simp only [List.mem_cons, List.not_mem_nil, or_false] at hp
    rcases hp with h | h | h | h | h | h | h | h | h | h | h | h | h <;> (first | (subst h; walk_at "MEM") | walk_at "MEM" | simp [h])
  case B =>
    refine ⟨fun p hp => ?_, fun p hp => ?_⟩
    · simp only [List.mem_cons, List.not_mem_nil, or_false] at hp
      rcases hp with h | h <;> (first | (subst h; walk_at "MEM") | walk_at "MEM" | simp [h])
    · simp only [List.mem_cons, List.not_mem_nil, or_false] at hp
      rcases hp with rfl | rfl | rfl | rfl | rfl | rfl | rfl | rfl | h | h
      · exact .inr tupT
      · exact .inr tupT
      · exact .inr tupT
      · exact .inr tupT
      · exact .inr tupT
      · exact .inr tupT
      · exact .inr tupT
      · exact .inr tupT
      · exact .inl (by subst h; walk_at "MEM")
      · exact .inl (by subst h; walk_at "MEM")
  case bc =>
    intro p hp
    simp only [List.mem_cons, List.not_mem_nil, or_false] at hp
    rcases hp with rfl | rfl
    · exact hbc.1
    · exact hbc.2
  case dr =>
    exact .cons (t := x16) (v := .ref A10) (by repeat (first | exact List.Mem.head _ | refine List.Mem.tail _ ?_)) (.port (by repeat (first | exact List.Mem.head _ | refine List.Mem.tail _ ?_))) (.cons (t := x11) (v := .ref A7) (by repeat (first | exact List.Mem.head _ | refine List.Mem.tail _ ?_)) (.var (by repeat (first | exact List.Mem.head _ | refine List.Mem.tail _ ?_))) (.cons (t := x6) (v := .ref A5) (by repeat (first | exact List.Mem.head _ | refine List.Mem.tail _ ?_)) (.port (by repeat (first | exact List.Mem.head _ | refine List.Mem.tail _ ?_))) (.cons (t := x1) (v := .ref A2) (by repeat (first | exact List.Mem.head _ | refine List.Mem.tail _ ?_)) (.var (by repeat (first | exact List.Mem.head _ | refine List.Mem.tail _ ?_))) .nil)))
  case ok =>
    refine ⟨by simp [It.at], fun p hp => ?_⟩
    simp only [List.mem_cons, List.not_mem_nil, or_false] at hp
    rcases hp with rfl | rfl | rfl | rfl
    · exact ⟨by simp [It.at], ⟨by simp, by simp⟩, .inl rfl⟩
    · exact ⟨by simp [It.at], fun n h => by cases h; simp, .inl rfl⟩
    · exact ⟨by simp [It.at], ⟨by simp, by simp⟩, .inr (.inr rfl)⟩
    · exact ⟨by simp [It.at], fun n h => by cases h; simp, .inr (.inr rfl)⟩
end
section
theorem len40 {ys : List Value} {f : Int → Int} {l : List Int} (h : ys.length = (List.map f (List.take 40 l)).length) : ys.length < 100 := by
  rw [h, List.length_map, List.length_take]; omega
end
section
theorem lines_M3 : True := by
  k_with_none
  k_with "shSub" => first | (((with_reducible show wpAny _ _ (subscriptTail _ _ (Value.ref _) (Value.int _ _)) _ _ _))) | fail
  k_with "DIG" => first | (repeat (first | (with_reducible exact And.left) | (with_reducible exact id) | (with_reducible refine digR ?_))) | fail
  k_with "LT9" => first | (first | with_reducible assumption | (refine' ltLt ?h ?d; walk_at "HD")) | fail
  k_with "ALLLT" => first | (first | with_reducible assumption | (refine' allDig ?h ?d; walk_at "HD")) | fail
  k_with "K_NE" => first | ((refine neN ?_; first | with_reducible assumption | (refine Ne.symm ?_; with_reducible assumption) | (refine' neLt ?h ?d; walk_at "HD") | (refine' neGt ?h ?d; walk_at "HD") | (refine' neNe ?h ?d; walk_at "HD") | (refine' neEn ?h ?d; walk_at "HD") | (refine Nat.ne_of_lt ?_; with_reducible assumption) | (refine Nat.ne_of_gt ?_; with_reducible assumption) | ((try dsimp only); omega))) | fail
  k_with "MEM" => first | (first | with_reducible assumption | with_reducible exact List.mem_cons_self | (with_reducible refine List.mem_cons_of_mem _ ?_; walk_at "MEM")) | fail
  k_with "OM" => first | (first | exact dLe (by with_reducible assumption) rfl | exact dL0 (by with_reducible assumption) rfl | exact dLt (by with_reducible assumption) rfl | omega) | fail
  k_with "K_ALL" => first | (first | with_reducible assumption | (refine allLt_ne ?_; walk_at "ALLLT") | (refine off1_ne ?_; walk_at "ALLLT")) | fail
  k_with "TAIL" => first | ((intro p9 hp9; repeat (first | exact hp9 | refine List.mem_cons_of_mem _ ?_))) | fail
  k_with "K_ROOM" => first | (((simp only [depth_mark, depth_under_make, depth_under_kw, depth_in1, depth_deeper, depth_caller, ktrTop, recursionLimit]); walk_at "OM")) | fail
  k_with "K_UNITS" => first | ((have hcL := cLine_is; (simp only [units_in1, units_deeper, Around.mark_units, units_caller, ktrTop]); walk_at "OM")) | fail
  k_with "K_MEM" => first | (((fail_if_success refine' List.Mem.tail _ ?_); (show (_ : Addr × Obj) ∈ (_ : List (Addr × Obj))); with_reducible assumption)) | fail
  k_with "subscriptTail Name Constant ref int" => first | ((k_here; walk_at "shSub"; k_dflt (first | (refine' item_tup0 (by (k_asm; done)) (by (k_mem; done)) (by (exact rfl; done)) (by (decide; done)) (by (decide; done)) ?_ (by (with_unfolding_all rfl; done))) | (refine' item_lst0 (by (k_asm; done)) (by (k_mem; done)) (by (exact rfl; done)) (by (decide; done)) (by (decide; done)) ?_ (by (with_unfolding_all rfl; done)))))) | fail
  k_with "subscriptTail Subscript Name Constant Constant ref int" => first | ((k_here; walk_at "shSub"; k_dflt (first | (refine' item_tup0 (by (k_asm; done)) (by (k_mem; done)) (by (exact rfl; done)) (by (decide; done)) (by (decide; done)) ?_ (by (with_unfolding_all rfl; done))) | (refine' item_lst0 (by (k_asm; done)) (by (k_mem; done)) (by (exact rfl; done)) (by (decide; done)) (by (decide; done)) ?_ (by (with_unfolding_all rfl; done)))))) | fail
  k_with "callWith builtin:list.append cons nil" => first | ((refine callWith_method1 ?_)) | fail
  k_with "execs nil" => first | ((with_reducible refine wpAny_execs_nil ?_)) | fail
  k_with "EC" => first | (first | k_fold | k_gentoks | (with_reducible refine wpAny_execs_cons ?_; try dsimp only)) | fail
  k_with "execs cons If nil" => first | (walk_at "EC") | fail
  k_with "execs cons If cons" => first | (walk_at "EC") | fail
  k_with "execs cons Assign cons" => first | (walk_at "EC") | fail
  k_with "execs cons Assign nil" => first | (walk_at "EC") | fail
  k_with "execs cons Return nil" => first | (walk_at "EC") | fail
  k_with "execs cons Return cons" => first | (walk_at "EC") | fail
  k_with "execs cons Expr nil" => first | (walk_at "EC") | fail
  k_with "execs cons Expr cons" => first | (walk_at "EC") | fail
  k_with "exec If Compare cons nil" => first | ((with_reducible refine wpAny_If ?_)) | fail
  k_with "spliced" => first | ((k_here; with_reducible first | refine args_cs ?_ | refine args_cn ?_ | refine args_ci ?_ | refine args_cb ?_)) | fail
  k_with "spliced" => first | ((k_here; (with_reducible show wpAny _ _ (spliced (backTo _ (starEach (Expr.Name _ _ :: _) (envOf _ _ _ _ _)))) _ _ _); k_dflt (refine' args_nm (by (k_asm; done)) (by (exact rfl; done)) ?_ (by rfl) (by rfl) (by decide)))) | fail
  k_with "execs cons For cons" => first | (((with_reducible show wpAny _ _ (execs (Stmt.For _ (Expr.Call _ _ _ _) _ _ _ :: _) _) _ _ _); refine Halt.out ?_)) | fail
  trivial




theorem law_holds.tw15111228137669340951 : True := trivial
theorem law_holds.tw13536078969547264968 : True := trivial
theorem law_holds.tw4023320719750038599 : True := trivial
theorem law_holds.tw6028961605226448594 : True := trivial
theorem law_holds.tw12941704145708800945 : True := trivial
theorem law_holds.tw16883458599210261866 : True := trivial
theorem law_holds.tw5112083995522966620 : True := trivial
theorem law_holds.tw14497384708736915567 : True := trivial
theorem law_holds.tw3158129796062787159 : True := trivial
theorem law_holds.tw3886952913131894933 : True := trivial
theorem law_holds.tw16821238613367971759 : True := trivial
theorem law_holds.tw6499956759230125245 : True := trivial
theorem law_holds.tw18269650602155537469 : True := trivial
theorem law_holds.tw11100686419730198450 : True := trivial
theorem law_holds.tw14774650325386425613 : True := trivial
theorem law_holds.tw2043166853727251185 : True := trivial
theorem law_holds.tw784011647948385275 : True := trivial
theorem law_holds.tw11764581739189218997 : True := trivial
theorem law_holds.tw9207643191828677137 : True := trivial
theorem law_holds.tw6776455111828631412 : True := trivial
theorem law_holds.tw15452448965706171373 : True := trivial
theorem law_holds.tw10028117763298573888 : True := trivial
theorem law_holds.tw9423440377400516374 : True := trivial
theorem law_holds.tw7221428835167493151 : True := trivial
theorem law_holds.tw11653573277977807760 : True := trivial
theorem law_holds.tw123295346585929383 : True := trivial
theorem law_holds.tw1414043511812021011 : True := trivial
theorem law_holds.tw16098122237329998606 : True := trivial
theorem law_holds.tw17713402740875732926 : True := trivial
theorem law_holds.tw8652346329174877282 : True := trivial
theorem law_holds.tw14828999820898988419 : True := trivial
theorem law_holds.tw11846676642670509255 : True := trivial
theorem law_holds.tw4781243967656130014 : True := trivial
theorem law_holds.tw15661869461025623997 : True := trivial
theorem law_holds.tw13956741780833797525 : True := trivial
theorem law_holds.tw12732824653754844360 : True := trivial
theorem law_holds.tw10817052189556005596 : True := trivial
theorem law_holds.tw1377309892636839040 : True := trivial
theorem law_holds.tw13301187468288870568 : True := trivial
theorem law_holds.tw15544829507116839252 : True := trivial
theorem law_holds.tw16461882675039125421 : True := trivial
theorem law_holds.tw13766487248619392586 : True := trivial
theorem law_holds.tw12303009252429188658 : True := trivial
theorem law_holds.tw6507877686720480950 : True := trivial
theorem law_holds.tw7304591109411159013 : True := trivial
theorem law_holds.tw7408322871517469003 : True := trivial
theorem law_holds.tw2503670479209048990 : True := trivial
theorem law_holds.tw14822640431511872941 : True := trivial
theorem law_holds.tw3035144380315620824 : True := trivial
theorem law_holds.tw14390095281932903014 : True := trivial
theorem law_holds.tw545109181885906688 : True := trivial
theorem law_holds.tw16099233806120587224 : True := trivial
theorem law_holds.tw16893121556090616931 : True := trivial
theorem law_holds.tw4581845663705801772 : True := trivial
theorem law_holds.tw4441770287765753910 : True := trivial
theorem law_holds.tw498061464947678834 : True := trivial
theorem law_holds.tw9682718004065560343 : True := trivial
theorem law_holds.tw3366817510852727610 : True := trivial
theorem law_holds.tw724200737284857819 : True := trivial
theorem law_holds.tw8984712037535005518 : True := trivial
theorem law_holds.tw18090433342136740992 : True := trivial
theorem law_holds.tw9255152265573255198 : True := trivial
theorem law_holds.tw10371022188087798493 : True := trivial
theorem law_holds.tw16836969012518115619 : True := trivial
theorem law_holds.tw10958410103948607464 : True := trivial
theorem law_holds.tw16720094985154256693 : True := trivial
theorem law_holds.tw10841264019214440115 : True := trivial
theorem law_holds.tw14997073306097389879 : True := trivial
theorem law_holds.tw13780023080261437657 : True := trivial
theorem law_holds.tw14289194402921355359 : True := trivial
theorem law_holds.tw12780804625047726367 : True := trivial
theorem law_holds.tw4323815956820902445 : True := trivial
theorem law_holds.tw9529696498207198238 : True := trivial
theorem law_holds.tw15806970514647361693 : True := trivial
theorem law_holds.tw3426384778480675251 : True := trivial
theorem law_holds.tw12459966957829302596 : True := trivial
theorem law_holds.tw9013377322688217293 : True := trivial
theorem law_holds.tw10242277825702978295 : True := trivial
theorem law_holds.tw718173064312146323 : True := trivial
theorem law_holds.tw8835965917227929528 : True := trivial
theorem law_holds.tw8285764192309689115 : True := trivial
theorem law_holds.tw8957123355933967898 : True := trivial
theorem law_holds.tw179590077315354965 : True := trivial
theorem law_holds.tw16257197769218558728 : True := trivial
theorem law_holds.tw16614716721108272449 : True := trivial
theorem law_holds.tw7120836010843673076 : True := trivial
theorem law_holds.tw12831907817818079685 : True := trivial
theorem law_holds.tw9992725586745946429 : True := trivial
theorem law_holds.tw1724926542741425601 : True := trivial
theorem law_holds.tw2136269947727277649 : True := trivial
theorem law_holds.tw926570990666696690 : True := trivial
theorem law_holds.tw631266038723830076 : True := trivial
theorem law_holds.tw14571795756577361901 : True := trivial
theorem law_holds.tw4037582482628031876 : True := trivial
theorem law_holds.tw602461330855297101 : True := trivial
theorem law_holds.tw13431030151845061361 : True := trivial
theorem law_holds.tw13709617746848070560 : True := trivial
theorem law_holds.tw2446358144275080391 : True := trivial
theorem law_holds.tw14498155544194170393 : True := trivial
theorem law_holds.tw17499823404086765753 : True := trivial
theorem law_holds.tw6934448944433832347 : True := trivial
theorem law_holds.tw7185456241796803578 : True := trivial
theorem law_holds.tw14385925486924208373 : True := trivial
theorem law_holds.tw18326849912455186884 : True := trivial
theorem law_holds.tw11625900857008200698 : True := trivial
theorem law_holds.tw18234560199702728603 : True := trivial
theorem law_holds.tw5640673133297012132 : True := trivial
theorem law_holds.tw5212653520564569363 : True := trivial
theorem law_holds.tw16273140198857503625 : True := trivial
theorem law_holds.tw6896717019858035522 : True := trivial
theorem law_holds.tw447027507633508388 : True := trivial
theorem law_holds.tw10007947361888340627 : True := trivial
theorem law_holds.tw9184033795430018204 : True := trivial
theorem law_holds.tw8970147916757833333 : True := trivial
theorem law_holds.tw6860709855171689206 : True := trivial
theorem law_holds.tw4464252984393422682 : True := trivial
theorem law_holds.tw4273555757443719353 : True := trivial
theorem law_holds.tw17180001009569633970 : True := trivial
theorem law_holds.tw8266603773606604290 : True := trivial
theorem law_holds.tw12115171985352901274 : True := trivial
theorem law_holds.tw18203989763732354715 : True := trivial
theorem law_holds.tw10666784280354678857 : True := trivial
theorem law_holds.tw2387193687640843687 : True := trivial
theorem law_holds.tw12116493165278983582 : True := trivial
theorem law_holds.tw653560878884961445 : True := trivial
theorem law_holds.tw11347954631545130290 : True := trivial
theorem law_holds.tw17911580528928914924 : True := trivial
theorem law_holds.tw10566571302883470556 : True := trivial
theorem law_holds.tw3438298445031660282 : True := trivial
set_option maxRecDepth 100000 in
set_option maxHeartbeats 8000000 in
set_option Elab.async true in
theorem law_holds : PySem.Challenge.rw_sj0028_01.Holds := by
  w_on; o_law
  o_head (kHook Mine.hdE.heap_1_1 [2, 3, 6, 22, 24, 25, 27, 28, 29, 31, 32, 34, 35, 36, 37, 38, 39, 40, 50, 52, 53, 55, 56, 57, 58, 59, 60, 61, 64, 66, 67, 69, 70, 71, 73, 74, 76, 77, 78, 80, 81, 83, 84, 85, 87, 88, 90, 91, 92, 94, 95, 97, 98, 99, 101, 102, 104, 105, 106, 109, 110, 111, 113, 114, 116, 117, 118, 120, 121, 123, 124, 125, 127, 128, 130, 131, 132, 135, 136, 137, 140, 141] (fun _ => by kernel_rfl))
  case hw => w_witness2
  w_top off
  k_go0; (all_goals try k_fold)
  k_steps
  all_goals (unfold Halt)
  refine wpAny_noRaise ?_
  rename News _ _ _ _ => N8
  rename Below callerA _ [] _ => K9
  rename IntsAre _ _ => hi8
  refine law_start K9 (by k_asm) (by k_asm) (by k_asm) N8 (by with_reducible assumption) (by with_reducible assumption) ?hbf ?hbc ?hbd ?hfc ?hfd ?hcd hi8 (len40 (by with_reducible assumption)) ?mf ?md ?hret
  case hbf => walk_at "LT9"
  case hbc => exact And.right (by with_reducible assumption)
  case hbd => walk_at "LT9"
  case hfc => k_ne
  case hfd => k_ne
  case hcd => k_ne
  case mf => with_unfolding_all rfl
  case md => with_unfolding_all rfl
  case hret => (intros; k_end; wrow_close)
end
end
end
end
end
end Mine

theorem PySem.Challenge.cw_sj0028_01_holds : PySem.Challenge.rw_sj0028_01.Holds :=
  Mine.law_holds
