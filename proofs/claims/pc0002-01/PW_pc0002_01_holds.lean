import PyProof.Rows.All
import Wide.All
import OpenK.AllK
import Wide.FinOn
import Lean
import PySem.Challenge.RW_pc0002_01
set_option Elab.async false
set_option compiler.extract_closed false
section
open PySem PySem.W PyProof.Rows PySem.Calls
theorem Mine.said : OpenLaw.wellSaid PySem.Challenge.rw_pc0002_01 = true := by kernel_rfl
def Mine.vw : Program := view PySem.Challenge.pw_pc0002_01 [1, 2, 3, 4, 6, 7, 8, 9, 10, 11, 12, 13, 14, 16, 18, 19, 20, 21, 22, 23]
section
local macro_rules | `(tactic| o_law) => `(tactic| (refine holds_law Mine.said fun said => ?_))
local macro_rules | `(tactic| o_head $H) => `(tactic| (refine holds_open (q := Mine.vw) (loose := [PySem.Str.ofString "BasicError"]) (Xt := fun s => xlAt Mine.vw [] s && recOk (RowW.records (PySem.Challenge.rw_pc0002_01.row.toRowW)) s) (XP := XL Mine.vw []) (Yf := Hook.obs $H) (Ya := Hook.val $H) (YP := Hook.says $H) (N := 2684) ?hl (Hook.of $H) (Hook.keeps $H) (fun s e => xl_of s (Bool.and_eq_true_iff.mp e).1) XL.keeps (by rfl) (by rfl) (by rfl) (fun s e => recFacts_of (Bool.and_eq_true_iff.mp e).2) (by rfl) (by first | assumption | decide +kernel) (by decide +kernel) ⟨rfl, rfl, rfl, rfl, rfl, by decide +kernel⟩ ?hw ?hc; case hl => (intro w; kernel_rfl)))
set_option maxRecDepth 100000 in
set_option maxHeartbeats 8000000 in
open_top Mine.hd for PySem.Challenge.rw_pc0002_01
end
end
set_option maxRecDepth 100000
section
open PySem PySem.W PyProof.Rows PySem.Calls
namespace Mine
theorem walk_anew_0 : True := by
  w_top off
  trivial
theorem ne_of_allLt {d : Addr} : ∀ {l : List (Addr × Obj)}, AllLt d l → ∀ p ∈ l, p.1 ≠ d
  | [], _, _, h => nomatch h
  | q :: r, h, p, hp => by
    rcases List.mem_cons.mp hp with rfl | hp
    · exact Nat.ne_of_lt h.1
    · exact ne_of_allLt h.2 p hp
theorem ltZ {d a : Nat} {o : Obj} {P : Prop} (h : AllLt d [(a, o)]) (k : @LT.lt Nat _ a d → P) : P := k h.1
theorem lt1 {d a : Nat} {o : Obj} {r : List (Addr × Obj)} {P : Prop} (h : AllLt d ((a, o) :: r)) (k : @LT.lt Nat _ a d → AllLt d r → P) : P := k h.1 h.2
theorem lt2 {d a1 a2 : Nat} {o1 o2 : Obj} {q : Addr × Obj} {r : List (Addr × Obj)} {P : Prop} (h : AllLt d ((a1, o1) :: (a2, o2) :: q :: r)) (k : @LT.lt Nat _ a1 d → @LT.lt Nat _ a2 d → AllLt d (q :: r) → P) : P := k h.1 h.2.1 h.2.2
theorem lt4 {d a1 a2 a3 a4 : Nat} {o1 o2 o3 o4 : Obj} {q : Addr × Obj} {r : List (Addr × Obj)} {P : Prop} (h : AllLt d ((a1, o1) :: (a2, o2) :: (a3, o3) :: (a4, o4) :: q :: r))
    (k : @LT.lt Nat _ a1 d → @LT.lt Nat _ a2 d → @LT.lt Nat _ a3 d → @LT.lt Nat _ a4 d → AllLt d (q :: r) → P) : P := k h.1 h.2.1 h.2.2.1 h.2.2.2.1 h.2.2.2.2
theorem lt8 {d a1 a2 a3 a4 a5 a6 a7 a8 : Nat} {o1 o2 o3 o4 o5 o6 o7 o8 : Obj} {q : Addr × Obj} {r : List (Addr × Obj)} {P : Prop} (h : AllLt d ((a1, o1) :: (a2, o2) :: (a3, o3) :: (a4, o4) :: (a5, o5) :: (a6, o6) :: (a7, o7) :: (a8, o8) :: q :: r))
    (k : @LT.lt Nat _ a1 d → @LT.lt Nat _ a2 d → @LT.lt Nat _ a3 d → @LT.lt Nat _ a4 d → @LT.lt Nat _ a5 d → @LT.lt Nat _ a6 d → @LT.lt Nat _ a7 d → @LT.lt Nat _ a8 d → AllLt d (q :: r) → P) : P := lt4 h fun b1 b2 b3 b4 h => k b1 b2 b3 b4 h.1 h.2.1 h.2.2.1 h.2.2.2.1 h.2.2.2.2
local macro_rules | `(tactic| k_all) => `(tactic| first | with_reducible assumption | exact ne_of_allLt (by with_reducible assumption))
set_option maxHeartbeats 8000000 in
theorem next_core {prog : Program} {w : World} {p : Program} {loose : List Str} {mean : ExcName → Option Value} {mg mb : Str → Option Value}
    {dp un : Nat} {gd : Option (List Code)} {cn : Str} {cs : Scope} {a : Addr} {ccd : Value} {cl : List (Str × Addr)} {outer : List Env} {A₀ : Around} {base h₀ : Heap} {L : Addr} {m : Str → Option Value} {s : Shared}
    {Q E : Value → Shared → Prop} {fe ce : Addr} {vs : List Value} {cells : List Int} {turn many : Int} {t t2 : Tok} {n n' : Nat} {news : List (Addr × Obj)}
    (B : Below A₀ base outer h₀) (F : Fr h₀ L s.heap m) (X : (Mine.hd.heap_1 w.params).In h₀)
    (N : News h₀ L s.heap ((fe, listOf [Value.ref ce, Value.int turn t].toArray n) :: (ce, listOf vs.toArray n') :: news)) (T : Top p loose mean mg mb h₀) (hk : cs.kind = .function)
    (hap : ∀ p ∈ news, p.1 ≠ fe) (hce : ce ≠ fe)
    (hI : IntsAre vs cells) (hc : cells.length ≤ 63) (ht0 : 0 ≤ turn) (ht1 : turn < 1000) (hm0 : 0 < many) (hm1 : many ≤ 1000)
    (hdp : dp + 5 < recursionLimit) (hun : un + 100 < cLine)
    (ret : ∀ v t' t2' h' tk', 0 ≤ v → v < many → Fr h₀ L h' m → News h₀ L h' ((fe, listOf [Value.ref ce, Value.int (turn + 1) t'].toArray n) :: (ce, listOf vs.toArray n') :: news) → Q (.int v t2') { s with heap := h', toks := tk' }) :
    wpAny (model prog w) (ktrTop dp un gd cn cs L a ccd cl outer) (call (.ref 157) [.ref fe, .int many t2]) Q E s := by
  refine wpAny_call ?_
  k_dflt cell_enter
  k_steps
  all_goals exact ret _ _ _ _ _ (fmod_lo _ hm0) (fmod_hi _ hm0) (by k_asm) (by k_asm)
theorem next_ok {prog : Program} {w : World} {p : Program} {loose : List Str} {mean : ExcName → Option Value} {mg mb : Str → Option Value}
    {dp un : Nat} {gd : Option (List Code)} {cn : Str} {cs : Scope} {a : Addr} {ccd : Value} {cl : List (Str × Addr)} {outer : List Env} {A₀ : Around} {base h₀ : Heap} {L : Addr} {m : Str → Option Value} {s : Shared}
    {Q E : Value → Shared → Prop} {fe ce : Addr} {vs : List Value} {cells : List Int} {turn many : Int} {t t2 : Tok} {n n' : Nat} {news : List (Addr × Obj)} {g : Obj → List (Addr × Obj)}
    (B : Below A₀ base outer h₀) (F : Fr h₀ L s.heap m) (X : (Mine.hd.heap_1 w.params).In h₀)
    (N : News h₀ L s.heap news) (T : Top p loose mean mg mb h₀) (hk : cs.kind = .function)
    (U : UpdF fe (listOf [Value.ref ce, Value.int turn t].toArray n) news g) (hm : (ce, listOf vs.toArray n') ∈ news) (hne : ce ≠ fe)
    (hI : IntsAre vs cells) (hc : cells.length ≤ 63) (ht0 : 0 ≤ turn) (ht1 : turn < 1000) (hm0 : 0 < many) (hm1 : many ≤ 1000)
    (hdp : dp + 5 < recursionLimit) (hun : un + 100 < cLine)
    (ret : ∀ v t' t2' h' tk', 0 ≤ v → v < many → Fr h₀ L h' m → News h₀ L h' (g (listOf [Value.ref ce, Value.int (turn + 1) t'].toArray n)) → Q (.int v t2') { s with heap := h', toks := tk' }) :
    wpAny (model prog w) (ktrTop dp un gd cn cs L a ccd cl outer) (call (.ref 157) [.ref fe, .int many t2]) Q E s := by
  obtain ⟨pre, post, rfl, hg, h1, h2⟩ := U.split
  have hin : ∀ o' : Obj, ∀ q ∈ (fe, o') :: (ce, listOf vs.toArray n') :: (pre ++ post), q ∈ pre ++ (fe, o') :: post := by
    intro o' q hq
    rcases List.mem_cons.mp hq with rfl | hq
    · exact List.mem_append.mpr (.inr (.head _))
    · rcases List.mem_cons.mp hq with rfl | hq
      · rcases List.mem_append.mp hm with h | h
        · exact List.mem_append.mpr (.inl h)
        · rcases List.mem_cons.mp h with h | h
          · exact absurd (congrArg Prod.fst h) hne
          · exact List.mem_append.mpr (.inr (.tail _ h))
      · rcases List.mem_append.mp hq with h | h
        · exact List.mem_append.mpr (.inl h)
        · exact List.mem_append.mpr (.inr (.tail _ h))
  refine next_core (news := pre ++ post) B F X (fun q hq => N q (hin _ q hq)) T hk ?_ hne hI hc ht0 ht1 hm0 hm1 hdp hun ?_
  · intro q hq
    rcases List.mem_append.mp hq with h | h
    · exact h1 q h
    · exact h2 q h
  · intro v t' t2' h' tk' hv0 hv1 F' N'
    refine ret v t' t2' h' tk' hv0 hv1 F' ?_
    rw [hg]
    intro q hq
    refine N' q ?_
    rcases List.mem_append.mp hq with h | h
    · exact .tail _ (.tail _ (List.mem_append.mpr (.inl h)))
    · rcases List.mem_cons.mp h with h | h
      · exact h ▸ .head _
      · exact .tail _ (.tail _ (List.mem_append.mpr (.inr h)))
end Mine
end
section
open PySem PySem.W PyProof.Rows PySem.Calls
namespace Mine
theorem walk_anew_1 : True := by
  w_top off
  trivial
def codes : List PySem.Str := (["NF", "SN", "RG", "OD", "FC", "OV", "OM", "UL", "BS", "DD", "DZ", "ID", "TM", "OS", "LS", "ST", "CN", "UF", "NR", "RW", "UE", "WE", "FO", "BF", "BN", "AO", "FF", "EF", "NM"] : List String).map PySem.Str.ofString
def codeOf (n : Int) : PySem.Str := if 1 ≤ n ∧ n ≤ 29 then codes.getD (n - 1).toNat (PySem.Str.ofString "UE") else PySem.Str.ofString "UE"
def numOf (c : PySem.Str) : Int := if codes.any (· == c) then (codes.findIdx (· == c) : Int) + 1 else 0
theorem split_codes : Txt.split (PySem.Str.ofString "NF SN RG OD FC OV OM UL BS DD DZ ID TM OS LS ST CN UF NR RW UE WE FO BF BN AO FF EF NM") (PySem.Str.ofString " ") = codes := by decide +kernel
theorem codes_len : codes.length = 29 := by decide +kernel
abbrev Coded (l : List (PySem.Str × Tok)) : Prop := l.map (·.1) = Txt.split (PySem.Str.ofString "NF SN RG OD FC OV OM UL BS DD DZ ID TM OS LS ST CN UF NR RW UE WE FO BF BN AO FF EF NM") (PySem.Str.ofString " ")
def strIs (k : PySem.Str) : Value → Bool
  | .str a _ => a == k
  | _ => false
section
variable {prog : Program} {w : World} {A : Around} {E : Value → Shared → Prop} {s : Shared} {h₀ : Heap} {L D : Addr} {news : List (Addr × Obj)} {l : List (PySem.Str × Tok)} {n : Nat}
theorem coded_len (e : Coded l) : l.length = 29 := by
  have h := congrArg List.length e
  rw [List.length_map, split_codes, codes_len] at h
  exact h
theorem len_codes {Q : Value → Shared → Prop} (N : News h₀ L s.heap news) (hm : (D, listOf (strValues l).toArray n) ∈ news) (e : Coded l)
    (h : Q (.int 29 (s.toks + 1)) { s with toks := s.toks + 1 + 1 }) : wpAny (model prog w) A (call (.builtin "len") [.ref D]) Q E s := by
  have hl := coded_len e
  refine len_strs (PySem.IsL.isList (n := n) (N _ hm).1) (by rw [hl]; decide) ?_
  rw [hl]
  exact h
theorem item_codes {value slice : PySem.Expr} {k : Int} {u : Tok} {Q : Value → Shared → Prop} (N : News h₀ L s.heap news) (hm : (D, listOf (strValues l).toArray n) ∈ news) (e : Coded l)
    (h0 : 0 ≤ k) (hk : k < 29) (h : ∀ t', Q (.str (codeOf (k + 1)) t') s)
    (hs : subscripted slice false (.ref D) (.int k u) = operate [.ref D, .int k u] (getItem (.ref D) (.int k u)) := by with_unfolding_all rfl) (hg : ∀ r, letTemporaryGo value (.ref D) r = pure () := by intro _; with_unfolding_all rfl) :
    wpAny (model prog w) A (subscriptTail value slice (.ref D) (.int k u)) Q E s := by
  have hl := coded_len e
  refine item_strs (PySem.IsL.isList (n := n) (N _ hm).1) h0 (by omega) (by omega) (fun y t' hy => ?_) hs hg
  have h2 : codeOf (k + 1) = y := by
    rw [e, split_codes] at hy
    have h3 : (k + 1 - 1).toNat = k.toNat := by omega
    unfold codeOf
    rw [if_pos (by omega), h3, List.getD_eq_getElem?_getD, hy]
    rfl
  rw [← h2]
  exact h t'
theorem strIs_eq {k : PySem.Str} {t : Tok} (l : List (PySem.Str × Tok)) : ∀ y, y ∈ strValues l → MeetsSeq.EqGives y (.str k t) (strIs k y) := by
  intro y hy
  obtain ⟨p, _, rfl⟩ := List.mem_map.mp hy
  exact eqGives_str _ _ _ _
theorem any_strIs {k : PySem.Str} (l : List (PySem.Str × Tok)) : (strValues l).any (strIs k) = (l.map (·.1)).any (· == k) := by
  unfold strValues
  rw [List.any_map, List.any_map]
  rfl
theorem in_codes {k : PySem.Str} {t : Tok} {Q : Value → Shared → Prop} (N : News h₀ L s.heap news) (hm : (D, listOf (strValues l).toArray n) ∈ news) (e : Coded l) (h : Q (.bool (codes.any (· == k))) s) :
    wpAny (model prog w) A (compareOp .In (.str k t) (.ref D)) Q E s := by
  refine SeqInW.in_listW (strIs k) (fun y hy => strIs_eq l y (by simpa using hy)) (PySem.IsL.isList (n := n) (N _ hm).1) ?_
  have h2 : (strValues l).toArray.any (strIs k) = codes.any (· == k) := by
    rw [← Array.any_toList]
    show (strValues l).any (strIs k) = _
    rw [any_strIs, e, split_codes]
  rw [h2]
  exact h
theorem index_codes {k : PySem.Str} {t : Tok} {Q : Value → Shared → Prop} (N : News h₀ L s.heap news) (hm : (D, listOf (strValues l).toArray n) ∈ news) (e : Coded l) (hk : codes.any (· == k) = true)
    (h : Q (.int (codes.findIdx (· == k) : Nat) s.toks) { s with toks := s.toks + 1 }) : wpAny (model prog w) A (call (.builtin "list.index") [.ref D, .str k t]) Q E s := by
  have hl := coded_len e
  have hsz : (strValues l).toArray.size = 29 := by simp [strValues, hl]
  have e2 : l.map (·.1) = codes := e.trans split_codes
  obtain ⟨x, hx, hxk⟩ := List.any_eq_true.mp hk
  have hj : codes.findIdx (· == k) < codes.length := List.findIdx_lt_length_of_exists ⟨x, hx, hxk⟩
  have hj29 : codes.findIdx (· == k) < 29 := by rw [← codes_len]; exact hj
  have get : ∀ i (hi : i < (strValues l).toArray.size), strIs k ((strValues l).toArray[i]) = (codes[i]'(by rw [codes_len]; omega) == k) := by
    intro i hi
    have hi' : i < l.length := by omega
    have h1 : (strValues l).toArray[i] = Value.str (l[i]).1 (l[i]).2 := by simp [strValues]
    have h2 : codes[i]'(by rw [codes_len]; omega) = (l[i]).1 := by
      have : (l.map (·.1))[i]? = some (l[i]).1 := by simp [hi']
      rw [e2] at this
      exact (List.getElem?_eq_some_iff.mp this).2
    rw [h1, h2]
    rfl
  refine call_meets PySem.F.slot_list_index ⟨_, (N _ hm).1, rfl⟩ PySem.F.entry_list_index (PySem.F.args_list_index_2 _ _)
    (MeetsSeq.list_index D (strValues l).toArray n (.str k t) (strIs k) (fun y hy => strIs_eq l y (by simpa using hy)) (codes.findIdx (· == k)) (by omega) (by omega) ?_ ?_) ⟨(N _ hm).1, h⟩
  · rw [get _ (by omega)]
    exact List.findIdx_getElem (xs := codes) (p := fun x => x == k) (w := hj)
  · intro i hi hlt
    rw [get i hi]
    exact List.not_of_lt_findIdx hlt
end
theorem q_str {h₀ h' : Heap} {L : Addr} {m : Str → Option Value} {news : List (Addr × Obj)} {q : Addr × Obj} {s : Shared} {Q : Value → Shared → Prop} {x y : Str} {t : Tok} {tk' : Nat}
    (ret : ∀ t h' tk', Fr h₀ L h' m → News h₀ L h' news → Q (.str x t) { s with heap := h', toks := tk' }) (F : Fr h₀ L h' m) (N : News h₀ L h' (q :: news)) (e : x = y) : Q (.str y t) { s with heap := h', toks := tk' } :=
  e ▸ ret t h' tk' F fun p hp => N p (.tail _ hp)
theorem q_int {h₀ h' : Heap} {L : Addr} {m : Str → Option Value} {news : List (Addr × Obj)} {q : Addr × Obj} {s : Shared} {Q : Value → Shared → Prop} {x y : Int} {t : Tok} {tk' : Nat}
    (ret : ∀ t h' tk', Fr h₀ L h' m → News h₀ L h' news → Q (.int x t) { s with heap := h', toks := tk' }) (F : Fr h₀ L h' m) (N : News h₀ L h' (q :: news)) (e : x = y) : Q (.int y t) { s with heap := h', toks := tk' } :=
  e ▸ ret t h' tk' F fun p hp => N p (.tail _ hp)
theorem codeOf_out {n : Int} (h : ¬ (1 ≤ n ∧ n ≤ 29)) : codeOf n = PySem.Str.ofString "UE" := by unfold codeOf; rw [if_neg h]
theorem numOf_in {c : PySem.Str} (h : codes.any (· == c) = true) : numOf c = (codes.findIdx (· == c) : Int) + 1 := by unfold numOf; rw [if_pos h]
theorem numOf_out {c : PySem.Str} (h : ¬ codes.any (· == c) = true) : numOf c = 0 := by unfold numOf; rw [if_neg h]
local macro_rules | `(tactic| k_all) => `(tactic| first | with_reducible assumption | exact ne_of_allLt (by with_reducible assumption))
local macro_rules | `(tactic| k_room) => `(tactic| ktr_room)
local macro_rules | `(tactic| walk_at "call builtin:len") => `(tactic| (k_here; (with_reducible show wpAny _ _ (call (Value.builtin "len") [Value.ref _]) _ _ _); k_dflt (refine' len_codes ?N ?m ?e ?_; (case N => k_asm); (case m => k_mem); (case e => assumption); k_whole)))
local macro_rules | `(tactic| walk_at "subscriptTail") => `(tactic| (k_here; (with_reducible show wpAny _ _ (subscriptTail _ _ (Value.ref _) (Value.int _ _)) _ _ _); k_dflt (refine' item_codes ?N ?m ?e ?a ?b ?_ ?c ?d; (case N => k_asm); (case m => k_mem); (case e => assumption); (case a => omega); (case b => omega); (case c => with_unfolding_all rfl); (case d => (intro _; with_unfolding_all rfl)); k_whole); intro _))
local macro_rules | `(tactic| walk_at "compareOp In str ref") => `(tactic| (k_here; k_dflt (refine' in_codes ?N ?m ?e ?_; (case N => k_asm); (case m => k_mem); (case e => assumption); k_whole)))
local macro_rules | `(tactic| walk_at "call builtin:list.index") => `(tactic| (k_here; (with_reducible show wpAny _ _ (call (Value.builtin _) [Value.ref _, Value.str _ _]) _ _ _); k_dflt (refine' index_codes ?N ?m ?e ?k ?_; (case N => k_asm); (case m => k_mem); (case e => assumption); (case k => assumption); k_whole)))
set_option maxHeartbeats 8000000 in
theorem code_ok {prog : Program} {w : World} {p : Program} {loose : List Str} {mean : ExcName → Option Value} {mg mb : Str → Option Value}
    {dp un : Nat} {gd : Option (List Code)} {cn : Str} {cs : Scope} {a : Addr} {ccd : Value} {cl : List (Str × Addr)} {outer : List Env} {A₀ : Around} {base h₀ : Heap} {L : Addr} {m : Str → Option Value} {s : Shared}
    {Q E : Value → Shared → Prop} {num : Int} {t2 : Tok} {news : List (Addr × Obj)}
    (B : Below A₀ base outer h₀) (F : Fr h₀ L s.heap m) (X : (Mine.hd.heap_1 w.params).In h₀)
    (N : News h₀ L s.heap news) (T : Top p loose mean mg mb h₀) (hk : cs.kind = .function)
    (hdp : dp + 5 < recursionLimit) (hun : un + 100 < cLine)
    (ret : ∀ t h' tk', Fr h₀ L h' m → News h₀ L h' news → Q (.str (codeOf num) t) { s with heap := h', toks := tk' }) :
    wpAny (model prog w) (ktrTop dp un gd cn cs L a ccd cl outer) (call (.ref 58) [.int num t2]) Q E s := by
  refine wpAny_call ?_
  k_dflt cell_enter
  k_steps
  · exact q_str ret (by k_asm) (by k_asm) (by rw [show num - 1 + 1 = num by omega])
  · exact q_str ret (by k_asm) (by k_asm) (codeOf_out (by omega))
  · exact q_str ret (by k_asm) (by k_asm) (codeOf_out (by omega))
set_option maxHeartbeats 8000000 in
theorem number_ok {prog : Program} {w : World} {p : Program} {loose : List Str} {mean : ExcName → Option Value} {mg mb : Str → Option Value}
    {dp un : Nat} {gd : Option (List Code)} {cn : Str} {cs : Scope} {a : Addr} {ccd : Value} {cl : List (Str × Addr)} {outer : List Env} {A₀ : Around} {base h₀ : Heap} {L : Addr} {m : Str → Option Value} {s : Shared}
    {Q E : Value → Shared → Prop} {c : PySem.Str} {t2 : Tok} {news : List (Addr × Obj)}
    (B : Below A₀ base outer h₀) (F : Fr h₀ L s.heap m) (X : (Mine.hd.heap_1 w.params).In h₀)
    (N : News h₀ L s.heap news) (T : Top p loose mean mg mb h₀) (hk : cs.kind = .function)
    (hdp : dp + 5 < recursionLimit) (hun : un + 100 < cLine)
    (ret : ∀ t h' tk', Fr h₀ L h' m → News h₀ L h' news → Q (.int (numOf c) t) { s with heap := h', toks := tk' }) :
    wpAny (model prog w) (ktrTop dp un gd cn cs L a ccd cl outer) (call (.ref 51) [.str c t2]) Q E s := by
  refine wpAny_call ?_
  k_dflt cell_enter
  k_steps
  · exact q_int ret (by k_asm) (by k_asm) (numOf_in (by assumption))
  · exact q_int ret (by k_asm) (by k_asm) (numOf_out (Bool.eq_false_iff.mp (by assumption)))
end Mine
end
section
open PySem PySem.W PyProof.Rows PySem.Calls Builtin Builtin.ObjectAttr
namespace Mine
theorem walk_anew_2 : True := by
  w_top off
  trivial
abbrev excObj (C t : Addr) : Obj := { cls := .ref C, data := .fields #[.ref t, .none, .none, .none, .bool false, .none] }
abbrev tupObj (vs : List Value) : Obj := { cls := .type "tuple", data := .seq vs.toArray }

section
variable {prog : Program} {w : World} {A : Around} {R : Result → Shared → Prop} {h : Heap} {g : Array GenState} {d : Drawn} {t : Nat} {os : OsState}
variable {nm q : PySem.Str} {C N : Addr} {bs bm : List Value} {hdct : Bool} {sn : List PySem.Str} {sub : List Value} {ab : Bool} {col : Option Bool} {dd : Option Addr} {k0 k1 k2 k3 k5 : Option Value} {B newId initId : String} {K : Frag} {fI : Addr}
set_option maxHeartbeats 4000000 in
theorem exc_core (F : ExcBaseFacts B newId initId bm) {rest : List Value} (X : K.In h) (hC : h.get? C = some (excClassObj nm q C N bs bm hdct sn sub ab col dd k0 k1 k2 k3 k5 newId))
    (hi : findIn K (.ref C) "__init__" = some (some (.ref fI))) (hf : typeIn K (.ref fI) = some (.type "function"))
    (hcall : specialIn K (.ref C) "__call__" = some (some (.builtin "type.__call__"))) (htyp : instIn K (.ref C) (.type "type") = some true) (hrest : rest.length ≤ sizeLine)
    (hq : codeAny (model prog w) (A.under (.builtin "type.__call__" ⟨.ref C :: rest, []⟩)) (.call (.ref fI) ⟨.ref (h.objs.size + 1) :: rest, []⟩) (InitBack (h.objs.size + 1) R) ⟨(h.push (tupObj rest)).push (excObj C h.objs.size), g, d, t, os⟩) :
    codeAny (model prog w) A (.call (.ref C) ⟨rest, []⟩) R ⟨h, g, d, t, os⟩ := by
  have call := looks_specialIn (M := model prog w) X hcall
  have typ := looks_instIn (M := model prog w) X htyp
  have made : Looks (model prog w) h (Bind.madeBy (.ref C)) (some newId) := fun A Q E s k z => by
    obtain ⟨hh, g, d, t, os⟩ := s
    exact wpAny_madeBy_exc (k _ _ hC) z
  have hm : Looks (model prog w) h (mroOf (.ref C)) (.ref C :: bm) := fun A Q E s k z => by
    obtain ⟨hh, g, d, t, os⟩ := s
    exact wpAny_mroOf_exc (k _ _ hC) z
  have self : Looks (model prog w) h (isSubtype (.ref C) (.ref C)) true := fun A Q E s k z => by
    obtain ⟨hh, g, d, t, os⟩ := s
    refine wpAny_isSubtype_exc (k _ _ hC) ?_
    rw [show (Value.ref C :: bm).contains (.ref C) = true by simp]
    exact z
  have hini := looks_findIn (M := model prog w) X hi
  refine codeAny_of_tree ?_
  show wpAny _ _ (callAny (.ref C) _) _ _ _
  refine nd_load hC ?_
  show wpAny _ _ (callAny.viaDunder (.ref C) _) _ _ _
  unfold callAny.viaDunder
  refine wpAny_bind (call.at ?_)
  dsimp only
  rw [tc_bind]
  refine wpAny_bind (wpAny_pure (wpAny_bind (wpAny_pure ?_)))
  refine wpAny_pure (a := Fin.again (.call (.builtin "type.__call__") ⟨.ref C :: rest, []⟩)) (And.intro rfl ?_)
  refine codeAny_call_builtin_at (Code.quiet_builtin _ (by decide +kernel)) entry_typeCall (check_slot tc_kind tc_split typ (tc_args _ _ _) ?_)
  unfold Builtin.«type.__call__»
  repeat (first | simp only [List.isEmpty_cons, Bool.false_eq_true, if_false] | with_reducible refine wpAny_call ?_ | lk)
  refine codeAny_call_builtin_code (Code.quiet_builtin _ F.quiet) (wpAny_check_new_sub F hC ?_)
  refine codeAny_exc_new_sub F hC ?_ hrest
  have k : ∀ b o, h.get? b = some o → ((h.push (tupObj rest)).push (excObj C h.objs.size)).get? b = some o := fun b o e => Heap.get?_push_of_some _ (Heap.get?_push_of_some _ e)
  have hx : ((h.push (tupObj rest)).push (excObj C h.objs.size)).get? (h.objs.size + 1) = some (excObj C h.objs.size) := by heap_get
  have t1 : Looks (model prog w) ((h.push (tupObj rest)).push (excObj C h.objs.size)) (typeOf (.ref (h.objs.size + 1))) (.ref C) := (Looks.ld hx).andThen .now
  have s1 := self.keeps k
  have i1 := hini.keeps k
  have b1 := bind_fn (M := model prog w) (X.keeps k) (.ref (h.objs.size + 1)) hf
  show wpAny _ _ _ _ _ _
  unfold isInstance callSpecial? specialOf
  repeat (first | with_reducible refine wpAny_call ?_ | lk)
  refine codeAny_mono hq fun r s' z => ?_
  rcases r with e | (v | _ | _ | _) <;> first | exact z | exact z.elim | skip
  obtain ⟨rfl, z⟩ := z
  exact wpAny_pure (wpAny_pure z)
end
end Mine

namespace Mine
theorem slot_wd_get : Slot "wrapper_descriptor" "__get__" "wrapper_descriptor.__get__" := .of (owner := "wrapper_descriptor") (n := "__get__") (by rw [typeLookup_type, builtinLookup_eq_fast]; kernel_rfl) (by decide +kernel) (by decide +kernel) (by decide +kernel) (.inl (by decide +kernel)) (by rw [isSubtype_type]; kernel_rfl)
theorem entry_wd_get : entryFor table "wrapper_descriptor.__get__" = some Builtin.«wrapper_descriptor.__get__» := entryFor_of_tree (by kernel_rfl)
theorem args_wd_get (a b c : Value) : argsOk "wrapper_descriptor.__get__" ⟨[a, b, c], []⟩ := by unfold argsOk; kernel_rfl
theorem type_exc_init : typeOf (.builtin "Exception.__init__") = pure (.type "wrapper_descriptor") := by show builtinType _ = _; rw [builtinType_eq_fast]; kernel_rfl
theorem owner_exc_init : (".".intercalate ("Exception.__init__".cutAt '.').dropLast) = "Exception" := by
  have e0 : "Exception.__init__".cutAt '.' = ["Exception", "__init__"] := by first | rfl | decide +kernel
  rw [e0]; decide +kernel
section
variable {prog : Program} {w : World} {A : Around} {E : Value → Shared → Prop} {h : Heap} {g : Array GenState} {d : Drawn} {t : Nat} {os : OsState}
set_option maxHeartbeats 4000000 in
theorem super_ga_b {so D x C : Addr} {l₀ l : List Value} {K : Frag} {tk : Tok} {Q : Fin → Shared → Prop}
    (hso : h.get? so = some { cls := .type "super", dict := none, data := .fields #[.ref D, .ref x, .ref C], slots := #[] }) (hno : Looks (model prog w) h (opaqueClassAbove (.ref C)) none)
    (hC : Looks (model prog w) h (mroOf (.ref C)) l₀) (hl : (l₀.dropWhile (· != .ref D)).drop 1 = l) (X : K.In h)
    (hf : alongIn K "__init__" l = some (some (.builtin "Exception.__init__"))) {ox : Obj} (hx : h.get? x = some ox) (hxc : ox.cls = .ref C) (hsub : Looks (model prog w) h (isSubtype (.ref C) (.type "Exception")) true) (hxC : x ≠ C)
    (hq : Q (.done (.ret (.ref h.objs.size))) ⟨h.push { cls := .type "method-wrapper", data := .fields #[.builtin "Exception.__init__", .ref x] }, g, d, t, os⟩) :
    wpAny (model prog w) A (Builtin.«super.__getattribute__» ⟨[.ref so, .str "__init__" tk], []⟩) Q E ⟨h, g, d, t, os⟩ := by
  have hlk := slot_wd_get.lookup
  have hsub' : Looks (model prog w) h (isSubtype (.ref C) (.type (".".intercalate ("Exception.__init__".cutAt '.').dropLast))) true := by rw [owner_exc_init]; exact hsub
  have hne : (Value.ref x == Value.ref C) = false := by simp [hxC]
  have hn : (("__init__" : PySem.Str) == ("__class__" : PySem.Str)) = false := by decide
  have hTf : (⟨h, g, d, t, os⟩ : Shared).TypeIs (.builtin "Exception.__init__") "wrapper_descriptor" := type_exc_init
  have hdt : ({ cls := .type "super", dict := none, data := .fields #[.ref D, .ref x, .ref C], slots := #[] } : Obj).data = .fields #[.ref D, .ref x, .ref C] := rfl
  have f0 : (#[.ref D, .ref x, .ref C] : Array Value)[0]? = some (.ref D) := rfl
  have f1 : (#[.ref D, .ref x, .ref C] : Array Value)[1]? = some (.ref x) := rfl
  have f2 : (#[.ref D, .ref x, .ref C] : Array Value)[2]? = some (.ref C) := rfl
  unfold Builtin.«super.__getattribute__»
  repeat (first
    | (with_reducible refine wpAny_field hso hdt f0 ?_) | (with_reducible refine wpAny_field hso hdt f1 ?_) | (with_reducible refine wpAny_field hso hdt f2 ?_)
    | (with_reducible refine ks_wpAny_notOpaque hno ?_)
    | (with_reducible refine Looks.at hC ?_; rw [hl])
    | (refine ks_forIn_along X (fun _ _ => rfl) rfl ?_ hf)
    | (with_reducible refine wpAny_loadPart_at hx ?_; rw [hxc])
    | (with_reducible refine Looks.at hsub' ?_)
    | (with_reducible refine wpAny_newObj_type ?_ (by size_fits))
    | (with_reducible refine ⟨_, rfl, ?_⟩)
    | (with_reducible refine wpAny_typeOf hTf ?_)
    | (with_reducible refine wpAny_call_entry slot_wd_get hTf entry_wd_get ?_ (args_wd_get _ _ _))
    | (simp only [hn, hne, Bool.or_false, Bool.false_eq_true, if_false])
    | wp_step
    | dsimp only)
  all_goals exact hq
end
end Mine
end
section
open PySem PySem.W PyProof.Rows PySem.Calls Builtin Builtin.ObjectAttr
namespace Mine
theorem walk_anew_3 : True := by
  w_top off
  trivial
section
variable {prog : Program} {w : World} {A : Around} {E : Value → Shared → Prop} {h : Heap} {g : Array GenState} {d : Drawn} {t : Nat} {os : OsState}
set_option maxHeartbeats 4000000 in
theorem super_init_b {so D x C : Addr} {l₀ l : List Value} {K : Frag} {pl : Sem Bool} {Q : Value × List Value → Shared → Prop}
    (hso : h.get? so = some { cls := .type "super", dict := none, data := .fields #[.ref D, .ref x, .ref C], slots := #[] }) (hno : Looks (model prog w) h (opaqueClassAbove (.ref C)) none)
    (hC : Looks (model prog w) h (mroOf (.ref C)) l₀) (hl : (l₀.dropWhile (· != .ref D)).drop 1 = l) (X : K.In h)
    (hf : alongIn K "__init__" l = some (some (.builtin "Exception.__init__"))) {ox : Obj} (hx : h.get? x = some ox) (hxc : ox.cls = .ref C) (hsub : Looks (model prog w) h (isSubtype (.ref C) (.type "Exception")) true) (hxC : x ≠ C)
    (hq : Q (.ref h.objs.size, []) ⟨h.push { cls := .type "method-wrapper", data := .fields #[.builtin "Exception.__init__", .ref x] }, g, d, t + 1, os⟩) :
    wpAny (model prog w) A (getMethod (.ref so) "__init__" pl) Q E ⟨h, g, d, t, os⟩ := by
  have hlk := F.ks_slot_super_ga.lookup
  have hcan := F.ks_canon_super_ga
  have hT : ∀ t', (⟨h, g, d, t', os⟩ : Shared).TypeIs (.ref so) "super" := fun _ => ⟨_, hso, rfl⟩
  unfold getMethod
  refine wpAny_bind (wpAny_specialOf (hT _) hlk ?_)
  show wpAny _ _ (if (Manifest.canonical "super.__getattribute__" != "object.__getattribute__") = true then _ else _) _ _ _
  rw [if_pos hcan]
  unfold getAttr getAttrBy
  refine wpAny_bind (wpAny_bind (wpAny_mkText (wpAny_holding (wpAny_bind (wpAny_typeOf (hT _) (wpAny_bind (wpAny_of_eq hlk ?_)))))))
  show wpAny _ _ (getAttrByItsOwn (.ref so) (.str "__init__" t) (.type "super") (.builtin "super.__getattribute__") true false) _ _ _
  unfold getAttrByItsOwn hookBefore callGetattribute boundAndCalled
  refine wpAny_bind (wpAny_of_eq (show (if onTheHeap (.type "super") then typeLookup (.type "super") "__getattr__" else pure none) = pure none from rfl) ?_)
  refine wpAny_bind (wpAny_attempt (wpAny_holding ?_))
  show wpAny _ _ (bindSpecial (.builtin "super.__getattribute__") (.ref so) >>= _) _ _ _
  refine wpAny_bind (wpAny_of_eq (F.ks_slot_super_ga.bind _) ?_)
  refine wpAny_mono (Q := fun v s' => v = .ref h.objs.size ∧ s' = ⟨h.push { cls := .type "method-wrapper", data := .fields #[.builtin "Exception.__init__", .ref x] }, g, d, t + 1, os⟩) (E := fun _ _ => False)
    (wpAny_call_entry F.ks_slot_super_ga (hT _) F.ks_entry_super_ga (super_ga_b hso hno hC hl X hf hx hxc hsub hxC ⟨_, rfl, rfl, rfl⟩) (F.ks_gaArgs_super _ _)) (fun v s' hv => ?_) fun _ _ z => z.elim
  obtain ⟨rfl, rfl⟩ := hv
  exact wpAny_pure (wpAny_pure hq)

variable {nm q : PySem.Str} {C N : Addr} {bs bm : List Value} {hdct : Bool} {sn : List PySem.Str} {sub : List Value} {ab : Bool} {col : Option Bool} {dd : Option Addr} {k0 k1 k2 k3 k5 : Option Value} {newId : String}
set_option maxHeartbeats 4000000 in
theorem check_bound_init {M : Model} {x : Addr} {ox : Obj} {rest : List Value} {Q : Unit → Shared → Prop} (hC : h.get? C = some (excClassObj nm q C N bs bm hdct sn sub ab col dd k0 k1 k2 k3 k5 newId))
    (hx : h.get? x = some ox) (hxc : ox.cls = .ref C) (hq : Q () ⟨h, g, d, t, os⟩) : wpAny M A (checkBoundCall "Exception.__init__" ⟨.ref x :: rest, []⟩) Q E ⟨h, g, d, t, os⟩ := by
  have FE := PySem.F.excBase_Exception
  have hshort := FE.noStar
  unfold checkBoundCall
  simp only [FE.initRow, FE.initKind]
  rw [if_pos (by decide)]
  unfold Bind.checkArgs
  repeat (first | (with_reducible refine wpAny_loadPart_at hx ?_; rw [hxc]) | with_reducible refine wpAny_loadPart_at hC ?_ | wp_step)
  refine wpAny_onRaise ?_
  rw [show ∀ (a b : String) (n : Nat), Bind.check ⟨.positional, "*", "Exception", .self, [⟨"args", .varPos, false⟩]⟩ a b n (List.map (fun x => x.fst) ({ pos := Value.ref x :: rest } : Args).kw) = pure () from
    fun a b n => check_star_args _ _ _ _ _ _]
  exact wpAny_pure hq
set_option maxHeartbeats 4000000 in
theorem mw_init {b x : Addr} {ox : Obj} {vs : Array Value} {t0 : Addr} {rest : List Value} {R : Result → Shared → Prop} (hC : h.get? C = some (excClassObj nm q C N bs bm hdct sn sub ab col dd k0 k1 k2 k3 k5 newId))
    (hb : h.get? b = some { cls := .type "method-wrapper", data := .fields #[.builtin "Exception.__init__", .ref x] }) (hx : h.get? x = some ox) (hxc : ox.cls = .ref C) (hd : ox.data = .fields vs) (h0 : vs[0]? = some (.ref t0)) (hrest : rest.length ≤ sizeLine)
    (hq : R (.ok (.ret .none)) ⟨(h.push (tupObj rest)).update x (Obj.mapFields (·.setIfInBounds 0 (.ref h.objs.size))), g, d, t, os⟩) :
    codeAny (model prog w) A (.call (.ref b) ⟨rest, []⟩) R ⟨h, g, d, t, os⟩ := by
  have FE := PySem.F.excBase_Exception
  refine codeAny_of_tree ?_
  show wpAny _ _ (callAny (.ref b) _) _ _ _
  refine nd_load hb ?_
  show wpAny _ _ (do checkBoundCall "Exception.__init__" ⟨.ref x :: rest, []⟩; again (.builtin "Exception.__init__" ⟨.ref x :: rest, []⟩)) _ _ _
  refine wpAny_bind (check_bound_init hC hx hxc (wpAny_pure ?_))
  refine ⟨plainId_quiet FE.init.plain _, codeAny_builtin FE.initEntry ?_⟩
  unfold Builtin.«BaseException.__init__» Builtin.BaseException.bexcPut
  have hx' := Heap.get?_push_of_some (tupObj rest) hx
  have hsz : 0 < vs.size := (Array.getElem?_eq_some_iff.mp h0).1
  wp_walk
  rw [hd]
  dsimp only
  refine wpAny_pure ?_
  rw [h0]
  dsimp only
  refine wpAny_pure (wpAny_bind (wpAny_setField hx' hd hsz ?_))
  wp_walk
  exact hq
end
end Mine
end
section
open PySem PySem.W PyProof.Rows PySem.Calls Builtin Builtin.ObjectAttr
namespace Mine
theorem walk_anew_4 : True := by
  w_top off
  trivial
abbrev excMro : List Value := [.type "Exception", .type "BaseException", .type "object"]
abbrev excObjD (C t de : Addr) : Obj := { cls := .ref C, dict := some de, data := .fields #[.ref t, .none, .none, .none, .bool false, .none] }
section
variable {prog : Program} {w : World} {A : Around} {K : Frag} {C x L : Addr} {s : Shared} {h₀ : Heap} {m : PySem.Str → Option Value} {news : List (Addr × Obj)} {R : Result → Shared → Prop} {cd : ClassData}
theorem exc_osa_open {ox : Obj} {od : Option Obj} {name : PySem.Str} {tk : Tok} {v : Value} {r : Option Value} (X : K.In s.heap) (I : InstAt s.heap x ox C od) (hc : clsIn K C = some cd) (hmro : cd.mro = .ref C :: excMro) (ht : takerIn K C name = some r)
    (h : ∀ b, wpAny (model prog w) A.in1 (match r with | some a => setByDescriptor a (.ref x) v | none => storeInOwnDict (.ref x) (.ref C) (.str name tk) name v b)
      (fun fin s' => match fin with | .done f => R (.ok f) s' | .again c' => c'.quiet = true ∧ codeAny (model prog w) A c' R s') (fun e s' => R (.error e) s') s) :
    codeAny (model prog w) A (.call (.builtin "object.__setattr__") ⟨[.ref x, .str name tk, v], []⟩) R s := by
  have SF := PySem.F.store_object
  have SE := PySem.F.store_Exception
  have ne : cd.mro.isEmpty = false := by rw [hmro]; rfl
  have sub : Looks (model prog w) s.heap (isInstance (.ref x) (.type "object")) true := I.type.andThen (looks_mroIn X (by unfold mroIn; rw [hc, Option.bind_some, if_neg (by rw [ne]; decide), hmro]; simp))
  refine codeAny_call_builtin SF.slot.plain SF.entry (@check_slot (model prog w) _ _ s "object.__setattr__" "object" "__setattr__" (.ref x) [.str name tk, v] [] _ SF.kind SF.split sub (SF.args (.ref x) (.str name tk) v) ?_)
  obtain ⟨attr, ha, hr⟩ := Option.bind_eq_some_iff.mp ht
  have hm : Looks (model prog w) s.heap (mroOf (.ref C)) cd.mro := (looks_clsIn X hc).andThen .now
  have L3 : Looks (model prog w) s.heap (storeTaker? attr) r := by
    cases attr with
    | none => cases hr; exact .now
    | some a =>
      obtain ⟨b, hb, rfl⟩ := Option.map_eq_some_iff.mp hr
      refine (looks_takesIn X hb).andThen ?_
      cases b <;> exact .now
  rw [osa_eq, refuse_eq]
  refine wpAny_bind (wpAny_bind (I.type.here (wpAny_bind (hm.here ?_))))
  rw [hmro, refuseLoop_ref, SE.passes]
  refine wpAny_pure (wpAny_bind (I.type.here (wpAny_bind ((looks_findIn X ha).here (wpAny_bind (L3.here ?_))))))
  exact h _
theorem exc_osa_dict {ox od od' : Obj} {dx : Addr} {name : PySem.Str} {tk : Tok} {v : Value} {pre post : List (Addr × Obj)} {es : List DictEntry} {n : Nat} (F : Fr h₀ L s.heap m) (N : News h₀ L s.heap (pre ++ (dx, od) :: post)) (X : K.In s.heap)
    (I : InstAt s.heap x ox C (some od)) (hd : ox.dict = some dx) (hc : clsIn K C = some cd) (hmro : cd.mro = .ref C :: excMro) (ht : takerIn K C name = some none) (hh : cd.hasDict = true)
    (hl : (lookIn name od).isSome = true) (h1 : ∀ p ∈ pre, p.1 ≠ dx) (h2 : ∀ p ∈ post, p.1 ≠ dx)
    (e : Obj.putName name (PyData.keyHash w.params name) (.str name s.toks) v od = od') (e' : od'.data = .dict es.toArray n) (hz : es.length ≤ 1000)
    (h : ∀ h', Fr h₀ L h' m → News h₀ L h' (pre ++ (dx, od') :: post) → R (.ok (.ret .none)) { s with heap := h', toks := s.toks + 1 }) :
    codeAny (model prog w) A (.call (.builtin "object.__setattr__") ⟨[.ref x, .str name tk, v], []⟩) R s := by
  refine exc_osa_open X I hc hmro ht fun b => ?_
  obtain ⟨U1, U2⟩ := news_upd (f := Obj.putName name (PyData.keyHash w.params name) (.str name s.toks) v) F N h1 h2 e (by obtain ⟨_, _, dd, _⟩ := od'; cases e'; rfl)
  have D := (N (dx, od) (by simp)).1
  have D' := (U2 (dx, od') (by simp)).1
  obtain ⟨hx, hcl, hn, -⟩ := I
  obtain ⟨oc, odi, oda, osl⟩ := ox
  dsimp only at hcl hd
  subst hcl hd
  refine wpAny_bind (wpAny_pure (wpAny_bind (wpAny_bind (wpAny_loadPart hx (wpAny_bind ((looks_clsIn X hc).here ?_))))))
  rw [hh]
  refine wpAny_pure (a := some dx) (wpAny_bind (wpAny_pure (wpAny_bind ?_)))
  unfold nsSet
  refine wpAny_bind (wpAny_bind (wpAny_askSetting (wpAny_pure (wpAny_bind (wpAny_mkText (wpAny_bind (wpAny_loadPart D ?_)))))))
  unfold lookIn at hl
  split at hl
  · rename_i es₀ n₀ q
    rw [q]
    dsimp only
    have c : (!es₀.any (·.key.isStr name) && es₀.any (·.refKey)) = false := by
      rw [← Array.any_toList, ← Array.any_toList]
      split at hl
      · rename_i en he
        rw [List.any_eq_true.mpr ⟨en, List.mem_of_find?_eq_some he, List.find?_some he⟩]; rfl
      · split at hl
        · cases hl
        · rename_i z; rw [Bool.not_eq_true] at z; rw [z, Bool.and_false]
    rw [aRefKeyMayBeTheName_at, c]
    refine wpAny_updatePart D ?_
    refine wpAny_bind (wpAny_lookBehind D' (by rw [e']; exact pastItsLine_dict (by rw [List.size_toArray, sizeLine_eq]; omega)) ?_)
    exact wpAny_pure (h _ U1 U2)
  · cases hl
end
end Mine

namespace Mine
section
variable {prog : Program} {w : World} {A : Around} {K : Frag} {C x t L : Addr} {s : Shared} {h₀ : Heap} {m : PySem.Str → Option Value} {news : List (Addr × Obj)} {R : Result → Shared → Prop} {cd : ClassData}
theorem exc_osa_new {name : PySem.Str} {tk : Tok} {v : Value} {pre post : List (Addr × Obj)} (F : Fr h₀ L s.heap m) (N : News h₀ L s.heap (pre ++ (x, excObj C t) :: post)) (X : K.In s.heap)
    (hc : clsIn K C = some cd) (hmro : cd.mro = .ref C :: excMro) (ht : takerIn K C name = some none) (hh : cd.hasDict = true) (h1 : ∀ p ∈ pre, p.1 ≠ x) (h2 : ∀ p ∈ post, p.1 ≠ x)
    (h : ∀ de h', Fr h₀ L h' m → News h₀ L h' ((de, dictOf [⟨PyData.keyHash w.params name, .str name s.toks, v⟩] 1) :: (pre ++ (x, excObjD C t de) :: post)) → (∀ p ∈ pre ++ (x, excObj C t) :: post, p.1 < de) → R (.ok (.ret .none)) { s with heap := h', toks := s.toks + 1 }) :
    codeAny (model prog w) A (.call (.builtin "object.__setattr__") ⟨[.ref x, .str name tk, v], []⟩) R s := by
  have hx := (N (x, excObj C t) (by simp)).1
  have I : InstAt s.heap x (excObj C t) C none := ⟨hx, rfl, rfl, trivial⟩
  refine exc_osa_open X I hc hmro ht fun b => ?_
  obtain ⟨hp, g, d, tt, os⟩ := s
  have hlt : ∀ p ∈ pre ++ (x, excObj C t) :: post, p.1 < hp.objs.size := fun p q => Heap.lt_size (N p q).1
  have F1 := F.push emptyDict
  have N1 := N.push F emptyDict
  obtain ⟨F2, N2⟩ := news_upd (pre := (hp.objs.size, emptyDict) :: pre) (o := excObj C t) (f := fun o => { o with dict := some hp.objs.size }) (o' := excObjD C t hp.objs.size) F1 N1
    (fun p q => by
      rcases List.mem_cons.mp q with rfl | q
      · exact Nat.ne_of_gt (hlt (x, excObj C t) (by simp))
      · exact h1 p q) h2 rfl rfl
  have D := (N2 (hp.objs.size, emptyDict) (by simp)).1
  obtain ⟨F3, N3⟩ := news_upd (pre := []) (o := emptyDict) (f := Obj.putName name (PyData.keyHash w.params name) (.str name tt) v) (o' := dictOf [⟨PyData.keyHash w.params name, .str name tt, v⟩] 1) F2 N2 (fun _ q => nomatch q)
    (fun p q => by
      have : p.1 ∈ (pre ++ (x, excObj C t) :: post).map (·.1) := by
        have := List.mem_map_of_mem (f := (·.1)) q
        simpa using this
      obtain ⟨p', hp', e⟩ := List.mem_map.mp this
      exact fun z => absurd (hlt p' hp') (by rw [e, z]; exact Nat.lt_irrefl _)) (putName_dict _ _ _ _ [] 0) rfl
  have D' := (N3 (hp.objs.size, _) (.head _)).1
  refine wpAny_bind (wpAny_pure (wpAny_bind (wpAny_bind (wpAny_loadPart hx (wpAny_bind ((looks_clsIn X hc).here ?_))))))
  rw [hh]
  have hx1 : (hp.push emptyDict).get? x = some (excObj C t) := Heap.get?_push_of_some _ hx
  show wpAny _ _ (alloc emptyDict >>= fun d => update x (fun o => { o with dict := some d }) >>= fun _ => dictMade (.ref C) x d) _ _ _
  refine wpAny_bind (wpAny_alloc' ?_)
  refine wpAny_bind (wpAny_update' hx1 ?_)
  refine wpAny_pure (a := some hp.objs.size) ?_
  show wpAny _ _ (storeInDict hp.objs.size (.str name tk) name v) _ _ _
  unfold storeInDict newKeyGuard
  refine wpAny_bind (wpAny_pure (wpAny_bind ?_))
  unfold nsSet
  refine wpAny_bind (wpAny_bind (wpAny_askSetting (wpAny_pure (wpAny_bind (wpAny_mkText (wpAny_bind (wpAny_loadPart D ?_)))))))
  refine wpAny_updatePart D ?_
  refine wpAny_bind (wpAny_lookBehind D' (pastItsLine_dict (by rw [sizeLine_eq]; exact Nat.le_of_ble_eq_true rfl)) ?_)
  exact wpAny_pure (h hp.objs.size _ F3 N3 hlt)
end
end Mine

namespace Mine
section
variable {prog : Program} {w : World} {A : Around} {E : Value → Shared → Prop} {K : Frag} {C x t L : Addr} {s : Shared} {h₀ : Heap} {m : PySem.Str → Option Value} {news : List (Addr × Obj)} {cd : ClassData} {name : PySem.Str} {v : Value}
theorem exc_setattr_new {Q : Unit → Shared → Prop} {g : Obj → List (Addr × Obj)} (F : Fr h₀ L s.heap m) (X₀ : K.In h₀) (N : News h₀ L s.heap news) (U : UpdF x (excObj C t) news g)
    (hc : clsIn K C = some cd) (hmro : cd.mro = .ref C :: excMro) (hs : findIn K (.ref C) "__setattr__" = some (some (.builtin "object.__setattr__"))) (ht : takerIn K C name = some none) (hh : cd.hasDict = true)
    (h : ∀ de h', Fr h₀ L h' m → News h₀ L h' ((de, dictOf [⟨PyData.keyHash w.params name, .str name (s.toks + 1), v⟩] 1) :: g (excObjD C t de)) → (∀ p ∈ news, p.1 < de) → Q () { s with heap := h', toks := s.toks + 1 + 1 }) :
    wpAny (model prog w) A (setAttr (.ref x) name v) Q E s := by
  obtain ⟨pre, post, rfl, hg, h1, h2⟩ := U.split
  have I : InstAt s.heap x (excObj C t) C none := ⟨(N (x, excObj C t) (by simp)).1, rfl, rfl, trivial⟩
  refine set_plain (X₀.keeps F.keep) I hs ?_
  refine exc_osa_new (s := { s with toks := s.toks + 1 }) (K := K) F N (X₀.keeps F.keep) hc hmro ht hh h1 h2 fun de h' F' N' hlt => ?_
  exact h de h' F' (by rw [hg]; exact N') hlt
theorem exc_setattr_old {Q : Unit → Shared → Prop} {g : Obj → List (Addr × Obj)} {de : Addr} {es es' : List DictEntry} {n n' : Nat} (F : Fr h₀ L s.heap m) (X₀ : K.In h₀) (N : News h₀ L s.heap news) (hx : (x, excObjD C t de) ∈ news) (U : UpdF de (dictOf es n) news g)
    (hc : clsIn K C = some cd) (hmro : cd.mro = .ref C :: excMro) (hs : findIn K (.ref C) "__setattr__" = some (some (.builtin "object.__setattr__"))) (ht : takerIn K C name = some none) (hh : cd.hasDict = true)
    (hl : (getL name es).isSome = true) (e : (putL name (PyData.keyHash w.params name) (.str name (s.toks + 1)) v es, putN name es n) = (es', n')) (hz : es'.length ≤ 1000)
    (h : ∀ h', Fr h₀ L h' m → News h₀ L h' (g (dictOf es' n')) → Q () { s with heap := h', toks := s.toks + 1 + 1 }) :
    wpAny (model prog w) A (setAttr (.ref x) name v) Q E s := by
  obtain ⟨pre, post, rfl, hg, h1, h2⟩ := U.split
  have I : InstAt s.heap x (excObjD C t de) C (some (dictOf es n)) := ⟨(N _ hx).1, rfl, rfl, (N (de, dictOf es n) (by simp)).1⟩
  refine set_plain (X₀.keeps F.keep) I hs ?_
  refine exc_osa_dict (s := { s with toks := s.toks + 1 }) (K := K) (od' := dictOf es' n') F N (X₀.keeps F.keep) I rfl hc hmro ht hh hl h1 h2 (by
    rw [putName_dict]
    have e1 := congrArg Prod.fst e
    have e2 := congrArg Prod.snd e
    dsimp only at e1 e2
    rw [← e1, ← e2]) rfl hz fun h' F' N' => ?_
  exact h h' F' (by rw [hg]; exact N')
open Builtin Builtin.ObjectAttr in
set_option maxHeartbeats 400000 in
theorem exc_getattr {expr : Bool} {Q : Value → Shared → Prop} {ox : Obj} {od : Option Obj} (X : K.In s.heap) (I : InstAt s.heap x ox C od) (hc : clsIn K C = some cd) (hmro : cd.mro = .ref C :: excMro) (hga : findIn K (.ref C) "__getattribute__" = some (some (.builtin "BaseException.__getattribute__")))
    (hge : findIn K (.ref C) "__getattr__" = some none) (hf : findObj K C od name = some (.value v)) (hh : handedIn v = true) (h : Q v { s with toks := s.toks + 1 }) : wpAny (model prog w) A (getAttr (.ref x) name expr) Q E s := by
  obtain ⟨hp, g, d, tt, os⟩ := s
  have L0 := I.type (M := model prog w)
  have L1 := looks_findIn (M := model prog w) X hga
  have L2 := looks_findIn (M := model prog w) X hge
  have L3 := looks_find (M := model prog w) X I hf
  have hx2 : (Value.builtin "BaseException.__getattribute__" == Value.builtin "object.__getattribute__") = false := by decide +kernel
  have ne : cd.mro.isEmpty = false := by rw [hmro]; rfl
  have sub : Looks (model prog w) hp (isInstance (.ref x) (.type "BaseException")) true := I.type.andThen (looks_mroIn X (by unfold mroIn; rw [hc, Option.bind_some, if_neg (by rw [ne]; decide), hmro]; simp))
  unfold getAttr getAttrBy
  refine wpAny_bind (wpAny_mkText (wpAny_holding (wpAny_bind (L0.at (wpAny_bind (L1.at ?_))))))
  dsimp only
  rw [hx2, Bool.and_false, if_neg (by decide)]
  unfold getAttrByItsOwn
  refine wpAny_bind (L2.at ?_)
  refine wpAny_bind (wpAny_attempt (wpAny_holding ?_))
  have FX := PySem.F.attr_Exception
  have hcg : callGetattribute (.ref x) (.str name tt) (.builtin "BaseException.__getattribute__") expr = boundAndCalled (.builtin "BaseException.__getattribute__") (.ref x) (.str name tt) := by cases expr <;> rfl
  rw [hcg]
  unfold boundAndCalled
  refine wpAny_bind (wpAny_of_eq (FX.ga.bind _) ?_)
  have hk : builtinKind "BaseException.__getattribute__" = some .slot := by decide +kernel
  have hsplit : splitId "BaseException.__getattribute__" = some ("BaseException", "__getattribute__") := by decide +kernel
  show wpAny _ _ (PySem.call (.builtin "BaseException.__getattribute__") [.ref x, .str name tt]) _ _ _
  refine wpAny_call ?_
  refine codeAny_call_builtin FX.ga.plain PySem.F.entry_bexc_ga ?_
  refine @check_slot (model prog w) _ _ ⟨hp, g, d, tt + 1, os⟩ "BaseException.__getattribute__" "BaseException" "__getattribute__" (.ref x) [.str name tt] [] _ hk hsplit sub (PySem.F.args_bexc_ga (.ref x) (.str name tt)) ?_
  unfold Builtin.«object.__getattribute__»
  repeat lk
  show wpAny _ _ (handedOut v) _ _ _
  rw [handedOut_of hh]
  exact wpAny_pure h
end
end Mine

namespace Mine
section
variable {prog : Program} {w : World} {A : Around} {E : Value → Shared → Prop} {K : Frag} {C x t L so D q de : Addr} {s : Shared} {h h₀ : Heap} {m : PySem.Str → Option Value} {news : List (Addr × Obj)} {cd : ClassData}
theorem excInst (N : News h₀ L h news) (hx : (x, excObj C t) ∈ news) : InstAt h x (excObj C t) C none := ⟨(N _ hx).1, rfl, rfl, trivial⟩
theorem excInstD {od : Obj} (N : News h₀ L h news) (hx : (x, excObjD C t de) ∈ news) (hd : (de, od) ∈ news) : InstAt h x (excObjD C t de) C (some od) := ⟨(N _ hx).1, rfl, rfl, (N _ hd).1⟩
abbrev mwObj (x : Addr) : Obj := { cls := .type "method-wrapper", data := .fields #[.builtin "Exception.__init__", .ref x] }
theorem exc_super_init {pl : Sem Bool} {Q : Value × List Value → Shared → Prop} {ox : Obj} {odx : Option Obj} (F : Fr h₀ L s.heap m) (X₀ : K.In h₀) (N : News h₀ L s.heap news) (hso : (so, ks_superObj D x C) ∈ news) (I : InstAt s.heap x ox C odx) (ho : nsIn K cStatics "thirdparty.any" = some none)
    (hc : clsIn K C = some cd) (hmro : cd.mro = .ref C :: excMro) (hm : ks_superIn K C D "__init__" = some (some (.builtin "Exception.__init__")))
    (h : ∀ q h', Fr h₀ L h' m → News h₀ L h' ((q, mwObj x) :: news) → (∀ p ∈ news, p.1 < q) → Q (.ref q, []) { s with heap := h', toks := s.toks + 1 }) : wpAny (model prog w) A (getMethod (.ref so) "__init__" pl) Q E s := by
  have X : K.In s.heap := X₀.keeps F.keep
  obtain ⟨hh, g, d, t, os⟩ := s
  unfold ks_superIn at hm
  rw [hc] at hm
  have ne : cd.mro.isEmpty = false := by rw [hmro]; rfl
  refine super_init_b (N _ hso).1 (looks_opaque X ho) (l₀ := cd.mro) ?_ rfl X hm I.at_ I.cls (looks_mroIn X (by unfold mroIn; rw [hc, Option.bind_some, if_neg (by rw [ne]; decide), hmro]; simp)) (ks_ne X I hc) ?_
  · exact fun A Q E s k q => wpAny_bind ((looks_clsIn X hc) A _ E s k (wpAny_pure q))
  · obtain ⟨F', N', l'⟩ := ks_newsPush (s := ⟨hh, g, d, t, os⟩) (o := mwObj x) F N rfl (Heap.get?_push_at rfl rfl) (fun b o e => Heap.get?_push_of_some _ e)
    exact h _ _ F' N' l'
theorem exc_call_mw {nm qn : PySem.Str} {Nn : Addr} {bs bm : List Value} {hdct : Bool} {sn : List PySem.Str} {sub : List Value} {ab : Bool} {col : Option Bool} {dd : Option Addr} {k0 k1 k2 k3 k5 : Option Value} {newId : String}
    {rest : List Value} {Q : Value → Shared → Prop} {g : Obj → List (Addr × Obj)} (F : Fr h₀ L s.heap m) (X₀ : K.In h₀) (N : News h₀ L s.heap news) (hC : K.lookup C = some (excClassObj nm qn C Nn bs bm hdct sn sub ab col dd k0 k1 k2 k3 k5 newId))
    (hq : (q, mwObj x) ∈ news) (U : UpdF x (excObj C t) news g) (hrest : rest.length ≤ sizeLine)
    (h : ∀ t' h', Fr h₀ L h' m → News h₀ L h' (g (excObj C t')) → Q .none { s with heap := h' }) : wpAny (model prog w) A (call (.ref q) rest) Q E s := by
  obtain ⟨pre, post, rfl, hg, h1, h2⟩ := U.split
  have hx := (N (x, excObj C t) (by simp)).1
  obtain ⟨hh, gg, d, tt, os⟩ := s
  refine wpAny_call (mw_init ((X₀.keeps F.keep) _ _ hC) (N _ hq).1 hx rfl rfl rfl hrest ?_)
  have F1 := F.push (tupObj rest)
  have N1 := N.push F (tupObj rest)
  obtain ⟨F2, N2⟩ := news_upd (pre := pre) (post := post) (o := excObj C t) (f := Obj.mapFields (·.setIfInBounds 0 (.ref hh.objs.size))) (o' := excObj C hh.objs.size) F1 (fun p hp => N1 p (.tail _ hp)) h1 h2 rfl rfl
  exact h _ _ F2 (by rw [hg]; exact N2)
def mwP (q x : Addr) (h : Heap) : Prop := h.get? q = some (mwObj x)
theorem mwP_of (N : News h₀ L h news) (hq : (q, mwObj x) ∈ news) : mwP q x h := (N _ hq).1
theorem mw_keeper (M : Model) {h : Heap} (X : mwP q x h) : ∃ k, (k = Keeper.frame ∨ k = Keeper.machine ∨ k = Keeper.boundFrame) ∧ Looks M h (keeperOf (.ref q)) k :=
  ⟨.machine, .inr (.inl rfl), (Looks.ld (part := none) X).andThen .now⟩
theorem exc_callWith_mw {M : Model} {env : Env} {pos : Pos} {e : Expr} {rest : List Expr} {first : List Value} {Q : Value → Shared → Prop} (_N : News h₀ L s.heap news) (_q : (q, mwObj x) ∈ news) (h : wpAny M A (spliced (backTo pos (starEach (e :: rest) env))) (fun vs s₁ => mwP q x s₁.heap ∧ wpAny M A (call (.ref q) (first ++ vs)) Q E s₁) E s)
    (he : starEach (e :: rest) env = (false, eval e env) :: starEach rest env := by rfl) (hplain : (backTo pos (starEach rest env)).any (·.1) = false := by rfl) :
    wpAny M A (callWith pos (.ref q) first (backTo pos (starEach (e :: rest) env)) []) Q E s := by
  rw [he] at h ⊢
  exact callWith_of (P := mwP q x) (by show ((false || (backTo pos (starEach rest env)).any (·.1)) || false) = false; rw [hplain]; rfl) (fun _ X => mw_keeper M X) (evalArgs_plain h)
end
end Mine
end
section
open PySem PySem.W PyProof.Rows PySem.Calls
namespace Mine
theorem walk_anew_5 : True := by
  w_top off
  trivial
theorem lt_of_allLt {d : Addr} : ∀ {l : List (Addr × Obj)}, AllLt d l → ∀ p ∈ l, p.1 < d
  | [], _, _, h => nomatch h
  | q :: r, h, p, hp => by
    rcases List.mem_cons.mp hp with rfl | hp
    · exact h.1
    · exact lt_of_allLt h.2 p hp
theorem news_pick2 {h₀ h : Heap} {L : Addr} {l news : List (Addr × Obj)} {a b : Addr × Obj} (N : News h₀ L h l) (ha : a ∈ l) (hb : b ∈ l) (hn : ∀ p ∈ news, p ∈ l) : News h₀ L h (a :: b :: news) := fun q hq => by
  rcases List.mem_cons.mp hq with rfl | hq
  · exact N _ ha
  · rcases List.mem_cons.mp hq with rfl | hq
    · exact N _ hb
    · exact N _ (hn _ hq)
local macro_rules | `(tactic| k_all) => `(tactic| first | with_reducible assumption | exact ne_of_allLt (by with_reducible assumption))
local macro_rules | `(tactic| k_room) => `(tactic| ktr_room)
local macro_rules | `(tactic| k_lt $h:ident) => `(tactic| (replace $h:ident := allLt_of $h:ident; simp only [AllLt, and_true] at $h:ident; repeat (rcases $h:ident with ⟨_, $h:ident⟩)))
local macro_rules | `(tactic| k_inst) => `(tactic| first | exact excInst (by k_asm) (by k_mem) | exact excInstD (by k_asm) (by k_mem) (by k_mem))
local macro_rules | `(tactic| walk_at "getMethod ref") => `(tactic| (k_here; (with_reducible show wpAny _ _ (getMethod (Value.ref _) (PySem.Str.ofString "__init__") _) _ _ _); k_dflt (refine' exc_super_init ?k1 ?k2 ?k3 ?k4 ?k5 ?k6 ?k7 ?k8 ?k9 ?_; (case k1 | k2 | k3 => k_asm); (case k4 => k_mem); (case k5 => k_inst); (case k6 => k_is); (case k7 => k_is); (case k8 => rfl); (case k9 => ks_is); intro q' h' F' N' l1; (try k_lt l1))))
local macro_rules | `(tactic| walk_at "callWith ref") => `(tactic| (k_here; k_dflt (refine' exc_callWith_mw ?k1 ?k2 ?_; (case k1 => k_asm); (case k2 => k_mem); k_whole)))
local macro_rules | `(tactic| walk_at "And") => `(tactic| (k_dflt (refine' ⟨?mwa, ?_⟩; (case mwa => exact mwP_of (by k_asm) (by k_mem))); try dsimp only [List.nil_append, List.cons_append]))
local macro_rules | `(tactic| walk_at "call ref") => `(tactic| (k_here; k_dflt (refine' exc_call_mw ?k1 ?k2 ?k3 ?k4 ?k5 ?k6 ?k7 ?_; (case k1 | k2 | k3 => k_asm); (case k5 => k_mem); (case k6 => k_updF); (case k4 => k_is); (case k7 => size_fits); k_whole; intro t' h' F' N'; (try dsimp only at N'); (try k_sweep))))
local macro_rules | `(tactic| walk_at "setAttr ref") => `(tactic| (k_here; k_dflt (refine' exc_setattr_old ?k1 ?k2 ?k3 ?k4 ?k5 ?k6 ?k7 ?k8 ?k9 ?j1 ?j2 ?j3 ?j4 ?_; (case k1 | k2 | k3 => k_asm); (case k4 => k_mem); (case k5 => k_updF); (case k6 => k_is); (case k7 => rfl); (case k8 => k_is); (case k9 => k_is); (case j1 => rfl); (case j2 => k_get); (case j3 => k_put); (case j4 => exact Nat.le_of_ble_eq_true rfl); k_whole; intro h' F' N'; (try dsimp only at N'); (try k_sweep))))
local macro_rules | `(tactic| walk_at "setAttr ref") => `(tactic| (k_here; k_dflt (refine' exc_setattr_new ?k1 ?k2 ?k3 ?k5 ?k6 ?k7 ?k8 ?k9 ?j1 ?_; (case k1 | k2 | k3 => k_asm); (case k5 => k_updF); (case k6 => k_is); (case k7 => rfl); (case k8 => k_is); (case k9 => k_is); (case j1 => rfl); k_whole; intro d' h' F' N' l1; (try k_lt l1); (try dsimp only at N'); (try k_sweep))))
local macro_rules | `(tactic| k_enter) => `(tactic| (refine' ks_code_super ?k1 ?k2 ?k3 ?k4 ?k5 ?kA ?kF ?kK ?k6 ?k7 ?k8 ?k9 ?kB ?_ ?c1 ?c2 ?c3 ?c4; (case kA => exact rfl); (case kF => exact rfl); (case kK => first | exact rfl | assumption); (case k1 => k_asm); (case k2 => k_asm); (case k3 => k_asm); (case k4 => k_asm); (case k5 => k_asm); (case k6 => k_is); (case k7 => k_is); (case k8 => k_room); (case k9 => first | exact BindsTo.of_eq rfl | exact binds_K (by k_in) rfl (by k_is) rfl rfl rfl); (case kB => exact locs rfl); (case c1 => decide); (case c2 => exact rfl); (case c3 => exact rfl); (case c4 => exact rfl); intro g' L' h' FG' F' N' B' X' T' l1; (try k_lt l1); (try dsimp only); (try k_lift B')))
abbrev PP : Program := PySem.Challenge.rw_pc0002_01.row.prog
set_option maxHeartbeats 8000000 in
theorem exc_make {w : World} {p : Program} {loose : List Str} {mean : ExcName → Option Value} {mg mb : Str → Option Value}
    {dp un : Nat} {gd : Option (List Code)} {cn : Str} {cs : Scope} {a : Addr} {ccd : Value} {cl : List (Str × Addr)} {outer : List Env} {A₀ : Around} {base h₀ : Heap} {L : Addr} {m : Str → Option Value} {s : Shared}
    {Q E : Value → Shared → Prop} {c : Str} {t : Tok} {news : List (Addr × Obj)}
    (B : Below A₀ base outer h₀) (F : Fr h₀ L s.heap m) (X : (Mine.hd.heap_1 w.params).In h₀)
    (N : News h₀ L s.heap news) (T : Top p loose mean mg mb h₀) (hk : cs.kind = .function)
    (hdp : dp + 5 < recursionLimit) (hun : un + 100 < cLine)
    (ret : ∀ e tp de es n h' tk', Fr h₀ L h' m → News h₀ L h' ((e, excObjD 34 tp de) :: (de, dictOf es n) :: news) → getL (Str.ofString "code") es = some (some (.str c t)) → (∀ p ∈ news, p.1 < e) → (∀ p ∈ news, p.1 < de) → e < de → Q (.ref e) { s with heap := h', toks := tk' }) :
    wpAny (model PP w) (ktrTop dp un gd cn cs L a ccd cl outer) (call (.ref 34) [.str c t]) Q E s := by
  obtain ⟨hp, g, d, tk, os⟩ := s
  refine wpAny_call ?_
  have hlt : ∀ p ∈ news, p.1 < hp.objs.size := fun p q => Heap.lt_size (N p q).1
  have F1 := F.push (tupObj [.str c t])
  have N1 := N.push F (tupObj [.str c t])
  have F2 := F1.push (excObj 34 hp.objs.size)
  have N2 := N1.push F1 (excObj 34 hp.objs.size)
  rw [Heap.size_push] at N2
  refine' exc_core (K := Mine.hd.heap_1 w.params) (fI := 31) PySem.F.excBase_Exception ?kX ?kC ?k1 ?k2 ?k3 ?k4 ?k5 ?_
  case kX => exact X.keeps F.keep
  case kC => exact (X.keeps F.keep) _ _ (by k_is)
  case k1 => k_is
  case k2 => k_is
  case k3 => k_is
  case k4 => k_is
  case k5 => size_fits
  have N3 : News h₀ L ((hp.push (tupObj [Value.str c t])).push (excObj 34 hp.objs.size)) ((hp.objs.size + 1, excObj 34 hp.objs.size) :: news) := fun q hq => by
    rcases List.mem_cons.mp hq with rfl | hq
    · exact N2 _ (.head _)
    · exact N2 _ (.tail _ (.tail _ hq))
  have l0 : ∀ p ∈ news, p.1 < hp.objs.size + 1 := fun p q => Nat.lt_succ_of_lt (hlt p q)
  clear N1 N2 F1 N F hlt
  dsimp only at F2 N3 ret
  revert F2 N3 l0
  generalize (hp.push (tupObj [Value.str c t])).push (excObj 34 hp.objs.size) = h2
  generalize hp.objs.size + 1 = e
  generalize hp.objs.size = tp
  intro F2 N3 l0
  have hne : ∀ p ∈ news, p.1 ≠ e := fun p q => Nat.ne_of_lt (l0 p q)
  k_dflt k_enter
  k_steps
  refine' ret e _ _ _ _ _ _ ?r1 ?r2 ?r3 l0 ?r4 ?r5
  case r1 => k_asm
  case r2 => exact news_pick2 (by k_asm) (by k_mem) (by k_mem) (by intro p hp; repeat (first | exact hp | apply List.Mem.tail))
  case r3 => k_get
  case r4 => exact lt_of_allLt (by assumption)
  case r5 => omega
end Mine
end
section
open PySem PySem.W PyProof.Rows PySem.Calls
namespace Mine
theorem walk_anew_6 : True := by
  w_top off
  trivial
/-- an attribute dict of which only looks are known -/
theorem isStr_eq {v : Value} {x y : PySem.Str} (h1 : v.isStr x = true) (h2 : v.isStr y = true) : x = y := by
  cases v with
  | str s t =>
    have a : (s == x) = true := h1
    have b : (s == y) = true := h2
    rw [← eq_of_beq a, eq_of_beq b]
  | _ => cases h1
theorem putL_any (name : PySem.Str) (hsh : Int) (t : Tok) (v : Value) : ∀ es : List DictEntry, (putL name hsh (.str name t) v es).any (·.refKey) = es.any (·.refKey)
  | [] => rfl
  | e :: r => by
    unfold putL
    split
    · rfl
    · rw [List.any_cons, List.any_cons, putL_any]
theorem find_pos {p : DictEntry → Bool} {e : DictEntry} {r : List DictEntry} (h : p e = true) : (e :: r).find? p = some e := by rw [List.find?_cons, h]
theorem find_neg {p : DictEntry → Bool} {e : DictEntry} {r : List DictEntry} (h : ¬ p e = true) : (e :: r).find? p = r.find? p := by rw [List.find?_cons, Bool.eq_false_iff.mpr h]
theorem putL_find2 (name x : PySem.Str) (hsh : Int) (t : Tok) (v : Value) : ∀ es : List DictEntry, ((putL name hsh (.str name t) v es).find? (fun z => z.key.isStr x)).map (·.val) = if x = name then some v else (es.find? (fun z => z.key.isStr x)).map (·.val)
  | [] => by
    unfold putL
    by_cases h : x = name
    · subst h
      rw [find_pos (p := fun z => z.key.isStr x) (e := ⟨hsh, .str x t, v⟩) (show (x == x) = true from BEq.rfl), if_pos rfl]
      rfl
    · rw [find_neg (p := fun z => z.key.isStr x) (e := ⟨hsh, .str name t, v⟩) (fun q => h (eq_of_beq (show (name == x) = true from q)).symm), if_neg h]
  | e :: r => by
    unfold putL
    split
    · rename_i hn
      by_cases h : x = name
      · subst h
        rw [find_pos (p := fun z => z.key.isStr x) (show (⟨e.hash, e.key, v⟩ : DictEntry).key.isStr x = true from hn), if_pos rfl]
        rfl
      · have hx : ¬ e.key.isStr x = true := fun q => h (isStr_eq q hn)
        rw [find_neg (p := fun z => z.key.isStr x) (show ¬ (⟨e.hash, e.key, v⟩ : DictEntry).key.isStr x = true from hx), find_neg (p := fun z => z.key.isStr x) hx, if_neg h]
    · rename_i hn
      by_cases hx : e.key.isStr x = true
      · have h : x ≠ name := fun q => hn (q ▸ hx)
        rw [find_pos (p := fun z => z.key.isStr x) hx, find_pos (p := fun z => z.key.isStr x) hx, if_neg h]
      · rw [find_neg (p := fun z => z.key.isStr x) hx, find_neg (p := fun z => z.key.isStr x) hx]
        exact putL_find2 name x hsh t v r
theorem getL_alt (x : PySem.Str) (es : List DictEntry) : getL x es = match (es.find? (fun z => z.key.isStr x)).map (·.val) with
  | some v => some (some v)
  | none => if es.any (·.refKey) then none else some none := by
  unfold getL
  cases es.find? (fun z => z.key.isStr x) <;> rfl
theorem getL_put_same (name : PySem.Str) (hsh : Int) (t : Tok) (v : Value) (es : List DictEntry) : getL name (putL name hsh (.str name t) v es) = some (some v) := by
  rw [getL_alt, putL_find2, if_pos rfl]
theorem getL_put_ne {name x : PySem.Str} {hsh : Int} {t : Tok} {v : Value} {es : List DictEntry} {r : Option (Option Value)} (h : x ≠ name) (e : getL x es = r) : getL x (putL name hsh (.str name t) v es) = r := by
  rw [getL_alt, putL_find2, if_neg h, putL_any, ← getL_alt, e]
theorem getL_isSome {name : PySem.Str} {es : List DictEntry} {r : Option Value} (h : getL name es = some r) : (getL name es).isSome = true := by rw [h]; rfl
theorem putL_len {name : PySem.Str} (hsh : Int) (key v : Value) : ∀ {es : List DictEntry}, (es.find? (·.key.isStr name)).isSome = true → (putL name hsh key v es).length = es.length
  | [], h => by cases h
  | e :: r, h => by
    unfold putL
    split
    · rfl
    · rename_i hn
      rw [find_neg (p := fun z => z.key.isStr name) hn] at h
      rw [List.length_cons, List.length_cons, putL_len hsh key v h]
theorem putL_len' {name : PySem.Str} (hsh : Int) (key v : Value) {es : List DictEntry} {u : Value} (h : getL name es = some (some u)) : (putL name hsh key v es).length = es.length := by
  refine putL_len hsh key v ?_
  unfold getL at h
  split at h
  · rename_i q
    rw [q]
    rfl
  · split at h <;> cases h
theorem ne_of_ltAll {d : Addr} {l : List (Addr × Obj)} (h : ∀ p ∈ l, p.1 < d) : ∀ p ∈ l, p.1 ≠ d := fun p hp => Nat.ne_of_lt (h p hp)
end Mine
end
section
open PySem PySem.W PyProof.Rows PySem.Calls
namespace Mine
theorem walk_anew_7 : True := by
  w_top off
  trivial
section
variable {prog : Program} {w : World} {A : Around} {E : Value → Shared → Prop} {env : Env} {s : Shared}
def ExcReady (K : Frag) (C : Addr) (E : Value → Shared → Prop) (v : Value) (s : Shared) : Prop := ∃ e ox od vs, v = .ref e ∧ K.In s.heap ∧ InstAt s.heap e ox C od ∧ ox.data = .fields vs ∧ vs[1]? = some .none ∧ E (.ref e) s
set_option maxHeartbeats 4000000 in
theorem exc_raiseStmt {K : Frag} {C : Addr} {cd : ClassData} {x : Sem Value} {Q : Flow → Shared → Prop} (hc : clsIn K C = some cd) (hmro : cd.mro = .ref C :: excMro) (ht : typeIn K (.ref C) = some (.type "type")) (hh : A.handled = none)
    (h : wpAny (model prog w) A x (ExcReady K C E) E s) : wpAny (model prog w) A (raiseStmt env (some x) none) Q E s := by
  unfold raiseStmt
  refine wpAny_bind (wpAny_mono h (fun v s₁ h₁ => ?_) fun _ _ x => x)
  obtain ⟨e, ox, od, vs, rfl, X, I, hd, hv1, hE⟩ := h₁
  obtain ⟨hp, g, d, tk, os⟩ := s₁
  have L0 := I.type (M := model prog w)
  have ne : cd.mro.isEmpty = false := by rw [hmro]; rfl
  have sub : Looks (model prog w) hp (isSubtype (.ref C) (.type "BaseException")) true := looks_mroIn X (by unfold mroIn; rw [hc, Option.bind_some, if_neg (by rw [ne]; decide), hmro]; simp)
  have hx := I.at_
  have hxc := I.cls
  obtain ⟨oC, hoC, hCc⟩ := Option.map_eq_some_iff.mp (show (K.lookup C).map (·.cls) = some (.type "type") from ht)
  have hC := X _ _ hoC
  repeat (first | (with_reducible refine wpAny_loadPart_at hC ?_; rw [hCc]) | (with_reducible refine wpAny_loadPart_at hx ?_; rw [hxc]) | (with_reducible refine Looks.at sub ?_) | (with_reducible refine wpAny_field hx hd hv1 ?_) | wp_step)
  exact wpAny_raiseNew_none hh hE
theorem exc_Raise {K : Frag} {C : Addr} {cd : ClassData} {e : Expr} {pos : Pos} {Q : Flow → Shared → Prop} (hc : clsIn K C = some cd) (hmro : cd.mro = .ref C :: excMro) (ht : typeIn K (.ref C) = some (.type "type")) (hh : A.handled = none)
    (h : wpAny (model prog w) A (eval e env) (ExcReady K C E) E s) : wpAny (model prog w) A (exec (.Raise (some e) none pos) env) Q E s := by
  rw [arm_exec_Raise]
  refine wpAny_bind (wpAny_standAt ?_)
  show wpAny _ _ (raiseStmt env (some (do let v ← eval e env; standAt pos; pure v)) none) _ _ _
  exact exc_raiseStmt hc hmro ht hh (wpAny_bind (wpAny_mono h (fun v s₃ h₃ => wpAny_bind (wpAny_standAt (wpAny_pure h₃))) fun _ _ x => x))
end
end Mine
end
section
open PySem PySem.W PyProof.Rows PySem.Calls
namespace Mine
theorem walk_anew_8 : True := by
  w_top off
  trivial
/-- the flying exception: its class, its dict, its traceback -/
def DTr (h base : Heap) (e C de : Addr) (fl : Value) : Prop :=
  ∃ oe vs T oT ts, h.get? e = some oe ∧ (oe.cls = .ref C ∧ oe.dict = some de) ∧ oe.data = .fields vs ∧ vs[1]? = some (.ref T) ∧ base.get? T = none ∧ T ≠ e ∧ h.get? T = some oT ∧ oT.data = .fields ts ∧ ts[3]? = some fl
def DSt (base : Heap) (l : List Env) (e C de : Addr) (fl : Value) (h h' : Heap) : Prop :=
  base.StaysIn h' ∧ h'.FunFrames base l ∧ DTr h' base e C de fl ∧ h.UpToSlots h'
section
variable {M : Model} {A : Around} {E : Value → Shared → Prop} {s : Shared}
theorem d_entry {base : Heap} {env : Env} {outer : List Env} {L e C de : Addr} {oe : Obj} {vs : Array Value} {head : Value} {hadNext : Bool} {Q : Unit → Shared → Prop}
    (hfr : A.frames = some (env :: outer)) (hl : s.heap.FunFrames base (env :: outer)) (hf : env.frame = some L)
    (he : s.heap.get? e = some oe) (hkb : base.StaysIn s.heap) (hen : base.get? e = none) (hc : oe.cls = .ref C ∧ oe.dict = some de) (hd : oe.data = .fields vs) (hsz : 1 < vs.size)
    (h : ∀ h', DSt base (env :: outer) e C de (rawInt L) s.heap h' → Q () { s with heap := h' }) :
    wpAny M A (do let a ← frameOf env; let pl ← entryPlaceOf L hadNext; let b ← EntryCells.newEntry head a .none (rawInt L) .none pl; setField (.ref e) 1 b) Q E s := by
  have hene : e ∉ (env :: outer).filterMap (·.frame) := fun hm => by
    obtain ⟨_, o, ho, hnf⟩ := hl.mem hm
    rw [he] at ho
    injection ho with ho
    subst ho
    exact hnf vs hd
  refine wpAny_bind (wpAny_frameOf_fun hfr hl hf fun h₁ hs₁ => ?_)
  refine wpAny_bind (wpAny_entryPlaceOf fun pl hpl => ?_)
  unfold EntryCells.newEntry newFields
  refine wpAny_bind (wpAny_newObj_type ?_ (hpl.sizeOk5 _ _ _ _ _))
  have he₁ : h₁.get? e = some oe := (hs₁.2.1 e hene).trans he
  have kb₁ : base.StaysIn h₁ := fun b o hbo => (hs₁.2.1 b fun hm => by rw [(hl.mem hm).1] at hbo; cases hbo).trans (hkb b o hbo)
  generalize hO : ({ cls := .type "traceback", dict := none, data := .fields ([head, .ref L, .none, rawInt L, .none] ++ (if pl.isEmpty then List.replicate 6 Value.none else pl)).toArray } : Obj) = oT
  have hOd : ∃ ts, oT.data = .fields ts ∧ ts[3]? = some (rawInt L) := by
    rw [← hO]
    exact ⟨_, rfl, by first | (simp; done) | (rcases hpl with rfl | ⟨_, _, _, _, _, _, _, rfl⟩ <;> simp)⟩
  obtain ⟨ts, hTd, hT3⟩ := hOd
  have he₂ := Heap.get?_push_of_some (h := h₁) oT he₁
  refine wpAny_setField he₂ hd hsz (h _ ?_)
  have hTe : h₁.objs.size ≠ e := Nat.ne_of_gt (Heap.lt_size he₁)
  have hd₃ := Obj.data_mapFields hd (·.setIfInBounds 1 (Value.ref h₁.objs.size))
  have he₃ := Heap.get?_update_self (Obj.mapFields (·.setIfInBounds 1 (Value.ref h₁.objs.size))) he₂ (Obj.isFreed_of_fields hd₃)
  have hfr : oT.isFreed = false := Obj.isFreed_of_fields hTd
  have hT₃ : ((h₁.push oT).update e (Obj.mapFields (·.setIfInBounds 1 (Value.ref h₁.objs.size)))).get? h₁.objs.size = some oT :=
    (Heap.get?_update_other _ _ (Ne.symm hTe)).trans (Heap.get?_push_size h₁ hfr)
  have keep : ∀ b o, b ≠ e → h₁.get? b = some o → ((h₁.push oT).update e (Obj.mapFields (·.setIfInBounds 1 (Value.ref h₁.objs.size)))).get? b = some o := fun b o hbe hb => by
    rw [Heap.get?_update_other _ _ (Ne.symm hbe)]
    exact Heap.get?_push_of_some _ hb
  have noRec : ∀ b o, s.heap.get? b = some o → (∀ vs, o.data ≠ .fields vs) → b ≠ e := fun b o hb hnf q => by
    rw [q, he] at hb
    injection hb with hb
    subst hb
    exact hnf vs hd
  have hdm : (Obj.mapFields (·.setIfInBounds 1 (Value.ref h₁.objs.size)) oe).dict = oe.dict := by
    obtain ⟨oc, od, odt, osl⟩ := oe
    cases odt <;> rfl
  refine ⟨fun b o hbo => keep b o (fun q => by rw [q, hen] at hbo; cases hbo) (kb₁ b o hbo), hl.of_keeps fun b o hb hnf => ?_, ?_, fun b o hb hnf => ?_⟩
  · obtain ⟨sl, hs⟩ := hs₁.2.2 b o hb
    exact ⟨_, keep b _ (noRec b o hb hnf) hs, rfl⟩
  · exact ⟨_, _, h₁.objs.size, _, _, he₃, ⟨(Obj.cls_mapFields _ _).trans hc.1, hdm.trans hc.2⟩, hd₃, by simp [hsz], kb₁.fresh, hTe, hT₃, hTd, hT3⟩
  · obtain ⟨sl, hs⟩ := hs₁.2.2 b o hb
    exact ⟨sl, keep b _ (noRec b o hb hnf) hs⟩
theorem d_note1 {base : Heap} {env : Env} {outer : List Env} {L e C de : Addr} {oe : Obj} {vs : Array Value} {Q : Unit → Shared → Prop}
    (hfr : A.frames = some (env :: outer)) (hl : s.heap.FunFrames base (env :: outer)) (hf : env.frame = some L)
    (he : s.heap.get? e = some oe) (hkb : base.StaysIn s.heap) (hen : base.get? e = none) (hc : oe.cls = .ref C ∧ oe.dict = some de) (hd : oe.data = .fields vs) (h1 : vs[1]? = some .none)
    (h : ∀ h', DSt base (env :: outer) e C de (rawInt L) s.heap h' → Q () { s with heap := h' }) : wpAny M A (noteFrame (.ref e) env) Q E s := by
  unfold noteFrame
  simp only [hf]
  refine wpAny_bind (wpAny_field he hd h1 ?_)
  rw [if_neg (by decide)]
  exact d_entry hfr hl hf he hkb hen hc hd (Array.getElem?_eq_some_iff.mp h1).1 h
theorem d_note {base : Heap} {env : Env} {outer : List Env} {L e C de : Addr} {Q : Unit → Shared → Prop}
    (hfr : A.frames = some (env :: outer)) (hl : s.heap.FunFrames base (env :: outer)) (hf : env.frame = some L) (ht : DTr s.heap base e C de .none) (hkb : base.StaysIn s.heap) (hen : base.get? e = none)
    (h : ∀ h', DSt base (env :: outer) e C de (rawInt L) s.heap h' → Q () { s with heap := h' }) : wpAny M A (noteFrame (.ref e) env) Q E s := by
  obtain ⟨oe, vs, T, oT, ts, he, hc, hd, h1, hnT, hTe, hT, hdT, h3⟩ := ht
  unfold noteFrame
  simp only [hf]
  refine wpAny_bind (wpAny_field he hd h1 ?_)
  rw [if_pos (show (Value.ref T != Value.none) = true from by simp)]
  refine wpAny_bind (wpAny_field hT hdT h3 ?_)
  rw [if_neg (show ¬ ((Value.none == rawInt L) = true) from by simp [rawInt])]
  refine wpAny_bind (wpAny_setField hT hdT (Array.getElem?_eq_some_iff.mp h3).1 ?_)
  have other : ∀ b, b ≠ T → (s.heap.update T (Obj.mapFields (·.setIfInBounds 3 Value.none))).get? b = s.heap.get? b := fun b hb => Heap.get?_update_other _ _ (Ne.symm hb)
  have noRec : ∀ b o, s.heap.get? b = some o → (∀ vs, o.data ≠ .fields vs) → b ≠ T := fun b o hb hnf q => by
    rw [q, hT] at hb
    injection hb with hb
    subst hb
    exact hnf ts hdT
  refine d_entry hfr (hl.of_keeps fun b o hb hnf => ⟨o, (other b (noRec b o hb hnf)).trans hb, rfl⟩) hf ((other e (Ne.symm hTe)).trans he)
    (fun b o hbo => (other b fun q => by rw [q, hnT] at hbo; cases hbo).trans (hkb b o hbo)) hen hc hd (Array.getElem?_eq_some_iff.mp h1).1
    fun h' ⟨x1, x2, x3, x4⟩ => h h' ⟨x1, x2, x3, fun b o hb hnf => x4 b o ((other b (noRec b o hb hnf)).trans hb) hnf⟩
theorem d_flight {base : Heap} {l : List Env} {e C de : Addr} {fl : Value} {Q : Unit → Shared → Prop}
    (hkb : base.StaysIn s.heap) (hl : s.heap.FunFrames base l) (ht : DTr s.heap base e C de fl)
    (h : ∀ h', DSt base l e C de .none s.heap h' → Q () { s with heap := h' }) : wpAny M A (setFlight (.ref e) none) Q E s := by
  obtain ⟨oe, vs, T, oT, ts, he, hc, hd, h1, hnT, hTe, hT, hdT, h3⟩ := ht
  have hsz3 : 3 < ts.size := (Array.getElem?_eq_some_iff.mp h3).1
  have other : ∀ b, b ≠ T → (s.heap.update T (Obj.mapFields (·.setIfInBounds 3 ((none : Option Addr).elim Value.none fun f => rawInt f)))).get? b = s.heap.get? b :=
    fun b hb => Heap.get?_update_other _ _ (Ne.symm hb)
  have noRec : ∀ b o, s.heap.get? b = some o → (∀ vs, o.data ≠ .fields vs) → b ≠ T := fun b o hb hnf q => by
    rw [q, hT] at hb
    injection hb with hb
    subst hb
    exact hnf ts hdT
  unfold setFlight
  refine wpAny_bind (wpAny_field he hd h1 ?_)
  rw [if_pos (show (Value.ref T != Value.none) = true from by simp)]
  refine wpAny_setField hT hdT hsz3 (h _ ⟨fun b o hbo => (other b fun q => by rw [q, hnT] at hbo; cases hbo).trans (hkb b o hbo),
    hl.of_keeps fun b o hb hnf => ⟨o, (other b (noRec b o hb hnf)).trans hb, rfl⟩, ?_, fun b o hb hnf => ⟨o.slots, (other b (noRec b o hb hnf)).trans hb⟩⟩)
  exact ⟨oe, vs, T, _, _, (other e (Ne.symm hTe)).trans he, hc, hd, h1, hnT, hTe, Heap.get?_update_self _ hT (Obj.isFreed_of_fields (Obj.data_mapFields hdT _)), Obj.data_mapFields hdT _, by simp [hsz3]⟩
theorem d_leave1 {base : Heap} {env : Env} {outer : List Env} {L e C de : Addr} {oe : Obj} {vs : Array Value} {Q : Unit → Shared → Prop}
    (hfr : A.frames = some (env :: outer)) (hl : s.heap.FunFrames base (env :: outer)) (hf : env.frame = some L)
    (he : s.heap.get? e = some oe) (hkb : base.StaysIn s.heap) (hen : base.get? e = none) (hc : oe.cls = .ref C ∧ oe.dict = some de) (hd : oe.data = .fields vs) (h1 : vs[1]? = some .none)
    (h : ∀ h', DSt base (env :: outer) e C de .none s.heap h' → Q () { s with heap := h' }) : wpAny M A (leaving env (.ref e)) Q E s := by
  unfold leaving
  refine wpAny_bind (d_note1 hfr hl hf he hkb hen hc hd h1 fun h' ⟨a, b, c, d⟩ => ?_)
  exact d_flight a b c fun h2 ⟨a2, b2, c2, d2⟩ => h h2 ⟨a2, b2, c2, d.trans d2⟩
theorem d_leave {base : Heap} {env : Env} {outer : List Env} {L e C de : Addr} {Q : Unit → Shared → Prop}
    (hfr : A.frames = some (env :: outer)) (hl : s.heap.FunFrames base (env :: outer)) (hf : env.frame = some L) (ht : DTr s.heap base e C de .none) (hkb : base.StaysIn s.heap) (hen : base.get? e = none)
    (h : ∀ h', DSt base (env :: outer) e C de .none s.heap h' → Q () { s with heap := h' }) : wpAny M A (leaving env (.ref e)) Q E s := by
  unfold leaving
  refine wpAny_bind (d_note hfr hl hf ht hkb hen fun h' ⟨a, b, c, d⟩ => ?_)
  exact d_flight a b c fun h2 ⟨a2, b2, c2, d2⟩ => h h2 ⟨a2, b2, c2, d.trans d2⟩
end
def FlyD (base : Heap) (l : List Env) (e C de : Addr) (h : Heap) : Prop := base.StaysIn h ∧ base.get? e = none ∧ h.FunFrames base l ∧ DTr h base e C de .none
def RaisedD (base G : Heap) (l : List Env) (e C de : Addr) (news : List (Addr × Obj)) (h : Heap) : Prop :=
  ∃ B, base.StaysIn B ∧ (∀ b o, G.get? b = some o → b ∉ l.filterMap (·.frame) → B.get? b = some o) ∧ (∀ q ∈ news, B.get? q.1 = some q.2 ∧ G.get? q.1 = none ∧ base.get? q.1 = none) ∧ FlyD B l e C de h
theorem d_mem {env : Env} {L b : Addr} {outer : List Env} (hf : env.frame = some L) (hm : b ∈ (env :: outer).filterMap (·.frame)) : b = L ∨ b ∈ outer.filterMap (·.frame) := by
  obtain ⟨env', he, hf'⟩ := List.mem_filterMap.mp hm
  rcases List.mem_cons.mp he with rfl | he
  · exact .inl (Option.some.inj (hf.symm.trans hf')).symm
  · exact .inr (List.mem_filterMap.mpr ⟨env', he, hf'⟩)
section
variable {M : Model} {A : Around} {E : Value → Shared → Prop} {s' : Shared} {base g g₂ : Heap} {outer : List Env} {env : Env} {L e C de : Addr} {m : PySem.Str → Option Value} {Q : Unit → Shared → Prop} {news : List (Addr × Obj)}
theorem leave_raiseD {tp : Addr} (K : Below A base outer g) (hf : env.frame = some L) (hk : env.scope.kind = .function) (F : Fr g L s'.heap m) (N : News g L s'.heap ((e, excObjD C tp de) :: news)) (hne : ∀ q ∈ news, q.1 ≠ e)
    (hQ : ∀ h', RaisedD base g outer e C de news h' → g.UpToSlots h' → Q () { s' with heap := h' }) :
    wpAny M (A.deeper env) (leaving env (.ref e)) Q E s' := by
  have K' := pushX K F hf hk
  have Ne := N (e, excObjD C tp de) (.head _)
  have hgb : ∀ b, g.get? b = none → base.get? b = none := fun b q => fresh_of_stays K.stays q
  have hfs : ∀ b ∈ (env :: outer).filterMap (·.frame), b ≠ e := fun b hm q => by
    rcases d_mem hf hm with z | z
    · exact Ne.2.1 (q.symm.trans z)
    · obtain ⟨o, ho, _⟩ := (K.frames.mem z).2
      rw [q, Ne.2.2] at ho
      cases ho
  have hin : ∀ env' ∈ (env :: outer), ∀ b, env'.frame = some b → b ∈ e :: (env :: outer).filterMap (·.frame) := fun env' he b hb => .tail _ (List.mem_filterMap.mpr ⟨env', he, hb⟩)
  have st : base.StaysIn (hideAll s'.heap (e :: (env :: outer).filterMap (·.frame))) := fun b o q => hideAll_get _ (K'.stays b o q) fun hm => by
    rcases List.mem_cons.mp hm with z | z
    · rw [z, hgb _ Ne.2.2] at q
      cases q
    · rw [(K'.frames.mem z).1] at q
      cases q
  have sg : ∀ b o, g.get? b = some o → b ∉ outer.filterMap (·.frame) → (hideAll s'.heap (e :: (env :: outer).filterMap (·.frame))).get? b = some o := fun b o q nm => hideAll_get _ (F.keep b o q) fun hm => by
    rcases List.mem_cons.mp hm with z | z
    · rw [z, Ne.2.2] at q
      cases q
    · rcases d_mem hf z with z | z
      · rw [z, kts_self F] at q
        cases q
      · exact nm z
  have hl : ∀ q ∈ news, (hideAll s'.heap (e :: (env :: outer).filterMap (·.frame))).get? q.1 = some q.2 ∧ g.get? q.1 = none ∧ base.get? q.1 = none := fun q hq => by
    have Nq := N q (.tail _ hq)
    refine ⟨hideAll_get _ Nq.1 fun hm => ?_, Nq.2.2, hgb _ Nq.2.2⟩
    rcases List.mem_cons.mp hm with z | z
    · exact hne q hq z
    · rcases d_mem hf z with z | z
      · exact Nq.2.1 z
      · obtain ⟨o, ho, _⟩ := (K.frames.mem z).2
        rw [Nq.2.2] at ho
        cases ho
  refine d_leave1 (base := hideAll s'.heap (e :: (env :: outer).filterMap (·.frame))) K'.stack (funFrames_hide K'.frames hin) hf Ne.1 (fun b o q => of_hideAll _ q) (hideAll_none _ (.head _)) ⟨rfl, rfl⟩ rfl rfl fun h' ⟨a, b, c, d⟩ => ?_
  obtain ⟨_, _, b⟩ := b
  exact hQ h' ⟨_, st, sg, hl, a, hideAll_none _ (.head _), b, c⟩ ((Heap.UpToSlots.of_keeps F.keep).trans d)
theorem leave_onD (K : Below A base outer g) (hf : env.frame = some L) (F : Fr g L g₂ m) (R : RaisedD base g₂ (env :: outer) e C de news s'.heap) (hsm : g₂.UpToSlots s'.heap)
    (hQ : ∀ h', RaisedD base g outer e C de news h' → g.UpToSlots h' → Q () { s' with heap := h' }) :
    wpAny M (A.deeper env) (leaving env (.ref e)) Q E s' := by
  obtain ⟨B, hB, hBG, hl, f1, f2, f3, f4⟩ := R
  refine d_leave (Around.frames_deeper K.stack) f3 hf f4 f1 f2 fun h' ⟨a, b, c, d⟩ => ?_
  obtain ⟨_, _, b⟩ := b
  refine hQ h' ⟨B, hB, fun b o q nm => hBG b o (F.keep b o q) (fun hm => ?_), fun q hq => ⟨(hl q hq).1, kts_none F.keep (hl q hq).2.1, (hl q hq).2.2⟩, a, f2, b, c⟩ ((Heap.UpToSlots.of_keeps F.keep).trans (hsm.trans d))
  rcases d_mem hf hm with z | z
  · rw [z, kts_self F] at q
    cases q
  · exact nm z
end
end Mine
end
section
open PySem PySem.W PyProof.Rows PySem.Calls
namespace Mine
theorem walk_anew_9 : True := by
  w_top off
  trivial
theorem d_fresh {g G B : Heap} {L b : Addr} {m : PySem.Str → Option Value} {env : Env} {outer : List Env} (hf : env.frame = some L) (F : Fr g L G m) (hBG : ∀ b o, G.get? b = some o → b ∉ (env :: outer).filterMap (·.frame) → B.get? b = some o) (hb : B.get? b = none)
    (hnf : ∀ o, g.get? b = some o → b ∈ outer.filterMap (·.frame) → False) : g.get? b = none := by
  cases q : g.get? b with
  | none => rfl
  | some o =>
    by_cases hm : b ∈ outer.filterMap (·.frame)
    · exact (hnf o q hm).elim
    · have := hBG b o (F.keep b o q) (fun hm' => by
        rcases d_mem hf hm' with z | z
        · rw [z, kts_self F] at q
          cases q
        · exact hm z)
      rw [hb] at this
      cases this
section
variable {prog : Program} {w : World} {A₀ : Around} {E : Value → Shared → Prop} {s' : Shared} {base g G : Heap} {outer : List Env} {L a e C de : Addr} {m : PySem.Str → Option Value} {name : PySem.Str} {scope : Scope} {cd : Value}
  {n : PySem.Str} {b₀ : Stmt} {suite : List Stmt} {pos np : Pos} {rest : List ExceptHandler} {Q : Flow → Shared → Prop} {news : List (Addr × Obj)} {KF : Frag}
  {p : Program} {loose : List PySem.Str} {mean : ExcName → Option Value} {mg mb : PySem.Str → Option Value} {x : PySem.Str}
theorem caught_D (R : RaisedD base G (envOf name scope L a cd :: outer) e C de news s'.heap) (F : Fr g L G m) (K : Below A₀ base outer g) (hsm : G.UpToSlots s'.heap) (XB : KF.In base) (TB : Top p loose mean mg mb base)
    (D : KtsDicts (outer.filterMap (·.frame)) g)
    (ex : nsIn KF mainGlobals x = some (some (.ref C))) (q : ktsIn KF C "BaseException" = true)
    (k : ∀ h' g' oe vs tk, KtsTurn (outer.filterMap (·.frame)) g g' → Fr g' L h' (fun y => if y = n then some (.ref e) else m y) → oe.cls = .ref C → oe.dict = some de → oe.data = .fields vs → News g' L h' ((e, oe) :: news) → Below A₀ base outer g' → KF.In g' → Top p loose mean mg mb g' → KtsDicts (outer.filterMap (·.frame)) g' →
      wpAny (model prog w) ((A₀.deeper (envOf name scope L a cd)).mark (some (.ref e))) (execs (b₀ :: suite) (envOf name scope L a cd))
        (fun f s₄ => wpAny (model prog w) (A₀.deeper (envOf name scope L a cd)) (do bindName (envOf name scope L a cd) n .none; unbindBehindTheSuite (envOf name scope L a cd) n pos) (fun _ s₅ => Q f s₅) E s₄)
        (AsSuiteRaised (model prog w) ((A₀.deeper (envOf name scope L a cd)).mark (some (.ref e))) (envOf name scope L a cd) n pos (notedBy (model prog w) ((A₀.deeper (envOf name scope L a cd)).mark (some (.ref e))) (envOf name scope L a cd) (cameBackBy (model prog w) (A₀.deeper (envOf name scope L a cd)) (envOf name scope L a cd) E)))
        { s' with heap := h', toks := tk })
    (hk : scope.kind = .function := by rfl) (hlo : (envOf name scope L a cd).kindOf n = some .local := by rfl) (hx : (envOf name scope L a cd).kindOf x = some .globalImplicit := by rfl) (hd : (x == ("__debug__" : PySem.Str)) = false := by decide) :
    wpAny (model prog w) (A₀.deeper (envOf name scope L a cd)) (noteFrame (.ref e) (envOf name scope L a cd))
      (fun _ s₂ => wpAny (model prog w) (A₀.deeper (envOf name scope L a cd)) (setFlight (.ref e) none) (fun _ s₃ =>
        wpAny (model prog w) (A₀.deeper (envOf name scope L a cd)) (handleBy (.ref e) (envOf name scope L a cd) (.ExceptHandler (some (.Name x np)) (some n) (b₀ :: suite) pos :: rest)) Q E s₃) E s₂) E s' := by
  obtain ⟨B, hB, hBG, hl, f1, f2, f3, f4⟩ := R
  have hL : B.get? L = none := by
    obtain ⟨_, ⟨L', _, hf, hn', _⟩, _⟩ := f3
    obtain rfl : L = L' := Option.some.inj hf
    exact hn'
  refine d_note (Around.frames_deeper K.stack) f3 rfl f4 f1 f2 fun h₄ ⟨a4, b4, c4, sm4⟩ => ?_
  refine d_flight a4 b4 c4 fun h₅ ⟨a5, b5, c5, sm5'⟩ => ?_
  have hsm₅ := hsm.trans (sm4.trans sm5')
  obtain ⟨g₅, T₅, F₅, K₅⟩ := kts_ground K F hBG a5 hsm₅
  have X₅ : KF.In g₅ := XB.keeps K₅.stays
  have P₅ : TopRead p loose mg mb g₅ := topRead_of (TB.keeps K₅.stays)
  obtain ⟨nm, q', N, bs, bm, hdct, sn, sub, ab, col, dd, k0, k1, k2, k3, k5, newId, hC, hbase, hbT⟩ := kts_cls X₅ q
  have hC₅ := F₅.keep _ _ hC
  have hob : ∃ ob, h₅.get? e = some ob ∧ ob.cls = .ref C := by
    obtain ⟨oe, _, _, _, _, he, hc, _⟩ := c5
    exact ⟨oe, he, hc.1⟩
  obtain ⟨ob, hob, hobc⟩ := hob
  refine wpAny_handleBy_cons (codeAny_handlers_test (name_K F₅ X₅ P₅ ex ?_ hk hx hd)) (by intro q; cases q)
  refine wpAny_excMatches_sub_self hC₅ hob hobc hbase (codeAny_handlers_suite_as ?_)
  refine d_flight a5 b5 c5 fun h₆ ⟨a6, b6, c6, sm6'⟩ => ?_
  have hsm₆ := hsm₅.trans sm6'
  obtain ⟨g₆, T₆, F₆, K₆⟩ := kts_ground K F hBG a6 hsm₆
  obtain ⟨oe, ws, T, oT, ts, hoe, hoec, hoed, _⟩ := c6
  have ne₆ : g₆.get? e = none := T₆.none_ _ (d_fresh rfl F hBG f2 fun o ho m => by
    obtain ⟨_, o', ho', hd⟩ := K.frames.mem m
    rw [ho] at ho'
    cases ho'
    obtain ⟨sl, hs⟩ := hsm₆ _ _ (F.keep _ _ ho) hd
    rw [hoe] at hs
    cases hs
    exact hd _ hoed)
  have N₆ := News.more F₆ News.nil hoe (fun es n q => by rw [hoed] at q; cases q) ne₆
  have Nl : News g₆ L h₆ news := fun q hq => ⟨a6 _ _ (hl q hq).1, (fun z => by have := (hl q hq).1; rw [z, hL] at this; cases this), T₆.none_ _ (kts_none F.keep (hl q hq).2.1)⟩
  have X₆ : KF.In g₆ := XB.keeps K₆.stays
  have P₆ : Top p loose mean mg mb g₆ := TB.keeps K₆.stays
  have D₆ : KtsDicts (outer.filterMap (·.frame)) g₆ := D.turn T₆
  refine stN F₆ (news := (e, oe) :: news) (fun q hq => (List.mem_cons.mp hq).elim (fun z => z ▸ N₆ _ (.head _)) (Nl q)) (fun h₇ F₇ N₇ => ?_) hk hlo
  exact k h₇ g₆ oe ws _ T₆ F₇ hoec.1 hoec.2 hoed N₇ K₆ X₆ P₆ D₆
end
end Mine
end
section
open PySem PySem.W PyProof.Rows PySem.Calls
namespace Mine
theorem walk_anew_10 : True := by
  w_top off
  trivial
/-- leaving a def whose ground was turned by a catch -/
def LeaveT (A₀ : Around) (base : Heap) (outer : List Env) (K : Frag) (p : Program) (loose : List PySem.Str) (mean : ExcName → Option Value) (mg mb : PySem.Str → Option Value) (fs : List Addr)
    (h₀ : Heap) (L : Addr) (m : PySem.Str → Option Value) (g : Heap) (R : Result → Shared → Prop) (v : Value) (s' : Shared) : Prop :=
  ∃ g' L' m' news', KtsTurn fs g g' ∧ Fr g' L' s'.heap m' ∧ News g' L' s'.heap news' ∧
    ∀ h₀', KtsTurn (outer.filterMap (·.frame)) h₀ h₀' → Fr h₀' L s'.heap m → News h₀' L s'.heap news' → Below A₀ base outer h₀' → K.In h₀' → Top p loose mean mg mb h₀' → KtsDicts (outer.filterMap (·.frame)) h₀' → R (.ok (.ret v)) s'
theorem leaveT_ {A₀ : Around} {base : Heap} {outer : List Env} {K : Frag} {p : Program} {loose : List PySem.Str} {mean : ExcName → Option Value} {mg mb : PySem.Str → Option Value} {fs : List Addr}
    {h₀ : Heap} {L : Addr} {m : PySem.Str → Option Value} {g : Heap} {R : Result → Shared → Prop} {v : Value} {s' : Shared} {g' : Heap} {L' : Addr} {m' : PySem.Str → Option Value} {news' : List (Addr × Obj)}
    (F' : Fr g' L' s'.heap m') (N' : News g' L' s'.heap news') (T : KtsTurn fs g g')
    (k : ∀ h₀', KtsTurn (outer.filterMap (·.frame)) h₀ h₀' → Fr h₀' L s'.heap m → News h₀' L s'.heap news' → Below A₀ base outer h₀' → K.In h₀' → Top p loose mean mg mb h₀' → KtsDicts (outer.filterMap (·.frame)) h₀' → R (.ok (.ret v)) s') :
    LeaveT A₀ base outer K p loose mean mg mb fs h₀ L m g R v s' := ⟨g', L', m', news', T, F', N', k⟩
section
variable {prog : Program} {w : World} {A₀ A : Around} {s : Shared} {base h₀ : Heap} {outer : List Env} {L : Addr} {m : PySem.Str → Option Value} {env : Env} {news : List (Addr × Obj)} {K : Frag}
  {p : Program} {loose : List PySem.Str} {mean : ExcName → Option Value} {mg mb : PySem.Str → Option Value}
theorem groundT {R : Result → Shared → Prop} (B : Below A₀ base outer h₀) (F : Fr h₀ L s.heap m) (N : News h₀ L s.heap news) (hA : A.frames = some (env :: outer)) (hf : env.frame = some L) (hke : env.scope.kind = .function)
    (XB : K.In base) (TB : Top p loose mean mg mb base) (D : KtsDicts (outer.filterMap (·.frame)) h₀) :
    Fr h₀ L (hideAll s.heap (news.map (·.1))) m ∧ Below A base (env :: outer) (hideAll s.heap (news.map (·.1))) ∧ h₀.StaysIn (hideAll s.heap (news.map (·.1))) ∧
      KtsDicts ((env :: outer).filterMap (·.frame)) (hideAll s.heap (news.map (·.1))) ∧
      ∀ v s', LeaveT A₀ base outer K p loose mean mg mb ((env :: outer).filterMap (·.frame)) h₀ L m (hideAll s.heap (news.map (·.1))) R v s' → R (.ok (.ret v)) s' := by
  obtain ⟨FG, BG, st, _⟩ := groundX (R := R) B F N hA hf hke
  obtain ⟨oL, es, ep, hLg, hLd, hLk, hLf⟩ := FG.ns
  have nL₀ : h₀.get? L = none := kts_self F
  refine ⟨FG, BG, st, fun b hb => ?_, fun v s' hl => ?_⟩
  · rcases d_mem hf hb with z | hb
    · rw [z]
      exact ⟨oL, es, ep, hLg, hLd⟩
    · obtain ⟨o, es', n', ho', hd'⟩ := D b hb
      exact ⟨o, es', n', st b o ho', hd'⟩
  · obtain ⟨g', L', m', news', T', F', N', k⟩ := hl
    obtain ⟨sl, hs⟩ := T'.up hLg
    obtain ⟨T₁, S₁⟩ := kts_turn_at (h := s'.heap) (fs := outer.filterMap (·.frame)) (g := h₀)
      (fun b hb => by
        obtain ⟨_, o, ho', _⟩ := B.frames.mem hb
        exact ⟨o, ho'⟩)
      (fun b o e nmem => F'.keep b o (T'.other b o (st b o e) (fun q => by
        rcases d_mem hf q with z | z
        · rw [z, nL₀] at e
          cases e
        · exact nmem z)))
      (fun b o e hm => by
        obtain ⟨sl', hs'⟩ := T'.up (st b o e)
        exact ⟨sl', F'.keep _ _ hs'⟩)
    have B₃ : Below A₀ base outer (ktsHeap s'.heap (outer.filterMap (·.frame)) h₀) := ⟨B.stack, fun b o e => T₁.other b o (B.stays b o e) (fun hm => by
      rw [(B.frames.mem hm).1] at e
      cases e), B.frames.of_keeps fun b o e _ => by
      obtain ⟨sl', hs'⟩ := T₁.up e
      exact ⟨_, hs', rfl⟩⟩
    refine k _ T₁ ⟨⟨_, es, ep, F'.keep _ _ hs, hLd, hLk, hLf⟩, S₁, by rw [T₁.size]; exact F.above⟩ (fun q hq => ⟨(N' q hq).1, fun z => ?_, ?_⟩) B₃ (XB.keeps B₃.stays) (TB.keeps B₃.stays) (D.turn T₁)
    · have := (N' q hq).2.2
      rw [z, hs] at this
      cases this
    · refine T₁.none_ _ ?_
      cases z : h₀.get? q.1 with
      | none => rfl
      | some o =>
        obtain ⟨sl', hs'⟩ := T'.up (st _ _ z)
        have := (N' q hq).2.2
        rw [hs'] at this
        cases this
section
variable {R : Result → Shared → Prop} {name qual : PySem.Str} {params : Arguments} {body : List Stmt} {scope : Scope} {dV kV doc pm cdv ct oc : Value} {an od : Option Addr} {osl : Array (Option Value)} {f : Addr} {args : Args} {binds : List (PySem.Str × Value)}
theorem code_defT (B : Below A₀ base outer h₀) (F : Fr h₀ L s.heap m) (X₀ : K.In h₀) (N : News h₀ L s.heap news) (T : Top p loose mean mg mb h₀)
    (XB : K.In base) (TB : Top p loose mean mg mb base) (D : KtsDicts (outer.filterMap (·.frame)) h₀) (hA : A.frames = some (env :: outer)) (hf : env.frame = some L) (hke : env.scope.kind = .function)
    (ho : K.lookup f = some ⟨oc, od, .func (fnOf name qual params body scope dV kV doc pm an cdv ct), osl⟩) (hcd : codeIn K cdv qual = true) (hroom : A.depth < recursionLimit)
    (hbind : BindsTo s (fnOf name qual params body scope dV kV doc pm an cdv ct) args binds) (hloc : ∀ y ∈ binds, scope.names.lookup y.1 = some .local)
    (h : ∀ g L' h₁, Fr h₀ L g m → Fr g L' h₁ (fun y => binds.reverse.lookup y) → News g L' h₁ news → Below A base (env :: outer) g → K.In g → Top p loose mean mg mb g → KtsDicts ((env :: outer).filterMap (·.frame)) g →
      wpAny (model prog w) (A.deeper (envOf qual scope L' f cdv)) (execs body (envOf qual scope L' f cdv))
        (fun fl s' => LeaveT A₀ base outer K p loose mean mg mb ((env :: outer).filterMap (·.frame)) h₀ L m g R (match fl with | .ret v => v | _ => .none) s')
        (fun e s' => wpAny (model prog w) (A.deeper (envOf qual scope L' f cdv)) (leaving (envOf qual scope L' f cdv) e) (fun _ s'' => R (.error e) s'') (fun e' s'' => R (.error e') s'') s')
        { s with heap := h₁, toks := s.toks + binds.length })
    (hco : scope.isCoroutine = false) (hgen : scope.isGenerator = false) (hk : scope.kind = .function)
    (hcell : ∀ x ∈ scope.names, x.2 ≠ .cell) : codeAny (model prog w) A (.call (.ref f) args) R s := by
  obtain ⟨FG, BG, st, DG, lv⟩ := groundT (R := R) B F N hA hf hke XB TB D
  have X := X₀.keeps F.keep
  refine codeAny_call_def (fd := fnOf name qual params body scope dV kV doc pm an cdv ct) (body := body) (binds := binds) hroom (X _ _ ho) rfl (T.nolimit.keeps F.keep) (codeRec_of X hcd) rfl hbind hcell hloc (fun h₁ hns hk₁ => ?_) hco hgen hk
  exact wpAny_mono (h _ s.heap.objs.size h₁ FG ⟨hns, fun b o e => hk₁ b o (of_hideAll _ e), Nat.le_of_eq (hideAll_size _ _)⟩
    (fun q hq => ⟨hk₁ _ _ (N q hq).1, Nat.ne_of_lt (Heap.lt_size (N q hq).1), hideAll_none _ (List.mem_map_of_mem hq)⟩) BG (X₀.keeps st) (T.keeps st) DG) (fun fl s' hl => lv _ _ hl) fun _ _ y => y
theorem code_defCT (B : Below A₀ base outer h₀) (F : Fr h₀ L s.heap m) (X₀ : K.In h₀) (N : News h₀ L s.heap news) (T : Top p loose mean mg mb h₀)
    (XB : K.In base) (TB : Top p loose mean mg mb base) (D : KtsDicts (outer.filterMap (·.frame)) h₀) (hA : A.frames = some (env :: outer)) (hf : env.frame = some L) (hke : env.scope.kind = .function)
    (ho : K.lookup f = some ⟨oc, od, .func (fnOf name qual params body scope dV kV doc pm an cdv ct), osl⟩) (hcd : codeIn K cdv qual = true) (hroom : A.depth < recursionLimit)
    (hbind : BindsTo s (fnOf name qual params body scope dV kV doc pm an cdv ct) args binds) (hkind : (binds.all fun y => scope.names.lookup y.1 == some .local || scope.names.lookup y.1 == some .cell) = true)
    (hnd : ((cellsFrom 0 scope.names []).map (·.1)).Nodup)
    (h : ∀ g L' h₁ tk cells, Fr h₀ L g m → Fr g L' h₁ (bindL (envOfC qual scope L' f cdv).kindOf binds fun _ => none) → News g L' h₁ (cells ++ news) →
      CellsAre (bindC (envOfC qual scope L' f cdv).kindOf binds fun _ => none) (cellsFrom (L' + 1) scope.names []) cells → Below A base (env :: outer) g → K.In g → Top p loose mean mg mb g → KtsDicts ((env :: outer).filterMap (·.frame)) g → (∀ p ∈ news, p.1 < L') →
      wpAny (model prog w) (A.deeper (envOfC qual scope L' f cdv)) (execs body (envOfC qual scope L' f cdv))
        (fun fl s' => LeaveT A₀ base outer K p loose mean mg mb ((env :: outer).filterMap (·.frame)) h₀ L m g R (match fl with | .ret v => v | _ => .none) s')
        (fun e s' => wpAny (model prog w) (A.deeper (envOfC qual scope L' f cdv)) (leaving (envOfC qual scope L' f cdv) e) (fun _ s'' => R (.error e) s'') (fun e' s'' => R (.error e') s'') s')
        { s with heap := h₁, toks := tk })
    (hco : scope.isCoroutine = false) (hgen : scope.isGenerator = false) (hk : scope.kind = .function) : codeAny (model prog w) A (.call (.ref f) args) R s := by
  obtain ⟨FG, BG, st, DG, lv⟩ := groundT (R := R) B F N hA hf hke XB TB D
  have X := X₀.keeps F.keep
  refine codeAny_call_function hroom (X _ _ ho) rfl hco hgen rfl (codeRec_of X hcd) (hbind _ _ _ _ ?_)
  refine wpAny_newFunctionEnv_cells hk (kindsX hkind _) fun env' he s' x => ?_
  subst he
  refine ⟨(T.nolimit.keeps F.keep).keeps x.toInCall.keep, codeAny_func ?_⟩
  obtain ⟨h₁, tk, rfl, _⟩ := x.done
  have hk₁ := x.toInCall.keep
  obtain ⟨cells, NC, Y⟩ := Cl.news (h₀ := s.heap) (Nat.le_refl _) fun n c hm => ⟨x.cell n c (lookup_of_mem_nodup (cellsFrom_names scope.names 0 (s.heap.objs.size + 1) [] [] rfl ▸ hnd) hm), x.above n c hm⟩
  refine wpAny_mono (h _ s.heap.objs.size h₁ tk cells FG ⟨x.toInCall.ns, fun b o e => hk₁ b o (of_hideAll _ e), Nat.le_of_eq (hideAll_size _ _)⟩ (fun q hq => ?_) Y BG (X₀.keeps st) (T.keeps st) DG (fun q hq => Heap.lt_size (N q hq).1)) (fun fl s' hl => lv _ _ hl) fun _ _ y => y
  rcases List.mem_append.mp hq with hq | hq
  · refine ⟨(NC q hq).1, (NC q hq).2.1, ?_⟩
    cases z : (hideAll s.heap (news.map (·.1))).get? q.1 with
    | none => rfl
    | some o =>
      have := of_hideAll _ z
      rw [(NC q hq).2.2] at this
      cases this
  · exact ⟨hk₁ _ _ (N q hq).1, Nat.ne_of_lt (Heap.lt_size (N q hq).1), hideAll_none _ (List.mem_map_of_mem hq)⟩
end
end
end Mine
end
section
open PySem PySem.W PyProof.Rows PySem.Calls
open Mine
local macro_rules | `(tactic| k_all) => `(tactic| first | with_reducible assumption | exact ne_of_allLt (by with_reducible assumption) | exact ne_of_ltAll (by with_reducible assumption))
local macro_rules | `(tactic| k_room) => `(tactic| ktr_room)
local macro_rules | `(tactic| walk_at "p8") => `(tactic| ((case k1 | k2 | k3 | k4 | k5 => k_asm); (case k6 => first | rfl | assumption); (case k8 => ktr_units); (case k7 => first | decide | ((simp only [depth_under_make, depth_under_kw, depth_in1, depth_deeper, depth_caller]); first | decide | omega))))
local macro_rules | `(tactic| walk_at "pE") => `(tactic| ((case kA | kF => exact rfl); (case kK => first | exact rfl | assumption); (case k1 | k2 | k3 | k4 | k5 => k_asm); (case k6 | k7 => k_is); (case k8 => k_room); (case k9 => first | exact BindsTo.of_eq rfl | exact binds_K (by k_in) rfl (by k_is) rfl rfl rfl)))
local macro_rules | `(tactic| k_ne) => `(tactic| (refine neN ?_; (try dsimp only); first | exact Nat.ne_of_lt (by with_reducible assumption) | exact Nat.ne_of_gt (by with_reducible assumption) | decide | omega))
local macro_rules | `(tactic| k_lt $h:ident) => `(tactic| (replace $h:ident := allLt_of $h:ident; repeat (first | (refine ltZ $h:ident ?_; clear $h:ident; intro $h:ident) | (refine lt8 $h:ident ?_; clear $h:ident; intro _ _ _ _ _ _ _ _ $h:ident) | (refine lt4 $h:ident ?_; clear $h:ident; intro _ _ _ _ $h:ident) | (refine lt2 $h:ident ?_; clear $h:ident; intro _ _ $h:ident) | (refine lt1 $h:ident ?_; clear $h:ident; intro _ $h:ident))))
local macro_rules | `(tactic| k_enter) => `(tactic| (refine' code_defC ?k1 ?k2 ?k3 ?k4 ?k5 ?kA ?kF ?kK ?k6 ?k7 ?k8 ?k9 ?kB ?kD ?_ ?c2 ?c3 ?c4; walk_at "pE"; (case kB => exact rfl); (case kD => decide +kernel); (case c2 | c3 | c4 => exact rfl); k_whole; intro g' L' h' tk' cells' FG' F' N' Y' B' X' T' l1; (try k_lt l1); k_cells Y'; (try simp only [List.cons_append, List.nil_append] at N'); (try dsimp only); (try k_lift B'); (try k_fold)))
local macro_rules | `(tactic| k_enter) => `(tactic| first | (refine' code_def ?k1 ?k2 ?k3 ?k4 ?k5 ?kA ?kF ?kK ?k6 ?k7 ?k8 ?k9 ?kB ?_ ?c2 ?c3 ?c4 ?c5; walk_at "pE"; (case c5 => decide); (case kB => exact locs rfl); (case c2 | c3 | c4 => exact rfl); k_whole; intro g' L' h' FG' F' N' B' X' T'; (try dsimp only); (try k_lift B'); (try k_fold)) | fail)
local macro_rules | `(tactic| walk_at "call ref") => `(tactic| (k_here; (with_reducible show wpAny _ _ (call (Value.ref 58) [_] []) _ _ _); k_dflt (refine' code_ok ?k1 ?k2 ?k3 ?k4 ?k5 ?k6 ?k7 ?k8 ?_; walk_at "p8"; k_whole; intro t' h' tk' F' N'; (try k_sweep))))
local macro_rules | `(tactic| walk_at "call ref") => `(tactic| (k_here; (with_reducible show wpAny _ _ (call (Value.ref 51) [_] []) _ _ _); k_dflt (refine' number_ok ?k1 ?k2 ?k3 ?k4 ?k5 ?k6 ?k7 ?k8 ?_; walk_at "p8"; k_whole; intro t' h' tk' F' N'; (try k_sweep))))
section
open PySem PySem.W PyProof.Rows PySem.Calls
namespace Mine
theorem walk_anew_11 : True := by
  w_top off
  trivial
/-- what is known of a World's dict -/
structure WIs (es : List DictEntry) (hd : Int) (isH : Bool) (el : Int) (ec : PySem.Str) : Prop where
  handler : ∃ t, getL (PySem.Str.ofString "handler") es = some (some (.int hd t))
  isH : getL (PySem.Str.ofString "is_handling") es = some (some (.bool isH))
  line : ∃ t, getL (PySem.Str.ofString "error_line") es = some (some (.int el t))
  code : ∃ t, getL (PySem.Str.ofString "error_code") es = some (some (.str ec t))
  len : es.length ≤ 100
structure CIs (es : List DictEntry) (fa : Int) : Prop where
  failed : ∃ t, getL (PySem.Str.ofString "failed_at") es = some (some (.int fa t))
  len : es.length ≤ 100
theorem News.drop1 {h₀ h : Heap} {L : Addr} {p : Addr × Obj} {l : List (Addr × Obj)} (N : News h₀ L h (p :: l)) : News h₀ L h l := fun q hq => N q (.tail _ hq)
/-- all other names of an attribute dict stay -/
def KeepL (name : Str) (es es' : List DictEntry) : Prop := ∀ x r, x ≠ name → getL x es = r → getL x es' = r
theorem KeepL.at_ {name x : Str} {es es' : List DictEntry} {r : Option (Option Value)} (k : KeepL name es es') (h : x ≠ name) (e : getL x es = r) : getL x es' = r := k x r h e
/-- an attribute dict that bears no name but these -/
def NewD (ns : List Str) (es : List DictEntry) : Prop := (∀ x, x ∉ ns → getL x es = some none) ∧ es.length ≤ ns.length
theorem NewD.nil : NewD [] [] := ⟨fun _ _ => rfl, Nat.le_refl _⟩
theorem putL_len_le (name : Str) (hsh : Int) (key v : Value) : ∀ es : List DictEntry, (putL name hsh key v es).length ≤ es.length + 1
  | [] => Nat.le_refl _
  | e :: r => by
    unfold putL
    split
    · exact Nat.le_succ _
    · rw [List.length_cons, List.length_cons]
      exact Nat.succ_le_succ (putL_len_le name hsh key v r)
theorem set_new {prog : Program} {w : World} {A : Around} {E : Value → Shared → Prop} {hq : Heap} {gs : Array GenState} {dr : Drawn} {tk : Nat} {os : OsState} {K : Frag} {h₀ : Heap} {L x C dx : Addr} {m : Str → Option Value} {news : List (Addr × Obj)} {ox : Obj} {es : List DictEntry} {n : Nat} {ns : List Str} {name : Str} {v : Value} {g : Obj → List (Addr × Obj)}
    {Q : Unit → Shared → Prop} (F : Fr h₀ L hq m) (X₀ : K.In h₀) (N : News h₀ L hq news) (I : InstAt hq x ox C (some (dictOf es n))) (hd : ox.dict = some dx)
    (hs : findIn K (.ref C) "__setattr__" = some (some (.builtin "object.__setattr__"))) (hp : plainOver K C = true) (ht : takerIn K C name = some none) (hh : hasDictIn K C = true) (D : NewD ns es) (hn : name ∉ ns) (hz : ns.length ≤ 98)
    (U : UpdF dx (dictOf es n) news g)
    (h : ∀ h' es' n' tk', Fr h₀ L h' m → News h₀ L h' (g (dictOf es' n')) → getL name es' = some (some v) → KeepL name es es' → NewD (name :: ns) es' → Q () ⟨h', gs, dr, tk', os⟩) :
    wpAny (model prog w) A (setAttr (.ref x) name v) Q E ⟨hq, gs, dr, tk, os⟩ := by
  obtain ⟨pre, post, rfl, hg, h1, h2⟩ := U.split
  have hl := D.1 name hn
  have hlen := putL_len_le name (PyData.keyHash w.params name) (.str name (tk + 1)) v es
  have upd : ∀ {pre : List (Addr × Obj)} {o' : Obj}, (∀ p ∈ pre, p.1 ≠ dx) → Upd dx (dictOf es n) o' (pre ++ (dx, dictOf es n) :: post) (pre ++ (dx, o') :: post) := by
    intro pre o' hpre
    induction pre with
    | nil => exact .head h2
    | cons q r ih => exact .tail (hpre q (.head _)) (ih fun p hp => hpre p (.tail _ hp))
  refine set_dict F X₀ N I hd hs hp ht hh (getL_isSome hl) rfl (upd h1) (by have := D.2; dsimp only at hlen ⊢; omega) fun h' F' N' => ?_
  refine h h' _ _ _ F' (by rw [hg]; exact N') (getL_put_same ..) (fun y r hy e => getL_put_ne hy e) ⟨fun y hy => ?_, ?_⟩
  · rw [List.mem_cons, not_or] at hy
    exact getL_put_ne hy.1 (D.1 y hy.2)
  · have := D.2
    rw [List.length_cons]
    dsimp only at hlen ⊢
    omega
section
local macro_rules | `(tactic| walk_at "eval Dict nil nil") => `(tactic| (k_here; k_dflt (refine' newDict_K ?k1 ?k2 (TopRead.nolimit (by k_asm)) ?_; (case k1 | k2 => k_asm); k_whole); intro d' h' o' F' N' _ _ _ _ _ _; replace N' := News.drop1 N'; (try dsimp only); (try k_sweep)))
local macro_rules | `(tactic| walk_at "newList") => `(tactic| (k_here; k_dflt (refine' newList_K ?k1 ?k2 ?_; (case k1 | k2 => k_asm); k_whole); intro l' h' F' N' _; replace N' := News.drop1 N'; (try dsimp only); (try k_sweep)))
local macro_rules | `(tactic| k_get) => `(tactic| first | with_reducible assumption | exact KeepL.at_ (by with_reducible assumption) (by decide +kernel) (by k_get))
local macro_rules | `(tactic| walk_at "setAttr ref") => `(tactic| (k_here; k_dflt (refine' set_new ?k1 ?k2 ?k3 ?k4 ?k5 ?k6 ?k7 ?k8 ?k9 ?k10 ?k11 ?k12 ?k13 ?_; (case k1 | k2 | k3 => k_asm); (case k4 => k_inst); (case k5 => exact rfl); (case k6 => k_is); (case k7 => k_is); (case k8 => k_is); (case k9 => k_is); (case k10 => assumption); (case k11 => decide +kernel); (case k12 => exact Nat.le_of_ble_eq_true rfl); (case k13 => k_updF); k_whole; intro h' es' n' tk' F' N' he' hk' hD'; (try clear hD); (try dsimp only at N'); (try k_sweep))))
set_option maxHeartbeats 8000000 in
theorem world_ok {prog : Program} {w : World} {p : Program} {loose : List Str} {mean : ExcName → Option Value} {mg mb : Str → Option Value}
    {dp un : Nat} {gd : Option (List Code)} {cn : Str} {cs : Scope} {a : Addr} {ccd : Value} {cl : List (Str × Addr)} {outer : List Env} {A₀ : Around} {base h₀ : Heap} {L : Addr} {m : Str → Option Value} {s : Shared}
    {Q E : Value → Shared → Prop} {news : List (Addr × Obj)}
    (B : Below A₀ base outer h₀) (F : Fr h₀ L s.heap m) (X : (Mine.hd.heap_1 w.params).In h₀)
    (N : News h₀ L s.heap news) (T : Top p loose mean mg mb h₀) (hk : cs.kind = .function)
    (hdp : dp + 5 < recursionLimit) (hun : un + 100 < cLine)
    (ret : ∀ x dx es n h' tk', Fr h₀ L h' m → News h₀ L h' ((dx, dictOf es n) :: (x, instObj 146 dx) :: news) → WIs es 0 false 0 (PySem.Str.ofString "") → (∀ p ∈ news, p.1 < dx) → dx < x → Q (.ref x) { s with heap := h', toks := tk' }) :
    wpAny (model prog w) (ktrTop dp un gd cn cs L a ccd cl outer) (call (.ref 146) [] []) Q E s := by
  refine' call_cls ?k1 ?k2 ?k3 ?k4 ?k5 ?k6 ?_
  case k1 => k_asm
  case k2 => k_asm
  case k3 => k_asm
  case k4 => k_is
  case k5 => k_is
  case k6 => k_is
  intro x' d' h' F' N' l1 l2
  have l3 := l1
  k_lt l1
  k_lt2 l2
  k_sweep
  k_dflt k_enter
  have hD0 := NewD.nil
  k_steps
  refine' ret x' d' _ _ _ _ ?r1 ?r2 ?r3 l3 l2
  case r1 => k_asm
  case r2 => exact news_pick2 (by k_asm) (by k_mem) (by k_mem) (by intro p hp; repeat (first | exact hp | apply List.Mem.tail))
  case r3 => exact ⟨⟨_, by k_get⟩, by k_get, ⟨_, by k_get⟩, ⟨_, by k_get⟩, Nat.le_trans (And.right (by assumption : NewD _ _)) (Nat.le_of_ble_eq_true rfl)⟩
set_option maxHeartbeats 8000000 in
theorem control_ok {prog : Program} {w : World} {p : Program} {loose : List Str} {mean : ExcName → Option Value} {mg mb : Str → Option Value}
    {dp un : Nat} {gd : Option (List Code)} {cn : Str} {cs : Scope} {a : Addr} {ccd : Value} {cl : List (Str × Addr)} {outer : List Env} {A₀ : Around} {base h₀ : Heap} {L : Addr} {m : Str → Option Value} {s : Shared}
    {Q E : Value → Shared → Prop} {news : List (Addr × Obj)} {mo : Int} {t1 : Tok}
    (B : Below A₀ base outer h₀) (F : Fr h₀ L s.heap m) (X : (Mine.hd.heap_1 w.params).In h₀)
    (N : News h₀ L s.heap news) (T : Top p loose mean mg mb h₀) (hk : cs.kind = .function)
    (hdp : dp + 5 < recursionLimit) (hun : un + 100 < cLine)
    (ret : ∀ x dx es n h' tk', Fr h₀ L h' m → News h₀ L h' ((dx, dictOf es n) :: (x, instObj 75 dx) :: news) → CIs es (-1) → (∀ p ∈ news, p.1 < dx) → dx < x → Q (.ref x) { s with heap := h', toks := tk' }) :
    wpAny (model prog w) (ktrTop dp un gd cn cs L a ccd cl outer) (call (.ref 75) [.int mo t1] []) Q E s := by
  refine' call_cls ?k1 ?k2 ?k3 ?k4 ?k5 ?k6 ?_
  case k1 => k_asm
  case k2 => k_asm
  case k3 => k_asm
  case k4 => k_is
  case k5 => k_is
  case k6 => k_is
  intro x' d' h' F' N' l1 l2
  have l3 := l1
  k_lt l1
  k_lt2 l2
  k_sweep
  k_dflt k_enter
  have hD0 := NewD.nil
  k_steps
  refine' ret x' d' _ _ _ _ ?r1 ?r2 ?r3 l3 l2
  case r1 => k_asm
  case r2 => exact news_pick2 (by k_asm) (by k_mem) (by k_mem) (by intro p hp; repeat (first | exact hp | apply List.Mem.tail))
  case r3 => exact ⟨⟨_, by k_get⟩, Nat.le_trans (And.right (by assumption : NewD _ _)) (Nat.le_of_ble_eq_true rfl)⟩
end
end Mine
end
section
local macro_rules | `(tactic| walk_at "no such key") => `(tactic| skip)
local macro_rules | `(tactic| walk_at "no such key") => `(tactic| skip)
open PySem PySem.W PyProof.Rows PySem.Calls
namespace Mine
theorem walk_anew_12 : True := by
  w_top off
  trivial
/-- a function of the ledger -/
def FnAtAll (f : Addr) (news : List (Addr × Obj)) : Prop := ∃ oc od fd sl, (f, (⟨oc, od, .func fd, sl⟩ : Obj)) ∈ news
theorem FnAtAll.at_ {f L : Addr} {g h : Heap} {news : List (Addr × Obj)} (X : FnAtAll f news) (N : News g L h news) : FnAt f h := by
  obtain ⟨_, _, _, _, hm⟩ := X
  exact FnAt.of N hm
/-- a deed that ended well -/
def DeedQ (g : Heap) (L : Addr) (m : Str → Option Value) (s₀ : Shared) (P : List (Addr × Obj) → Prop) : Value → Shared → Prop := fun _ s =>
  ∃ h tk news, s = { s₀ with heap := h, toks := tk } ∧ Fr g L h m ∧ News g L h news ∧ P news
/-- a deed that raised a BasicError -/
def DeedE (base g : Heap) (L : Addr) (m : Str → Option Value) (l : List Env) (s₀ : Shared) (P : List (Addr × Obj) → Str → Prop) : Value → Shared → Prop := fun v s =>
  ∃ h tk news e de es n c t G, v = .ref e ∧ s = { s₀ with heap := h, toks := tk } ∧ Fr g L G m ∧ G.UpToSlots h ∧ RaisedD base G l e 34 de ((de, dictOf es n) :: news) h ∧ getL (Str.ofString "code") es = some (some (.str c t)) ∧ P news c
section
local macro_rules | `(tactic| walk_at "pX") => `(tactic| ((case XB | TB | D => assumption)))
local macro_rules | `(tactic| k_get) => `(tactic| with_reducible assumption)
local macro_rules | `(tactic| k_enter) => `(tactic| first | (refine' code_defT ?k1 ?k2 ?k3 ?k4 ?k5 ?XB ?TB ?D ?kA ?kF ?kK ?k6 ?k7 ?k8 ?k9 ?kB ?_ ?c2 ?c3 ?c4 ?c5; walk_at "pE"; walk_at "pX"; (case c5 => decide); (case kB => exact locs rfl); (case c2 | c3 | c4 => exact rfl); k_whole; intro g' L' h' FG' F' N' B' X' T' D'; (try dsimp only); (try k_lift B'); (try k_fold)) | fail)
local macro_rules | `(tactic| walk_at "getAttr ref") => `(tactic| (k_here; k_dflt (refine' exc_getattr ?k1 ?k2 ?k3 ?k4 ?k5 ?k6 ?k7 ?k8 ?_; (case k2 => exact excInstO (by k_asm) (by k_mem) (by k_mem)); (case k1 => exact Frag.In.keeps (by assumption) (Fr.keep (by assumption))); (case k3 => k_is); (case k4 => rfl); (case k5 => k_is); (case k6 => k_is); (case k7 => exact findObj_own (by k_is) (by k_is) (by k_is) (by first | k_get | (show getL _ _ = _; k_get))); (case k8 => k_handed); k_whole)))
local macro_rules | `(tactic| walk_at "callWith ref") => `(tactic| (k_here; k_dflt (refine' callWith_F0 ?k1 ?_; (case k1 => exact FnAtAll.at_ (by assumption) (by k_asm)); k_whole; try dsimp only [List.nil_append, List.cons_append])))
theorem excInstO {h₀ h : Heap} {L x C de : Addr} {vs : Array Value} {sl : Array (Option Value)} {od : Obj} {news : List (Addr × Obj)} (N : News h₀ L h news) (hx : (x, (⟨.ref C, some de, .fields vs, sl⟩ : Obj)) ∈ news) (hd : (de, od) ∈ news) : InstAt h x ⟨.ref C, some de, .fields vs, sl⟩ C (some od) := ⟨(N _ hx).1, rfl, rfl, (N _ hd).1⟩
set_option maxHeartbeats 8000000 in
theorem law_code_ok {w : World} {p : Program} {loose : List Str} {mean : ExcName → Option Value} {mg mb : Str → Option Value}
    {dp un : Nat} {gd : Option (List Code)} {cn : Str} {cs : Scope} {a : Addr} {ccd : Value} {cl : List (Str × Addr)} {outer : List Env} {A₀ : Around} {base h₀ : Heap} {L : Addr} {m : Str → Option Value} {s : Shared}
    {Q E : Value → Shared → Prop} {news : List (Addr × Obj)} {f : Addr} {Pq : List (Addr × Obj) → Prop} {Pe : List (Addr × Obj) → Str → Prop}
    (B : Below A₀ base outer h₀) (F : Fr h₀ L s.heap m) (X : (Mine.hd.heap_1 w.params).In h₀)
    (N : News h₀ L s.heap news) (T : Top p loose mean mg mb h₀) (XB : (Mine.hd.heap_1 w.params).In base) (TB : Top p loose mean mg mb base) (D : KtsDicts (outer.filterMap (·.frame)) h₀) (hk : cs.kind = .function)
    (hdp : dp + 15 < recursionLimit) (hun : un + 200 < cLine)
    (hfn : FnAtAll f news)
    (hdeed : ∀ cn' cs' a' ccd' g' L' h' m' tk' un', cs'.kind = .function → un' ≤ un + 50 → Fr g' L' h' m' → News g' L' h' news → Below (ktrTop dp un gd cn cs L a ccd cl outer) base (envX cn cs L a ccd cl :: outer) g' →
      (Mine.hd.heap_1 w.params).In g' → Top p loose mean mg mb g' →
      wpAny (model PP w) (ktrTop (dp + 1) un' gd cn' cs' L' a' ccd' [] (envX cn cs L a ccd cl :: outer)) (call (.ref f) [] [])
        (DeedQ g' L' m' s Pq) (DeedE base g' L' m' (envX cn' cs' L' a' ccd' [] :: envX cn cs L a ccd cl :: outer) s Pe) { s with heap := h', toks := tk' })
    (retq : ∀ h₀' news' h' tk', Pq news' → KtsTurn (outer.filterMap (·.frame)) h₀ h₀' → Fr h₀' L h' m → News h₀' L h' news' → Below A₀ base outer h₀' → (Mine.hd.heap_1 w.params).In h₀' → Top p loose mean mg mb h₀' → KtsDicts (outer.filterMap (·.frame)) h₀' → Q .none { s with heap := h', toks := tk' })
    (rete : ∀ h₀' news' c t h' tk', Pe news' c → KtsTurn (outer.filterMap (·.frame)) h₀ h₀' → Fr h₀' L h' m → News h₀' L h' news' → Below A₀ base outer h₀' → (Mine.hd.heap_1 w.params).In h₀' → Top p loose mean mg mb h₀' → KtsDicts (outer.filterMap (·.frame)) h₀' → Q (.str c t) { s with heap := h', toks := tk' }) :
    wpAny (model PP w) (ktrTop dp un gd cn cs L a ccd cl outer) (call (.ref 178) [.ref f] []) Q E s := by
  refine wpAny_call ?_
  k_dflt k_enter
  k_steps
  refine' wpAny_mono (hdeed _ _ _ _ _ _ _ _ _ _ ?hk ?hu (by assumption) (by assumption) (by assumption) (by assumption) (by assumption)) ?hq ?he
  case hk => rfl
  case hu => (show un + 3 ≤ un + 50); omega
  case hq =>
    rintro v s1 ⟨h1, tk1, news1, rfl, F1, N1, P1⟩
    k_steps
    dsimp only
    k_unfold
    (try dsimp only)
    k_dflt (refine' leaveT_ (by k_asm) (by k_asm) KtsTurn.refl ?_)
    intro h₀' T1 F2 N2 B2 X2 T2 D2
    exact retq _ _ _ _ P1 T1 F2 N2 B2 X2 T2 D2
  case he =>
    rintro v s1 ⟨h1, tk1, news1, e, de, es, n, c, t, G, rfl, rfl, FG, US, R, hc, P1⟩
    (try dsimp only at US R)
    k_dflt (refine' caught_D R FG ?k1 ?k2 ?k3 ?k4 ?k5 ?k6 ?k7 ?_)
    case k1 => assumption
    case k2 => assumption
    case k3 => assumption
    case k4 => assumption
    case k5 => assumption
    case k6 => k_is
    case k7 => kernel_rfl
    intro h2 g2 oe vs tk2 T1 F1 q1 q2 q3 N1 B1 X1 P2 D1
    obtain ⟨oc, od, oda, osl⟩ := oe
    dsimp only at q1 q2 q3
    subst q1 q2 q3
    k_steps
    refine' exc_getattr (K := Mine.hd.heap_1 w.params) (C := 34) ?k1 ?k2 ?k3 ?k4 ?k5 ?k6 ?k7 ?k8 ?_
    case k2 => exact excInstO (by k_asm) (by k_mem) (by k_mem)
    case k1 => exact Frag.In.keeps (by assumption) (Fr.keep (by assumption))
    case k3 => k_is
    case k4 => rfl
    case k5 => k_is
    case k6 => k_is
    case k7 => exact findObj_own (by k_is) (by k_is) (by k_is) hc
    case k8 => rfl
    k_steps
    k_dflt (refine' leaveT_ (by k_asm) (?kN : News _ _ _ news1) (by k_asm) ?_)
    case kN => exact fun q hq => (by k_asm : News _ _ _ (_ :: _ :: news1)) q (.tail _ (.tail _ hq))
    intro h₀' T1 F2 N2 B2 X2 T2 D2
    exact rete _ _ _ _ _ _ P1 T1 F2 N2 B2 X2 T2 D2
end
theorem exc_RaiseX {prog : Program} {w : World} {A : Around} {E : Value → Shared → Prop} {s : Shared} {h₀ : Heap} {env : Env} {K : Frag} {C : Addr} {cd : ClassData} {e : Expr} {pos : Pos} {Q : Flow → Shared → Prop} (_X : K.In h₀) (hc : clsIn K C = some cd) (hmro : cd.mro = .ref C :: excMro) (ht : typeIn K (.ref C) = some (.type "type")) (hh : A.handled = none)
    (h : wpAny (model prog w) A (eval e env) (ExcReady K C E) E s) : wpAny (model prog w) A (exec (.Raise (some e) none pos) env) Q E s := exc_Raise hc hmro ht hh h
end Mine
end
section
open PySem PySem.W PyProof.Rows PySem.Calls
open Mine
local macro_rules | `(tactic| walk_at "exec Raise some none") => `(tactic| (k_here; k_dflt (refine' exc_RaiseX (C := 34) ?k0 ?k1 ?k2 ?k3 ?k4 ?_; (case k0 => with_reducible assumption); (case k1 => k_is); (case k2 => rfl); (case k3 => k_is); (case k4 => rfl); k_whole)))
local macro_rules | `(tactic| walk_at "call ref") => `(tactic| (k_here; (with_reducible show wpAny _ _ (call (Value.ref 34) [_] []) _ _ _); k_dflt (refine' exc_make ?k1 ?k2 ?k3 ?k4 ?k5 ?k6 ?k7 ?k8 ?_; walk_at "p8"; k_whole; intro e' tp' de' es' n' h' tk' F' N' hcode' l1 l2 l3; (try k_sweep))))
local macro_rules | `(tactic| walk_at "ExcReady") => `(tactic| (refine ⟨_, _, _, _, rfl, ?k1, ?k2, ?k3, ?k4, ?_⟩; (case k1 => exact Frag.In.keeps (by assumption) (Fr.keep (by assumption))); (case k2 => exact excInstD (by k_asm) (by k_mem) (by k_mem)); (case k3 => rfl); (case k4 => rfl)))
local macro_rules | `(tactic| walk_at "leaving ref") => `(tactic| (k_here; k_dflt (refine' leave_raiseD ?k1 ?k2 ?k3 ?k4 ?k5 ?k6 ?_; (case k2 => rfl); (case k3 => rfl); (case k4 => assumption); (case k1 => assumption); (case k5 => assumption); (case k6 => (intro q hq; rcases List.mem_cons.mp hq with rfl | hq; (exact Nat.ne_of_gt (by assumption)); (exact Nat.ne_of_lt ((by assumption : ∀ p ∈ _, p.1 < _) q hq)))); k_whole; intro h' R' U')))
section
open PySem PySem.W PyProof.Rows PySem.Calls
namespace Mine
theorem walk_anew_13 : True := by
  w_top off
  trivial
section
set_option maxHeartbeats 8000000 in
theorem raise_told_ok {w : World} {p : Program} {loose : List Str} {mean : ExcName → Option Value} {mg mb : Str → Option Value}
    {dp un : Nat} {gd : Option (List Code)} {cn : Str} {cs : Scope} {a : Addr} {ccd : Value} {cl : List (Str × Addr)} {outer : List Env} {A₀ : Around} {base h₀ : Heap} {L : Addr} {m : Str → Option Value} {s : Shared}
    {news : List (Addr × Obj)} {n : Int} {t : Tok}
    (B : Below A₀ base outer h₀) (F : Fr h₀ L s.heap m) (X : (Mine.hd.heap_1 w.params).In h₀)
    (N : News h₀ L s.heap news) (T : Top p loose mean mg mb h₀) (hk : cs.kind = .function)
    (hdp : dp + 12 < recursionLimit) (hun : un + 150 < cLine) (h1 : 1 ≤ n) (h2 : n ≤ 255) :
    wpAny (model PP w) (ktrTop dp un gd cn cs L a ccd cl outer) (call (.ref 114) [.int n t] [])
      (fun _ _ => False) (DeedE base h₀ L m (envX cn cs L a ccd cl :: outer) s (fun news' c => news' = news ∧ c = codeOf n)) s := by
  refine wpAny_call ?_
  k_dflt k_enter
  k_steps
  refine' ⟨_, _, _, _, rfl, ?k1, ?k2, ?k3, ?k4, ?_⟩
  case k1 => exact Frag.In.keeps (by assumption) (Fr.keep (by assumption))
  case k2 => exact excInstD (by k_asm) (by k_mem) (by k_mem)
  case k3 => rfl
  case k4 => rfl
  k_steps
  k_dflt (refine' leave_raiseD ?k1 ?k2 ?k3 ?k4 ?k5 ?k6 ?_)
  case k2 => rfl
  case k3 => rfl
  case k4 => assumption
  case k1 => assumption
  case k5 => assumption
  case k6 =>
    intro q hq
    rcases List.mem_cons.mp hq with rfl | hq
    · exact Nat.ne_of_gt (by assumption)
    · exact Nat.ne_of_lt ((by assumption : ∀ p ∈ _, p.1 < _) q hq)
  intro h' R' U'
  exact ⟨_, _, _, _, _, _, _, _, _, _, rfl, rfl, (by assumption), U', R', (by assumption), rfl, rfl⟩
end
end Mine
end
section
open PySem PySem.W PyProof.Rows PySem.Calls
namespace Mine
theorem walk_anew_23 : True := by
  w_top off
  trivial
section
set_option maxHeartbeats 8000000 in
theorem raise_told_out {w : World} {p : Program} {loose : List Str} {mean : ExcName → Option Value} {mg mb : Str → Option Value}
    {dp un : Nat} {gd : Option (List Code)} {cn : Str} {cs : Scope} {a : Addr} {ccd : Value} {cl : List (Str × Addr)} {outer : List Env} {A₀ : Around} {base h₀ : Heap} {L : Addr} {m : Str → Option Value} {s : Shared}
    {news : List (Addr × Obj)} {n : Int} {t : Tok}
    (B : Below A₀ base outer h₀) (F : Fr h₀ L s.heap m) (X : (Mine.hd.heap_1 w.params).In h₀)
    (N : News h₀ L s.heap news) (T : Top p loose mean mg mb h₀) (hk : cs.kind = .function)
    (hdp : dp + 12 < recursionLimit) (hun : un + 150 < cLine) (h1 : ¬ (1 ≤ n ∧ n ≤ 255)) :
    wpAny (model PP w) (ktrTop dp un gd cn cs L a ccd cl outer) (call (.ref 114) [.int n t] [])
      (fun _ _ => False) (DeedE base h₀ L m (envX cn cs L a ccd cl :: outer) s (fun news' c => news' = news ∧ c = Str.ofString "FC")) s := by
  refine wpAny_call ?_
  k_dflt k_enter
  k_steps
  all_goals first | (exfalso; omega) | skip
  all_goals (
    refine' ⟨_, _, _, _, rfl, ?k1, ?k2, ?k3, ?k4, ?_⟩
    case k1 => exact Frag.In.keeps (by assumption) (Fr.keep (by assumption))
    case k2 => exact excInstD (by k_asm) (by k_mem) (by k_mem)
    case k3 => rfl
    case k4 => rfl
    k_steps
    k_dflt (refine' leave_raiseD ?k1 ?k2 ?k3 ?k4 ?k5 ?k6 ?_)
    case k2 => rfl
    case k3 => rfl
    case k4 => assumption
    case k1 => assumption
    case k5 => assumption
    case k6 =>
      intro q hq
      rcases List.mem_cons.mp hq with rfl | hq
      · exact Nat.ne_of_gt (by assumption)
      · exact Nat.ne_of_lt ((by assumption : ∀ p ∈ _, p.1 < _) q hq)
    intro h' R' U'
    exact ⟨_, _, _, _, _, _, _, _, _, _, rfl, rfl, (by assumption), U', R', (by assumption), rfl, rfl⟩
)
set_option maxHeartbeats 8000000 in
theorem chosen_raise {w : World} {p : Program} {loose : List Str} {mean : ExcName → Option Value} {mg mb : Str → Option Value}
    {dp un : Nat} {gd : Option (List Code)} {cn : Str} {cs : Scope} {a : Addr} {ccd : Value} {cl : List (Str × Addr)} {outer : List Env} {A₀ : Around} {base h₀ : Heap} {L : Addr} {m : Str → Option Value} {s : Shared}
    {news : List (Addr × Obj)} {n many : Int} {t t2 : Tok}
    (B : Below A₀ base outer h₀) (F : Fr h₀ L s.heap m) (X : (Mine.hd.heap_1 w.params).In h₀)
    (N : News h₀ L s.heap news) (T : Top p loose mean mg mb h₀) (hk : cs.kind = .function)
    (hdp : dp + 12 < recursionLimit) (hun : un + 150 < cLine) (h1 : ¬ (0 ≤ n ∧ n ≤ 255)) :
    wpAny (model PP w) (ktrTop dp un gd cn cs L a ccd cl outer) (call (.ref 86) [.int n t, .int many t2] [])
      (fun _ _ => False) (DeedE base h₀ L m (envX cn cs L a ccd cl :: outer) s (fun news' c => news' = news ∧ c = Str.ofString "FC")) s := by
  refine wpAny_call ?_
  k_dflt k_enter
  k_steps
  all_goals first | (exfalso; omega) | skip
  all_goals (
    refine' ⟨_, _, _, _, rfl, ?k1, ?k2, ?k3, ?k4, ?_⟩
    case k1 => exact Frag.In.keeps (by assumption) (Fr.keep (by assumption))
    case k2 => exact excInstD (by k_asm) (by k_mem) (by k_mem)
    case k3 => rfl
    case k4 => rfl
    k_steps
    k_dflt (refine' leave_raiseD ?k1 ?k2 ?k3 ?k4 ?k5 ?k6 ?_)
    case k2 => rfl
    case k3 => rfl
    case k4 => assumption
    case k1 => assumption
    case k5 => assumption
    case k6 =>
      intro q hq
      rcases List.mem_cons.mp hq with rfl | hq
      · exact Nat.ne_of_gt (by assumption)
      · exact Nat.ne_of_lt ((by assumption : ∀ p ∈ _, p.1 < _) q hq)
    intro h' R' U'
    exact ⟨_, _, _, _, _, _, _, _, _, _, rfl, rfl, (by assumption), U', R', (by assumption), rfl, rfl⟩
)
set_option maxHeartbeats 8000000 in
theorem chosen_ok {w : World} {p : Program} {loose : List Str} {mean : ExcName → Option Value} {mg mb : Str → Option Value}
    {dp un : Nat} {gd : Option (List Code)} {cn : Str} {cs : Scope} {a : Addr} {ccd : Value} {cl : List (Str × Addr)} {outer : List Env} {A₀ : Around} {base h₀ : Heap} {L : Addr} {m : Str → Option Value} {s : Shared}
    {Q E : Value → Shared → Prop} {news : List (Addr × Obj)} {n many : Int} {t t2 : Tok}
    (B : Below A₀ base outer h₀) (F : Fr h₀ L s.heap m) (X : (Mine.hd.heap_1 w.params).In h₀)
    (N : News h₀ L s.heap news) (T : Top p loose mean mg mb h₀) (hk : cs.kind = .function)
    (hdp : dp + 12 < recursionLimit) (hun : un + 150 < cLine) (h1 : 0 ≤ n) (h2 : n ≤ 255)
    (ret1 : ∀ t h' tk', 1 ≤ n → n ≤ many → Fr h₀ L h' m → News h₀ L h' news → Q (.int (n - 1) t) { s with heap := h', toks := tk' })
    (ret2 : ∀ h' tk', ¬ (1 ≤ n ∧ n ≤ many) → Fr h₀ L h' m → News h₀ L h' news → Q .none { s with heap := h', toks := tk' }) :
    wpAny (model PP w) (ktrTop dp un gd cn cs L a ccd cl outer) (call (.ref 86) [.int n t, .int many t2] [])
      Q E s := by
  refine wpAny_call ?_
  k_dflt k_enter
  k_steps
  all_goals first | (exfalso; omega) | exact ret1 _ _ _ (by omega) (by omega) (by k_asm) (by k_asm) | exact ret2 _ _ (by omega) (by k_asm) (by k_asm)
end
end Mine
end
section
open PySem PySem.W PyProof.Rows PySem.Calls
namespace Mine
theorem walk_anew_14 : True := by
  w_top off
  trivial
theorem set_abs {prog : Program} {w : World} {A : Around} {E : Value → Shared → Prop} {s : Shared} {K : Frag} {h₀ : Heap} {L x C dx : Addr} {m : Str → Option Value} {news : List (Addr × Obj)} {ox : Obj} {es : List DictEntry} {n : Nat} {name : Str} {v u : Value} {g : Obj → List (Addr × Obj)}
    {Q : Unit → Shared → Prop} (F : Fr h₀ L s.heap m) (X₀ : K.In h₀) (N : News h₀ L s.heap news) (I : InstAt s.heap x ox C (some (dictOf es n))) (hd : ox.dict = some dx)
    (hs : findIn K (.ref C) "__setattr__" = some (some (.builtin "object.__setattr__"))) (hp : plainOver K C = true) (ht : takerIn K C name = some none) (hh : hasDictIn K C = true) (hl : getL name es = some (some u))
    (U : UpdF dx (dictOf es n) news g) (hz : es.length ≤ 100)
    (h : ∀ h' es' n', Fr h₀ L h' m → News h₀ L h' (g (dictOf es' n')) → getL name es' = some (some v) → KeepL name es es' → es'.length ≤ 100 → Q () { s with heap := h', toks := s.toks + 2 }) :
    wpAny (model prog w) A (setAttr (.ref x) name v) Q E s := by
  obtain ⟨pre, post, rfl, hg, h1, h2⟩ := U.split
  have hlen := putL_len' (PyData.keyHash w.params name) (.str name (s.toks + 1)) v hl
  have upd : ∀ {pre : List (Addr × Obj)} {o' : Obj}, (∀ p ∈ pre, p.1 ≠ dx) → Upd dx (dictOf es n) o' (pre ++ (dx, dictOf es n) :: post) (pre ++ (dx, o') :: post) := by
    intro pre o' hpre
    induction pre with
    | nil => exact .head h2
    | cons q r ih => exact .tail (hpre q (.head _)) (ih fun p hp => hpre p (.tail _ hp))
  refine set_dict F X₀ N I hd hs hp ht hh (getL_isSome hl) rfl (upd h1) (by rw [hlen]; omega) fun h' F' N' => ?_
  exact h h' _ _ F' (by rw [hg]; exact N') (getL_put_same ..) (fun y r hy e => getL_put_ne hy e) (by rw [hlen]; exact hz)
theorem instOf {h₀ h : Heap} {L x C dx : Addr} {od : Obj} {news : List (Addr × Obj)} (N : News h₀ L h news) (hx : (x, instObj C dx) ∈ news) (hd : (dx, od) ∈ news) : InstAt h x (instObj C dx) C (some od) := ⟨(N _ hx).1, rfl, rfl, (N _ hd).1⟩
section
local macro_rules | `(tactic| k_get) => `(tactic| first | with_reducible assumption | exact KeepL.at_ (by with_reducible assumption) (by decide +kernel) (by k_get))
local macro_rules | `(tactic| k_mem) => `(tactic| first | with_reducible assumption | with_reducible exact List.mem_cons_self | (refine' List.mem_cons_of_mem _ ?_; k_mem))
local macro_rules | `(tactic| k_inst) => `(tactic| exact instOf (by k_asm) (by k_mem) (by k_mem))
local macro_rules | `(tactic| walk_at "setAttr ref") => `(tactic| (k_here; k_dflt (refine' set_abs ?k1 ?k2 ?k3 ?k4 ?k5 ?k6 ?k7 ?k8 ?k9 ?k10 ?k11 ?k12 ?_; (case k1 | k2 | k3 => k_asm); (case k4 => k_inst); (case k5 => exact rfl); (case k6 => k_is); (case k7 => k_is); (case k8 => k_is); (case k9 => k_is); (case k10 => k_get); (case k11 => k_updF); (case k12 => assumption); k_whole; intro h' es' n' F' N' he' hk' hz'; (try dsimp only at N'); (try k_sweep))))
set_option maxHeartbeats 8000000 in
theorem error_number_ok {w : World} {p : Program} {loose : List Str} {mean : ExcName → Option Value} {mg mb : Str → Option Value}
    {dp un : Nat} {gd : Option (List Code)} {cn : Str} {cs : Scope} {a : Addr} {ccd : Value} {cl : List (Str × Addr)} {outer : List Env} {A₀ : Around} {base h₀ : Heap} {L : Addr} {m : Str → Option Value} {s : Shared}
    {Q E : Value → Shared → Prop} {news : List (Addr × Obj)} {wo wd : Addr} {ew : List DictEntry} {nw : Nat} {hd el : Int} {isH : Bool} {ec : Str}
    (B : Below A₀ base outer h₀) (F : Fr h₀ L s.heap m) (X : (Mine.hd.heap_1 w.params).In h₀)
    (N : News h₀ L s.heap news) (T : Top p loose mean mg mb h₀) (hk : cs.kind = .function)
    (hdp : dp + 12 < recursionLimit) (hun : un + 150 < cLine) (hw : (wo, instObj 146 wd) ∈ news) (hmd : (wd, dictOf ew nw) ∈ news) (W : WIs ew hd isH el ec) (ret : ∀ t h' tk', Fr h₀ L h' m → News h₀ L h' news → Q (.int (numOf ec) t) { s with heap := h', toks := tk' }) :
    wpAny (model PP w) (ktrTop dp un gd cn cs L a ccd cl outer) (call (.ref 121) [.ref wo] [])
      Q E s := by
  obtain ⟨⟨t1, w1⟩, w2, ⟨t3, w3⟩, ⟨t4, w4⟩, w5⟩ := W
  refine wpAny_call ?_
  k_dflt k_enter
  k_steps
  exact ret _ _ _ (by k_asm) (by k_asm)
set_option maxHeartbeats 8000000 in
theorem set_handler_ok {w : World} {p : Program} {loose : List Str} {mean : ExcName → Option Value} {mg mb : Str → Option Value}
    {dp un : Nat} {gd : Option (List Code)} {cn : Str} {cs : Scope} {a : Addr} {ccd : Value} {cl : List (Str × Addr)} {outer : List Env} {A₀ : Around} {base h₀ : Heap} {L : Addr} {m : Str → Option Value} {s : Shared}
    {Q E : Value → Shared → Prop} {news : List (Addr × Obj)} {wo wd : Addr} {ew : List DictEntry} {nw : Nat} {hd el : Int} {isH : Bool} {ec : Str} {line : Int} {t1 : Tok}
    (B : Below A₀ base outer h₀) (F : Fr h₀ L s.heap m) (X : (Mine.hd.heap_1 w.params).In h₀)
    (N : News h₀ L s.heap ((wd, dictOf ew nw) :: news)) (T : Top p loose mean mg mb h₀) (hk : cs.kind = .function)
    (hdp : dp + 12 < recursionLimit) (hun : un + 150 < cLine) (hw : (wo, instObj 146 wd) ∈ news) (ap : ∀ p ∈ news, p.1 ≠ wd) (W : WIs ew hd isH el ec) (hl : line ≠ 0) (ret : ∀ es' n' h' tk', Fr h₀ L h' m → News h₀ L h' ((wd, dictOf es' n') :: news) → WIs es' line isH el ec → Q .none { s with heap := h', toks := tk' }) :
    wpAny (model PP w) (ktrTop dp un gd cn cs L a ccd cl outer) (call (.ref 93) [.ref wo, .int line t1] [])
      Q E s := by
  obtain ⟨⟨t1, w1⟩, w2, ⟨t3, w3⟩, ⟨t4, w4⟩, w5⟩ := W
  refine wpAny_call ?_
  k_dflt k_enter
  k_steps
  · exfalso; first | omega | contradiction | simp_all
  · refine' ret _ _ _ _ ?r1 ?r2 ?r3
    case r1 => k_asm
    case r2 => k_asm
    case r3 => exact ⟨⟨_, by k_get⟩, by k_get, ⟨_, by k_get⟩, ⟨_, by k_get⟩, by assumption⟩
set_option maxHeartbeats 8000000 in
theorem set_handler_raise {w : World} {p : Program} {loose : List Str} {mean : ExcName → Option Value} {mg mb : Str → Option Value}
    {dp un : Nat} {gd : Option (List Code)} {cn : Str} {cs : Scope} {a : Addr} {ccd : Value} {cl : List (Str × Addr)} {outer : List Env} {A₀ : Around} {base h₀ : Heap} {L : Addr} {m : Str → Option Value} {s : Shared}
    {news : List (Addr × Obj)} {wo wd : Addr} {ew : List DictEntry} {nw : Nat} {hd el : Int} {ec : Str} {t1 : Tok}
    (B : Below A₀ base outer h₀) (F : Fr h₀ L s.heap m) (X : (Mine.hd.heap_1 w.params).In h₀)
    (N : News h₀ L s.heap ((wd, dictOf ew nw) :: news)) (T : Top p loose mean mg mb h₀) (hk : cs.kind = .function)
    (hdp : dp + 12 < recursionLimit) (hun : un + 150 < cLine) (hw : (wo, instObj 146 wd) ∈ news) (ap : ∀ p ∈ news, p.1 ≠ wd) (W : WIs ew hd true el ec) :
    wpAny (model PP w) (ktrTop dp un gd cn cs L a ccd cl outer) (call (.ref 93) [.ref wo, .int 0 t1] [])
      (fun _ _ => False) (DeedE base h₀ L m (envX cn cs L a ccd cl :: outer) s (fun news' c => (∃ es' n', news' = (wd, dictOf es' n') :: news ∧ WIs es' 0 true el ec) ∧ c = ec)) s := by
  obtain ⟨⟨t1, w1⟩, w2, ⟨t3, w3⟩, ⟨t4, w4⟩, w5⟩ := W
  refine wpAny_call ?_
  k_dflt k_enter
  k_steps
  refine' ⟨_, _, _, _, rfl, ?k1, ?k2, ?k3, ?k4, ?_⟩
  case k1 => exact Frag.In.keeps (by assumption) (Fr.keep (by assumption))
  case k2 => exact excInstD (by k_asm) (by k_mem) (by k_mem)
  case k3 => rfl
  case k4 => rfl
  k_steps
  k_dflt (refine' leave_raiseD ?k1 ?k2 ?k3 ?k4 ?k5 ?k6 ?_)
  case k2 => rfl
  case k3 => rfl
  case k4 => assumption
  case k1 => assumption
  case k5 => assumption
  case k6 =>
    intro q hq
    rcases List.mem_cons.mp hq with rfl | hq
    · exact Nat.ne_of_gt (by assumption)
    · exact Nat.ne_of_lt ((by assumption : ∀ p ∈ _, p.1 < _) q hq)
  intro h' R' U'
  refine' ⟨_, _, _, _, _, _, _, _, _, _, rfl, rfl, (by assumption), U', R', (by assumption), ⟨_, _, rfl, ?r3⟩, rfl⟩
  exact ⟨⟨_, by k_get⟩, by k_get, ⟨_, by k_get⟩, ⟨_, by k_get⟩, by assumption⟩
set_option maxHeartbeats 8000000 in
theorem check_end_ok {w : World} {p : Program} {loose : List Str} {mean : ExcName → Option Value} {mg mb : Str → Option Value}
    {dp un : Nat} {gd : Option (List Code)} {cn : Str} {cs : Scope} {a : Addr} {ccd : Value} {cl : List (Str × Addr)} {outer : List Env} {A₀ : Around} {base h₀ : Heap} {L : Addr} {m : Str → Option Value} {s : Shared}
    {Q E : Value → Shared → Prop} {news : List (Addr × Obj)} {wo wd : Addr} {ew : List DictEntry} {nw : Nat} {hd el : Int} {ec : Str}
    (B : Below A₀ base outer h₀) (F : Fr h₀ L s.heap m) (X : (Mine.hd.heap_1 w.params).In h₀)
    (N : News h₀ L s.heap news) (T : Top p loose mean mg mb h₀) (hk : cs.kind = .function)
    (hdp : dp + 12 < recursionLimit) (hun : un + 150 < cLine) (hw : (wo, instObj 146 wd) ∈ news) (hmd : (wd, dictOf ew nw) ∈ news) (W : WIs ew hd false el ec) (ret : ∀ h' tk', Fr h₀ L h' m → News h₀ L h' news → Q .none { s with heap := h', toks := tk' }) :
    wpAny (model PP w) (ktrTop dp un gd cn cs L a ccd cl outer) (call (.ref 128) [.ref wo] [])
      Q E s := by
  obtain ⟨⟨t1, w1⟩, w2, ⟨t3, w3⟩, ⟨t4, w4⟩, w5⟩ := W
  refine wpAny_call ?_
  k_dflt k_enter
  k_steps
  refine' ret _ _ ?r1 ?r2
  case r1 => k_asm
  case r2 => k_asm
set_option maxHeartbeats 8000000 in
theorem check_end_raise {w : World} {p : Program} {loose : List Str} {mean : ExcName → Option Value} {mg mb : Str → Option Value}
    {dp un : Nat} {gd : Option (List Code)} {cn : Str} {cs : Scope} {a : Addr} {ccd : Value} {cl : List (Str × Addr)} {outer : List Env} {A₀ : Around} {base h₀ : Heap} {L : Addr} {m : Str → Option Value} {s : Shared}
    {news : List (Addr × Obj)} {wo wd : Addr} {ew : List DictEntry} {nw : Nat} {hd el : Int} {ec : Str}
    (B : Below A₀ base outer h₀) (F : Fr h₀ L s.heap m) (X : (Mine.hd.heap_1 w.params).In h₀)
    (N : News h₀ L s.heap news) (T : Top p loose mean mg mb h₀) (hk : cs.kind = .function)
    (hdp : dp + 12 < recursionLimit) (hun : un + 150 < cLine) (hw : (wo, instObj 146 wd) ∈ news) (hmd : (wd, dictOf ew nw) ∈ news) (W : WIs ew hd true el ec) :
    wpAny (model PP w) (ktrTop dp un gd cn cs L a ccd cl outer) (call (.ref 128) [.ref wo] [])
      (fun _ _ => False) (DeedE base h₀ L m (envX cn cs L a ccd cl :: outer) s (fun news' c => news' = news ∧ c = Str.ofString "NR")) s := by
  obtain ⟨⟨t1, w1⟩, w2, ⟨t3, w3⟩, ⟨t4, w4⟩, w5⟩ := W
  refine wpAny_call ?_
  k_dflt k_enter
  k_steps
  refine' ⟨_, _, _, _, rfl, ?k1, ?k2, ?k3, ?k4, ?_⟩
  case k1 => exact Frag.In.keeps (by assumption) (Fr.keep (by assumption))
  case k2 => exact excInstD (by k_asm) (by k_mem) (by k_mem)
  case k3 => rfl
  case k4 => rfl
  k_steps
  k_dflt (refine' leave_raiseD ?k1 ?k2 ?k3 ?k4 ?k5 ?k6 ?_)
  case k2 => rfl
  case k3 => rfl
  case k4 => assumption
  case k1 => assumption
  case k5 => assumption
  case k6 =>
    intro q hq
    rcases List.mem_cons.mp hq with rfl | hq
    · exact Nat.ne_of_gt (by assumption)
    · exact Nat.ne_of_lt ((by assumption : ∀ p ∈ _, p.1 < _) q hq)
  intro h' R' U'
  exact ⟨_, _, _, _, _, _, _, _, _, _, rfl, rfl, (by assumption), U', R', (by assumption), rfl, rfl⟩
set_option maxHeartbeats 8000000 in
theorem caught_no {w : World} {p : Program} {loose : List Str} {mean : ExcName → Option Value} {mg mb : Str → Option Value}
    {dp un : Nat} {gd : Option (List Code)} {cn : Str} {cs : Scope} {a : Addr} {ccd : Value} {cl : List (Str × Addr)} {outer : List Env} {A₀ : Around} {base h₀ : Heap} {L : Addr} {m : Str → Option Value} {s : Shared}
    {Q E : Value → Shared → Prop} {news : List (Addr × Obj)} {wo wd : Addr} {ew : List DictEntry} {nw : Nat} {hd el : Int} {isH : Bool} {ec : Str} {co cd : Addr} {ev : List DictEntry} {nv : Nat} {fa : Int} {c : Str} {line place : Int} {t1 t2 t3 : Tok}
    (B : Below A₀ base outer h₀) (F : Fr h₀ L s.heap m) (X : (Mine.hd.heap_1 w.params).In h₀)
    (N : News h₀ L s.heap news) (T : Top p loose mean mg mb h₀) (hk : cs.kind = .function)
    (hdp : dp + 12 < recursionLimit) (hun : un + 150 < cLine) (hw : (wo, instObj 146 wd) ∈ news) (hmd : (wd, dictOf ew nw) ∈ news) (hc : (co, instObj 75 cd) ∈ news) (hmc : (cd, dictOf ev nv) ∈ news) (W : WIs ew 0 isH el ec) (C : CIs ev fa) (ret : ∀ t h' tk', Fr h₀ L h' m → News h₀ L h' news → Q (.int 0 t) { s with heap := h', toks := tk' }) :
    wpAny (model PP w) (ktrTop dp un gd cn cs L a ccd cl outer) (call (.ref 100) [.ref wo, .ref co, .str c t1, .int line t2, .int place t3] [])
      Q E s := by
  obtain ⟨⟨t1, w1⟩, w2, ⟨t3, w3⟩, ⟨t4, w4⟩, w5⟩ := W
  refine wpAny_call ?_
  k_dflt k_enter
  k_steps
  refine' ret _ _ _ ?r1 ?r2
  case r1 => k_asm
  case r2 => k_asm
set_option maxHeartbeats 8000000 in
theorem caught_on {w : World} {p : Program} {loose : List Str} {mean : ExcName → Option Value} {mg mb : Str → Option Value}
    {dp un : Nat} {gd : Option (List Code)} {cn : Str} {cs : Scope} {a : Addr} {ccd : Value} {cl : List (Str × Addr)} {outer : List Env} {A₀ : Around} {base h₀ : Heap} {L : Addr} {m : Str → Option Value} {s : Shared}
    {Q E : Value → Shared → Prop} {news : List (Addr × Obj)} {wo wd : Addr} {ew : List DictEntry} {nw : Nat} {hd el : Int} {ec : Str} {co cd : Addr} {ev : List DictEntry} {nv : Nat} {fa : Int} {c : Str} {line place : Int} {t1 t2 t3 : Tok}
    (B : Below A₀ base outer h₀) (F : Fr h₀ L s.heap m) (X : (Mine.hd.heap_1 w.params).In h₀)
    (N : News h₀ L s.heap news) (T : Top p loose mean mg mb h₀) (hk : cs.kind = .function)
    (hdp : dp + 12 < recursionLimit) (hun : un + 150 < cLine) (hw : (wo, instObj 146 wd) ∈ news) (hmd : (wd, dictOf ew nw) ∈ news) (hc : (co, instObj 75 cd) ∈ news) (hmc : (cd, dictOf ev nv) ∈ news) (W : WIs ew hd true el ec) (C : CIs ev fa) (ret : ∀ t h' tk', Fr h₀ L h' m → News h₀ L h' news → Q (.int 0 t) { s with heap := h', toks := tk' }) :
    wpAny (model PP w) (ktrTop dp un gd cn cs L a ccd cl outer) (call (.ref 100) [.ref wo, .ref co, .str c t1, .int line t2, .int place t3] [])
      Q E s := by
  obtain ⟨⟨t1, w1⟩, w2, ⟨t3, w3⟩, ⟨t4, w4⟩, w5⟩ := W
  refine wpAny_call ?_
  k_dflt k_enter
  k_steps
  all_goals (refine' ret _ _ _ ?_ ?_ <;> k_asm)
set_option maxHeartbeats 8000000 in
theorem caught_yes {w : World} {p : Program} {loose : List Str} {mean : ExcName → Option Value} {mg mb : Str → Option Value}
    {dp un : Nat} {gd : Option (List Code)} {cn : Str} {cs : Scope} {a : Addr} {ccd : Value} {cl : List (Str × Addr)} {outer : List Env} {A₀ : Around} {base h₀ : Heap} {L : Addr} {m : Str → Option Value} {s : Shared}
    {Q E : Value → Shared → Prop} {news : List (Addr × Obj)} {wo wd : Addr} {ew : List DictEntry} {nw : Nat} {hd el : Int} {ec : Str} {co cd : Addr} {ev : List DictEntry} {nv : Nat} {fa : Int} {c : Str} {line place : Int} {t1 t2 t3 : Tok}
    (B : Below A₀ base outer h₀) (F : Fr h₀ L s.heap m) (X : (Mine.hd.heap_1 w.params).In h₀)
    (N : News h₀ L s.heap ((wd, dictOf ew nw) :: (cd, dictOf ev nv) :: news)) (T : Top p loose mean mg mb h₀) (hk : cs.kind = .function)
    (hdp : dp + 12 < recursionLimit) (hun : un + 150 < cLine) (hw : (wo, instObj 146 wd) ∈ news) (hc : (co, instObj 75 cd) ∈ news) (ap : ∀ p ∈ news, p.1 ≠ wd) (ap2 : ∀ p ∈ news, p.1 ≠ cd) (hne : wd < cd) (hh : hd ≠ 0) (W : WIs ew hd false el ec) (C : CIs ev fa) (ret : ∀ es' n' ec' nc' t h' tk', Fr h₀ L h' m → News h₀ L h' ((wd, dictOf es' n') :: (cd, dictOf ec' nc') :: news) → WIs es' hd true line c → CIs ec' place → Q (.int hd t) { s with heap := h', toks := tk' }) :
    wpAny (model PP w) (ktrTop dp un gd cn cs L a ccd cl outer) (call (.ref 100) [.ref wo, .ref co, .str c t1, .int line t2, .int place t3] [])
      Q E s := by
  obtain ⟨⟨t1, w1⟩, w2, ⟨t3, w3⟩, ⟨t4, w4⟩, w5⟩ := W
  obtain ⟨⟨t6, c1⟩, c2⟩ := C
  replace hne := ltN hne
  refine wpAny_call ?_
  k_dflt k_enter
  k_steps
  · exfalso; first | omega | contradiction
  · refine' ret _ _ _ _ _ _ _ ?r1 ?r2 ?r3 ?r4
    case r1 => k_asm
    case r2 => exact fun q hq => (by k_asm : News _ _ _ (_ :: _ :: _ :: news)) q (.tail _ hq)
    case r3 => exact ⟨⟨_, by k_get⟩, by k_get, ⟨_, by k_get⟩, ⟨_, by k_get⟩, by assumption⟩
    case r4 => exact ⟨⟨_, by k_get⟩, by assumption⟩
set_option maxHeartbeats 8000000 in
theorem resume_none {w : World} {p : Program} {loose : List Str} {mean : ExcName → Option Value} {mg mb : Str → Option Value}
    {dp un : Nat} {gd : Option (List Code)} {cn : Str} {cs : Scope} {a : Addr} {ccd : Value} {cl : List (Str × Addr)} {outer : List Env} {A₀ : Around} {base h₀ : Heap} {L : Addr} {m : Str → Option Value} {s : Shared}
    {Q E : Value → Shared → Prop} {news : List (Addr × Obj)} {wo wd : Addr} {ew : List DictEntry} {nw : Nat} {hd el : Int} {ec : Str} {co cd : Addr} {ev : List DictEntry} {nv : Nat} {fa : Int}
    (B : Below A₀ base outer h₀) (F : Fr h₀ L s.heap m) (X : (Mine.hd.heap_1 w.params).In h₀)
    (N : News h₀ L s.heap ((wd, dictOf ew nw) :: news)) (T : Top p loose mean mg mb h₀) (hk : cs.kind = .function)
    (hdp : dp + 12 < recursionLimit) (hun : un + 150 < cLine) (hw : (wo, instObj 146 wd) ∈ news) (hc : (co, instObj 75 cd) ∈ news) (hmc : (cd, dictOf ev nv) ∈ news) (ap : ∀ p ∈ news, p.1 ≠ wd) (W : WIs ew hd true el ec) (C : CIs ev fa) (ret : ∀ es' n' tu t' t2' h' tk', Fr h₀ L h' m → News h₀ L h' ((tu, tupObj [.str (Str.ofString "place") t', .int fa t2']) :: (wd, dictOf es' n') :: news) → WIs es' hd false el ec → (∀ p ∈ news, p.1 < tu) → wd < tu → Q (.ref tu) { s with heap := h', toks := tk' }) :
    wpAny (model PP w) (ktrTop dp un gd cn cs L a ccd cl outer) (call (.ref 107) [.ref wo, .ref co, .none] [])
      Q E s := by
  obtain ⟨⟨t1, w1⟩, w2, ⟨t3, w3⟩, ⟨t4, w4⟩, w5⟩ := W
  obtain ⟨⟨t6, c1⟩, c2⟩ := C
  refine wpAny_call ?_
  k_dflt k_enter
  k_steps
  refine' ret _ _ _ _ _ _ _ ?r1 ?r2 ?r3 ?r4 ?r5
  case r1 => k_asm
  case r2 => first | k_asm | (rw [← Int.add_zero fa]; k_asm)
  case r3 => exact ⟨⟨_, by k_get⟩, by k_get, ⟨_, by k_get⟩, ⟨_, by k_get⟩, by assumption⟩
  case r4 => exact lt_of_allLt (by assumption)
  case r5 => (show @LT.lt Nat _ _ _); omega
set_option maxHeartbeats 8000000 in
theorem resume_next {w : World} {p : Program} {loose : List Str} {mean : ExcName → Option Value} {mg mb : Str → Option Value}
    {dp un : Nat} {gd : Option (List Code)} {cn : Str} {cs : Scope} {a : Addr} {ccd : Value} {cl : List (Str × Addr)} {outer : List Env} {A₀ : Around} {base h₀ : Heap} {L : Addr} {m : Str → Option Value} {s : Shared}
    {Q E : Value → Shared → Prop} {news : List (Addr × Obj)} {wo wd : Addr} {ew : List DictEntry} {nw : Nat} {hd el : Int} {ec : Str} {co cd : Addr} {ev : List DictEntry} {nv : Nat} {fa : Int} {t : Tok}
    (B : Below A₀ base outer h₀) (F : Fr h₀ L s.heap m) (X : (Mine.hd.heap_1 w.params).In h₀)
    (N : News h₀ L s.heap ((wd, dictOf ew nw) :: news)) (T : Top p loose mean mg mb h₀) (hk : cs.kind = .function)
    (hdp : dp + 12 < recursionLimit) (hun : un + 150 < cLine) (hw : (wo, instObj 146 wd) ∈ news) (hc : (co, instObj 75 cd) ∈ news) (hmc : (cd, dictOf ev nv) ∈ news) (ap : ∀ p ∈ news, p.1 ≠ wd) (W : WIs ew hd true el ec) (C : CIs ev fa) (ret : ∀ es' n' tu t' t2' h' tk', Fr h₀ L h' m → News h₀ L h' ((tu, tupObj [.str (Str.ofString "place") t', .int (fa + 1) t2']) :: (wd, dictOf es' n') :: news) → WIs es' hd false el ec → (∀ p ∈ news, p.1 < tu) → wd < tu → Q (.ref tu) { s with heap := h', toks := tk' }) :
    wpAny (model PP w) (ktrTop dp un gd cn cs L a ccd cl outer) (call (.ref 107) [.ref wo, .ref co, .str (Str.ofString "NEXT") t] [])
      Q E s := by
  obtain ⟨⟨t1, w1⟩, w2, ⟨t3, w3⟩, ⟨t4, w4⟩, w5⟩ := W
  obtain ⟨⟨t6, c1⟩, c2⟩ := C
  refine wpAny_call ?_
  k_dflt k_enter
  k_steps
  refine' ret _ _ _ _ _ _ _ ?r1 ?r2 ?r3 ?r4 ?r5
  case r1 => k_asm
  case r2 => first | k_asm | (rw [← Int.add_zero fa]; k_asm)
  case r3 => exact ⟨⟨_, by k_get⟩, by k_get, ⟨_, by k_get⟩, ⟨_, by k_get⟩, by assumption⟩
  case r4 => exact lt_of_allLt (by assumption)
  case r5 => (show @LT.lt Nat _ _ _); omega
set_option maxHeartbeats 8000000 in
theorem resume_goal {w : World} {p : Program} {loose : List Str} {mean : ExcName → Option Value} {mg mb : Str → Option Value}
    {dp un : Nat} {gd : Option (List Code)} {cn : Str} {cs : Scope} {a : Addr} {ccd : Value} {cl : List (Str × Addr)} {outer : List Env} {A₀ : Around} {base h₀ : Heap} {L : Addr} {m : Str → Option Value} {s : Shared}
    {Q E : Value → Shared → Prop} {news : List (Addr × Obj)} {wo wd : Addr} {ew : List DictEntry} {nw : Nat} {hd el : Int} {ec : Str} {co cd : Addr} {ev : List DictEntry} {nv : Nat} {fa : Int} {goal : Int} {t : Tok}
    (B : Below A₀ base outer h₀) (F : Fr h₀ L s.heap m) (X : (Mine.hd.heap_1 w.params).In h₀)
    (N : News h₀ L s.heap ((wd, dictOf ew nw) :: news)) (T : Top p loose mean mg mb h₀) (hk : cs.kind = .function)
    (hdp : dp + 12 < recursionLimit) (hun : un + 150 < cLine) (hw : (wo, instObj 146 wd) ∈ news) (hc : (co, instObj 75 cd) ∈ news) (hmc : (cd, dictOf ev nv) ∈ news) (ap : ∀ p ∈ news, p.1 ≠ wd) (W : WIs ew hd true el ec) (C : CIs ev fa) (ret : ∀ es' n' tu t' t2' h' tk', Fr h₀ L h' m → News h₀ L h' ((tu, tupObj [.str (Str.ofString "line") t', .int goal t2']) :: (wd, dictOf es' n') :: news) → WIs es' hd false el ec → (∀ p ∈ news, p.1 < tu) → wd < tu → Q (.ref tu) { s with heap := h', toks := tk' }) :
    wpAny (model PP w) (ktrTop dp un gd cn cs L a ccd cl outer) (call (.ref 107) [.ref wo, .ref co, .int goal t] [])
      Q E s := by
  obtain ⟨⟨t1, w1⟩, w2, ⟨t3, w3⟩, ⟨t4, w4⟩, w5⟩ := W
  obtain ⟨⟨t6, c1⟩, c2⟩ := C
  refine wpAny_call ?_
  k_dflt k_enter
  k_steps
  refine' ret _ _ _ _ _ _ _ ?r1 ?r2 ?r3 ?r4 ?r5
  case r1 => k_asm
  case r2 => first | k_asm | (rw [← Int.add_zero fa]; k_asm)
  case r3 => exact ⟨⟨_, by k_get⟩, by k_get, ⟨_, by k_get⟩, ⟨_, by k_get⟩, by assumption⟩
  case r4 => exact lt_of_allLt (by assumption)
  case r5 => (show @LT.lt Nat _ _ _); omega
set_option maxHeartbeats 8000000 in
theorem resume_raise {w : World} {p : Program} {loose : List Str} {mean : ExcName → Option Value} {mg mb : Str → Option Value}
    {dp un : Nat} {gd : Option (List Code)} {cn : Str} {cs : Scope} {a : Addr} {ccd : Value} {cl : List (Str × Addr)} {outer : List Env} {A₀ : Around} {base h₀ : Heap} {L : Addr} {m : Str → Option Value} {s : Shared}
    {news : List (Addr × Obj)} {wo wd : Addr} {ew : List DictEntry} {nw : Nat} {hd el : Int} {ec : Str} {co : Addr}
    (B : Below A₀ base outer h₀) (F : Fr h₀ L s.heap m) (X : (Mine.hd.heap_1 w.params).In h₀)
    (N : News h₀ L s.heap news) (T : Top p loose mean mg mb h₀) (hk : cs.kind = .function)
    (hdp : dp + 12 < recursionLimit) (hun : un + 150 < cLine) (hw : (wo, instObj 146 wd) ∈ news) (hmd : (wd, dictOf ew nw) ∈ news) (W : WIs ew hd false el ec) :
    wpAny (model PP w) (ktrTop dp un gd cn cs L a ccd cl outer) (call (.ref 107) [.ref wo, .ref co, .none] [])
      (fun _ _ => False) (DeedE base h₀ L m (envX cn cs L a ccd cl :: outer) s (fun news' c => news' = news ∧ c = Str.ofString "RW")) s := by
  obtain ⟨⟨t1, w1⟩, w2, ⟨t3, w3⟩, ⟨t4, w4⟩, w5⟩ := W
  refine wpAny_call ?_
  k_dflt k_enter
  k_steps
  refine' ⟨_, _, _, _, rfl, ?k1, ?k2, ?k3, ?k4, ?_⟩
  case k1 => exact Frag.In.keeps (by assumption) (Fr.keep (by assumption))
  case k2 => exact excInstD (by k_asm) (by k_mem) (by k_mem)
  case k3 => rfl
  case k4 => rfl
  k_steps
  k_dflt (refine' leave_raiseD ?k1 ?k2 ?k3 ?k4 ?k5 ?k6 ?_)
  case k2 => rfl
  case k3 => rfl
  case k4 => assumption
  case k1 => assumption
  case k5 => assumption
  case k6 =>
    intro q hq
    rcases List.mem_cons.mp hq with rfl | hq
    · exact Nat.ne_of_gt (by assumption)
    · exact Nat.ne_of_lt ((by assumption : ∀ p ∈ _, p.1 < _) q hq)
  intro h' R' U'
  exact ⟨_, _, _, _, _, _, _, _, _, _, rfl, rfl, (by assumption), U', R', (by assumption), rfl, rfl⟩
/-- an entry pulled to the front -/
theorem pull {d : Addr} {o : Obj} {l : List (Addr × Obj)} {g : Obj → List (Addr × Obj)} (U : UpdF d o l g) : ∃ rest, (∀ q, q ∈ l → q ∈ (d, o) :: rest) ∧ (∀ q, q ∈ (d, o) :: rest → q ∈ l) ∧ (∀ o' q, q ∈ g o' → q ∈ (d, o') :: rest) ∧ (∀ p ∈ rest, p.1 ≠ d) := by
  obtain ⟨pre, post, rfl, hg, h1, h2⟩ := U.split
  have to : ∀ (o' : Obj) q, q ∈ pre ++ (d, o') :: post → q ∈ (d, o') :: (pre ++ post) := by
    intro o' q h
    rcases List.mem_append.mp h with h | h
    · exact .tail _ (List.mem_append_left _ h)
    · rcases List.mem_cons.mp h with h | h
      · exact h ▸ .head _
      · exact .tail _ (List.mem_append_right _ h)
  refine ⟨pre ++ post, to o, fun q h => ?_, fun o' q h => to o' q (hg o' ▸ h), fun p h => ?_⟩
  · rcases List.mem_cons.mp h with h | h
    · exact h ▸ List.mem_append_right _ (.head _)
    · rcases List.mem_append.mp h with h | h
      · exact List.mem_append_left _ h
      · exact List.mem_append_right _ (.tail _ h)
  · rcases List.mem_append.mp h with h | h
    · exact h1 p h
    · exact h2 p h
theorem inst_rest {d x C dx : Addr} {es : List DictEntry} {n : Nat} {rest : List (Addr × Obj)} (h : (x, instObj C dx) ∈ (d, dictOf es n) :: rest) : (x, instObj C dx) ∈ rest := by
  rcases List.mem_cons.mp h with h | h
  · have := (Prod.mk.inj h).2
    cases this
  · exact h
theorem dict_rest {d x : Addr} {o es : Obj} {rest : List (Addr × Obj)} (hne : x ≠ d) (h : (x, o) ∈ (d, es) :: rest) : (x, o) ∈ rest := by
  rcases List.mem_cons.mp h with h | h
  · exact absurd (Prod.mk.inj h).1 hne
  · exact h
set_option maxHeartbeats 8000000 in
theorem resume_noneU {w : World} {p : Program} {loose : List Str} {mean : ExcName → Option Value} {mg mb : Str → Option Value}
    {dp un : Nat} {gd : Option (List Code)} {cn : Str} {cs : Scope} {a : Addr} {ccd : Value} {cl : List (Str × Addr)} {outer : List Env} {A₀ : Around} {base h₀ : Heap} {L : Addr} {m : Str → Option Value} {s : Shared}
    {Q E : Value → Shared → Prop} {news : List (Addr × Obj)} {wo wd : Addr} {ew : List DictEntry} {nw : Nat} {hd el : Int} {ec : Str} {co cd : Addr} {ev : List DictEntry} {nv : Nat} {fa : Int} {g : Obj → List (Addr × Obj)}
    (B : Below A₀ base outer h₀) (F : Fr h₀ L s.heap m) (X : (Mine.hd.heap_1 w.params).In h₀)
    (N : News h₀ L s.heap news) (T : Top p loose mean mg mb h₀) (hk : cs.kind = .function)
    (hdp : dp + 12 < recursionLimit) (hun : un + 150 < cLine) (U : UpdF wd (dictOf ew nw) news g) (hw : (wo, instObj 146 wd) ∈ news) (hc : (co, instObj 75 cd) ∈ news) (hmc : (cd, dictOf ev nv) ∈ news) (hne : cd ≠ wd) (W : WIs ew hd true el ec) (C : CIs ev fa) (ret : ∀ es' n' tu t' t2' h' tk', Fr h₀ L h' m → News h₀ L h' ((tu, tupObj [.str (Str.ofString "place") t', .int fa t2']) :: g (dictOf es' n')) → WIs es' hd false el ec → (∀ p ∈ news, p.1 < tu) → Q (.ref tu) { s with heap := h', toks := tk' }) :
    wpAny (model PP w) (ktrTop dp un gd cn cs L a ccd cl outer) (call (.ref 107) [.ref wo, .ref co, .none] [])
      Q E s := by
  obtain ⟨rest, h1, h2, h3, h4⟩ := pull U
  have hw' := inst_rest (h1 _ hw)
  refine resume_none B F X (fun q hq => N q (h2 q hq)) T hk hdp hun hw' (inst_rest (h1 _ hc)) (dict_rest hne (h1 _ hmc)) h4 W C fun es' n' tu t' t2' h' tk' F' N' W' l1 l2 => ?_
  refine ret es' n' tu t' t2' h' tk' F' ?_ W' ?_
  · intro q hq
    rcases List.mem_cons.mp hq with rfl | hq
    · exact N' _ (.head _)
    · exact N' _ (.tail _ (h3 _ _ hq))
  · intro q hq
    rcases List.mem_cons.mp (h1 q hq) with rfl | hq
    · exact l2
    · exact l1 q hq
set_option maxHeartbeats 8000000 in
theorem resume_nextU {w : World} {p : Program} {loose : List Str} {mean : ExcName → Option Value} {mg mb : Str → Option Value}
    {dp un : Nat} {gd : Option (List Code)} {cn : Str} {cs : Scope} {a : Addr} {ccd : Value} {cl : List (Str × Addr)} {outer : List Env} {A₀ : Around} {base h₀ : Heap} {L : Addr} {m : Str → Option Value} {s : Shared}
    {Q E : Value → Shared → Prop} {news : List (Addr × Obj)} {wo wd : Addr} {ew : List DictEntry} {nw : Nat} {hd el : Int} {ec : Str} {co cd : Addr} {ev : List DictEntry} {nv : Nat} {fa : Int} {t : Tok} {g : Obj → List (Addr × Obj)}
    (B : Below A₀ base outer h₀) (F : Fr h₀ L s.heap m) (X : (Mine.hd.heap_1 w.params).In h₀)
    (N : News h₀ L s.heap news) (T : Top p loose mean mg mb h₀) (hk : cs.kind = .function)
    (hdp : dp + 12 < recursionLimit) (hun : un + 150 < cLine) (U : UpdF wd (dictOf ew nw) news g) (hw : (wo, instObj 146 wd) ∈ news) (hc : (co, instObj 75 cd) ∈ news) (hmc : (cd, dictOf ev nv) ∈ news) (hne : cd ≠ wd) (W : WIs ew hd true el ec) (C : CIs ev fa) (ret : ∀ es' n' tu t' t2' h' tk', Fr h₀ L h' m → News h₀ L h' ((tu, tupObj [.str (Str.ofString "place") t', .int (fa + 1) t2']) :: g (dictOf es' n')) → WIs es' hd false el ec → (∀ p ∈ news, p.1 < tu) → Q (.ref tu) { s with heap := h', toks := tk' }) :
    wpAny (model PP w) (ktrTop dp un gd cn cs L a ccd cl outer) (call (.ref 107) [.ref wo, .ref co, .str (Str.ofString "NEXT") t] [])
      Q E s := by
  obtain ⟨rest, h1, h2, h3, h4⟩ := pull U
  have hw' := inst_rest (h1 _ hw)
  refine resume_next B F X (fun q hq => N q (h2 q hq)) T hk hdp hun hw' (inst_rest (h1 _ hc)) (dict_rest hne (h1 _ hmc)) h4 W C fun es' n' tu t' t2' h' tk' F' N' W' l1 l2 => ?_
  refine ret es' n' tu t' t2' h' tk' F' ?_ W' ?_
  · intro q hq
    rcases List.mem_cons.mp hq with rfl | hq
    · exact N' _ (.head _)
    · exact N' _ (.tail _ (h3 _ _ hq))
  · intro q hq
    rcases List.mem_cons.mp (h1 q hq) with rfl | hq
    · exact l2
    · exact l1 q hq
set_option maxHeartbeats 8000000 in
theorem resume_goalU {w : World} {p : Program} {loose : List Str} {mean : ExcName → Option Value} {mg mb : Str → Option Value}
    {dp un : Nat} {gd : Option (List Code)} {cn : Str} {cs : Scope} {a : Addr} {ccd : Value} {cl : List (Str × Addr)} {outer : List Env} {A₀ : Around} {base h₀ : Heap} {L : Addr} {m : Str → Option Value} {s : Shared}
    {Q E : Value → Shared → Prop} {news : List (Addr × Obj)} {wo wd : Addr} {ew : List DictEntry} {nw : Nat} {hd el : Int} {ec : Str} {co cd : Addr} {ev : List DictEntry} {nv : Nat} {fa : Int} {goal : Int} {t : Tok} {g : Obj → List (Addr × Obj)}
    (B : Below A₀ base outer h₀) (F : Fr h₀ L s.heap m) (X : (Mine.hd.heap_1 w.params).In h₀)
    (N : News h₀ L s.heap news) (T : Top p loose mean mg mb h₀) (hk : cs.kind = .function)
    (hdp : dp + 12 < recursionLimit) (hun : un + 150 < cLine) (U : UpdF wd (dictOf ew nw) news g) (hw : (wo, instObj 146 wd) ∈ news) (hc : (co, instObj 75 cd) ∈ news) (hmc : (cd, dictOf ev nv) ∈ news) (hne : cd ≠ wd) (W : WIs ew hd true el ec) (C : CIs ev fa) (ret : ∀ es' n' tu t' t2' h' tk', Fr h₀ L h' m → News h₀ L h' ((tu, tupObj [.str (Str.ofString "line") t', .int goal t2']) :: g (dictOf es' n')) → WIs es' hd false el ec → (∀ p ∈ news, p.1 < tu) → Q (.ref tu) { s with heap := h', toks := tk' }) :
    wpAny (model PP w) (ktrTop dp un gd cn cs L a ccd cl outer) (call (.ref 107) [.ref wo, .ref co, .int goal t] [])
      Q E s := by
  obtain ⟨rest, h1, h2, h3, h4⟩ := pull U
  have hw' := inst_rest (h1 _ hw)
  refine resume_goal B F X (fun q hq => N q (h2 q hq)) T hk hdp hun hw' (inst_rest (h1 _ hc)) (dict_rest hne (h1 _ hmc)) h4 W C fun es' n' tu t' t2' h' tk' F' N' W' l1 l2 => ?_
  refine ret es' n' tu t' t2' h' tk' F' ?_ W' ?_
  · intro q hq
    rcases List.mem_cons.mp hq with rfl | hq
    · exact N' _ (.head _)
    · exact N' _ (.tail _ (h3 _ _ hq))
  · intro q hq
    rcases List.mem_cons.mp (h1 q hq) with rfl | hq
    · exact l2
    · exact l1 q hq
set_option maxHeartbeats 8000000 in
theorem set_handler_okU {w : World} {p : Program} {loose : List Str} {mean : ExcName → Option Value} {mg mb : Str → Option Value}
    {dp un : Nat} {gd : Option (List Code)} {cn : Str} {cs : Scope} {a : Addr} {ccd : Value} {cl : List (Str × Addr)} {outer : List Env} {A₀ : Around} {base h₀ : Heap} {L : Addr} {m : Str → Option Value} {s : Shared}
    {Q E : Value → Shared → Prop} {news : List (Addr × Obj)} {wo wd : Addr} {ew : List DictEntry} {nw : Nat} {hd el : Int} {isH : Bool} {ec : Str} {line : Int} {t1 : Tok} {g : Obj → List (Addr × Obj)}
    (B : Below A₀ base outer h₀) (F : Fr h₀ L s.heap m) (X : (Mine.hd.heap_1 w.params).In h₀)
    (N : News h₀ L s.heap news) (T : Top p loose mean mg mb h₀) (hk : cs.kind = .function)
    (hdp : dp + 12 < recursionLimit) (hun : un + 150 < cLine) (U : UpdF wd (dictOf ew nw) news g) (hw : (wo, instObj 146 wd) ∈ news) (W : WIs ew hd isH el ec) (hl : line ≠ 0) (ret : ∀ es' n' h' tk', Fr h₀ L h' m → News h₀ L h' (g (dictOf es' n')) → WIs es' line isH el ec → Q .none { s with heap := h', toks := tk' }) :
    wpAny (model PP w) (ktrTop dp un gd cn cs L a ccd cl outer) (call (.ref 93) [.ref wo, .int line t1] [])
      Q E s := by
  obtain ⟨rest, h1, h2, h3, h4⟩ := pull U
  have hw' := inst_rest (h1 _ hw)
  exact set_handler_ok B F X (fun q hq => N q (h2 q hq)) T hk hdp hun hw' h4 W hl fun es' n' h' tk' F' N' W' => ret _ _ _ _ F' (fun q hq => N' q (h3 _ q hq)) W'
end
end Mine
end
end
section
open PySem PySem.W PyProof.Rows PySem.Calls
namespace Mine
theorem walk_anew_15 : True := by
  w_top off
  trivial
theorem RaisedD.sub {base G : Heap} {l : List Env} {e C de : Addr} {news news' : List (Addr × Obj)} {h : Heap} (R : RaisedD base G l e C de news h) (hs : ∀ q, q ∈ news' → q ∈ news) : RaisedD base G l e C de news' h := by
  obtain ⟨B, a, b, c, d⟩ := R
  exact ⟨B, a, b, fun q hq => c q (hs q hq), d⟩
theorem DeedE.imp {base g : Heap} {L : Addr} {m : Str → Option Value} {l : List Env} {s₀ s : Shared} {P P' : List (Addr × Obj) → Str → Prop} {v : Value} (H : DeedE base g L m l s₀ P v s) (hp : ∀ news c, P news c → ∃ news', (∀ q, q ∈ news' → q ∈ news) ∧ P' news' c) : DeedE base g L m l s₀ P' v s := by
  obtain ⟨h, tk, news, e, de, es, n, c, t, G, rfl, rfl, FG, US, R, hc, hP⟩ := H
  obtain ⟨news', hs, hP'⟩ := hp _ _ hP
  refine ⟨h, tk, news', e, de, es, n, c, t, G, rfl, rfl, FG, US, R.sub fun q hq => ?_, hc, hP'⟩
  rcases List.mem_cons.mp hq with rfl | hq
  · exact .head _
  · exact .tail _ (hs q hq)
theorem DeedE.at_ {base g : Heap} {L : Addr} {m : Str → Option Value} {l : List Env} {s₀ s₁ s : Shared} {P : List (Addr × Obj) → Str → Prop} {v : Value} (H : DeedE base g L m l s₁ P v s) (h1 : s₁.gens = s₀.gens) (h2 : s₁.drawn = s₀.drawn) (h3 : s₁.os = s₀.os) : DeedE base g L m l s₀ P v s := by
  obtain ⟨h, tk, news, e, de, es, n, c, t, G, rfl, rfl, r⟩ := H
  exact ⟨h, tk, news, e, de, es, n, c, t, G, rfl, by rw [h1, h2, h3], r⟩
theorem lam_leave {M : Model} {A : Around} {E : Value → Shared → Prop} {base g g₀ : Heap} {outer : List Env} {env : Env} {L L₀ : Addr} {m m₀ : Str → Option Value} {s s1 : Shared} {P : List (Addr × Obj) → Str → Prop} {v : Value}
    (K : Below A base outer g) (hf : env.frame = some L) (FG : Fr g₀ L₀ g m₀) (H : DeedE base g L m (env :: outer) s P v s1) :
    wpAny M (A.deeper env) (leaving env v) (fun _ s'' => DeedE base g₀ L₀ m₀ outer s P v s'') E s1 := by
  obtain ⟨h, tk, news, e, de, es, n, c, t, G, rfl, rfl, FG1, US, R, hc, hP⟩ := H
  exact leave_onD K hf FG1 R US fun h' R' U' => ⟨h', _, news, e, de, es, n, c, t, g, rfl, rfl, FG, U', R', hc, hP⟩
set_option maxHeartbeats 8000000 in
theorem set_handler_raiseU {w : World} {p : Program} {loose : List Str} {mean : ExcName → Option Value} {mg mb : Str → Option Value}
    {dp un : Nat} {gd : Option (List Code)} {cn : Str} {cs : Scope} {a : Addr} {ccd : Value} {cl : List (Str × Addr)} {outer : List Env} {A₀ : Around} {base h₀ : Heap} {L : Addr} {m : Str → Option Value} {s : Shared}
    {news : List (Addr × Obj)} {wo wd : Addr} {ew : List DictEntry} {nw : Nat} {hd el : Int} {ec : Str} {t1 : Tok} {g : Obj → List (Addr × Obj)}
    (B : Below A₀ base outer h₀) (F : Fr h₀ L s.heap m) (X : (Mine.hd.heap_1 w.params).In h₀)
    (N : News h₀ L s.heap news) (T : Top p loose mean mg mb h₀) (hk : cs.kind = .function)
    (hdp : dp + 12 < recursionLimit) (hun : un + 150 < cLine) (U : UpdF wd (dictOf ew nw) news g) (hw : (wo, instObj 146 wd) ∈ news) (W : WIs ew hd true el ec) :
    wpAny (model PP w) (ktrTop dp un gd cn cs L a ccd cl outer) (call (.ref 93) [.ref wo, .int 0 t1] [])
      (fun _ _ => False) (DeedE base h₀ L m (envX cn cs L a ccd cl :: outer) s (fun news' c => (∃ es' n', (∀ q, q ∈ g (dictOf es' n') → q ∈ news') ∧ WIs es' 0 true el ec) ∧ c = ec)) s := by
  obtain ⟨rest, h1, h2, h3, h4⟩ := pull U
  refine wpAny_mono (set_handler_raise B F X (fun q hq => N q (h2 q hq)) T hk hdp hun (inst_rest (h1 _ hw)) h4 W) (fun _ _ h => h) fun v s' H => ?_
  refine H.imp fun news' c hP => ⟨news', fun _ h => h, ?_⟩
  obtain ⟨⟨es', n', rfl, W'⟩, rfl⟩ := hP
  exact ⟨⟨es', n', fun q hq => h3 _ q hq, W'⟩, rfl⟩
set_option maxHeartbeats 8000000 in
theorem law_code_upd {w : World} {p : Program} {loose : List Str} {mean : ExcName → Option Value} {mg mb : Str → Option Value}
    {dp un : Nat} {gd : Option (List Code)} {cn : Str} {cs : Scope} {a : Addr} {ccd : Value} {cl : List (Str × Addr)} {outer : List Env} {A₀ : Around} {base h₀ : Heap} {L : Addr} {m : Str → Option Value} {s : Shared}
    {Q E : Value → Shared → Prop} {news : List (Addr × Obj)} {f d : Addr} {o : Obj} {g : Obj → List (Addr × Obj)} {R : Obj → Str → Prop}
    (B : Below A₀ base outer h₀) (F : Fr h₀ L s.heap m) (X : (Mine.hd.heap_1 w.params).In h₀)
    (N : News h₀ L s.heap news) (T : Top p loose mean mg mb h₀) (XB : (Mine.hd.heap_1 w.params).In base) (TB : Top p loose mean mg mb base) (D : KtsDicts (outer.filterMap (·.frame)) h₀) (hk : cs.kind = .function)
    (hdp : dp + 15 < recursionLimit) (hun : un + 200 < cLine) (hfn : FnAtAll f news) (U : UpdF d o news g)
    (hdeed : ∀ cn' cs' a' ccd' g' L' h' m' tk' un', cs'.kind = .function → un' ≤ un + 50 → Fr g' L' h' m' → News g' L' h' news → Below (ktrTop dp un gd cn cs L a ccd cl outer) base (envX cn cs L a ccd cl :: outer) g' →
      (Mine.hd.heap_1 w.params).In g' → Top p loose mean mg mb g' →
      wpAny (model PP w) (ktrTop (dp + 1) un' gd cn' cs' L' a' ccd' [] (envX cn cs L a ccd cl :: outer)) (call (.ref f) [] [])
        (DeedQ g' L' m' s (fun _ => False)) (DeedE base g' L' m' (envX cn' cs' L' a' ccd' [] :: envX cn cs L a ccd cl :: outer) s (fun l c => ∃ o', (∀ q, q ∈ g o' → q ∈ l) ∧ R o' c)) { s with heap := h', toks := tk' })
    (rete : ∀ h₀' o' c t h' tk', R o' c → KtsTurn (outer.filterMap (·.frame)) h₀ h₀' → Fr h₀' L h' m → News h₀' L h' (g o') → Below A₀ base outer h₀' → (Mine.hd.heap_1 w.params).In h₀' → Top p loose mean mg mb h₀' → KtsDicts (outer.filterMap (·.frame)) h₀' → Q (.str c t) { s with heap := h', toks := tk' }) :
    wpAny (model PP w) (ktrTop dp un gd cn cs L a ccd cl outer) (call (.ref 178) [.ref f] [])
      Q E s := by
  refine law_code_ok B F X N T XB TB D hk hdp hun hfn hdeed (fun _ _ _ _ h => h.elim) ?_
  rintro h₀' news' c t h' tk' ⟨o', hs, hR⟩ T1 F1 N1 B1 X1 P1 D1
  exact rete h₀' o' c t h' tk' hR T1 F1 (fun q hq => N1 q (hs q hq)) B1 X1 P1 D1
set_option maxHeartbeats 8000000 in
theorem law_code_same {w : World} {p : Program} {loose : List Str} {mean : ExcName → Option Value} {mg mb : Str → Option Value}
    {dp un : Nat} {gd : Option (List Code)} {cn : Str} {cs : Scope} {a : Addr} {ccd : Value} {cl : List (Str × Addr)} {outer : List Env} {A₀ : Around} {base h₀ : Heap} {L : Addr} {m : Str → Option Value} {s : Shared}
    {Q E : Value → Shared → Prop} {news : List (Addr × Obj)} {f : Addr} {R : Str → Prop}
    (B : Below A₀ base outer h₀) (F : Fr h₀ L s.heap m) (X : (Mine.hd.heap_1 w.params).In h₀)
    (N : News h₀ L s.heap news) (T : Top p loose mean mg mb h₀) (XB : (Mine.hd.heap_1 w.params).In base) (TB : Top p loose mean mg mb base) (D : KtsDicts (outer.filterMap (·.frame)) h₀) (hk : cs.kind = .function)
    (hdp : dp + 15 < recursionLimit) (hun : un + 200 < cLine) (hfn : FnAtAll f news)
    (hdeed : ∀ cn' cs' a' ccd' g' L' h' m' tk' un', cs'.kind = .function → un' ≤ un + 50 → Fr g' L' h' m' → News g' L' h' news → Below (ktrTop dp un gd cn cs L a ccd cl outer) base (envX cn cs L a ccd cl :: outer) g' →
      (Mine.hd.heap_1 w.params).In g' → Top p loose mean mg mb g' →
      wpAny (model PP w) (ktrTop (dp + 1) un' gd cn' cs' L' a' ccd' [] (envX cn cs L a ccd cl :: outer)) (call (.ref f) [] [])
        (DeedQ g' L' m' s (fun _ => False)) (DeedE base g' L' m' (envX cn' cs' L' a' ccd' [] :: envX cn cs L a ccd cl :: outer) s (fun l c => l = news ∧ R c)) { s with heap := h', toks := tk' })
    (rete : ∀ h₀' c t h' tk', R c → KtsTurn (outer.filterMap (·.frame)) h₀ h₀' → Fr h₀' L h' m → News h₀' L h' news → Below A₀ base outer h₀' → (Mine.hd.heap_1 w.params).In h₀' → Top p loose mean mg mb h₀' → KtsDicts (outer.filterMap (·.frame)) h₀' → Q (.str c t) { s with heap := h', toks := tk' }) :
    wpAny (model PP w) (ktrTop dp un gd cn cs L a ccd cl outer) (call (.ref 178) [.ref f] [])
      Q E s := by
  refine law_code_ok B F X N T XB TB D hk hdp hun hfn hdeed (fun _ _ _ _ h => h.elim) ?_
  rintro h₀' news' c t h' tk' ⟨rfl, hR⟩ T1 F1 N1 B1 X1 P1 D1
  exact rete h₀' c t h' tk' hR T1 F1 N1 B1 X1 P1 D1
set_option maxHeartbeats 8000000 in
theorem law_code_none {w : World} {p : Program} {loose : List Str} {mean : ExcName → Option Value} {mg mb : Str → Option Value}
    {dp un : Nat} {gd : Option (List Code)} {cn : Str} {cs : Scope} {a : Addr} {ccd : Value} {cl : List (Str × Addr)} {outer : List Env} {A₀ : Around} {base h₀ : Heap} {L : Addr} {m : Str → Option Value} {s : Shared}
    {Q E : Value → Shared → Prop} {news : List (Addr × Obj)} {f : Addr}
    (B : Below A₀ base outer h₀) (F : Fr h₀ L s.heap m) (X : (Mine.hd.heap_1 w.params).In h₀)
    (N : News h₀ L s.heap news) (T : Top p loose mean mg mb h₀) (XB : (Mine.hd.heap_1 w.params).In base) (TB : Top p loose mean mg mb base) (D : KtsDicts (outer.filterMap (·.frame)) h₀) (hk : cs.kind = .function)
    (hdp : dp + 15 < recursionLimit) (hun : un + 200 < cLine) (hfn : FnAtAll f news)
    (hdeed : ∀ cn' cs' a' ccd' g' L' h' m' tk' un', cs'.kind = .function → un' ≤ un + 50 → Fr g' L' h' m' → News g' L' h' news → Below (ktrTop dp un gd cn cs L a ccd cl outer) base (envX cn cs L a ccd cl :: outer) g' →
      (Mine.hd.heap_1 w.params).In g' → Top p loose mean mg mb g' →
      wpAny (model PP w) (ktrTop (dp + 1) un' gd cn' cs' L' a' ccd' [] (envX cn cs L a ccd cl :: outer)) (call (.ref f) [] [])
        (DeedQ g' L' m' s (fun l => l = news)) (DeedE base g' L' m' (envX cn' cs' L' a' ccd' [] :: envX cn cs L a ccd cl :: outer) s (fun _ _ => False)) { s with heap := h', toks := tk' })
    (retq : ∀ h₀' h' tk', KtsTurn (outer.filterMap (·.frame)) h₀ h₀' → Fr h₀' L h' m → News h₀' L h' news → Below A₀ base outer h₀' → (Mine.hd.heap_1 w.params).In h₀' → Top p loose mean mg mb h₀' → KtsDicts (outer.filterMap (·.frame)) h₀' → Q .none { s with heap := h', toks := tk' }) :
    wpAny (model PP w) (ktrTop dp un gd cn cs L a ccd cl outer) (call (.ref 178) [.ref f] [])
      Q E s := by
  refine law_code_ok B F X N T XB TB D hk hdp hun hfn hdeed ?_ (fun _ _ _ _ _ _ h => h.elim)
  rintro h₀' news' h' tk' rfl T1 F1 N1 B1 X1 P1 D1
  exact retq h₀' h' tk' T1 F1 N1 B1 X1 P1 D1
theorem upd_of_updF {d : Addr} {o o' : Obj} {l : List (Addr × Obj)} {g : Obj → List (Addr × Obj)} (U : UpdF d o l g) : Upd d o o' l (g o') := by
  induction U with
  | head h => exact .head h
  | tail h _ ih => exact .tail h ih
theorem ne_of_gtAll {d e : Addr} {l : List (Addr × Obj)} (h : ∀ p ∈ l, @LT.lt Nat _ e p.1) (hde : @LE.le Nat _ d e) : ∀ p ∈ l, p.1 ≠ d := fun p hp q => by
  have h1 : @LT.lt Nat _ e p.1 := h p hp
  have h2 : p.1 = d := q
  rw [h2] at h1
  exact absurd (Nat.lt_of_lt_of_le h1 hde) (Nat.lt_irrefl _)
theorem appendL {prog : Program} {w : World} {A : Around} {E : Value → Shared → Prop} {s : Shared} {h₀ : Heap} {L D : Addr} {m : Str → Option Value} {news : List (Addr × Obj)} {g : Obj → List (Addr × Obj)} {vs : List Value} {n : Nat} {x : Value} {Q : Value → Shared → Prop}
    (F : Fr h₀ L s.heap m) (N : News h₀ L s.heap news) (U : UpdF D (listOf vs.toArray n) news g) (hsz : vs.length ≤ 1000)
    (h : ∀ h', Fr h₀ L h' m → News h₀ L h' (g (listOf (vs ++ [x]).toArray (n + 1))) → Q .none { s with heap := h' }) : wpAny (model prog w) A (call (.builtin "list.append") [.ref D, x]) Q E s := by
  refine append_K (its := vs.toArray) (n := n) F N (upd_of_updF U) (fun h' F' N' => h h' F' ?_) (by rw [List.size_toArray, sizeLine_eq]; omega)
  rw [List.push_toArray] at N'
  exact N'
end Mine
end
section
open PySem PySem.W PyProof.Rows PySem.Calls
open Mine
local macro_rules | `(tactic| k_get) => `(tactic| first | with_reducible assumption | exact KeepL.at_ (by with_reducible assumption) (by decide +kernel) (by k_get))
section
open PySem PySem.W PyProof.Rows PySem.Calls
open Mine
local macro_rules | `(tactic| k_mem) => `(tactic| first | with_reducible assumption | with_reducible exact List.mem_cons_self | (refine' List.mem_cons_of_mem _ ?_; k_mem))
local macro_rules | `(tactic| k_inst) => `(tactic| exact instOf (by k_asm) (by k_mem) (by k_mem))
section
open PySem PySem.W PyProof.Rows PySem.Calls
namespace Mine
theorem walk_anew_16 : True := by
  w_top off
  trivial
section
local macro_rules | `(tactic| walk_at "call ref") => `(tactic| (k_here; (with_reducible show wpAny _ _ (call (Value.ref 107) [_, _, _] []) _ _ _); k_dflt (refine' resume_noneU ?k1 ?k2 ?k3 ?k4 ?k5 ?k6 ?k7 ?k8 ?e0 ?e1 ?e2 ?e3 ?e4 ?e5 ?e6 ?_; walk_at "p8"; (case e1 | e2 | e3 => k_mem); (case e0 => k_updF); (case e4 => k_ne); (case e5 | e6 => assumption); k_whole; intro es' n' tu' t' t2' h' tk' F' N' W' l1; (try k_lt l1); (try dsimp only at N'); (try k_sweep))))
local macro_rules | `(tactic| walk_at "call ref") => `(tactic| (k_here; (with_reducible show wpAny _ _ (call (Value.ref 107) [_, _, _] []) _ _ _); k_dflt (refine' resume_nextU ?k1 ?k2 ?k3 ?k4 ?k5 ?k6 ?k7 ?k8 ?e0 ?e1 ?e2 ?e3 ?e4 ?e5 ?e6 ?_; walk_at "p8"; (case e1 | e2 | e3 => k_mem); (case e0 => k_updF); (case e4 => k_ne); (case e5 | e6 => assumption); k_whole; intro es' n' tu' t' t2' h' tk' F' N' W' l1; (try k_lt l1); (try dsimp only at N'); (try k_sweep))))
local macro_rules | `(tactic| walk_at "call ref") => `(tactic| (k_here; (with_reducible show wpAny _ _ (call (Value.ref 107) [_, _, _] []) _ _ _); k_dflt (refine' resume_goalU ?k1 ?k2 ?k3 ?k4 ?k5 ?k6 ?k7 ?k8 ?e0 ?e1 ?e2 ?e3 ?e4 ?e5 ?e6 ?_; walk_at "p8"; (case e1 | e2 | e3 => k_mem); (case e0 => k_updF); (case e4 => k_ne); (case e5 | e6 => assumption); k_whole; intro es' n' tu' t' t2' h' tk' F' N' W' l1; (try k_lt l1); (try dsimp only at N'); (try k_sweep))))
local macro_rules | `(tactic| walk_at "call ref") => `(tactic| (k_here; (with_reducible show wpAny _ _ (call (Value.ref 100) [_, _, _, _, _] []) _ _ _); k_dflt (refine' caught_on ?k1 ?k2 ?k3 ?k4 ?k5 ?k6 ?k7 ?k8 ?e0 ?e1 ?e2 ?e3 ?e4 ?e5 ?_; walk_at "p8"; (case e0 | e1 | e2 | e3 => k_mem); (case e4 | e5 => assumption); k_whole; intro t' h' tk' F' N'; (try dsimp only at N'); (try k_sweep))))
set_option maxHeartbeats 8000000 in
theorem led_none {w : World} {p : Program} {loose : List Str} {mean : ExcName → Option Value} {mg mb : Str → Option Value}
    {dp un : Nat} {gd : Option (List Code)} {cn : Str} {cs : Scope} {a : Addr} {ccd : Value} {cl : List (Str × Addr)} {outer : List Env} {A₀ : Around} {base h₀ : Heap} {L : Addr} {m : Str → Option Value} {s : Shared}
    {Q E : Value → Shared → Prop} {news : List (Addr × Obj)} {wo wd : Addr} {ew : List DictEntry} {nw : Nat} {hd el : Int} {ec : Str} {co cd : Addr} {ev : List DictEntry} {nv : Nat} {fa goal : Int} {t3 t4 : Tok}
    (B : Below A₀ base outer h₀) (F : Fr h₀ L s.heap m) (X : (Mine.hd.heap_1 w.params).In h₀)
    (N : News h₀ L s.heap ((wd, dictOf ew nw) :: (cd, dictOf ev nv) :: (166, tabObj #[]) :: news)) (T : Top p loose mean mg mb h₀) (hk : cs.kind = .function)
    (hdp : dp + 20 < recursionLimit) (hun : un + 300 < cLine) (hw : (wo, instObj 146 wd) ∈ news) (hc : (co, instObj 75 cd) ∈ news) (ap : ∀ p ∈ news, p.1 ≠ wd) (ap2 : ∀ p ∈ news, p.1 ≠ cd) (ap3 : ∀ p ∈ news, p.1 ≠ 166) (hne : wd < cd) (hne2 : 166 < wd) (W : WIs ew hd true el ec) (C : CIs ev fa) (ret : ∀ es' n' t h' tk', Fr h₀ L h' m → News h₀ L h' ((wd, dictOf es' n') :: (cd, dictOf ev nv) :: (166, tabObj #[]) :: news) → WIs es' hd false el ec → Q (.int fa t) { s with heap := h', toks := tk' }) :
    wpAny (model PP w) (ktrTop dp un gd cn cs L a ccd cl outer) (call (.ref 171) [.ref wo, .ref co, .int 0 t3, .int goal t4] [])
      Q E s := by
  replace hne := ltN hne
  replace hne2 := ltN hne2
  refine wpAny_call ?_
  k_dflt k_enter
  k_steps
  refine' ret _ _ _ _ _ ?r1 ?r2 ?r3
  case r1 => k_asm
  case r2 => exact fun q hq => (by k_asm : News _ _ _ (_ :: _ :: _ :: _ :: _ :: _ :: news)) q (.tail _ (.tail _ (.tail _ hq)))
  case r3 => assumption
set_option maxHeartbeats 8000000 in
theorem led_next {w : World} {p : Program} {loose : List Str} {mean : ExcName → Option Value} {mg mb : Str → Option Value}
    {dp un : Nat} {gd : Option (List Code)} {cn : Str} {cs : Scope} {a : Addr} {ccd : Value} {cl : List (Str × Addr)} {outer : List Env} {A₀ : Around} {base h₀ : Heap} {L : Addr} {m : Str → Option Value} {s : Shared}
    {Q E : Value → Shared → Prop} {news : List (Addr × Obj)} {wo wd : Addr} {ew : List DictEntry} {nw : Nat} {hd el : Int} {ec : Str} {co cd : Addr} {ev : List DictEntry} {nv : Nat} {fa goal : Int} {t3 t4 : Tok}
    (B : Below A₀ base outer h₀) (F : Fr h₀ L s.heap m) (X : (Mine.hd.heap_1 w.params).In h₀)
    (N : News h₀ L s.heap ((wd, dictOf ew nw) :: (cd, dictOf ev nv) :: (166, tabObj #[]) :: news)) (T : Top p loose mean mg mb h₀) (hk : cs.kind = .function)
    (hdp : dp + 20 < recursionLimit) (hun : un + 300 < cLine) (hw : (wo, instObj 146 wd) ∈ news) (hc : (co, instObj 75 cd) ∈ news) (ap : ∀ p ∈ news, p.1 ≠ wd) (ap2 : ∀ p ∈ news, p.1 ≠ cd) (ap3 : ∀ p ∈ news, p.1 ≠ 166) (hne : wd < cd) (hne2 : 166 < wd) (W : WIs ew hd true el ec) (C : CIs ev fa) (ret : ∀ es' n' t h' tk', Fr h₀ L h' m → News h₀ L h' ((wd, dictOf es' n') :: (cd, dictOf ev nv) :: (166, tabObj #[]) :: news) → WIs es' hd false el ec → Q (.int (fa + 1) t) { s with heap := h', toks := tk' }) :
    wpAny (model PP w) (ktrTop dp un gd cn cs L a ccd cl outer) (call (.ref 171) [.ref wo, .ref co, .int 1 t3, .int goal t4] [])
      Q E s := by
  replace hne := ltN hne
  replace hne2 := ltN hne2
  refine wpAny_call ?_
  k_dflt k_enter
  k_steps
  refine' ret _ _ _ _ _ ?r1 ?r2 ?r3
  case r1 => k_asm
  case r2 => exact fun q hq => (by k_asm : News _ _ _ (_ :: _ :: _ :: _ :: _ :: _ :: news)) q (.tail _ (.tail _ (.tail _ hq)))
  case r3 => assumption
set_option maxHeartbeats 8000000 in
theorem led_goal {w : World} {p : Program} {loose : List Str} {mean : ExcName → Option Value} {mg mb : Str → Option Value}
    {dp un : Nat} {gd : Option (List Code)} {cn : Str} {cs : Scope} {a : Addr} {ccd : Value} {cl : List (Str × Addr)} {outer : List Env} {A₀ : Around} {base h₀ : Heap} {L : Addr} {m : Str → Option Value} {s : Shared}
    {Q E : Value → Shared → Prop} {news : List (Addr × Obj)} {wo wd : Addr} {ew : List DictEntry} {nw : Nat} {hd el : Int} {ec : Str} {co cd : Addr} {ev : List DictEntry} {nv : Nat} {fa goal : Int} {t3 t4 : Tok}
    (B : Below A₀ base outer h₀) (F : Fr h₀ L s.heap m) (X : (Mine.hd.heap_1 w.params).In h₀)
    (N : News h₀ L s.heap ((wd, dictOf ew nw) :: (cd, dictOf ev nv) :: (166, tabObj #[]) :: news)) (T : Top p loose mean mg mb h₀) (hk : cs.kind = .function)
    (hdp : dp + 20 < recursionLimit) (hun : un + 300 < cLine) (hw : (wo, instObj 146 wd) ∈ news) (hc : (co, instObj 75 cd) ∈ news) (ap : ∀ p ∈ news, p.1 ≠ wd) (ap2 : ∀ p ∈ news, p.1 ≠ cd) (ap3 : ∀ p ∈ news, p.1 ≠ 166) (hne : wd < cd) (hne2 : 166 < wd) (W : WIs ew hd true el ec) (C : CIs ev fa) (ret : ∀ es' n' t h' tk', Fr h₀ L h' m → News h₀ L h' ((wd, dictOf es' n') :: (cd, dictOf ev nv) :: (166, tabObj #[]) :: news) → WIs es' hd false el ec → Q (.int goal t) { s with heap := h', toks := tk' }) :
    wpAny (model PP w) (ktrTop dp un gd cn cs L a ccd cl outer) (call (.ref 171) [.ref wo, .ref co, .int 2 t3, .int goal t4] [])
      Q E s := by
  replace hne := ltN hne
  replace hne2 := ltN hne2
  refine wpAny_call ?_
  k_dflt k_enter
  k_steps
  refine' ret _ _ _ _ _ ?r1 ?r2 ?r3
  case r1 => k_asm
  case r2 => exact fun q hq => (by k_asm : News _ _ _ (_ :: _ :: _ :: _ :: _ :: _ :: news)) q (.tail _ (.tail _ (.tail _ hq)))
  case r3 => assumption
set_option maxHeartbeats 8000000 in
theorem led_three {w : World} {p : Program} {loose : List Str} {mean : ExcName → Option Value} {mg mb : Str → Option Value}
    {dp un : Nat} {gd : Option (List Code)} {cn : Str} {cs : Scope} {a : Addr} {ccd : Value} {cl : List (Str × Addr)} {outer : List Env} {A₀ : Around} {base h₀ : Heap} {L : Addr} {m : Str → Option Value} {s : Shared}
    {Q E : Value → Shared → Prop} {news : List (Addr × Obj)} {wo wd : Addr} {ew : List DictEntry} {nw : Nat} {hd el : Int} {ec : Str} {co cd : Addr} {ev : List DictEntry} {nv : Nat} {fa goal : Int} {t3 t4 : Tok}
    (B : Below A₀ base outer h₀) (F : Fr h₀ L s.heap m) (X : (Mine.hd.heap_1 w.params).In h₀)
    (N : News h₀ L s.heap ((wd, dictOf ew nw) :: (cd, dictOf ev nv) :: (166, tabObj #[]) :: news)) (T : Top p loose mean mg mb h₀) (hk : cs.kind = .function)
    (hdp : dp + 20 < recursionLimit) (hun : un + 300 < cLine) (hw : (wo, instObj 146 wd) ∈ news) (hc : (co, instObj 75 cd) ∈ news) (ap : ∀ p ∈ news, p.1 ≠ wd) (ap2 : ∀ p ∈ news, p.1 ≠ cd) (ap3 : ∀ p ∈ news, p.1 ≠ 166) (hne : wd < cd) (hne2 : 166 < wd) (W : WIs ew hd true el ec) (C : CIs ev fa) (ret : ∀ t h' tk', Fr h₀ L h' m → News h₀ L h' ((wd, dictOf ew nw) :: (cd, dictOf ev nv) :: (166, tabObj #[]) :: news) → Q (.str (Str.ofString "handler 0") t) { s with heap := h', toks := tk' }) :
    wpAny (model PP w) (ktrTop dp un gd cn cs L a ccd cl outer) (call (.ref 171) [.ref wo, .ref co, .int 3 t3, .int goal t4] [])
      Q E s := by
  replace hne := ltN hne
  replace hne2 := ltN hne2
  refine wpAny_call ?_
  k_dflt k_enter
  k_steps
  have e : Str.ofString "handler " ++ Str.ofString (toString (0 : Int)) = Str.ofString "handler 0" := by decide +kernel
  rw [e]
  refine' ret _ _ _ ?r1 ?r2
  case r1 => k_asm
  case r2 => exact fun q hq => (by k_asm : News _ _ _ (_ :: _ :: _ :: _ :: news)) q (.tail _ hq)
end
end Mine
end
section
open PySem PySem.W PyProof.Rows PySem.Calls
namespace Mine
theorem walk_anew_17 : True := by
  w_top off
  trivial
def Hold (p : Prop) : Prop := p
theorem Hold.out {p : Prop} (h : Hold p) : p := h
theorem Hold.mk {p : Prop} (h : p) : Hold p := h
section
local macro_rules | `(tactic| walk_at "pX") => `(tactic| ((case XB | TB | D => assumption)))
local macro_rules | `(tactic| k_enter) => `(tactic| (refine' code_defCT ?k1 ?k2 ?k3 ?k4 ?k5 ?XB ?TB ?D ?kA ?kF ?kK ?k6 ?k7 ?k8 ?k9 ?kB ?kD ?_ ?c2 ?c3 ?c4; walk_at "pE"; walk_at "pX"; (case kB => exact rfl); (case kD => decide +kernel); (case c2 | c3 | c4 => exact rfl); k_whole; intro g' L' h' tk' cells' FG' F' N' Y' B' X' T' D' l1; (try k_lt l1); k_cells Y'; (try simp only [List.cons_append, List.nil_append] at N'); (try dsimp only); (try k_lift B'); (try k_fold)))
local macro_rules | `(tactic| k_enter) => `(tactic| first | (refine' code_defT ?k1 ?k2 ?k3 ?k4 ?k5 ?XB ?TB ?D ?kA ?kF ?kK ?k6 ?k7 ?k8 ?k9 ?kB ?_ ?c2 ?c3 ?c4 ?c5; walk_at "pE"; walk_at "pX"; (case c5 => decide); (case kB => exact locs rfl); (case c2 | c3 | c4 => exact rfl); k_whole; intro g' L' h' FG' F' N' B' X' T' D'; (try dsimp only); (try k_lift B'); (try k_fold)) | fail)
local macro_rules | `(tactic| walk_at "call ref") => `(tactic| (k_here; kn_here; k_dflt (refine wpAny_call ?_; refine' kla_code ?k1 ?k2 ?k3 ?k4 ?k5 ?kA ?kF ?kK ?k6 ?k7 ?k8 ?k9 ?kB ?_ ?c2 ?c3 ?c4 ?c5; (case kA => exact rfl); (case kF => exact rfl); (case kK => first | exact rfl | assumption); (case k1 | k2 | k3 | k4 | k5 => k_asm); (case k6 => k_mem); (case k7 => exact codeRec_news (by k_asm) (by k_mem) (by assumption) (by assumption)); (case k8 => k_room); (case k9 => exact rfl); (case c5 => decide); (case kB => exact locs rfl); (case c2 => exact rfl); (case c3 => exact rfl); (case c4 => exact rfl); k_whole; intro g' L' h' FG' F' N' B' X' T'; (try dsimp only); (try k_lift B'); (try k_fold))))
local macro_rules | `(tactic| walk_at "call ref") => `(tactic| (k_here; (with_reducible show wpAny _ _ (call (Value.ref 178) [_] []) _ _ _); refine Hold.out ?_))
local macro_rules | `(tactic| walk_at "call ref") => `(tactic| (k_here; (with_reducible show wpAny _ _ (call (Value.ref 93) [_, _] []) _ _ _); refine Hold.out ?_))
local macro_rules | `(tactic| walk_at "call ref") => `(tactic| (k_here; (with_reducible show wpAny _ _ (call (Value.ref 128) [_] []) _ _ _); refine Hold.out ?_))
set_option maxHeartbeats 8000000 in
theorem led_four {w : World} {p : Program} {loose : List Str} {mean : ExcName → Option Value} {mg mb : Str → Option Value}
    {dp un : Nat} {gd : Option (List Code)} {cn : Str} {cs : Scope} {a : Addr} {ccd : Value} {cl : List (Str × Addr)} {outer : List Env} {A₀ : Around} {base h₀ : Heap} {L : Addr} {m : Str → Option Value} {s : Shared}
    {Q E : Value → Shared → Prop} {news : List (Addr × Obj)} {wo wd : Addr} {ew : List DictEntry} {nw : Nat} {hd el : Int} {ec : Str} {co cd : Addr} {ev : List DictEntry} {nv : Nat} {fa goal : Int} {t3 t4 : Tok}
    (B : Below A₀ base outer h₀) (F : Fr h₀ L s.heap m) (X : (Mine.hd.heap_1 w.params).In h₀)
    (N : News h₀ L s.heap ((wd, dictOf ew nw) :: (cd, dictOf ev nv) :: (166, tabObj #[]) :: news)) (T : Top p loose mean mg mb h₀) (XB : (Mine.hd.heap_1 w.params).In base) (TB : Top p loose mean mg mb base) (D : KtsDicts (outer.filterMap (·.frame)) h₀) (hk : cs.kind = .function)
    (hdp : dp + 20 < recursionLimit) (hun : un + 300 < cLine) (hw : (wo, instObj 146 wd) ∈ news) (hc : (co, instObj 75 cd) ∈ news) (ap : ∀ p ∈ news, p.1 ≠ wd) (ap2 : ∀ p ∈ news, p.1 ≠ cd) (ap3 : ∀ p ∈ news, p.1 ≠ 166) (hne : wd < cd) (hne2 : 166 < wd) (W : WIs ew hd true el ec) (C : CIs ev fa) (hec : ec.length ≤ 10) (CB : CodeHd base 170 166) (ret : ∀ h₀' es' n' ps t h' tk', KtsTurn (outer.filterMap (·.frame)) h₀ h₀' → Fr h₀' L h' m → News h₀' L h' ((wd, dictOf es' n') :: (cd, dictOf ev nv) :: (166, tabObj ps) :: news) → Below A₀ base outer h₀' → (Mine.hd.heap_1 w.params).In h₀' → Top p loose mean mg mb h₀' → KtsDicts (outer.filterMap (·.frame)) h₀' → Q (.str (Str.ofString "anew " ++ ec) t) { s with heap := h', toks := tk' }) :
    wpAny (model PP w) (ktrTop dp un gd cn cs L a ccd cl outer) (call (.ref 171) [.ref wo, .ref co, .int 4 t3, .int goal t4] [])
      Q E s := by
  replace hne := ltN hne
  replace hne2 := ltN hne2
  refine wpAny_call ?_
  k_dflt k_enter
  k_steps
  refine Hold.mk ?_
  k_dflt (refine' law_code_upd (d := wd) (o := dictOf ew nw) (R := fun o c => (∃ es n, o = dictOf es n ∧ WIs es 0 true el ec) ∧ c = ec) ?k1 ?k2 ?k3 ?k4 ?k5 ?k6 ?k7 ?k8 ?k9 ?k10 ?k11 ?k12 ?kU ?hdeed ?hret)
  case k1 => k_asm
  case k2 => k_asm
  case k3 => k_asm
  case k4 => k_asm
  case k5 => k_asm
  case k6 => assumption
  case k7 => assumption
  case k8 => assumption
  case k9 => first | rfl | assumption
  case k10 => (simp only [depth_under_make, depth_under_kw, depth_in1, depth_deeper, depth_caller]); omega
  case k11 => ktr_units
  case k12 => exact ⟨_, _, _, _, by k_mem⟩
  case kU => k_updF
  case hdeed =>
    intro cn' cs' a' ccd' g' L' h' m' tk' un' hk' hu' F' N' B' X' T'
    k_steps
    refine Hold.mk ?_
    k_dflt (refine' wpAny_mono (set_handler_raiseU ?k1 ?k2 ?k3 ?k4 ?k5 ?k6 ?k7 ?k8 ?e0 ?e1 ?e2) ?hq ?he)
    case k1 => k_asm
    case k2 => k_asm
    case k3 => k_asm
    case k4 => k_asm
    case k5 => k_asm
    case k6 => first | rfl | assumption
    case k7 => (simp only [depth_under_make, depth_under_kw, depth_in1, depth_deeper, depth_caller]); omega
    case k8 => ktr_units
    case e1 => k_mem
    case e0 => k_updF
    case e2 => assumption
    case hq => intro v s1 h; exact h.elim
    case he =>
      intro v s1 H
      (try k_unfold)
      (try dsimp only)
      refine' lam_leave (by assumption) rfl (by assumption) (DeedE.at_ (H.imp ?hp) rfl rfl rfl)
      rintro news1 c ⟨⟨es', n', hs, W'⟩, hc⟩
      exact ⟨news1, fun _ h => h, dictOf es' n', hs, ⟨es', n', rfl, W'⟩, hc⟩
  case hret =>
    rintro h₀' o' c t h' tk' ⟨⟨es', n', rfl, W'⟩, rfl⟩ T1 F1 N1 B1 X1 P1 D1
    (try dsimp only at N1)
    k_steps
    k_dflt (refine' leaveT_ (by k_asm) (by k_asm) (by k_asm) ?_)
    intro h₀'' T2 F2 N2 B2 X2 P2 D2
    refine' ret h₀'' es' n' ?ps _ _ _ T2 F2 ?zN B2 X2 P2 D2
    case zN =>
      intro q hq
      refine N2 q ?_
      rcases List.mem_cons.mp hq with rfl | hq
      · k_mem
      rcases List.mem_cons.mp hq with rfl | hq
      · k_mem
      rcases List.mem_cons.mp hq with rfl | hq
      · k_mem
      k_mem
set_option maxHeartbeats 8000000 in
theorem led_five {w : World} {p : Program} {loose : List Str} {mean : ExcName → Option Value} {mg mb : Str → Option Value}
    {dp un : Nat} {gd : Option (List Code)} {cn : Str} {cs : Scope} {a : Addr} {ccd : Value} {cl : List (Str × Addr)} {outer : List Env} {A₀ : Around} {base h₀ : Heap} {L : Addr} {m : Str → Option Value} {s : Shared}
    {Q E : Value → Shared → Prop} {news : List (Addr × Obj)} {wo wd : Addr} {ew : List DictEntry} {nw : Nat} {hd el : Int} {ec : Str} {co cd : Addr} {ev : List DictEntry} {nv : Nat} {fa goal : Int} {t3 t4 : Tok}
    (B : Below A₀ base outer h₀) (F : Fr h₀ L s.heap m) (X : (Mine.hd.heap_1 w.params).In h₀)
    (N : News h₀ L s.heap ((wd, dictOf ew nw) :: (cd, dictOf ev nv) :: (166, tabObj #[]) :: news)) (T : Top p loose mean mg mb h₀) (XB : (Mine.hd.heap_1 w.params).In base) (TB : Top p loose mean mg mb base) (D : KtsDicts (outer.filterMap (·.frame)) h₀) (hk : cs.kind = .function)
    (hdp : dp + 20 < recursionLimit) (hun : un + 300 < cLine) (hw : (wo, instObj 146 wd) ∈ news) (hc : (co, instObj 75 cd) ∈ news) (ap : ∀ p ∈ news, p.1 ≠ wd) (ap2 : ∀ p ∈ news, p.1 ≠ cd) (ap3 : ∀ p ∈ news, p.1 ≠ 166) (hne : wd < cd) (hne2 : 166 < wd) (W : WIs ew hd true el ec) (C : CIs ev fa) (hec : ec.length ≤ 10) (CB : CodeHd base 170 166) (ret : ∀ h₀' ps t h' tk', KtsTurn (outer.filterMap (·.frame)) h₀ h₀' → Fr h₀' L h' m → News h₀' L h' ((wd, dictOf ew nw) :: (cd, dictOf ev nv) :: (166, tabObj ps) :: news) → Below A₀ base outer h₀' → (Mine.hd.heap_1 w.params).In h₀' → Top p loose mean mg mb h₀' → KtsDicts (outer.filterMap (·.frame)) h₀' → Q (.str (Str.ofString "NR") t) { s with heap := h', toks := tk' }) :
    wpAny (model PP w) (ktrTop dp un gd cn cs L a ccd cl outer) (call (.ref 171) [.ref wo, .ref co, .int 5 t3, .int goal t4] [])
      Q E s := by
  replace hne := ltN hne
  replace hne2 := ltN hne2
  refine wpAny_call ?_
  k_dflt k_enter
  k_steps
  refine Hold.mk ?_
  k_dflt (refine' law_code_same (R := fun c => c = Str.ofString "NR") ?k1 ?k2 ?k3 ?k4 ?k5 ?k6 ?k7 ?k8 ?k9 ?k10 ?k11 ?k12  ?hdeed ?hret)
  case k1 => k_asm
  case k2 => k_asm
  case k3 => k_asm
  case k4 => k_asm
  case k5 => k_asm
  case k6 => assumption
  case k7 => assumption
  case k8 => assumption
  case k9 => first | rfl | assumption
  case k10 => (simp only [depth_under_make, depth_under_kw, depth_in1, depth_deeper, depth_caller]); omega
  case k11 => ktr_units
  case k12 => exact ⟨_, _, _, _, by k_mem⟩
  case hdeed =>
    intro cn' cs' a' ccd' g' L' h' m' tk' un' hk' hu' F' N' B' X' T'
    k_steps
    refine Hold.mk ?_
    k_dflt (refine' wpAny_mono (check_end_raise ?k1 ?k2 ?k3 ?k4 ?k5 ?k6 ?k7 ?k8 ?e0 ?e1 ?e2) ?hq ?he)
    case k1 => k_asm
    case k2 => k_asm
    case k3 => k_asm
    case k4 => k_asm
    case k5 => k_asm
    case k6 => first | rfl | assumption
    case k7 => (simp only [depth_under_make, depth_under_kw, depth_in1, depth_deeper, depth_caller]); omega
    case k8 => ktr_units
    case e0 => k_mem
    case e1 => k_mem
    case e2 => assumption
    case hq => intro v s1 h; exact h.elim
    case he =>
      intro v s1 H
      (try k_unfold)
      (try dsimp only)
      refine' lam_leave (by assumption) rfl (by assumption) (DeedE.at_ (H.imp ?hp) rfl rfl rfl)
      rintro news1 c ⟨rfl, rfl⟩
      exact ⟨_, fun _ h => h, rfl, rfl⟩
  case hret =>
    rintro h₀' c t h' tk' rfl T1 F1 N1 B1 X1 P1 D1
    k_steps
    k_dflt (refine' leaveT_ (by k_asm) (by k_asm) (by k_asm) ?_)
    intro h₀'' T2 F2 N2 B2 X2 P2 D2
    refine' ret h₀'' ?ps _ _ _ T2 F2 ?zN B2 X2 P2 D2
    case zN =>
      intro q hq
      refine N2 q ?_
      rcases List.mem_cons.mp hq with rfl | hq
      · k_mem
      rcases List.mem_cons.mp hq with rfl | hq
      · k_mem
      rcases List.mem_cons.mp hq with rfl | hq
      · k_mem
      k_mem
end
end Mine
end
end
section
open PySem PySem.W PyProof.Rows PySem.Calls
namespace Mine
theorem walk_anew_18 : True := by
  w_top off
  trivial
def rowD (r : Int × Int) : Dat := .tuple [.int r.1, .int r.2]
def spotOf (way place goal : Int) : Int := if way = 0 then place else if way = 1 then place + 1 else goal
def strOf (way : Int) (ec : Str) : Str := if way = 3 then Str.ofString "handler 0" else if way = 4 then Str.ofString "anew " ++ ec else Str.ofString "NR"
def toldD (ec : Str) (place : Int) : Dat := .tuple [.str (Str.ofString "told"), .int (numOf ec), .int (10 * place)]
/-- the walk of the program, in plain Lean -/
noncomputable def walkGo (rows : List (Int × Int)) (hf way goal : Int) : Nat → List Dat → List (Int × Int) → Int → Bool → List Dat × Str
  | 0, notes, _, _, _ => (notes, Str.ofString "long")
  | n + 1, notes, c, at_, on =>
    if notes.length < 40 then
      if (rows.length : Int) ≤ at_ then (notes, Str.ofString "end")
      else
        let row := rows.getD at_.toNat (0, 0)
        let tries := kdfLook c at_ 0 + 1
        if row.1 = 0 ∨ row.2 < tries then walkGo rows hf way goal n (notes ++ [.int at_]) (kdfPut c at_ tries) (at_ + 1) (on || decide (at_ = hf))
        else if (on || decide (at_ = hf)) = false then (notes ++ [.int at_], codeOf row.1)
        else if way ≤ 2 then walkGo rows hf way goal n (notes ++ [.int at_] ++ [toldD (codeOf row.1) at_]) (kdfPut c at_ tries) (spotOf way at_ goal) (on || decide (at_ = hf))
        else (notes ++ [.int at_] ++ [toldD (codeOf row.1) at_], strOf way (codeOf row.1))
    else (notes, Str.ofString "long")
/-- the law's own walk, in plain Lean -/
noncomputable def plainGo (rows : List (Int × Int)) (hf way goal : Int) : Nat → List Dat → List Int → Int → Bool → List Dat × Str
  | 0, notes, _, _, _ => (notes, Str.ofString "long")
  | n + 1, notes, left, at_, on =>
    if notes.length < 40 then
      if (rows.length : Int) ≤ at_ then (notes, Str.ofString "end")
      else
        let row := rows.getD at_.toNat (0, 0)
        let l := left.getD at_.toNat 0
        if row.1 = 0 ∨ l = 0 then plainGo rows hf way goal n (notes ++ [.int at_]) left (at_ + 1) (on || decide (at_ = hf))
        else if (on || decide (at_ = hf)) = false then (notes ++ [.int at_], codeOf row.1)
        else if way ≤ 2 then plainGo rows hf way goal n (notes ++ [.int at_] ++ [toldD (codeOf row.1) at_]) (left.set at_.toNat (l - 1)) (spotOf way at_ goal) (on || decide (at_ = hf))
        else (notes ++ [.int at_] ++ [toldD (codeOf row.1) at_], strOf way (codeOf row.1))
    else (notes, Str.ofString "long")
def resD (r : List Dat × Str) : Dat := .tuple [.list r.1, .str r.2]
theorem kdfLook_put (c : List (Int × Int)) (k v j d : Int) : kdfLook (kdfPut c k v) j d = if j = k then v else kdfLook c j d := by
  unfold kdfPut kdfLook
  split
  · rename_i h
    induction c with
    | nil => simp at h
    | cons p c ih =>
      simp only [List.map_cons, List.find?_cons]
      by_cases hp : p.1 = k
      · by_cases hj : j = k
        · simp [hp, hj]
        · have : ¬ k = j := fun e => hj e.symm
          simp only [hp, decide_true, if_true, this, decide_false]
          by_cases hc : c.any (fun p => decide (p.1 = k)) = true
          · have := ih hc
            simpa [hj] using this
          · have e : c.map (fun p => if decide (p.1 = k) = true then (p.1, v) else p) = c := by
              refine (List.map_congr_left fun q hq => ?_).trans (List.map_id c)
              have : ¬ q.1 = k := fun e => hc (List.any_eq_true.mpr ⟨q, hq, decide_eq_true e⟩)
              simp [this]
            simp only [decide_eq_true_eq] at e
            simp [e, hj]
      · have hc : c.any (fun p => decide (p.1 = k)) = true := by simpa [hp] using h
        have := ih hc
        simp only [hp, decide_false, Bool.false_eq_true, if_false]
        by_cases hpj : p.1 = j
        · have hjk : ¬ j = k := fun e => hp (hpj.trans e)
          simp [hpj, hjk]
        · simpa [hpj] using this
  · rename_i h
    rw [List.find?_append]
    by_cases hj : j = k
    · have hn : c.find? (fun p => decide (p.1 = j)) = none := by
        rw [List.find?_eq_none]
        intro q hq e
        exact h (List.any_eq_true.mpr ⟨q, hq, by rw [← hj]; exact e⟩)
      subst hj
      simp [hn]
    · have : ¬ k = j := fun e => hj e.symm
      simp [hj, this]
/-- both walks answer alike -/
theorem walk_plain (rows : List (Int × Int)) (hf way goal : Int) (hg : 0 ≤ goal) : ∀ (n : Nat) (notes : List Dat) (c : List (Int × Int)) (left : List Int) (at_ : Int) (on : Bool), 0 ≤ at_ → left.length = rows.length →
    (∀ i : Nat, i < rows.length → 0 ≤ kdfLook c i 0 ∧ ((rows.getD i (0, 0)).1 ≠ 0 → left.getD i 0 = max 0 ((rows.getD i (0, 0)).2 - kdfLook c i 0))) →
    walkGo rows hf way goal n notes c at_ on = plainGo rows hf way goal n notes left at_ on
  | 0, _, _, _, _, _, _, _, _ => rfl
  | n + 1, notes, c, left, at_, on, ha, hl, hi => by
    unfold walkGo plainGo
    by_cases h40 : notes.length < 40
    · rw [if_pos h40, if_pos h40]
      by_cases hend : (rows.length : Int) ≤ at_
      · rw [if_pos hend, if_pos hend]
      · rw [if_neg hend, if_neg hend]
        have hlt : at_.toNat < rows.length := by omega
        have hat : ((at_.toNat : Nat) : Int) = at_ := Int.toNat_of_nonneg ha
        obtain ⟨hk0, hk⟩ := hi _ hlt
        rw [hat] at hk0 hk
        dsimp only
        generalize hrow : rows.getD at_.toNat (0, 0) = row at hk ⊢
        have step : ∀ i : Nat, kdfLook (kdfPut c at_ (kdfLook c at_ 0 + 1)) i 0 = if (i : Int) = at_ then kdfLook c at_ 0 + 1 else kdfLook c i 0 := fun i => kdfLook_put ..
        by_cases hz : row.1 = 0
        · rw [if_pos (.inl hz), if_pos (.inl hz)]
          refine walk_plain rows hf way goal hg n _ _ _ _ _ (by omega) hl fun i hin => ?_
          rw [step]
          split
          · rename_i e
            have : i = at_.toNat := by omega
            subst this
            rw [hrow]
            exact ⟨by omega, fun q => absurd hz q⟩
          · exact hi i hin
        · have hk := hk hz
          by_cases ht : row.2 < kdfLook c at_ 0 + 1
          · have hl0 : left.getD at_.toNat 0 = 0 := by rw [hk]; omega
            rw [if_pos (.inr ht), if_pos (.inr hl0)]
            refine walk_plain rows hf way goal hg n _ _ _ _ _ (by omega) hl fun i hin => ?_
            rw [step]
            split
            · rename_i e
              have : i = at_.toNat := by omega
              subst this
              rw [hrow]
              exact ⟨by omega, fun _ => by rw [hl0]; omega⟩
            · exact hi i hin
          · have hl0 : ¬ left.getD at_.toNat 0 = 0 := by rw [hk]; omega
            have hA : ¬ (row.1 = 0 ∨ row.2 < kdfLook c at_ 0 + 1) := fun q => q.elim hz ht
            have hB : ¬ (row.1 = 0 ∨ left.getD at_.toNat 0 = 0) := fun q => q.elim hz hl0
            rw [if_neg hA, if_neg hB]
            split
            · rfl
            · split
              · refine walk_plain rows hf way goal hg n _ _ _ _ _ ?_ (by rw [List.length_set, hl]) fun i hin => ?_
                · unfold spotOf
                  split
                  · exact ha
                  · split <;> omega
                · rw [step]
                  split
                  · rename_i e
                    have : i = at_.toNat := by omega
                    subst this
                    rw [hrow]
                    refine ⟨by omega, fun _ => ?_⟩
                    rw [hk, List.getD_eq_getElem?_getD, List.getElem?_set_self (by omega)]
                    simp only [Option.getD_some]
                    omega
                  · rename_i e
                    obtain ⟨a, b⟩ := hi i hin
                    refine ⟨a, fun q => ?_⟩
                    rw [← b q, List.getD_eq_getElem?_getD, List.getD_eq_getElem?_getD, List.getElem?_set_ne (by omega), ← List.getD_eq_getElem?_getD]
              · rfl
    · rw [if_neg h40, if_neg h40]
end Mine
end
section
open PySem PySem.W PyProof.Rows PySem.Calls
namespace Mine
theorem walk_anew_19 : True := by
  w_top off
  trivial
theorem look_put_self (c : List (Int × Int)) (k v : Int) : kdfLook (kdfPut c k v) k 0 = v := by rw [kdfLook_put, if_pos rfl]
section
variable {rows : List (Int × Int)} {hf way goal : Int} {n : Nat} {notes : List Dat} {c : List (Int × Int)} {at_ a b : Int} {on : Bool}
theorem walkGo_skip (hn : 40 ≤ n + notes.length) (h : (notes.length : Int) < 40) (he : at_ < (rows.length : Int)) (hr : rows.getD at_.toNat (0, 0) = (a, b)) (hc : a = 0 ∨ b < kdfLook (kdfPut c at_ (kdfLook c at_ 0 + 1)) at_ 0) :
    walkGo rows hf way goal n notes c at_ on = walkGo rows hf way goal (n - 1) (notes ++ [.int at_]) (kdfPut c at_ (kdfLook c at_ 0 + 1)) (at_ + 1) (on || decide (at_ = hf)) := by
  rw [look_put_self] at hc
  cases n with
  | zero => omega
  | succ n =>
    conv => lhs; unfold walkGo
    rw [if_pos (by omega), if_neg (by omega)]
    simp only [hr]
    rw [if_pos hc]
    rfl
theorem walkGo_off (hn : 40 ≤ n + notes.length) (h : (notes.length : Int) < 40) (he : at_ < (rows.length : Int)) (hr : rows.getD at_.toNat (0, 0) = (a, b)) (ha : a ≠ 0) (hb : ¬ b < kdfLook (kdfPut c at_ (kdfLook c at_ 0 + 1)) at_ 0) (ho : (on || decide (at_ = hf)) = false) :
    walkGo rows hf way goal n notes c at_ on = (notes ++ [.int at_], codeOf a) := by
  rw [look_put_self] at hb
  cases n with
  | zero => omega
  | succ n =>
    conv => lhs; unfold walkGo
    rw [if_pos (by omega), if_neg (by omega)]
    simp only [hr]
    rw [if_neg (fun q => q.elim ha hb), if_pos ho]
theorem walkGo_on (hn : 40 ≤ n + notes.length) (h : (notes.length : Int) < 40) (he : at_ < (rows.length : Int)) (hr : rows.getD at_.toNat (0, 0) = (a, b)) (ha : a ≠ 0) (hb : ¬ b < kdfLook (kdfPut c at_ (kdfLook c at_ 0 + 1)) at_ 0) (ho : (on || decide (at_ = hf)) = true) :
    walkGo rows hf way goal n notes c at_ on = if way ≤ 2 then walkGo rows hf way goal (n - 1) (notes ++ [.int at_] ++ [toldD (codeOf a) at_]) (kdfPut c at_ (kdfLook c at_ 0 + 1)) (spotOf way at_ goal) (on || decide (at_ = hf))
      else (notes ++ [.int at_] ++ [toldD (codeOf a) at_], strOf way (codeOf a)) := by
  rw [look_put_self] at hb
  cases n with
  | zero => omega
  | succ n =>
    conv => lhs; unfold walkGo
    rw [if_pos (by omega), if_neg (by omega)]
    simp only [hr]
    rw [if_neg (fun q => q.elim ha hb), if_neg (by rw [ho]; decide)]
    rfl
end
theorem codeOf_len (n : Int) : (codeOf n).length ≤ 10 := by
  have all : ∀ c ∈ codes, c.length ≤ 10 := by decide +kernel
  have ue : (Str.ofString "UE").length ≤ 10 := by decide +kernel
  unfold codeOf
  split
  · rw [List.getD_eq_getElem?_getD]
    cases h : codes[(n - 1).toNat]? with
    | none => exact ue
    | some c => exact all c (List.mem_of_getElem? h)
  · exact ue
theorem told_split {g h : Heap} {L D : Addr} {x : Str} {t ta tb : Tok} {a b : Int} {n : Nat} {rest : List (Addr × Obj)} (_N : News g L h ((D, ({ cls := .type "tuple", data := .seq #[.str x t, .int a ta, .int b tb] n } : Obj)) :: rest)) :
    ∃ xt : Addr × Obj, xt = (D, ({ cls := .type "tuple", data := .seq #[.str x t, .int a ta, .int b tb] n } : Obj)) ∧ DatIn [xt] (.ref D) (.tuple [.str x, .int a, .int b]) :=
  ⟨_, rfl, .tuple (vs := [.str x t, .int a ta, .int b tb]) List.mem_cons_self (.cons (.str _ _) (.cons (.int _ _) (.cons (.int _ _) .nil)))⟩
end Mine
end
section
open PySem PySem.W PyProof.Rows PySem.Calls
namespace Mine
theorem walk_anew_20 : True := by
  w_top off
  trivial
set_option maxHeartbeats 8000000 in
theorem led_all {w : World} {p : Program} {loose : List Str} {mean : ExcName → Option Value} {mg mb : Str → Option Value}
    {dp un : Nat} {gd : Option (List Code)} {cn : Str} {cs : Scope} {a : Addr} {ccd : Value} {cl : List (Str × Addr)} {outer : List Env} {A₀ : Around} {base h₀ : Heap} {L : Addr} {m : Str → Option Value} {s : Shared}
    {Q E : Value → Shared → Prop} {news : List (Addr × Obj)} {wo wd : Addr} {ew : List DictEntry} {nw : Nat} {hd el : Int} {ec : Str} {co cd : Addr} {ev : List DictEntry} {nv : Nat} {fa goal : Int} {t3 t4 : Tok} {way : Int}
    (B : Below A₀ base outer h₀) (F : Fr h₀ L s.heap m) (X : (Mine.hd.heap_1 w.params).In h₀)
    (N : News h₀ L s.heap ((wd, dictOf ew nw) :: (cd, dictOf ev nv) :: (166, tabObj #[]) :: news)) (T : Top p loose mean mg mb h₀) (XB : (Mine.hd.heap_1 w.params).In base) (TB : Top p loose mean mg mb base) (D : KtsDicts (outer.filterMap (·.frame)) h₀) (hk : cs.kind = .function)
    (hdp : dp + 20 < recursionLimit) (hun : un + 300 < cLine) (hw : (wo, instObj 146 wd) ∈ news) (hc : (co, instObj 75 cd) ∈ news) (ap : ∀ p ∈ news, p.1 ≠ wd) (ap2 : ∀ p ∈ news, p.1 ≠ cd) (ap3 : ∀ p ∈ news, p.1 ≠ 166) (hne : wd < cd) (hne2 : 166 < wd) (W : WIs ew hd true el ec) (C : CIs ev fa) (hec : ec.length ≤ 10) (CB : CodeHd base 170 166) (hw0 : 0 ≤ way) (hw1 : way ≤ 5)
    (reti : ∀ h₀' es' n' t h' tk', way ≤ 2 → KtsTurn (outer.filterMap (·.frame)) h₀ h₀' → Fr h₀' L h' m → News h₀' L h' ((wd, dictOf es' n') :: (cd, dictOf ev nv) :: (166, tabObj #[]) :: news) → Below A₀ base outer h₀' → (Mine.hd.heap_1 w.params).In h₀' → Top p loose mean mg mb h₀' → KtsDicts (outer.filterMap (·.frame)) h₀' → WIs es' hd false el ec → Q (.int (spotOf way fa goal) t) { s with heap := h', toks := tk' })
    (rets : ∀ h₀' es' n' ps t h' tk', ¬ way ≤ 2 → KtsTurn (outer.filterMap (·.frame)) h₀ h₀' → Fr h₀' L h' m → News h₀' L h' ((wd, dictOf es' n') :: (cd, dictOf ev nv) :: (166, tabObj ps) :: news) → Below A₀ base outer h₀' → (Mine.hd.heap_1 w.params).In h₀' → Top p loose mean mg mb h₀' → KtsDicts (outer.filterMap (·.frame)) h₀' → Q (.str (strOf way ec) t) { s with heap := h', toks := tk' }) :
    wpAny (model PP w) (ktrTop dp un gd cn cs L a ccd cl outer) (call (.ref 171) [.ref wo, .ref co, .int way t3, .int goal t4] [])
      Q E s := by
  have hcase : way = 0 ∨ way = 1 ∨ way = 2 ∨ way = 3 ∨ way = 4 ∨ way = 5 := by omega
  rcases hcase with rfl | rfl | rfl | rfl | rfl | rfl
  · exact led_none B F X N T hk hdp hun hw hc ap ap2 ap3 hne hne2 W C fun es' n' t h' tk' F' N' W' => reti h₀ es' n' t h' tk' (by decide) KtsTurn.refl F' N' B X T D W'
  · exact led_next B F X N T hk hdp hun hw hc ap ap2 ap3 hne hne2 W C fun es' n' t h' tk' F' N' W' => reti h₀ es' n' t h' tk' (by decide) KtsTurn.refl F' N' B X T D W'
  · exact led_goal B F X N T hk hdp hun hw hc ap ap2 ap3 hne hne2 W C fun es' n' t h' tk' F' N' W' => reti h₀ es' n' t h' tk' (by decide) KtsTurn.refl F' N' B X T D W'
  · exact led_three B F X N T hk hdp hun hw hc ap ap2 ap3 hne hne2 W C fun t h' tk' F' N' => rets h₀ ew nw #[] t h' tk' (by decide) KtsTurn.refl F' N' B X T D
  · exact led_four B F X N T XB TB D hk hdp hun hw hc ap ap2 ap3 hne hne2 W C hec CB fun h₀' es' n' ps t h' tk' T1 F1 N1 B1 X1 P1 D1 => rets h₀' es' n' ps t h' tk' (by decide) T1 F1 N1 B1 X1 P1 D1
  · exact led_five B F X N T XB TB D hk hdp hun hw hc ap ap2 ap3 hne hne2 W C hec CB fun h₀' ps t h' tk' T1 F1 N1 B1 X1 P1 D1 => rets h₀' ew nw ps t h' tk' (by decide) T1 F1 N1 B1 X1 P1 D1
theorem rot4 {h₀ h : Heap} {L : Addr} {x a b c : Addr × Obj} {r : List (Addr × Obj)} (N : News h₀ L h (x :: a :: b :: c :: r)) : News h₀ L h (a :: b :: c :: x :: r) := fun q hq => by
  refine N q ?_
  simp only [List.mem_cons] at hq ⊢
  rcases hq with h | h | h | h | h
  · exact .inr (.inl h)
  · exact .inr (.inr (.inl h))
  · exact .inr (.inr (.inr (.inl h)))
  · exact .inl h
  · exact .inr (.inr (.inr (.inr h)))
end Mine
end
section
open PySem PySem.W PyProof.Rows PySem.Calls
namespace Mine
theorem walk_anew_24 : True := by
  w_top off
  trivial
/-- what a turn of a range loop leaves -/
def TurnPost (h₀ : Heap) (L : Addr) (s : Shared) (I : Addr) (o : Obj) (i : Nat) (J : Nat → (Str → Option Value) → List (Addr × Obj) → Prop) (f : Flow) (s₂ : Shared) : Prop :=
  f = .next ∧ ∃ h' tk' m' nx', s₂ = { s with heap := h', toks := tk' } ∧ Fr h₀ L h' m' ∧ News h₀ L h' ((I, o) :: nx') ∧ (∀ p ∈ nx', p.1 ≠ I) ∧ J (i + 1) m' nx'
theorem loop_range {prog : Program} {w : World} {A : Around} {E : Value → Shared → Prop} {s : Shared} {env : Env} {h₀ : Heap} {x : Str} {body : List Stmt} {Q : Flow → Shared → Prop}
    {r : Addr} {a₀ b₀ : Int} {t₀ u₀ v₀ : Tok} {n : Nat} {m₀ : Str → Option Value} {news : List (Addr × Obj)} (J : Nat → (Str → Option Value) → List (Addr × Obj) → Prop)
    (hh : A.handled = none) (hr : IsRange s.heap r a₀ b₀ 1 t₀ u₀ v₀) (hsmall : Builtin.Range.small a₀ b₀ 1 = true) (hn : Builtin.Range.rangeSize a₀ b₀ 1 = (n : Int)) (F : Fr h₀ env.locals s.heap m₀) (N : News h₀ env.locals s.heap news) (hR : J 0 m₀ news)
    (turn : ∀ i t m₁ nx h tk I o, i < n → (∀ p ∈ nx, p.1 ≠ I) → J i m₁ nx → Fr h₀ env.locals h (fun y => if y = x then some (.int (a₀ + (i : Int)) t) else m₁ y) → News h₀ env.locals h ((I, o) :: nx) →
      wpAny (model prog w) A (execs body env) (fun f s₂ => TurnPost h₀ env.locals s I o i J f s₂) E { s with heap := h, toks := tk })
    (done : ∀ m₁ nx h tk, J n m₁ nx → Fr h₀ env.locals h m₁ → News h₀ env.locals h nx → Q .next { s with heap := h, toks := tk }) :
    wpAny (model prog w) A (pyIter (.ref r)) (fun it s₂ => LoopAtV prog w A h₀ env x body Q E it s₂) E s := by
  refine wpAny_pyIter_range hr hsmall ?_
  have W : Walks prog w A s.heap.objs.size [s.heap.objs.size] [s.heap.objs.size] n (fun i v => i < n ∧ ∃ t, v = .int (a₀ + i * 1) t)
      (fun i h => IsRangeIter h s.heap.objs.size (a₀ + (i : Nat) * 1) ((n : Int) - (i : Nat)) 1) := (Walks.range hh _ a₀ 1 n).bound
  refine ⟨_, _, _, n, _, _, m₀, news, J, rfl, W, ?_, ?_, ?_, (by show IsRangeIter _ _ _ _ _; rw [hn]; simpa using Heap.get?_push_size _ rfl), F.push _, (fun p hp => ⟨Heap.get?_push_of_some _ (N p hp).1, (N p hp).2⟩), hR, ?_, ?_⟩
  · intro hm
    exact absurd F.ns.lt ((List.mem_singleton.mp hm) ▸ Nat.lt_irrefl _)
  · intro b hb
    rw [List.mem_singleton.mp hb]
    exact next_is_new F
  · intro p hp hI
    exact absurd (Heap.lt_size (N p hp).1) ((List.mem_singleton.mp hI) ▸ Nat.lt_irrefl _)
  · rintro i v m₁ news₁ s₁ own ⟨h, tk, rfl⟩ hin ⟨_, t, rfl⟩ hJ hoff hown hget hcomp hSt F₁ N₁
    rw [Int.mul_one] at F₁
    have hmem := hcomp s.heap.objs.size List.mem_cons_self (next_is_new F) _ hSt
    have N₂ := fun q (hq : q ∈ (s.heap.objs.size, _) :: news₁) => N₁ q ((List.mem_cons.mp hq).elim (fun e => List.mem_append_left _ (e ▸ hmem)) (fun e => List.mem_append_right _ e))
    refine wpAny_mono (turn i t m₁ news₁ h tk _ _ hin (fun p hp e => hoff p hp (e ▸ List.mem_singleton_self _)) hJ F₁ N₂) (fun f s₂ p => ?_) fun _ _ e => e
    obtain ⟨rfl, h', tk', m', nx', rfl, F', N', hI, hJ'⟩ := p
    refine .next ⟨rfl, h', tk', m', nx', rfl, F', ?_, fun p hp hm => hI p hp (List.mem_singleton.mp hm), hJ'⟩
    intro q hq
    rcases List.mem_append.mp hq with hq | hq
    · have h1 := List.mem_singleton.mp (hown q hq)
      have h2 := hget q hq
      rw [h1] at h2
      have h3 : q = (s.heap.objs.size, _) := Prod.ext h1 (Option.some.inj (h2.symm.trans hSt))
      rw [h3]
      exact N' _ List.mem_cons_self
    · exact N' _ (List.mem_cons_of_mem _ hq)
  · intro h' tk m' news' F' N' _ hJ
    exact done m' news' h' tk hJ F' N'
end Mine
end
section
open PySem PySem.W PyProof.Rows PySem.Calls
namespace Mine
theorem walk_anew_25 : True := by
  w_top off
  trivial
theorem strOk_app {a b : Str} (ha : PyData.strOk a = true) (hb : PyData.strOk b = true) : PyData.strOk (a ++ b) = true := by
  unfold PyData.strOk at *
  show (a.cps ++ b.cps).all _ = true
  rw [Array.all_append, ha, hb]
  rfl
theorem codeOf_strOk (n : Int) : PyData.strOk (codeOf n) = true := by
  have all : ∀ c ∈ codes, PyData.strOk c = true := by decide +kernel
  have ue : PyData.strOk (Str.ofString "UE") = true := by decide +kernel
  unfold codeOf
  split
  · rw [List.getD_eq_getElem?_getD]
    cases h : codes[(n - 1).toNat]? with
    | none => exact ue
    | some c => exact all c (List.mem_of_getElem? h)
  · exact ue
theorem strOf_strOk (way n : Int) : PyData.strOk (strOf way (codeOf n)) = true := by
  unfold strOf
  split
  · decide +kernel
  · split
    · exact strOk_app (by decide +kernel) (codeOf_strOk n)
    · decide +kernel
theorem resD_ok {notes : List Dat} {x : Str} (h : ∀ d ∈ notes, kqdOk 6 d = true) (hx : PyData.strOk x = true) : kqdOk 8 (resD (notes, x)) = true := by
  unfold resD
  simp only [kqdOk, List.all_cons, List.all_nil, Bool.and_true, Bool.and_eq_true, List.all_eq_true]
  exact ⟨h, hx⟩
theorem note_ok {notes : List Dat} {d : Dat} (h : ∀ d ∈ notes, kqdOk 6 d = true) (hd : kqdOk 6 d = true) : ∀ e ∈ notes ++ [d], kqdOk 6 e = true := by
  intro e he
  rcases List.mem_append.mp he with he | he
  · exact h e he
  · rw [List.mem_singleton.mp he]; exact hd
theorem toldD_ok (n at_ : Int) : kqdOk 6 (toldD (codeOf n) at_) = true := by
  unfold toldD
  simp only [kqdOk, List.all_cons, List.all_nil, Bool.and_true]
  decide +kernel
theorem walkGo_ok (rows : List (Int × Int)) (hf way goal : Int) : ∀ (n : Nat) (notes : List Dat) (c : List (Int × Int)) (at_ : Int) (on : Bool), (∀ d ∈ notes, kqdOk 6 d = true) → kqdOk 8 (resD (walkGo rows hf way goal n notes c at_ on)) = true
  | 0, notes, _, _, _, h => resD_ok h (by decide +kernel)
  | n + 1, notes, c, at_, on, h => by
    have hi : kqdOk 6 (.int at_) = true := by simp only [kqdOk]
    unfold walkGo
    split
    · split
      · exact resD_ok h (by decide +kernel)
      · dsimp only
        split
        · exact walkGo_ok rows hf way goal n _ _ _ _ (note_ok h hi)
        · split
          · exact resD_ok (note_ok h hi) (codeOf_strOk _)
          · split
            · exact walkGo_ok rows hf way goal n _ _ _ _ (note_ok (note_ok h hi) (toldD_ok _ _))
            · exact resD_ok (note_ok (note_ok h hi) (toldD_ok _ _)) (strOf_strOk _ _)
    · exact resD_ok h (by decide +kernel)
/-- the two walks agree, as the law compares them -/
theorem walks_agree {rows : List (Int × Int)} {hf way goal : Int} (hg : 0 ≤ goal) (hr : ∀ x ∈ rows, 1 ≤ x.2) : walkGo rows hf way goal 41 [] [] 0 false = plainGo rows hf way goal 41 [] (rows.map (·.2)) 0 false := by
  refine walk_plain rows hf way goal hg 41 [] [] (rows.map (·.2)) 0 false (Int.le_refl _) (by rw [List.length_map]) fun i hi => ⟨Int.le_refl _, fun _ => ?_⟩
  rw [List.getD_eq_getElem?_getD, List.getD_eq_getElem?_getD, List.getElem?_map, List.getElem?_eq_getElem hi]
  have h1 := hr _ (List.getElem_mem hi)
  show (rows[i]).2 = max 0 ((rows[i]).2 - 0)
  omega
theorem ne_same {prog : Program} {w : World} {A : Around} {E : Value → Shared → Prop} {s : Shared} {h₀ : Heap} {L : Addr} {a b : Value} {news n₁ n₂ : List (Addr × Obj)} {d : Dat} {Q : Value → Shared → Prop}
    (N : News h₀ L s.heap news) (Da : DatIn n₁ a d) (sa : ∀ p ∈ n₁, p ∈ news) (Db : DatIn n₂ b d) (sb : ∀ p ∈ n₂, p ∈ news) (hd : kqdOk 8 d = true) (hu : A.units + 64 < cLine) (h : Q (.bool false) s) : wpAny (model prog w) A (compareOp .NotEq a b) Q E s := by
  obtain ⟨as, ra⟩ := kqd_in N 8 (Da.mono sa) hd
  obtain ⟨bs, rb⟩ := kqd_in N 8 (Db.mono sb) hd
  have la := kqd_lay 8 d hd
  have e := (kqd_eqv 8 d d 8 hd hd).mpr rfl
  have sh : SeqAt.shaped (kqdP d) = true := by
    unfold SeqAt.shaped
    rw [la.1, Bool.true_and]
    exact decide_eq_true (Nat.le_trans la.2 (by decide))
  exact ne_dataH ra rb sh sh hu (by rw [e]; exact h)
end Mine
end
section
open PySem PySem.W PyProof.Rows PySem.Calls
namespace Mine
theorem walk_anew_26 : True := by
  w_top off
  trivial
section
variable {prog : Program} {w : World} {A : Around} {E : Value → Shared → Prop} {s : Shared} {h₀ : Heap} {L : Addr} {m : Str → Option Value} {news : List (Addr × Obj)} {Q : Value → Shared → Prop}
theorem flatten_ones (a : Value) : ∀ k : Nat, (List.replicate k [a]).flatten = List.replicate k a
  | 0 => rfl
  | k + 1 => by rw [List.replicate_succ, List.replicate_succ, List.flatten_cons, flatten_ones a k]; rfl
theorem mul_one {l : Addr} {k : Nat} {u : Tok} {a : Value} (F : Fr h₀ L s.heap m) (N : News h₀ L s.heap news) (hm : (l, listOf [a].toArray k) ∈ news)
    (h : ∀ D h', Fr h₀ L h' m → News h₀ L h' ((D, listOf (List.replicate 300 a).toArray 0) :: news) → (∀ p ∈ news, p.1 < D) → Q (.ref D) { s with heap := h' }) :
    wpAny (model prog w) A (binaryOp .Mult (.ref l) (.int 300 u)) Q E s := by
  refine mul_list F N (N _ hm).1 (by decide) (by decide) (by show 1 * 300 ≤ 2 ^ 24; decide) fun h' F' N' => ?_
  rw [listMul_foldl_if] at N'
  have e : (List.replicate (Int.toNat 300) ([a].toArray).toList).flatten = List.replicate 300 a := flatten_ones a 300
  rw [e] at N'
  exact h _ h' F' N' fun p hp => Heap.lt_size (N p hp).1
theorem cat_nones {a b : Addr} {vs : List Value} {n k1 k2 : Nat} {x : Value} (F : Fr h₀ L s.heap m) (N : News h₀ L s.heap news) (ha : (a, listOf vs.toArray k1) ∈ news) (hb : (b, listOf (List.replicate 300 x).toArray k2) ∈ news) (hi : IntsAre vs (rangeKs 0 n)) (hn : n ≤ 10)
    (h : ∀ D h', Fr h₀ L h' m → News h₀ L h' ((D, listOf (vs ++ List.replicate 300 x).toArray 0) :: news) → (∀ p ∈ news, p.1 < D) → Q (.ref D) { s with heap := h' }) :
    wpAny (model prog w) A (binaryOp .Add (.ref a) (.ref b)) Q E s := by
  have hl := hi.length
  rw [rangeKs_length] at hl
  refine kmk_add_lit (zs := vs ++ List.replicate 300 x) F N (News.isList N ha) (News.isList N hb) rfl h ?_
  show vs.length + (List.replicate 300 x).length ≤ sizeLine
  rw [List.length_replicate, sizeLine_eq]
  omega
theorem dat_nones (l : List (Addr × Obj)) : ∀ k : Nat, DatAll l (List.replicate k Value.none) (List.replicate k Dat.none)
  | 0 => .nil
  | k + 1 => by rw [List.replicate_succ, List.replicate_succ]; exact .cons .none (dat_nones l k)
theorem dat_ints (l : List (Addr × Obj)) : ∀ {vs : List Value} {ns : List Int}, IntsAre vs ns → DatAll l vs (ns.map Dat.int)
  | _, _, .nil => .nil
  | _, _, .cons _ _ h => .cons (.int _ _) (dat_ints l h)
theorem pick {value slice : PySem.Expr} {D : Addr} {vs : List Value} {n c : Nat} {k : Int} {u : Tok} (N : News h₀ L s.heap news) (hm : (D, listOf (vs ++ List.replicate 300 Value.none).toArray c) ∈ news) (hi : IntsAre vs (rangeKs 0 n)) (h0 : 0 ≤ k) (h1 : k < 300) (hn : n ≤ 10)
    (hA : ∀ t, k < (n : Int) → Q (.int k t) s) (hB : (n : Int) ≤ k → Q .none s)
    (hs : subscripted slice false (.ref D) (.int k u) = operate [.ref D, .int k u] (getItem (.ref D) (.int k u)) := by with_unfolding_all rfl) :
    wpAny (model prog w) A (subscriptTail value slice (.ref D) (.int k u)) Q E s := by
  have hl : ((rangeKs 0 n).map Dat.int).length = n := by rw [List.length_map, rangeKs_length]
  have hd : DatAll [] (vs ++ List.replicate 300 Value.none) ((rangeKs 0 n).map Dat.int ++ List.replicate 300 Dat.none) := by
    have e := dat_ints [] hi
    have : ∀ (xs : List Value) (ds : List Dat) (ys : List Value) (es : List Dat), DatAll [] xs ds → DatAll [] ys es → DatAll [] (xs ++ ys) (ds ++ es) := by
      intro xs
      induction xs with
      | nil => intro ds ys es h1 h2; cases h1; exact h2
      | cons x xs ih => intro ds ys es h1 h2; cases h1 with | cons p q => exact .cons p (ih _ _ _ q h2)
    exact this _ _ _ _ e (dat_nones _ _)
  refine kd_item N hm hd h0 (by rw [List.length_append, hl, List.length_replicate]; omega) (by omega) (fun v d hv _ hD => ?_) hs
  by_cases hk : k < (n : Int)
  · have hk' : k.toNat < n := by omega
    rw [List.getElem?_append_left (by rw [hl]; exact hk'), List.getElem?_map] at hv
    have e : (rangeKs 0 n)[k.toNat]? = some (0 + (k.toNat : Int)) := by
      unfold rangeKs
      rw [List.getElem?_map, List.getElem?_range hk']
      rfl
    rw [e] at hv
    have hv := Option.some.inj hv
    subst hv
    cases hD
    have e2 : 0 + (k.toNat : Int) = k := by omega
    rw [e2]
    exact hA _ hk
  · have hk' : n ≤ k.toNat := by omega
    rw [List.getElem?_append_right (by rw [hl]; exact hk'), hl, List.getElem?_replicate] at hv
    split at hv
    · have hv := Option.some.inj hv
      subst hv
      cases hD
      exact hB (by omega)
    · cases hv
end
theorem good_true {c : ClaimW} {cl : Str → Option Addr} {mean : ExcName → Option Value} {args : List WData} {s₁ s' : Shared} {L : Addr} {m : Str → Option Value} {h₀ : Heap} {A : Around} {outer : List Env} {b : Bool} (hb : b = true) (B : Below A s₁.heap outer h₀) (F : Fr h₀ L s'.heap m) (hg : s'.gens = #[]) (hn : ∀ cls, c.raises args cls = false)
    (hp : c.post args (.bool true) args = true) (hos : s'.os = s₁.os) : GoodW c cl mean args s₁ (.ok (.ret (.bool b))) s' := by
  subst hb
  exact ⟨.inl ⟨_, .bool true, [], rfl, hn, .bool true, hp, unshared_nil⟩, fun b o e => F.keep b o (B.stays b o e), hos, hg⟩
theorem law_post (wl : List Int) : PySem.Challenge.rw_pc0002_01.row.claim.post [ofPy (PyData.list (List.map PyData.int wl))] (WData.bool true) [ofPy (PyData.list (List.map PyData.int wl))] = true := by
  refine' postW_of ?s ?v ?e
  case s => o_shape
  case v => wtm_val
  case e => first | rfl | w_fin
theorem law_none (wl : List Int) : ∀ cls, PySem.Challenge.rw_pc0002_01.row.claim.raises [ofPy (PyData.list (List.map PyData.int wl))] cls = false := raisesW_false (by wrow_none_raised)
theorem good_law {wl : List Int} {cl : Str → Option Addr} {mean : ExcName → Option Value} {s₁ s' : Shared} {L : Addr} {m : Str → Option Value} {h₀ : Heap} {A : Around} {outer : List Env} {b : Bool} (hb : b = true) (B : Below A s₁.heap outer h₀) (F : Fr h₀ L s'.heap m) (hg : s'.gens = #[]) (hos : s'.os = s₁.os) :
    GoodW PySem.Challenge.rw_pc0002_01.row.claim cl mean [ofPy (PyData.list (List.map PyData.int wl))] s₁ (.ok (.ret (.bool b))) s' := good_true hb B F hg (law_none wl) (law_post wl) hos
end Mine
end
section
open PySem PySem.W PyProof.Rows PySem.Calls
open Mine
local macro_rules | `(tactic| k_steps) => `(tactic| ((try ((with_reducible show wpAny _ _ _ _ _ _); k_fold)); repeat' (first | ((with_reducible show wpAny _ _ (execs _ _) _ _ _); k_fold) | (k_unfold; (try dsimp only)) | (k_end; wrow_close) | walk1 | (dsimp only; walk1) | (leave1; walk_say "STEP leave1"; try dsimp only) | fail "no step")))
local macro_rules | `(tactic| k_mem) => `(tactic| first | with_reducible assumption | ((repeat (first | with_reducible exact List.mem_cons_self | with_reducible assumption | refine' List.mem_cons_of_mem _ ?_ | with_reducible exact List.mem_append_left _ (by with_reducible assumption) | with_reducible exact List.mem_append_right _ (by with_reducible assumption))); done))
local macro_rules | `(tactic| walk_at "eval Name") => `(tactic| (k_here; k_dflt (refine' nameX_L ?k1 ?k2 ?_; (case k1 => k_asm); (case k2 => first | with_reducible assumption | exact if_pos rfl | exact (if_neg (by decide +kernel)).trans (by with_reducible assumption) | exact (if_neg (by decide +kernel)).trans (if_pos rfl) | exact (if_neg (by decide +kernel)).trans ((if_neg (by decide +kernel)).trans (by with_reducible assumption)) | exact (if_neg (by decide +kernel)).trans ((if_neg (by decide +kernel)).trans (if_pos rfl)) | exact (if_neg (by decide +kernel)).trans ((if_neg (by decide +kernel)).trans ((if_neg (by decide +kernel)).trans (by with_reducible assumption)))); k_whole)))
section
open PySem PySem.W PyProof.Rows PySem.Calls
namespace Mine
theorem walk_anew_22 : True := by
  w_top off
  trivial
theorem While_invS2 {prog : Program} {w : World} {A : Around} {E : Value → Shared → Prop} {Q : Flow → Shared → Prop} {s : Shared} {env : Env} {test : Expr} {body : List Stmt} {pos : Pos} (J : Nat → Shared → Prop) {n₀ : Nat} (hJ : J n₀ s)
    (turn : ∀ n s₁, J n s₁ → wpAny (model prog w) A (isTrue test env (eval test env)) (fun b s₂ =>
        if b = true then wpAny (model prog w) A (execs body env) (fun f s₃ => match f with
          | .next | .cont => Hold (∃ n', n' < n ∧ J n' s₃)
          | .brk => Q .next s₃
          | .ret v => Q (.ret v) s₃) E s₂ else Q .next s₂) E s₁)
    (hE : PassesOwn (model prog w) A env E := by passes_own) :
    wpAny (model prog w) A (exec (.While test body [] pos) env) Q E s := by
  refine wpAny_While (codeAny_whileLoop J ?_ n₀ hJ)
  intro n s₁ J₁
  refine wpAny_mono (turn n s₁ J₁) (fun b s₂ h₂ => ?_) hE
  cases b with
  | false =>
    simp only [Bool.false_eq_true, if_false] at h₂ ⊢
    exact wpAny_execs_nil h₂
  | true =>
    simp only [if_true] at h₂ ⊢
    exact wpAny_mono h₂ (fun f s₃ h₃ => by cases f <;> exact h₃) hE
theorem upd_of_updFP {d : Addr} {o o' : Obj} {l : List (Addr × Obj)} {g : Obj → List (Addr × Obj)} (U : UpdF d o l g) : Upd d o o' l (g o') := by
  induction U with
  | head h => exact .head h
  | tail h _ ih => exact .tail h ih
theorem appendLP {prog : Program} {w : World} {A : Around} {E : Value → Shared → Prop} {s : Shared} {h₀ : Heap} {L D : Addr} {m : Str → Option Value} {news : List (Addr × Obj)} {g : Obj → List (Addr × Obj)} {vs : List Value} {n : Nat} {x : Value} {Q : Value → Shared → Prop}
    (F : Fr h₀ L s.heap m) (N : News h₀ L s.heap news) (U : UpdF D (listOf vs.toArray n) news g) (hsz : vs.length ≤ 1000)
    (h : ∀ h', Fr h₀ L h' m → News h₀ L h' (g (listOf (vs ++ [x]).toArray (n + 1))) → Q .none { s with heap := h' }) : wpAny (model prog w) A (call (.builtin "list.append") [.ref D, x]) Q E s := by
  refine append_K (its := vs.toArray) (n := n) F N (upd_of_updFP U) (fun h' F' N' => h h' F' ?_) (by rw [List.size_toArray, sizeLine_eq]; omega)
  rw [List.push_toArray] at N'
  exact N'
theorem updFrameP {d : Addr} {o : Obj} {r : List (Addr × Obj)} (h : ∀ p ∈ r, p.1 ≠ d) : UpdF d o ((d, o) :: r) (fun o' => (d, o') :: r) := .head h
theorem ne_of_gtAllP {d e : Addr} {l : List (Addr × Obj)} (h : ∀ p ∈ l, @LT.lt Nat _ e p.1) (hde : @LE.le Nat _ d e) : ∀ p ∈ l, p.1 ≠ d := fun p hp q => by
  have h1 : @LT.lt Nat _ e p.1 := h p hp
  have h2 : p.1 = d := q
  rw [h2] at h1
  exact absurd (Nat.lt_of_lt_of_le h1 hde) (Nat.lt_irrefl _)
theorem ne_of_allLt_leP {d e : Addr} {l : List (Addr × Obj)} (h : AllLt e l) (hde : @LE.le Nat _ e d) : ∀ p ∈ l, p.1 ≠ d := fun p hp q => by
  have h1 : @LT.lt Nat _ p.1 e := lt_of_allLt h p hp
  have h2 : p.1 = d := q
  rw [h2] at h1
  exact absurd (Nat.lt_of_lt_of_le h1 hde) (Nat.lt_irrefl _)
def HoldIfP : Prop := True
def HoldIfP2 : Prop := True
theorem rows_itemP {prog : Program} {w : World} {A : Around} {E : Value → Shared → Prop} {s : Shared} {h₀ : Heap} {L l : Addr} {value slice : PySem.Expr} {news L9 : List (Addr × Obj)} {us : List Value} {rows : List (Int × Int)} {n : Nat} {k : Int} {u : Tok} {Q : Value → Shared → Prop}
    (N : News h₀ L s.heap news) (hm : (l, listOf us.toArray n) ∈ news) (hd : DatAll L9 us (rows.map rowD))
    (h0 : 0 ≤ k) (h1 : k < (rows.length : Int)) (hl : rows.length ≤ 6) (h : ∀ ra code t many t' n', (ra, ({ cls := .type "tuple", data := .seq #[.int code t, .int many t'] n' } : Obj)) ∈ L9 → rows.getD k.toNat (0, 0) = (code, many) → (code, many) ∈ rows → Q (.ref ra) s)
    (hs : subscripted slice false (.ref l) (.int k u) = operate [.ref l, .int k u] (getItem (.ref l) (.int k u)) := by with_unfolding_all rfl) :
    wpAny (model prog w) A (subscriptTail value slice (.ref l) (.int k u)) Q E s := by
  refine kd_item N hm hd h0 (by rw [List.length_map]; exact h1) (by omega) (fun v d hv _ hD => ?_) hs
  have hk : k.toNat < rows.length := by omega
  rw [List.getElem?_map, List.getElem?_eq_getElem hk] at hv
  have hv := Option.some.inj hv
  subst hv
  unfold rowD at hD
  cases hD with
  | tuple hmem hall =>
    cases hall with
    | cons h1 hall =>
      cases hall with
      | cons h2 hall =>
        cases hall
        cases h1
        cases h2
        refine h _ _ _ _ _ _ hmem ?_ (List.getElem_mem hk)
        rw [List.getD_eq_getElem?_getD, List.getElem?_eq_getElem hk]
        rfl
theorem rows_lenP {prog : Program} {w : World} {A : Around} {E : Value → Shared → Prop} {s : Shared} {h₀ : Heap} {L l : Addr} {news L9 : List (Addr × Obj)} {us : List Value} {rows : List (Int × Int)} {n : Nat} {Q : Value → Shared → Prop}
    (N : News h₀ L s.heap news) (hm : (l, listOf us.toArray n) ∈ news) (hd : DatAll L9 us (rows.map rowD)) (hl : rows.length ≤ 6)
    (h : Q (.int (rows.length : Int) (s.toks + 1)) { s with toks := s.toks + 1 + 1 }) : wpAny (model prog w) A (call (.builtin "len") [.ref l]) Q E s :=
  kd_len N hm hd (by rw [List.length_map]; omega) (by rw [List.length_map]; exact h)
section
variable {rows : List (Int × Int)} {hf way goal : Int} {n : Nat} {notes : List Dat} {left : List Int} {at_ a b : Int} {on : Bool}
theorem plainGo_long (h : ¬ (notes.length : Int) < 40) : plainGo rows hf way goal n notes left at_ on = (notes, Str.ofString "long") := by
  cases n with
  | zero => rfl
  | succ n => unfold plainGo; rw [if_neg (by omega)]
theorem plainGo_end (hn : 40 ≤ n + notes.length) (h : (notes.length : Int) < 40) (he : (rows.length : Int) ≤ at_) : plainGo rows hf way goal n notes left at_ on = (notes, Str.ofString "end") := by
  cases n with
  | zero => omega
  | succ n => unfold plainGo; rw [if_pos (by omega), if_pos he]
theorem plainGo_skip (hn : 40 ≤ n + notes.length) (h : (notes.length : Int) < 40) (he : at_ < (rows.length : Int)) (hr : rows.getD at_.toNat (0, 0) = (a, b)) (hc : a = 0 ∨ left.getD at_.toNat 0 = 0) :
    plainGo rows hf way goal n notes left at_ on = plainGo rows hf way goal (n - 1) (notes ++ [.int at_]) left (at_ + 1) (on || decide (at_ = hf)) := by
  cases n with
  | zero => omega
  | succ n =>
    conv => lhs; unfold plainGo
    rw [if_pos (by omega), if_neg (by omega)]
    simp only [hr]
    rw [if_pos hc]
    rfl
theorem plainGo_off (hn : 40 ≤ n + notes.length) (h : (notes.length : Int) < 40) (he : at_ < (rows.length : Int)) (hr : rows.getD at_.toNat (0, 0) = (a, b)) (ha : a ≠ 0) (hb : ¬ left.getD at_.toNat 0 = 0) (ho : (on || decide (at_ = hf)) = false) :
    plainGo rows hf way goal n notes left at_ on = (notes ++ [.int at_], codeOf a) := by
  cases n with
  | zero => omega
  | succ n =>
    conv => lhs; unfold plainGo
    rw [if_pos (by omega), if_neg (by omega)]
    simp only [hr]
    rw [if_neg (fun q => q.elim ha hb), if_pos ho]
theorem plainGo_on (hn : 40 ≤ n + notes.length) (h : (notes.length : Int) < 40) (he : at_ < (rows.length : Int)) (hr : rows.getD at_.toNat (0, 0) = (a, b)) (ha : a ≠ 0) (hb : ¬ left.getD at_.toNat 0 = 0) (ho : (on || decide (at_ = hf)) = true) :
    plainGo rows hf way goal n notes left at_ on = if way ≤ 2 then plainGo rows hf way goal (n - 1) (notes ++ [.int at_] ++ [toldD (codeOf a) at_]) (left.set at_.toNat (left.getD at_.toNat 0 - 1)) (spotOf way at_ goal) (on || decide (at_ = hf))
      else (notes ++ [.int at_] ++ [toldD (codeOf a) at_], strOf way (codeOf a)) := by
  cases n with
  | zero => omega
  | succ n =>
    conv => lhs; unfold plainGo
    rw [if_pos (by omega), if_neg (by omega)]
    simp only [hr]
    rw [if_neg (fun q => q.elim ha hb), if_neg (by rw [ho]; decide)]
    rfl
end
/-- the comprehension over the rows -/
theorem rows_rest {prog : Program} {w : World} {A : Around} {h₀ : Heap} {L : Addr} {m : Str → Option Value} {env : Env} {x : Str} {pos : Pos} {scope : Scope} {cl : List (Str × Addr)} {s : Shared} {ax : Addr} {its : Array Value} {Fin : List Value → List (Addr × Obj) → Prop} {news : List (Addr × Obj)}
    (hS : LCg.SrcAt h₀ ax its news) (hk : ∀ C, (compEnvC scope cl C env).scope.kind = .function) (hl : ∀ C, (compEnvC scope cl C env).kindOf (Str.ofString "many") = some .local) :
    ∀ (k i : Nat) (ys : List Value) (rs : List (Int × Int)), DatAll news (its.toList.drop i) (rs.map rowD) → k = rs.length → (∀ ys', IntsAre ys' (rs.map (·.2)) → Fin (ys ++ ys') news) →
      LCp.CompRestP prog w A h₀ L m env (.Name (Str.ofString "many") pos) x (Str.ofString "many") scope cl s (LCg.SrcAt h₀ ax its) (fun i v => its[i]? = some v) Fin k i ys news
  | 0, i, ys, rs, hd, hn, fin => by
    have : rs = [] := List.eq_nil_of_length_eq_zero hn.symm
    subst this
    have := fin [] .nil
    rw [List.append_nil] at this
    exact LCp.CompRestP.zero this
  | k + 1, i, ys, rs, hd, hn, fin => by
    cases rs with
    | nil => cases hn
    | cons r rs =>
      refine LCp.CompRestP.succ fun v hv => ?_
      have hv' : its.toList[i]? = some v := by rw [Array.getElem?_toList]; exact hv
      have hlt : i < its.toList.length := (List.getElem?_eq_some_iff.mp hv').1
      have e : its.toList.drop i = v :: its.toList.drop (i + 1) := by
        rw [List.drop_eq_getElem_cons hlt, (List.getElem?_eq_some_iff.mp hv').2]
      rw [e] at hd
      cases hd with
      | cons h1 h2 =>
        unfold rowD at h1
        cases h1 with
        | tuple hmem hall =>
          cases hall with
          | cons q1 hall =>
            cases hall with
            | cons q2 hall =>
              cases hall
              cases q1
              cases q2
              refine ⟨_, _, _, _, _, rfl, hmem, rfl, rfl, ?_⟩
              intro I oI C oC D m₂ h tk E' hC hx hx₂ F N off ne
              refine LCgL.ld_own (m₂ := m₂) N (List.mem_cons_of_mem _ List.mem_cons_self) hC hx₂ ?_ (hk C) (hl C)
              refine ⟨h, tk, news, rfl, F, N, off, hS, ?_⟩
              refine rows_rest hS hk hl k (i + 1) _ rs h2 (Nat.succ.inj hn) fun ys' hy => ?_
              rw [List.append_assoc]
              exact fin _ (.cons _ _ hy)
theorem off1_all {D : Addr} : ∀ {l : List (Addr × Obj)}, LCg.Off1 D l → ∀ p ∈ l, p.1 ≠ D
  | [], _, _, h => nomatch h
  | _ :: _, x, p, h => by
    rcases List.mem_cons.mp h with rfl | h
    · exact x.1
    · exact off1_all x.2 p h
/-- the state of the plain walk at the head of its loop -/
def PSt (g0 : Heap) (L : Addr) (sb : Shared) (news : List (Addr × Obj)) (r nl ll : Addr) (hf way goal : Int) (t1 t2 t3 : Tok) (notes : List Dat) (left : List Int) (at_ : Int) (on : Bool) (s₁ : Shared) : Prop :=
  ∃ h tk m tl nvs nc lvs ln t8,
    (s₁ = { sb with heap := h, toks := tk } ∧ Fr g0 L h m) ∧
    News g0 L h ((nl, listOf nvs.toArray nc) :: (ll, listOf lvs.toArray ln) :: (tl ++ news)) ∧
    (m (Str.ofString "rows") = some (.ref r) ∧ m (Str.ofString "handled_from") = some (.int hf t1) ∧ m (Str.ofString "way") = some (.int way t2) ∧ m (Str.ofString "goal") = some (.int goal t3) ∧
      m (Str.ofString "notes") = some (.ref nl) ∧ m (Str.ofString "left") = some (.ref ll) ∧ m (Str.ofString "at") = some (.int at_ t8) ∧ m (Str.ofString "is_on") = some (.bool on)) ∧
    (DatAll tl nvs notes ∧ IntsAre lvs left ∧ (∀ p ∈ tl, p.1 ≠ nl) ∧ (∀ p ∈ tl, p.1 ≠ ll))
theorem PSt.close {g0 : Heap} {L : Addr} {sb : Shared} {news : List (Addr × Obj)} {r nl ll : Addr} {hf way goal : Int} {t1 t2 t3 : Tok} {notes : List Dat} {left : List Int} {at_ : Int} {on : Bool}
    {h : Heap} {tk t8 : Tok} {m : Str → Option Value} {l tl0 : List (Addr × Obj)} {nvs lvs : List Value} {nc ln : Nat}
    (F : Fr g0 L h m) (N : News g0 L h l) (hnl : (nl, listOf nvs.toArray nc) ∈ l) (hll : (ll, listOf lvs.toArray ln) ∈ l) (hnews : ∀ p ∈ news, p ∈ l)
    (m1 : m (Str.ofString "rows") = some (.ref r)) (m2 : m (Str.ofString "handled_from") = some (.int hf t1)) (m3 : m (Str.ofString "way") = some (.int way t2)) (m4 : m (Str.ofString "goal") = some (.int goal t3))
    (m5 : m (Str.ofString "notes") = some (.ref nl)) (m6 : m (Str.ofString "left") = some (.ref ll)) (m7 : m (Str.ofString "at") = some (.int at_ t8)) (m8 : m (Str.ofString "is_on") = some (.bool on))
    (DA : DatAll tl0 nvs notes) (IA : IntsAre lvs left) (h0 : ∀ p ∈ tl0, p ∈ l ∧ p.1 ≠ nl ∧ p.1 ≠ ll) :
    PSt g0 L sb news r nl ll hf way goal t1 t2 t3 notes left at_ on { sb with heap := h, toks := tk } := by
  refine ⟨h, tk, m, tl0, nvs, nc, lvs, ln, t8, ⟨rfl, F⟩, ?_, ⟨m1, m2, m3, m4, m5, m6, m7, m8⟩, DA, IA, fun p hp => (h0 p hp).2.1, fun p hp => (h0 p hp).2.2⟩
  intro q hq
  refine N q ?_
  simp only [List.mem_cons, List.mem_append] at hq
  rcases hq with rfl | rfl | hq | hq
  all_goals first | assumption | exact (h0 _ hq).1 | exact hnews _ hq
theorem res_closeP {h₀ h : Heap} {L D nl : Addr} {l tl news : List (Addr × Obj)} {nvs : List Value} {nc nd : Nat} {notes : List Dat} {msg : Str} {t : Tok}
    (N : News h₀ L h l) (hD : (D, ({ cls := .type "tuple", data := .seq [Value.ref nl, .str msg t].toArray nd } : Obj)) ∈ l) (hn : (nl, listOf nvs.toArray nc) ∈ l) (DA : DatAll tl nvs notes) (ht : ∀ p ∈ tl, p ∈ l) (hw : ∀ p ∈ news, p ∈ l) :
    ∃ tl', News h₀ L h (tl' ++ news) ∧ DatIn tl' (.ref D) (resD (notes, msg)) := by
  refine ⟨(D, { cls := .type "tuple", data := .seq [Value.ref nl, .str msg t].toArray nd }) :: (nl, listOf nvs.toArray nc) :: tl, fun q hq => N q ?_, ?_⟩
  · simp only [List.mem_cons, List.mem_append] at hq
    rcases hq with (rfl | rfl | hq) | hq
    all_goals first | assumption | exact ht _ hq | exact hw _ hq
  · exact .tuple (.head _) (.cons (.list (.tail _ (.head _)) (DA.mono fun p hp => .tail _ (.tail _ hp))) (.cons (.str _ _) .nil))
section
local macro_rules | `(tactic| k_all) => `(tactic| first | with_reducible assumption | ((repeat' (first | refine' List.forall_mem_cons.mpr ⟨?_, ?_⟩ | refine' List.forall_mem_append.mpr ⟨?_, ?_⟩)); all_goals first | k_ne | with_reducible assumption | exact ne_of_allLt (by with_reducible assumption) | exact ne_of_ltAll (by with_reducible assumption) | exact ne_of_gtAllP (by with_reducible assumption) (by omega) | exact List.forall_mem_nil _))
local macro_rules | `(tactic| walk_at "call builtin:list.append") => `(tactic| (k_here; k_dflt (refine' appendLP ?k1 ?k2 ?k3 ?k4 ?_; (case k1 | k2 => k_asm); (case k3 => k_updF); (case k4 => first | omega | ((simp only [List.length_append, List.length_cons, List.length_nil]); omega)); k_whole; intro h' F' N'; (try dsimp only at N'); (try k_sweep))))
local macro_rules | `(tactic| walk_at "setItem ref int") => `(tactic| (k_here; (with_reducible show wpAny _ _ (setItem (Value.ref _) (Value.int _ _) (Value.int _ _)) _ _ _); k_dflt (refine' ksa_set ?k1 ?k2 ?k3 ?k4 ?k5 ?k6 ?k7 ?_; (case k1 | k2 => k_asm); (case k3 => exact upd_of_updFP (by k_updF)); (case k4 => with_reducible assumption); (case k5 => omega); (case k6 => omega); (case k7 => omega); k_whole); intro h' F' N' hi' hl' hs'; (try dsimp only at N'); (try k_sweep)))
local macro_rules | `(tactic| walk_at "subscriptTail") => `(tactic| (k_here; (with_reducible show wpAny _ _ (subscriptTail _ _ (Value.ref _) (Value.int _ _)) _ _ _); k_dflt (refine' ksa_sub ?k1 ?k2 ?k3 ?k4 ?k5 ?k6 ?_ ?k7; (case k1 => k_asm); (case k2 => k_mem); (case k3 => with_reducible assumption); (case k4 => omega); (case k5 => omega); (case k6 => omega); (case k7 => with_unfolding_all rfl); k_whole); intro _))
local macro_rules | `(tactic| walk_at "subscriptTail") => `(tactic| (k_here; (with_reducible show wpAny _ _ (subscriptTail _ _ (Value.ref _) (Value.int _ _)) _ _ _); k_dflt (refine' rows_itemP ?k1 ?k2 ?k3 ?k4 ?k5 ?k6 ?_; (case k1 => k_asm); (case k2 => k_mem); (case k3 => assumption); (case k4 => omega); (case k5 => omega); (case k6 => assumption); k_whole; intro ra' code' t' many' t2' n' hra' hrow' hin')))
local macro_rules | `(tactic| walk_at "call builtin:len") => `(tactic| (k_here; (with_reducible show wpAny _ _ (call (Value.builtin "len") [Value.ref _]) _ _ _); k_dflt (refine' rows_lenP ?k1 ?k2 ?k3 ?k4 ?_; (case k1 => k_asm); (case k2 => k_mem); (case k3 => assumption); (case k4 => assumption); k_whole)))
local macro_rules | `(tactic| walk_at "exec While") => `(tactic| (k_here; refine Hold.out ?_))
local macro_rules | `(tactic| walk_at "eval ListComp") => `(tactic| (k_here; refine Hold.out ?_))
local macro_rules | `(tactic| walk_at "exec Assign") => `(tactic| (k_here; (with_reducible rename HoldIfP2 => hm); refine Hold.out ?_))
local macro_rules | `(tactic| walk_at "exec If") => `(tactic| (k_here; (with_reducible rename HoldIfP => hm); refine Hold.out ?_))
set_option maxHeartbeats 8000000 in
theorem plain_ok {w : World} {p : Program} {loose : List Str} {mean : ExcName → Option Value} {mg mb : Str → Option Value}
    {dp un : Nat} {gd : Option (List Code)} {cn : Str} {cs : Scope} {a : Addr} {ccd : Value} {cl : List (Str × Addr)} {outer : List Env} {A₀ : Around} {base h₀ : Heap} {L : Addr} {m : Str → Option Value} {s : Shared}
    {Q E : Value → Shared → Prop} {news : List (Addr × Obj)} {r : Addr} {rvs : List Value} {rn : Nat} {rows : List (Int × Int)} {hf way goal : Int} {t1 t2 t3 : Tok}
    (B : Below A₀ base outer h₀) (F : Fr h₀ L s.heap m) (X : (Mine.hd.heap_1 w.params).In h₀)
    (N : News h₀ L s.heap news) (T : Top p loose mean mg mb h₀) (hk : cs.kind = .function)
    (hdp : dp + 30 < recursionLimit) (hun : un + 300 < cLine) (hrl : rows.length ≤ 6) (hg0 : 0 ≤ goal) (hg1 : goal ≤ 6) (hw0 : 0 ≤ way) (hw1 : way ≤ 5) (hrow : ∀ x ∈ rows, 0 ≤ x.1 ∧ x.1 ≤ 40)
    (hr : (r, listOf rvs.toArray rn) ∈ news) (hD : DatAll news rvs (rows.map rowD))
    (ret : ∀ v tl h' tk', Fr h₀ L h' m → News h₀ L h' (tl ++ news) → DatIn tl v (resD (plainGo rows hf way goal 41 [] (rows.map (·.2)) 0 false)) → Q v { s with heap := h', toks := tk' }) :
    wpAny (model PP w) (ktrTop dp un gd cn cs L a ccd cl outer) (call (.ref 183) [.ref r, .int hf t1, .int way t2, .int goal t3] [])
      Q E s := by
  refine wpAny_call ?_
  k_dflt k_enter
  k_steps
  refine Hold.mk ?_
  rename_i g0 L0 h1 FG Bx Xx Tx nl h2 F1 N1 lnl
  k_dflt (refine LCp.ListComp_P (F₀ := by k_asm) (by with_unfolding_all rfl) (by decide) (by rfl) (by decide) (by rfl) (by rfl) (by decide) ?_)
  k_dflt (refine' nameX_L (by k_asm) (by exact rfl) ?_)
  k_dflt (refine LCp.SrcLP.ledger (by rfl) (by k_asm) (by k_asm) (by k_mem) ?hsz ?_)
  case hsz =>
    have := hD.length
    rw [List.length_map] at this
    rw [List.size_toArray, sizeLine_eq]
    omega
  intro g1
  have hDl : rvs.toArray.size = rows.length := by rw [List.size_toArray, hD.length, List.length_map]
  refine rows_rest ?hS (fun _ => rfl) (fun _ => rfl) _ 0 [] rows (hD.mono fun p hp => by k_mem) hDl fun ys hys => ?_
  case hS => exact Or.inr ⟨_, by k_mem, rfl, _, rfl⟩
  unfold LCg.FinE
  intro ll h3 tk3 F3 N3 o3
  obtain ⟨o31, o32⟩ := o3
  have o3a := off1_all o32
  dsimp only [List.nil_append] at N3
  dsimp only
  k_steps
  refine Hold.mk ?_
  obtain ⟨St, hSt⟩ : ∃ St : List Dat → List Int → Int → Bool → Shared → Prop, St = PSt g0 L0 s news r nl ll hf way goal t1 t2 t3 := ⟨_, rfl⟩
  refine' While_invS2 (fun n s₁ => ∃ notes left at_ on, St notes left at_ on s₁ ∧ 40 ≤ n + notes.length ∧ left.length = rows.length ∧ 0 ≤ at_ ∧ at_ ≤ 6 ∧ notes.length ≤ 41 ∧ plainGo rows hf way goal n notes left at_ on = plainGo rows hf way goal 41 [] (rows.map (·.2)) 0 false) (n₀ := 41) ?hJ ?turn ?hE
  case hE => exact PassesOwn.leaving
  case hJ =>
    refine ⟨[], rows.map (·.2), 0, false, ?_, by decide, by rw [List.length_map], by decide, by decide, by decide, rfl⟩
    rw [hSt]
    refine' PSt.close (nvs := []) (tl0 := []) ?qF ?qN ?qhnl ?qhll ?qhnews ?qm1 ?qm2 ?qm3 ?qm4 ?qm5 ?qm6 ?qm7 ?qm8 ?qDA ?qIA ?qh0
    case qF => k_asm
    case qN => k_asm
    case qhnl => k_mem
    case qhll => k_mem
    case qhnews => (intro p hp; k_mem)
    case qm1 => exact rfl
    case qm2 => exact rfl
    case qm3 => exact rfl
    case qm4 => exact rfl
    case qm5 => exact rfl
    case qm6 => exact rfl
    case qm7 => exact rfl
    case qm8 => exact rfl
    case qDA => exact DatAll.nil
    case qIA => exact hys
    case qh0 => exact fun _ h => absurd h List.not_mem_nil
  case turn =>
    (try clear F1); (try clear N1); (try clear F3); (try clear N3)
    rintro n s₁ ⟨notes, left, at_, on, H, hn, hlf, ha0, ha1, hnl, hw⟩
    rw [hSt] at H
    obtain ⟨h, tk, m', tl, nvs, nc, lvs, ln, t8, ⟨rfl, F⟩, N, ⟨m1, m2, m3, m4, m5, m6, m7, m8⟩, DA, IA, hT1, hT2⟩ := H
    have hnv := DA.length
    have hmark : HoldIfP2 := trivial
    k_steps
    · refine Hold.mk ?_
      rename HoldIfP2 => hz
      refine' wpAny_mono (Q := fun f s' => Hold (f = .next ∧ St notes left at_ (on || decide (at_ = hf)) s')) ?seg ?rest (fun _ _ h => h)
      case seg =>
        clear hz
        cases on
        all_goals k_steps
        all_goals (refine Hold.mk ⟨rfl, ?_⟩; rw [hSt])
        all_goals (
          refine' PSt.close ?qF ?qN ?qhnl ?qhll ?qhnews ?qm1 ?qm2 ?qm3 ?qm4 ?qm5 ?qm6 ?qm7 ?qm8 ?qDA ?qIA ?qh0
          case qF => k_asm
          case qN => k_asm
          case qhnl => k_mem
          case qhll => k_mem
          case qhnews => (intro p hp; k_mem)
          case qm1 => first | with_reducible assumption | exact if_pos rfl | exact (if_neg (by decide +kernel)).trans (by with_reducible assumption) | exact (if_neg (by decide +kernel)).trans (if_pos rfl) | exact (if_neg (by decide +kernel)).trans ((if_neg (by decide +kernel)).trans (by with_reducible assumption)) | exact (if_neg (by decide +kernel)).trans ((if_neg (by decide +kernel)).trans (if_pos rfl)) | exact (if_neg (by decide +kernel)).trans ((if_neg (by decide +kernel)).trans ((if_neg (by decide +kernel)).trans (by with_reducible assumption)))
          case qm2 => first | with_reducible assumption | exact if_pos rfl | exact (if_neg (by decide +kernel)).trans (by with_reducible assumption) | exact (if_neg (by decide +kernel)).trans (if_pos rfl) | exact (if_neg (by decide +kernel)).trans ((if_neg (by decide +kernel)).trans (by with_reducible assumption)) | exact (if_neg (by decide +kernel)).trans ((if_neg (by decide +kernel)).trans (if_pos rfl)) | exact (if_neg (by decide +kernel)).trans ((if_neg (by decide +kernel)).trans ((if_neg (by decide +kernel)).trans (by with_reducible assumption)))
          case qm3 => first | with_reducible assumption | exact if_pos rfl | exact (if_neg (by decide +kernel)).trans (by with_reducible assumption) | exact (if_neg (by decide +kernel)).trans (if_pos rfl) | exact (if_neg (by decide +kernel)).trans ((if_neg (by decide +kernel)).trans (by with_reducible assumption)) | exact (if_neg (by decide +kernel)).trans ((if_neg (by decide +kernel)).trans (if_pos rfl)) | exact (if_neg (by decide +kernel)).trans ((if_neg (by decide +kernel)).trans ((if_neg (by decide +kernel)).trans (by with_reducible assumption)))
          case qm4 => first | with_reducible assumption | exact if_pos rfl | exact (if_neg (by decide +kernel)).trans (by with_reducible assumption) | exact (if_neg (by decide +kernel)).trans (if_pos rfl) | exact (if_neg (by decide +kernel)).trans ((if_neg (by decide +kernel)).trans (by with_reducible assumption)) | exact (if_neg (by decide +kernel)).trans ((if_neg (by decide +kernel)).trans (if_pos rfl)) | exact (if_neg (by decide +kernel)).trans ((if_neg (by decide +kernel)).trans ((if_neg (by decide +kernel)).trans (by with_reducible assumption)))
          case qm5 => first | with_reducible assumption | exact if_pos rfl | exact (if_neg (by decide +kernel)).trans (by with_reducible assumption) | exact (if_neg (by decide +kernel)).trans (if_pos rfl) | exact (if_neg (by decide +kernel)).trans ((if_neg (by decide +kernel)).trans (by with_reducible assumption)) | exact (if_neg (by decide +kernel)).trans ((if_neg (by decide +kernel)).trans (if_pos rfl)) | exact (if_neg (by decide +kernel)).trans ((if_neg (by decide +kernel)).trans ((if_neg (by decide +kernel)).trans (by with_reducible assumption)))
          case qm6 => first | with_reducible assumption | exact if_pos rfl | exact (if_neg (by decide +kernel)).trans (by with_reducible assumption) | exact (if_neg (by decide +kernel)).trans (if_pos rfl) | exact (if_neg (by decide +kernel)).trans ((if_neg (by decide +kernel)).trans (by with_reducible assumption)) | exact (if_neg (by decide +kernel)).trans ((if_neg (by decide +kernel)).trans (if_pos rfl)) | exact (if_neg (by decide +kernel)).trans ((if_neg (by decide +kernel)).trans ((if_neg (by decide +kernel)).trans (by with_reducible assumption)))
          case qm7 => first | with_reducible assumption | exact if_pos rfl | exact (if_neg (by decide +kernel)).trans (by with_reducible assumption) | exact (if_neg (by decide +kernel)).trans (if_pos rfl) | exact (if_neg (by decide +kernel)).trans ((if_neg (by decide +kernel)).trans (by with_reducible assumption)) | exact (if_neg (by decide +kernel)).trans ((if_neg (by decide +kernel)).trans (if_pos rfl)) | exact (if_neg (by decide +kernel)).trans ((if_neg (by decide +kernel)).trans ((if_neg (by decide +kernel)).trans (by with_reducible assumption)))
          case qm8 => first | with_reducible assumption | exact if_pos rfl | exact (if_neg (by decide +kernel)).trans (by with_reducible assumption) | exact (if_neg (by decide +kernel)).trans (if_pos rfl) | exact (if_neg (by decide +kernel)).trans ((if_neg (by decide +kernel)).trans (by with_reducible assumption)) | exact (if_neg (by decide +kernel)).trans ((if_neg (by decide +kernel)).trans (if_pos rfl)) | exact (if_neg (by decide +kernel)).trans ((if_neg (by decide +kernel)).trans ((if_neg (by decide +kernel)).trans (by with_reducible assumption)))
          case qDA => assumption
          case qIA => assumption
          case qh0 => (intro p hp; exact ⟨by k_mem, hT1 p hp, hT2 p hp⟩))
      case rest =>
        rintro f s2 ⟨rfl, H⟩
        dsimp only
        clear hz
        (try clear F); (try clear N); (try clear m1); (try clear m2); (try clear m3); (try clear m4); (try clear m5); (try clear m6); (try clear m7); (try clear m8); (try clear DA); (try clear IA); (try clear hT1); (try clear hT2); (try clear hnv)
        rw [hSt] at H
        obtain ⟨h, tk, m', tl, nvs, nc, lvs, ln, t8, ⟨rfl, F⟩, N, ⟨m1, m2, m3, m4, m5, m6, m7, m8⟩, DA, IA, hT1, hT2⟩ := H
        have hnv := DA.length
        have hmark : HoldIfP := trivial
        k_steps
        refine Hold.mk ?_
        refine wpAny_If ?_
        k_steps
        · obtain ⟨tl', hN, hDI⟩ := res_closeP (h₀ := h₀) (L := L) (news := news) (by assumption) (by k_mem) (by k_mem) DA (by intro p hp; k_mem) (by intro p hp; k_mem)
          refine' ret _ tl' _ _ (by k_asm) hN ?_
          rw [← hw, plainGo_end hn (by assumption) (by omega)]
          exact hDI
        · refine Hold.mk ?_
          refine wpAny_If ?_
          k_steps
          · (try dsimp only)
            refine Hold.mk ⟨n - 1, by omega, notes ++ [.int at_], left, at_ + 1, (on || decide (at_ = hf)), ?_, by simp only [List.length_append, List.length_cons, List.length_nil]; omega, hlf, by omega, by omega, by simp only [List.length_append, List.length_cons, List.length_nil]; omega, ?_⟩
            · rw [hSt]
              refine' PSt.close ?qF ?qN ?qhnl ?qhll ?qhnews ?qm1 ?qm2 ?qm3 ?qm4 ?qm5 ?qm6 ?qm7 ?qm8 ?qDA ?qIA ?qh0
              case qF => k_asm
              case qN => k_asm
              case qhnl => k_mem
              case qhll => k_mem
              case qhnews => (intro p hp; k_mem)
              case qm1 => first | with_reducible assumption | exact if_pos rfl | exact (if_neg (by decide +kernel)).trans (by with_reducible assumption) | exact (if_neg (by decide +kernel)).trans (if_pos rfl) | exact (if_neg (by decide +kernel)).trans ((if_neg (by decide +kernel)).trans (by with_reducible assumption)) | exact (if_neg (by decide +kernel)).trans ((if_neg (by decide +kernel)).trans (if_pos rfl)) | exact (if_neg (by decide +kernel)).trans ((if_neg (by decide +kernel)).trans ((if_neg (by decide +kernel)).trans (by with_reducible assumption)))
              case qm2 => first | with_reducible assumption | exact if_pos rfl | exact (if_neg (by decide +kernel)).trans (by with_reducible assumption) | exact (if_neg (by decide +kernel)).trans (if_pos rfl) | exact (if_neg (by decide +kernel)).trans ((if_neg (by decide +kernel)).trans (by with_reducible assumption)) | exact (if_neg (by decide +kernel)).trans ((if_neg (by decide +kernel)).trans (if_pos rfl)) | exact (if_neg (by decide +kernel)).trans ((if_neg (by decide +kernel)).trans ((if_neg (by decide +kernel)).trans (by with_reducible assumption)))
              case qm3 => first | with_reducible assumption | exact if_pos rfl | exact (if_neg (by decide +kernel)).trans (by with_reducible assumption) | exact (if_neg (by decide +kernel)).trans (if_pos rfl) | exact (if_neg (by decide +kernel)).trans ((if_neg (by decide +kernel)).trans (by with_reducible assumption)) | exact (if_neg (by decide +kernel)).trans ((if_neg (by decide +kernel)).trans (if_pos rfl)) | exact (if_neg (by decide +kernel)).trans ((if_neg (by decide +kernel)).trans ((if_neg (by decide +kernel)).trans (by with_reducible assumption)))
              case qm4 => first | with_reducible assumption | exact if_pos rfl | exact (if_neg (by decide +kernel)).trans (by with_reducible assumption) | exact (if_neg (by decide +kernel)).trans (if_pos rfl) | exact (if_neg (by decide +kernel)).trans ((if_neg (by decide +kernel)).trans (by with_reducible assumption)) | exact (if_neg (by decide +kernel)).trans ((if_neg (by decide +kernel)).trans (if_pos rfl)) | exact (if_neg (by decide +kernel)).trans ((if_neg (by decide +kernel)).trans ((if_neg (by decide +kernel)).trans (by with_reducible assumption)))
              case qm5 => first | with_reducible assumption | exact if_pos rfl | exact (if_neg (by decide +kernel)).trans (by with_reducible assumption) | exact (if_neg (by decide +kernel)).trans (if_pos rfl) | exact (if_neg (by decide +kernel)).trans ((if_neg (by decide +kernel)).trans (by with_reducible assumption)) | exact (if_neg (by decide +kernel)).trans ((if_neg (by decide +kernel)).trans (if_pos rfl)) | exact (if_neg (by decide +kernel)).trans ((if_neg (by decide +kernel)).trans ((if_neg (by decide +kernel)).trans (by with_reducible assumption)))
              case qm6 => first | with_reducible assumption | exact if_pos rfl | exact (if_neg (by decide +kernel)).trans (by with_reducible assumption) | exact (if_neg (by decide +kernel)).trans (if_pos rfl) | exact (if_neg (by decide +kernel)).trans ((if_neg (by decide +kernel)).trans (by with_reducible assumption)) | exact (if_neg (by decide +kernel)).trans ((if_neg (by decide +kernel)).trans (if_pos rfl)) | exact (if_neg (by decide +kernel)).trans ((if_neg (by decide +kernel)).trans ((if_neg (by decide +kernel)).trans (by with_reducible assumption)))
              case qm7 => first | with_reducible assumption | exact if_pos rfl | exact (if_neg (by decide +kernel)).trans (by with_reducible assumption) | exact (if_neg (by decide +kernel)).trans (if_pos rfl) | exact (if_neg (by decide +kernel)).trans ((if_neg (by decide +kernel)).trans (by with_reducible assumption)) | exact (if_neg (by decide +kernel)).trans ((if_neg (by decide +kernel)).trans (if_pos rfl)) | exact (if_neg (by decide +kernel)).trans ((if_neg (by decide +kernel)).trans ((if_neg (by decide +kernel)).trans (by with_reducible assumption)))
              case qm8 => first | with_reducible assumption | exact if_pos rfl | exact (if_neg (by decide +kernel)).trans (by with_reducible assumption) | exact (if_neg (by decide +kernel)).trans (if_pos rfl) | exact (if_neg (by decide +kernel)).trans ((if_neg (by decide +kernel)).trans (by with_reducible assumption)) | exact (if_neg (by decide +kernel)).trans ((if_neg (by decide +kernel)).trans (if_pos rfl)) | exact (if_neg (by decide +kernel)).trans ((if_neg (by decide +kernel)).trans ((if_neg (by decide +kernel)).trans (by with_reducible assumption)))
              case qDA => exact DatAll.append DA (.one (.int _ _))
              case qIA => assumption
              case qh0 => (intro p hp; exact ⟨by k_mem, hT1 p hp, hT2 p hp⟩)
            · rw [← hw]
              exact (plainGo_skip hn (by omega) (by omega) (by assumption) (by first | exact .inl (by assumption) | exact .inr (by assumption))).symm
          · (try dsimp only)
            refine Hold.mk ⟨n - 1, by omega, notes ++ [.int at_], left, at_ + 1, (on || decide (at_ = hf)), ?_, by simp only [List.length_append, List.length_cons, List.length_nil]; omega, hlf, by omega, by omega, by simp only [List.length_append, List.length_cons, List.length_nil]; omega, ?_⟩
            · rw [hSt]
              refine' PSt.close ?qF ?qN ?qhnl ?qhll ?qhnews ?qm1 ?qm2 ?qm3 ?qm4 ?qm5 ?qm6 ?qm7 ?qm8 ?qDA ?qIA ?qh0
              case qF => k_asm
              case qN => k_asm
              case qhnl => k_mem
              case qhll => k_mem
              case qhnews => (intro p hp; k_mem)
              case qm1 => first | with_reducible assumption | exact if_pos rfl | exact (if_neg (by decide +kernel)).trans (by with_reducible assumption) | exact (if_neg (by decide +kernel)).trans (if_pos rfl) | exact (if_neg (by decide +kernel)).trans ((if_neg (by decide +kernel)).trans (by with_reducible assumption)) | exact (if_neg (by decide +kernel)).trans ((if_neg (by decide +kernel)).trans (if_pos rfl)) | exact (if_neg (by decide +kernel)).trans ((if_neg (by decide +kernel)).trans ((if_neg (by decide +kernel)).trans (by with_reducible assumption)))
              case qm2 => first | with_reducible assumption | exact if_pos rfl | exact (if_neg (by decide +kernel)).trans (by with_reducible assumption) | exact (if_neg (by decide +kernel)).trans (if_pos rfl) | exact (if_neg (by decide +kernel)).trans ((if_neg (by decide +kernel)).trans (by with_reducible assumption)) | exact (if_neg (by decide +kernel)).trans ((if_neg (by decide +kernel)).trans (if_pos rfl)) | exact (if_neg (by decide +kernel)).trans ((if_neg (by decide +kernel)).trans ((if_neg (by decide +kernel)).trans (by with_reducible assumption)))
              case qm3 => first | with_reducible assumption | exact if_pos rfl | exact (if_neg (by decide +kernel)).trans (by with_reducible assumption) | exact (if_neg (by decide +kernel)).trans (if_pos rfl) | exact (if_neg (by decide +kernel)).trans ((if_neg (by decide +kernel)).trans (by with_reducible assumption)) | exact (if_neg (by decide +kernel)).trans ((if_neg (by decide +kernel)).trans (if_pos rfl)) | exact (if_neg (by decide +kernel)).trans ((if_neg (by decide +kernel)).trans ((if_neg (by decide +kernel)).trans (by with_reducible assumption)))
              case qm4 => first | with_reducible assumption | exact if_pos rfl | exact (if_neg (by decide +kernel)).trans (by with_reducible assumption) | exact (if_neg (by decide +kernel)).trans (if_pos rfl) | exact (if_neg (by decide +kernel)).trans ((if_neg (by decide +kernel)).trans (by with_reducible assumption)) | exact (if_neg (by decide +kernel)).trans ((if_neg (by decide +kernel)).trans (if_pos rfl)) | exact (if_neg (by decide +kernel)).trans ((if_neg (by decide +kernel)).trans ((if_neg (by decide +kernel)).trans (by with_reducible assumption)))
              case qm5 => first | with_reducible assumption | exact if_pos rfl | exact (if_neg (by decide +kernel)).trans (by with_reducible assumption) | exact (if_neg (by decide +kernel)).trans (if_pos rfl) | exact (if_neg (by decide +kernel)).trans ((if_neg (by decide +kernel)).trans (by with_reducible assumption)) | exact (if_neg (by decide +kernel)).trans ((if_neg (by decide +kernel)).trans (if_pos rfl)) | exact (if_neg (by decide +kernel)).trans ((if_neg (by decide +kernel)).trans ((if_neg (by decide +kernel)).trans (by with_reducible assumption)))
              case qm6 => first | with_reducible assumption | exact if_pos rfl | exact (if_neg (by decide +kernel)).trans (by with_reducible assumption) | exact (if_neg (by decide +kernel)).trans (if_pos rfl) | exact (if_neg (by decide +kernel)).trans ((if_neg (by decide +kernel)).trans (by with_reducible assumption)) | exact (if_neg (by decide +kernel)).trans ((if_neg (by decide +kernel)).trans (if_pos rfl)) | exact (if_neg (by decide +kernel)).trans ((if_neg (by decide +kernel)).trans ((if_neg (by decide +kernel)).trans (by with_reducible assumption)))
              case qm7 => first | with_reducible assumption | exact if_pos rfl | exact (if_neg (by decide +kernel)).trans (by with_reducible assumption) | exact (if_neg (by decide +kernel)).trans (if_pos rfl) | exact (if_neg (by decide +kernel)).trans ((if_neg (by decide +kernel)).trans (by with_reducible assumption)) | exact (if_neg (by decide +kernel)).trans ((if_neg (by decide +kernel)).trans (if_pos rfl)) | exact (if_neg (by decide +kernel)).trans ((if_neg (by decide +kernel)).trans ((if_neg (by decide +kernel)).trans (by with_reducible assumption)))
              case qm8 => first | with_reducible assumption | exact if_pos rfl | exact (if_neg (by decide +kernel)).trans (by with_reducible assumption) | exact (if_neg (by decide +kernel)).trans (if_pos rfl) | exact (if_neg (by decide +kernel)).trans ((if_neg (by decide +kernel)).trans (by with_reducible assumption)) | exact (if_neg (by decide +kernel)).trans ((if_neg (by decide +kernel)).trans (if_pos rfl)) | exact (if_neg (by decide +kernel)).trans ((if_neg (by decide +kernel)).trans ((if_neg (by decide +kernel)).trans (by with_reducible assumption)))
              case qDA => exact DatAll.append DA (.one (.int _ _))
              case qIA => assumption
              case qh0 => (intro p hp; exact ⟨by k_mem, hT1 p hp, hT2 p hp⟩)
            · rw [← hw]
              exact (plainGo_skip hn (by omega) (by omega) (by assumption) (by first | exact .inl (by assumption) | exact .inr (by assumption))).symm
          · refine Hold.mk ?_
            refine wpAny_If ?_
            rename_i ra code tc many t2c nr hra hEq hin1 hx1 hx2 tkx _ _ hA tx hB hx3 hx4 F9 N9 hi9 hl9 hs9
            have hcode := hrow _ hin1
            have hlt : at_ < (rows.length : Int) := by omega
            have h40 : (notes.length : Int) < 40 := by assumption
            clear hs9 hl9
            cases hon : (on || decide (at_ = hf)) with
            | false =>
              rw [hon] at m8
              k_steps
              obtain ⟨tl', hN, hDI⟩ := res_closeP (h₀ := h₀) (L := L) (news := news) (by assumption) (by k_mem) (by k_mem) (DatAll.append DA (.one (.int _ _))) (by intro p hp; k_mem) (by intro p hp; k_mem)
              refine' ret _ tl' _ _ (by k_asm) hN ?_
              rw [← hw, plainGo_off hn h40 hlt hEq hA hB hon]
              exact hDI
            | true =>
              rw [hon] at m8
              k_steps
              refine Hold.mk ?_
              refine wpAny_If ?_
              obtain ⟨xt, hxe, hxd⟩ := told_split (by assumption)
              have hcl := codeOf_len code
              have hcase : way = 0 ∨ way = 1 ∨ way = 2 ∨ way = 3 ∨ way = 4 ∨ way = 5 := by omega
              rcases hcase with rfl | rfl | rfl | rfl | rfl | rfl
              all_goals k_steps
              · (try dsimp only)
                refine Hold.mk ⟨n - 1, by omega, notes ++ [.int at_] ++ [toldD (codeOf code) at_], left.set at_.toNat (left.getD at_.toNat 0 - 1), at_, (on || decide (at_ = hf)), ?_, by simp only [List.length_append, List.length_cons, List.length_nil]; omega, by rw [List.length_set]; exact hlf, by omega, by omega, by simp only [List.length_append, List.length_cons, List.length_nil]; omega, ?_⟩
                · rw [hSt, hon]
                  refine' PSt.close (tl0 := xt :: tl) ?qF ?qN ?qhnl ?qhll ?qhnews ?qm1 ?qm2 ?qm3 ?qm4 ?qm5 ?qm6 ?qm7 ?qm8 ?qDA ?qIA ?qh0
                  case qF => k_asm
                  case qN => k_asm
                  case qhnl => k_mem
                  case qhll => k_mem
                  case qhnews => (intro p hp; k_mem)
                  case qm1 => first | with_reducible assumption | exact if_pos rfl | exact (if_neg (by decide +kernel)).trans (by with_reducible assumption) | exact (if_neg (by decide +kernel)).trans (if_pos rfl) | exact (if_neg (by decide +kernel)).trans ((if_neg (by decide +kernel)).trans (by with_reducible assumption)) | exact (if_neg (by decide +kernel)).trans ((if_neg (by decide +kernel)).trans (if_pos rfl)) | exact (if_neg (by decide +kernel)).trans ((if_neg (by decide +kernel)).trans ((if_neg (by decide +kernel)).trans (by with_reducible assumption)))
                  case qm2 => first | with_reducible assumption | exact if_pos rfl | exact (if_neg (by decide +kernel)).trans (by with_reducible assumption) | exact (if_neg (by decide +kernel)).trans (if_pos rfl) | exact (if_neg (by decide +kernel)).trans ((if_neg (by decide +kernel)).trans (by with_reducible assumption)) | exact (if_neg (by decide +kernel)).trans ((if_neg (by decide +kernel)).trans (if_pos rfl)) | exact (if_neg (by decide +kernel)).trans ((if_neg (by decide +kernel)).trans ((if_neg (by decide +kernel)).trans (by with_reducible assumption)))
                  case qm3 => first | with_reducible assumption | exact if_pos rfl | exact (if_neg (by decide +kernel)).trans (by with_reducible assumption) | exact (if_neg (by decide +kernel)).trans (if_pos rfl) | exact (if_neg (by decide +kernel)).trans ((if_neg (by decide +kernel)).trans (by with_reducible assumption)) | exact (if_neg (by decide +kernel)).trans ((if_neg (by decide +kernel)).trans (if_pos rfl)) | exact (if_neg (by decide +kernel)).trans ((if_neg (by decide +kernel)).trans ((if_neg (by decide +kernel)).trans (by with_reducible assumption)))
                  case qm4 => first | with_reducible assumption | exact if_pos rfl | exact (if_neg (by decide +kernel)).trans (by with_reducible assumption) | exact (if_neg (by decide +kernel)).trans (if_pos rfl) | exact (if_neg (by decide +kernel)).trans ((if_neg (by decide +kernel)).trans (by with_reducible assumption)) | exact (if_neg (by decide +kernel)).trans ((if_neg (by decide +kernel)).trans (if_pos rfl)) | exact (if_neg (by decide +kernel)).trans ((if_neg (by decide +kernel)).trans ((if_neg (by decide +kernel)).trans (by with_reducible assumption)))
                  case qm5 => first | with_reducible assumption | exact if_pos rfl | exact (if_neg (by decide +kernel)).trans (by with_reducible assumption) | exact (if_neg (by decide +kernel)).trans (if_pos rfl) | exact (if_neg (by decide +kernel)).trans ((if_neg (by decide +kernel)).trans (by with_reducible assumption)) | exact (if_neg (by decide +kernel)).trans ((if_neg (by decide +kernel)).trans (if_pos rfl)) | exact (if_neg (by decide +kernel)).trans ((if_neg (by decide +kernel)).trans ((if_neg (by decide +kernel)).trans (by with_reducible assumption)))
                  case qm6 => first | with_reducible assumption | exact if_pos rfl | exact (if_neg (by decide +kernel)).trans (by with_reducible assumption) | exact (if_neg (by decide +kernel)).trans (if_pos rfl) | exact (if_neg (by decide +kernel)).trans ((if_neg (by decide +kernel)).trans (by with_reducible assumption)) | exact (if_neg (by decide +kernel)).trans ((if_neg (by decide +kernel)).trans (if_pos rfl)) | exact (if_neg (by decide +kernel)).trans ((if_neg (by decide +kernel)).trans ((if_neg (by decide +kernel)).trans (by with_reducible assumption)))
                  case qm7 => first | with_reducible assumption | exact if_pos rfl | exact (if_neg (by decide +kernel)).trans (by with_reducible assumption) | exact (if_neg (by decide +kernel)).trans (if_pos rfl) | exact (if_neg (by decide +kernel)).trans ((if_neg (by decide +kernel)).trans (by with_reducible assumption)) | exact (if_neg (by decide +kernel)).trans ((if_neg (by decide +kernel)).trans (if_pos rfl)) | exact (if_neg (by decide +kernel)).trans ((if_neg (by decide +kernel)).trans ((if_neg (by decide +kernel)).trans (by with_reducible assumption)))
                  case qm8 => first | with_reducible assumption | exact if_pos rfl | exact (if_neg (by decide +kernel)).trans (by with_reducible assumption) | exact (if_neg (by decide +kernel)).trans (if_pos rfl) | exact (if_neg (by decide +kernel)).trans ((if_neg (by decide +kernel)).trans (by with_reducible assumption)) | exact (if_neg (by decide +kernel)).trans ((if_neg (by decide +kernel)).trans (if_pos rfl)) | exact (if_neg (by decide +kernel)).trans ((if_neg (by decide +kernel)).trans ((if_neg (by decide +kernel)).trans (by with_reducible assumption)))
                  case qDA => exact DatAll.append (DatAll.append (DA.mono (news' := xt :: tl) (fun p hp => List.mem_cons_of_mem _ hp)) (.one (.int at_ t8))) (.one (hxd.mono (news' := xt :: tl) (fun p hp => by rw [List.mem_singleton.mp hp]; exact List.mem_cons_self)))
                  case qIA => exact hi9
                  case qh0 => (intro p hp; rcases List.mem_cons.mp hp with hp | hp; (rw [hp, hxe]; exact ⟨by k_mem, by k_ne, by k_ne⟩); exact ⟨by k_mem, hT1 p hp, hT2 p hp⟩)
                · rw [← hw, plainGo_on hn h40 hlt hEq hA hB hon, if_pos (by decide)]
                  rfl
              · (try dsimp only)
                refine Hold.mk ⟨n - 1, by omega, notes ++ [.int at_] ++ [toldD (codeOf code) at_], left.set at_.toNat (left.getD at_.toNat 0 - 1), at_ + 1, (on || decide (at_ = hf)), ?_, by simp only [List.length_append, List.length_cons, List.length_nil]; omega, by rw [List.length_set]; exact hlf, by omega, by omega, by simp only [List.length_append, List.length_cons, List.length_nil]; omega, ?_⟩
                · rw [hSt, hon]
                  refine' PSt.close (tl0 := xt :: tl) ?qF ?qN ?qhnl ?qhll ?qhnews ?qm1 ?qm2 ?qm3 ?qm4 ?qm5 ?qm6 ?qm7 ?qm8 ?qDA ?qIA ?qh0
                  case qF => k_asm
                  case qN => k_asm
                  case qhnl => k_mem
                  case qhll => k_mem
                  case qhnews => (intro p hp; k_mem)
                  case qm1 => first | with_reducible assumption | exact if_pos rfl | exact (if_neg (by decide +kernel)).trans (by with_reducible assumption) | exact (if_neg (by decide +kernel)).trans (if_pos rfl) | exact (if_neg (by decide +kernel)).trans ((if_neg (by decide +kernel)).trans (by with_reducible assumption)) | exact (if_neg (by decide +kernel)).trans ((if_neg (by decide +kernel)).trans (if_pos rfl)) | exact (if_neg (by decide +kernel)).trans ((if_neg (by decide +kernel)).trans ((if_neg (by decide +kernel)).trans (by with_reducible assumption)))
                  case qm2 => first | with_reducible assumption | exact if_pos rfl | exact (if_neg (by decide +kernel)).trans (by with_reducible assumption) | exact (if_neg (by decide +kernel)).trans (if_pos rfl) | exact (if_neg (by decide +kernel)).trans ((if_neg (by decide +kernel)).trans (by with_reducible assumption)) | exact (if_neg (by decide +kernel)).trans ((if_neg (by decide +kernel)).trans (if_pos rfl)) | exact (if_neg (by decide +kernel)).trans ((if_neg (by decide +kernel)).trans ((if_neg (by decide +kernel)).trans (by with_reducible assumption)))
                  case qm3 => first | with_reducible assumption | exact if_pos rfl | exact (if_neg (by decide +kernel)).trans (by with_reducible assumption) | exact (if_neg (by decide +kernel)).trans (if_pos rfl) | exact (if_neg (by decide +kernel)).trans ((if_neg (by decide +kernel)).trans (by with_reducible assumption)) | exact (if_neg (by decide +kernel)).trans ((if_neg (by decide +kernel)).trans (if_pos rfl)) | exact (if_neg (by decide +kernel)).trans ((if_neg (by decide +kernel)).trans ((if_neg (by decide +kernel)).trans (by with_reducible assumption)))
                  case qm4 => first | with_reducible assumption | exact if_pos rfl | exact (if_neg (by decide +kernel)).trans (by with_reducible assumption) | exact (if_neg (by decide +kernel)).trans (if_pos rfl) | exact (if_neg (by decide +kernel)).trans ((if_neg (by decide +kernel)).trans (by with_reducible assumption)) | exact (if_neg (by decide +kernel)).trans ((if_neg (by decide +kernel)).trans (if_pos rfl)) | exact (if_neg (by decide +kernel)).trans ((if_neg (by decide +kernel)).trans ((if_neg (by decide +kernel)).trans (by with_reducible assumption)))
                  case qm5 => first | with_reducible assumption | exact if_pos rfl | exact (if_neg (by decide +kernel)).trans (by with_reducible assumption) | exact (if_neg (by decide +kernel)).trans (if_pos rfl) | exact (if_neg (by decide +kernel)).trans ((if_neg (by decide +kernel)).trans (by with_reducible assumption)) | exact (if_neg (by decide +kernel)).trans ((if_neg (by decide +kernel)).trans (if_pos rfl)) | exact (if_neg (by decide +kernel)).trans ((if_neg (by decide +kernel)).trans ((if_neg (by decide +kernel)).trans (by with_reducible assumption)))
                  case qm6 => first | with_reducible assumption | exact if_pos rfl | exact (if_neg (by decide +kernel)).trans (by with_reducible assumption) | exact (if_neg (by decide +kernel)).trans (if_pos rfl) | exact (if_neg (by decide +kernel)).trans ((if_neg (by decide +kernel)).trans (by with_reducible assumption)) | exact (if_neg (by decide +kernel)).trans ((if_neg (by decide +kernel)).trans (if_pos rfl)) | exact (if_neg (by decide +kernel)).trans ((if_neg (by decide +kernel)).trans ((if_neg (by decide +kernel)).trans (by with_reducible assumption)))
                  case qm7 => first | with_reducible assumption | exact if_pos rfl | exact (if_neg (by decide +kernel)).trans (by with_reducible assumption) | exact (if_neg (by decide +kernel)).trans (if_pos rfl) | exact (if_neg (by decide +kernel)).trans ((if_neg (by decide +kernel)).trans (by with_reducible assumption)) | exact (if_neg (by decide +kernel)).trans ((if_neg (by decide +kernel)).trans (if_pos rfl)) | exact (if_neg (by decide +kernel)).trans ((if_neg (by decide +kernel)).trans ((if_neg (by decide +kernel)).trans (by with_reducible assumption)))
                  case qm8 => first | with_reducible assumption | exact if_pos rfl | exact (if_neg (by decide +kernel)).trans (by with_reducible assumption) | exact (if_neg (by decide +kernel)).trans (if_pos rfl) | exact (if_neg (by decide +kernel)).trans ((if_neg (by decide +kernel)).trans (by with_reducible assumption)) | exact (if_neg (by decide +kernel)).trans ((if_neg (by decide +kernel)).trans (if_pos rfl)) | exact (if_neg (by decide +kernel)).trans ((if_neg (by decide +kernel)).trans ((if_neg (by decide +kernel)).trans (by with_reducible assumption)))
                  case qDA => exact DatAll.append (DatAll.append (DA.mono (news' := xt :: tl) (fun p hp => List.mem_cons_of_mem _ hp)) (.one (.int at_ t8))) (.one (hxd.mono (news' := xt :: tl) (fun p hp => by rw [List.mem_singleton.mp hp]; exact List.mem_cons_self)))
                  case qIA => exact hi9
                  case qh0 => (intro p hp; rcases List.mem_cons.mp hp with hp | hp; (rw [hp, hxe]; exact ⟨by k_mem, by k_ne, by k_ne⟩); exact ⟨by k_mem, hT1 p hp, hT2 p hp⟩)
                · rw [← hw, plainGo_on hn h40 hlt hEq hA hB hon, if_pos (by decide)]
                  rfl
              · (try dsimp only)
                refine Hold.mk ⟨n - 1, by omega, notes ++ [.int at_] ++ [toldD (codeOf code) at_], left.set at_.toNat (left.getD at_.toNat 0 - 1), goal, (on || decide (at_ = hf)), ?_, by simp only [List.length_append, List.length_cons, List.length_nil]; omega, by rw [List.length_set]; exact hlf, by omega, by omega, by simp only [List.length_append, List.length_cons, List.length_nil]; omega, ?_⟩
                · rw [hSt, hon]
                  refine' PSt.close (tl0 := xt :: tl) ?qF ?qN ?qhnl ?qhll ?qhnews ?qm1 ?qm2 ?qm3 ?qm4 ?qm5 ?qm6 ?qm7 ?qm8 ?qDA ?qIA ?qh0
                  case qF => k_asm
                  case qN => k_asm
                  case qhnl => k_mem
                  case qhll => k_mem
                  case qhnews => (intro p hp; k_mem)
                  case qm1 => first | with_reducible assumption | exact if_pos rfl | exact (if_neg (by decide +kernel)).trans (by with_reducible assumption) | exact (if_neg (by decide +kernel)).trans (if_pos rfl) | exact (if_neg (by decide +kernel)).trans ((if_neg (by decide +kernel)).trans (by with_reducible assumption)) | exact (if_neg (by decide +kernel)).trans ((if_neg (by decide +kernel)).trans (if_pos rfl)) | exact (if_neg (by decide +kernel)).trans ((if_neg (by decide +kernel)).trans ((if_neg (by decide +kernel)).trans (by with_reducible assumption)))
                  case qm2 => first | with_reducible assumption | exact if_pos rfl | exact (if_neg (by decide +kernel)).trans (by with_reducible assumption) | exact (if_neg (by decide +kernel)).trans (if_pos rfl) | exact (if_neg (by decide +kernel)).trans ((if_neg (by decide +kernel)).trans (by with_reducible assumption)) | exact (if_neg (by decide +kernel)).trans ((if_neg (by decide +kernel)).trans (if_pos rfl)) | exact (if_neg (by decide +kernel)).trans ((if_neg (by decide +kernel)).trans ((if_neg (by decide +kernel)).trans (by with_reducible assumption)))
                  case qm3 => first | with_reducible assumption | exact if_pos rfl | exact (if_neg (by decide +kernel)).trans (by with_reducible assumption) | exact (if_neg (by decide +kernel)).trans (if_pos rfl) | exact (if_neg (by decide +kernel)).trans ((if_neg (by decide +kernel)).trans (by with_reducible assumption)) | exact (if_neg (by decide +kernel)).trans ((if_neg (by decide +kernel)).trans (if_pos rfl)) | exact (if_neg (by decide +kernel)).trans ((if_neg (by decide +kernel)).trans ((if_neg (by decide +kernel)).trans (by with_reducible assumption)))
                  case qm4 => first | with_reducible assumption | exact if_pos rfl | exact (if_neg (by decide +kernel)).trans (by with_reducible assumption) | exact (if_neg (by decide +kernel)).trans (if_pos rfl) | exact (if_neg (by decide +kernel)).trans ((if_neg (by decide +kernel)).trans (by with_reducible assumption)) | exact (if_neg (by decide +kernel)).trans ((if_neg (by decide +kernel)).trans (if_pos rfl)) | exact (if_neg (by decide +kernel)).trans ((if_neg (by decide +kernel)).trans ((if_neg (by decide +kernel)).trans (by with_reducible assumption)))
                  case qm5 => first | with_reducible assumption | exact if_pos rfl | exact (if_neg (by decide +kernel)).trans (by with_reducible assumption) | exact (if_neg (by decide +kernel)).trans (if_pos rfl) | exact (if_neg (by decide +kernel)).trans ((if_neg (by decide +kernel)).trans (by with_reducible assumption)) | exact (if_neg (by decide +kernel)).trans ((if_neg (by decide +kernel)).trans (if_pos rfl)) | exact (if_neg (by decide +kernel)).trans ((if_neg (by decide +kernel)).trans ((if_neg (by decide +kernel)).trans (by with_reducible assumption)))
                  case qm6 => first | with_reducible assumption | exact if_pos rfl | exact (if_neg (by decide +kernel)).trans (by with_reducible assumption) | exact (if_neg (by decide +kernel)).trans (if_pos rfl) | exact (if_neg (by decide +kernel)).trans ((if_neg (by decide +kernel)).trans (by with_reducible assumption)) | exact (if_neg (by decide +kernel)).trans ((if_neg (by decide +kernel)).trans (if_pos rfl)) | exact (if_neg (by decide +kernel)).trans ((if_neg (by decide +kernel)).trans ((if_neg (by decide +kernel)).trans (by with_reducible assumption)))
                  case qm7 => first | with_reducible assumption | exact if_pos rfl | exact (if_neg (by decide +kernel)).trans (by with_reducible assumption) | exact (if_neg (by decide +kernel)).trans (if_pos rfl) | exact (if_neg (by decide +kernel)).trans ((if_neg (by decide +kernel)).trans (by with_reducible assumption)) | exact (if_neg (by decide +kernel)).trans ((if_neg (by decide +kernel)).trans (if_pos rfl)) | exact (if_neg (by decide +kernel)).trans ((if_neg (by decide +kernel)).trans ((if_neg (by decide +kernel)).trans (by with_reducible assumption)))
                  case qm8 => first | with_reducible assumption | exact if_pos rfl | exact (if_neg (by decide +kernel)).trans (by with_reducible assumption) | exact (if_neg (by decide +kernel)).trans (if_pos rfl) | exact (if_neg (by decide +kernel)).trans ((if_neg (by decide +kernel)).trans (by with_reducible assumption)) | exact (if_neg (by decide +kernel)).trans ((if_neg (by decide +kernel)).trans (if_pos rfl)) | exact (if_neg (by decide +kernel)).trans ((if_neg (by decide +kernel)).trans ((if_neg (by decide +kernel)).trans (by with_reducible assumption)))
                  case qDA => exact DatAll.append (DatAll.append (DA.mono (news' := xt :: tl) (fun p hp => List.mem_cons_of_mem _ hp)) (.one (.int at_ t8))) (.one (hxd.mono (news' := xt :: tl) (fun p hp => by rw [List.mem_singleton.mp hp]; exact List.mem_cons_self)))
                  case qIA => exact hi9
                  case qh0 => (intro p hp; rcases List.mem_cons.mp hp with hp | hp; (rw [hp, hxe]; exact ⟨by k_mem, by k_ne, by k_ne⟩); exact ⟨by k_mem, hT1 p hp, hT2 p hp⟩)
                · rw [← hw, plainGo_on hn h40 hlt hEq hA hB hon, if_pos (by decide)]
                  rfl
              · obtain ⟨tl', hN, hDI⟩ := res_closeP (h₀ := h₀) (L := L) (tl := xt :: tl) (news := news) (by assumption) (by k_mem) (by k_mem) (DatAll.append (DatAll.append (DA.mono (news' := xt :: tl) (fun p hp => List.mem_cons_of_mem _ hp)) (.one (.int at_ t8))) (.one (hxd.mono (news' := xt :: tl) (fun p hp => by rw [List.mem_singleton.mp hp]; exact List.mem_cons_self)))) (by intro p hp; rcases List.mem_cons.mp hp with hp | hp; (rw [hp, hxe]; k_mem); k_mem) (by intro p hp; k_mem)
                refine' ret _ tl' _ _ (by k_asm) hN ?_
                rw [← hw, plainGo_on hn h40 hlt hEq hA hB hon, if_neg (by decide)]
                exact hDI
              · obtain ⟨tl', hN, hDI⟩ := res_closeP (h₀ := h₀) (L := L) (tl := xt :: tl) (news := news) (by assumption) (by k_mem) (by k_mem) (DatAll.append (DatAll.append (DA.mono (news' := xt :: tl) (fun p hp => List.mem_cons_of_mem _ hp)) (.one (.int at_ t8))) (.one (hxd.mono (news' := xt :: tl) (fun p hp => by rw [List.mem_singleton.mp hp]; exact List.mem_cons_self)))) (by intro p hp; rcases List.mem_cons.mp hp with hp | hp; (rw [hp, hxe]; k_mem); k_mem) (by intro p hp; k_mem)
                refine' ret _ tl' _ _ (by k_asm) hN ?_
                rw [← hw, plainGo_on hn h40 hlt hEq hA hB hon, if_neg (by decide)]
                exact hDI
              · obtain ⟨tl', hN, hDI⟩ := res_closeP (h₀ := h₀) (L := L) (tl := xt :: tl) (news := news) (by assumption) (by k_mem) (by k_mem) (DatAll.append (DatAll.append (DA.mono (news' := xt :: tl) (fun p hp => List.mem_cons_of_mem _ hp)) (.one (.int at_ t8))) (.one (hxd.mono (news' := xt :: tl) (fun p hp => by rw [List.mem_singleton.mp hp]; exact List.mem_cons_self)))) (by intro p hp; rcases List.mem_cons.mp hp with hp | hp; (rw [hp, hxe]; k_mem); k_mem) (by intro p hp; k_mem)
                refine' ret _ tl' _ _ (by k_asm) hN ?_
                rw [← hw, plainGo_on hn h40 hlt hEq hA hB hon, if_neg (by decide)]
                exact hDI
    · obtain ⟨tl', hN, hDI⟩ := res_closeP (h₀ := h₀) (L := L) (news := news) (by assumption) (by k_mem) (by k_mem) DA (by intro p hp; k_mem) (by intro p hp; k_mem)
      refine' ret _ tl' _ _ (by k_asm) hN ?_
      rw [← hw, plainGo_long (by assumption)]
      exact hDI
end
end Mine
end
section
open PySem PySem.W PyProof.Rows PySem.Calls
open Mine
local macro_rules | `(tactic| k_all) => `(tactic| first | with_reducible assumption | ((repeat' (first | refine' List.forall_mem_cons.mpr ⟨?_, ?_⟩ | refine' List.forall_mem_append.mpr ⟨?_, ?_⟩)); all_goals first | k_ne | with_reducible assumption | exact ne_of_allLt (by with_reducible assumption) | exact ne_of_ltAll (by with_reducible assumption) | exact ne_of_gtAll (by with_reducible assumption) (by omega) | exact List.forall_mem_nil _))
local macro_rules | `(tactic| walk_at "call builtin:list.append") => `(tactic| (k_here; k_dflt (refine' appendL ?k1 ?k2 ?k3 ?k4 ?_; (case k1 | k2 => k_asm); (case k3 => k_updF); (case k4 => omega); k_whole; intro h' F' N'; (try dsimp only at N'); (try k_sweep))))
local macro_rules | `(tactic| walk_at "call ref") => `(tactic| (k_here; kn_here; k_dflt (refine wpAny_call ?_; refine' kla_code ?k1 ?k2 ?k3 ?k4 ?k5 ?kA ?kF ?kK ?k6 ?k7 ?k8 ?k9 ?kB ?_ ?c2 ?c3 ?c4 ?c5; (case kA => exact rfl); (case kF => exact rfl); (case kK => first | exact rfl | assumption); (case k1 | k2 | k3 | k4 | k5 => k_asm); (case k6 => k_mem); (case k7 => exact codeRec_news (by k_asm) (by k_mem) (by assumption) (by assumption)); (case k8 => k_room); (case k9 => exact rfl); (case c5 => decide); (case kB => exact locs rfl); (case c2 => exact rfl); (case c3 => exact rfl); (case c4 => exact rfl); k_whole; intro g' L' h' FG' F' N' B' X' T'; (try dsimp only); (try k_lift B'); (try k_fold))))
local macro_rules | `(tactic| walk_at "call ref") => `(tactic| (k_here; (with_reducible show wpAny _ _ (call (Value.ref 178) [_] []) _ _ _); refine Hold.out ?_))
local macro_rules | `(tactic| walk_at "call ref") => `(tactic| (k_here; (with_reducible show wpAny _ _ (call (Value.ref 114) [_] []) _ _ _); refine Hold.out ?_))
local macro_rules | `(tactic| walk_at "call ref") => `(tactic| (k_here; (with_reducible show wpAny _ _ (call (Value.ref 75) [_] []) _ _ _); k_dflt (refine' control_ok ?k1 ?k2 ?k3 ?k4 ?k5 ?k6 ?k7 ?k8  ?_; walk_at "p8"; k_whole; intro x' dx' es' n' h' tk' F' N' C' l1 l2; (try k_lt l1); (try k_lt2 l2); (try dsimp only at N'); (try k_sweep))))
local macro_rules | `(tactic| walk_at "call ref") => `(tactic| (k_here; (with_reducible show wpAny _ _ (call (Value.ref 146) _ []) _ _ _); k_dflt (refine' world_ok ?k1 ?k2 ?k3 ?k4 ?k5 ?k6 ?k7 ?k8  ?_; walk_at "p8"; k_whole; intro x' dx' es' n' h' tk' F' N' W' l1 l2; (try k_lt l1); (try k_lt2 l2); (try dsimp only at N'); (try k_sweep))))
local macro_rules | `(tactic| walk_at "call ref") => `(tactic| (k_here; (with_reducible show wpAny _ _ (call (Value.ref 121) [_] []) _ _ _); k_dflt (refine' error_number_ok ?k1 ?k2 ?k3 ?k4 ?k5 ?k6 ?k7 ?k8 ?e0 ?e1 ?e2 ?_; walk_at "p8"; (case e0 | e1 => k_mem); (case e2 => assumption); k_whole; intro t' h' tk' F' N'; (try dsimp only at N'); (try k_sweep))))
section
open PySem PySem.W PyProof.Rows PySem.Calls
namespace Mine
theorem walk_anew_21 : True := by
  w_top off
  trivial
theorem allLt_succ {d : Addr} : ∀ {l : List (Addr × Obj)}, AllLt d l → AllLt (d + 1) l
  | [], _ => trivial
  | _ :: _, h => ⟨Nat.lt_succ_of_lt h.1, allLt_succ h.2⟩
theorem While_invS {prog : Program} {w : World} {A : Around} {E : Value → Shared → Prop} {Q : Flow → Shared → Prop} {s : Shared} {env : Env} {test : Expr} {body : List Stmt} {pos : Pos} (J : Nat → Shared → Prop) {n₀ : Nat} (hJ : J n₀ s)
    (turn : ∀ n s₁, J n s₁ → wpAny (model prog w) A (isTrue test env (eval test env)) (fun b s₂ =>
        if b = true then wpAny (model prog w) A (execs body env) (fun f s₃ => match f with
          | .next | .cont => Hold (∃ n', n' < n ∧ J n' s₃)
          | .brk => Q .next s₃
          | .ret v => Q (.ret v) s₃) E s₂ else Q .next s₂) E s₁)
    (hE : PassesOwn (model prog w) A env E := by passes_own) :
    wpAny (model prog w) A (exec (.While test body [] pos) env) Q E s := by
  refine wpAny_While (codeAny_whileLoop J ?_ n₀ hJ)
  intro n s₁ J₁
  refine wpAny_mono (turn n s₁ J₁) (fun b s₂ h₂ => ?_) hE
  cases b with
  | false =>
    simp only [Bool.false_eq_true, if_false] at h₂ ⊢
    exact wpAny_execs_nil h₂
  | true =>
    simp only [if_true] at h₂ ⊢
    exact wpAny_mono h₂ (fun f s₃ h₃ => by cases f <;> exact h₃) hE
theorem updFrame {d : Addr} {o : Obj} {r : List (Addr × Obj)} (h : ∀ p ∈ r, p.1 ≠ d) : UpdF d o ((d, o) :: r) (fun o' => (d, o') :: r) := .head h
theorem ne_of_allLt_le {d e : Addr} {l : List (Addr × Obj)} (h : AllLt e l) (hde : @LE.le Nat _ e d) : ∀ p ∈ l, p.1 ≠ d := fun p hp q => by
  have h1 : @LT.lt Nat _ p.1 e := lt_of_allLt h p hp
  have h2 : p.1 = d := q
  rw [h2] at h1
  exact absurd (Nat.lt_of_lt_of_le h1 hde) (Nat.lt_irrefl _)
def HoldIf : Prop := True
def HoldIf2 : Prop := True
theorem res_close {h₀ h : Heap} {L D nl : Addr} {l tl news : List (Addr × Obj)} {ps1 ps2 : Array Value} {nvs : List Value} {nc nd : Nat} {notes : List Dat} {msg : Str} {t : Tok}
    (N : News h₀ L h l) (h1 : (166, tabObj ps1) ∈ l) (h2 : (159, tabObj ps2) ∈ l) (hD : (D, ({ cls := .type "tuple", data := .seq [Value.ref nl, .str msg t].toArray nd } : Obj)) ∈ l) (hn : (nl, listOf nvs.toArray nc) ∈ l) (DA : DatAll tl nvs notes) (ht : ∀ p ∈ tl, p ∈ l) (hw : ∀ p ∈ news, p ∈ l) :
    ∃ tl', News h₀ L h ((166, tabObj ps1) :: (159, tabObj ps2) :: (tl' ++ news)) ∧ DatIn tl' (.ref D) (resD (notes, msg)) := by
  refine ⟨(D, { cls := .type "tuple", data := .seq [Value.ref nl, .str msg t].toArray nd }) :: (nl, listOf nvs.toArray nc) :: tl, fun q hq => N q ?_, ?_⟩
  · simp only [List.mem_cons, List.mem_append] at hq
    rcases hq with rfl | rfl | (rfl | rfl | hq) | hq
    all_goals first | assumption | exact ht _ hq | exact hw _ hq
  · exact .tuple (.head _) (.cons (.list (.tail _ (.head _)) (DA.mono fun p hp => .tail _ (.tail _ hp))) (.cons (.str _ _) .nil))
theorem walkGo_long {rows : List (Int × Int)} {hf way goal : Int} {n : Nat} {notes : List Dat} {c : List (Int × Int)} {at_ : Int} {on : Bool} (h : ¬ (notes.length : Int) < 40) : walkGo rows hf way goal n notes c at_ on = (notes, Str.ofString "long") := by
  cases n with
  | zero => rfl
  | succ n => unfold walkGo; rw [if_neg (by omega)]
theorem walkGo_end {rows : List (Int × Int)} {hf way goal : Int} {n : Nat} {notes : List Dat} {c : List (Int × Int)} {at_ : Int} {on : Bool} (hn : 40 ≤ n + notes.length) (h : (notes.length : Int) < 40) (he : (rows.length : Int) ≤ at_) : walkGo rows hf way goal n notes c at_ on = (notes, Str.ofString "end") := by
  cases n with
  | zero => omega
  | succ n => unfold walkGo; rw [if_pos (by omega), if_pos he]
theorem rows_item {prog : Program} {w : World} {A : Around} {E : Value → Shared → Prop} {s : Shared} {h₀ : Heap} {L l : Addr} {value slice : PySem.Expr} {news L9 : List (Addr × Obj)} {us : List Value} {rows : List (Int × Int)} {n : Nat} {k : Int} {u : Tok} {Q : Value → Shared → Prop}
    (N : News h₀ L s.heap news) (hm : (l, listOf us.toArray n) ∈ news) (hd : DatAll L9 us (rows.map rowD))
    (h0 : 0 ≤ k) (h1 : k < (rows.length : Int)) (hl : rows.length ≤ 6) (h : ∀ ra code t many t' n', (ra, ({ cls := .type "tuple", data := .seq #[.int code t, .int many t'] n' } : Obj)) ∈ L9 → rows.getD k.toNat (0, 0) = (code, many) → (code, many) ∈ rows → Q (.ref ra) s)
    (hs : subscripted slice false (.ref l) (.int k u) = operate [.ref l, .int k u] (getItem (.ref l) (.int k u)) := by with_unfolding_all rfl) :
    wpAny (model prog w) A (subscriptTail value slice (.ref l) (.int k u)) Q E s := by
  refine kd_item N hm hd h0 (by rw [List.length_map]; exact h1) (by omega) (fun v d hv _ hD => ?_) hs
  have hk : k.toNat < rows.length := by omega
  rw [List.getElem?_map, List.getElem?_eq_getElem hk] at hv
  have hv := Option.some.inj hv
  subst hv
  unfold rowD at hD
  cases hD with
  | tuple hmem hall =>
    cases hall with
    | cons h1 hall =>
      cases hall with
      | cons h2 hall =>
        cases hall
        cases h1
        cases h2
        refine h _ _ _ _ _ _ hmem ?_ (List.getElem_mem hk)
        rw [List.getD_eq_getElem?_getD, List.getElem?_eq_getElem hk]
        rfl
theorem rows_len {prog : Program} {w : World} {A : Around} {E : Value → Shared → Prop} {s : Shared} {h₀ : Heap} {L l : Addr} {news L9 : List (Addr × Obj)} {us : List Value} {rows : List (Int × Int)} {n : Nat} {Q : Value → Shared → Prop}
    (N : News h₀ L s.heap news) (hm : (l, listOf us.toArray n) ∈ news) (hd : DatAll L9 us (rows.map rowD)) (hl : rows.length ≤ 6)
    (h : Q (.int (rows.length : Int) (s.toks + 1)) { s with toks := s.toks + 1 + 1 }) : wpAny (model prog w) A (call (.builtin "len") [.ref l]) Q E s :=
  kd_len N hm hd (by rw [List.length_map]; omega) (by rw [List.length_map]; exact h)
/-- the table of the walk's lambdas -/
def TabOk (ps : Array Value) (tl : List (Addr × Obj)) (q : Str) : Prop := ps = #[] ∨ ∃ c' oc vs t, ps = #[rawInt 108, rawInt 25, .ref c'] ∧ (c', oc) ∈ tl ∧ oc.data = .fields vs ∧ vs[1]? = some (.str q t)
/-- the state of the walk at the head of its loop -/
def WSt (w : World) (p : Program) (loose : List Str) (mean : ExcName → Option Value) (mg mb : Str → Option Value) (A₀ : Around) (base g0 : Heap) (outer : List Env) (L : Addr) (sb : Shared) (news : List (Addr × Obj)) (q : Str)
    (r cw cc wd wo cd co nl td : Addr) (cwo : Obj) (hf way goal : Int) (t1 t2 t3 : Tok) (notes : List Dat) (c : List (Int × Int)) (at_ : Int) (on : Bool) (xm : (Str → Option Value) → Prop) (s₁ : Shared) : Prop :=
  ∃ g h tk m tl ew nw ev nv el ec fa oc vo nvs nc tdo kvs ps t8,
    (s₁ = { sb with heap := h, toks := tk } ∧ KtsTurn (outer.filterMap (·.frame)) g0 g ∧ Fr g L h m ∧ Below A₀ base outer g ∧ (Mine.hd.heap_1 w.params).In g ∧ Top p loose mean mg mb g ∧ KtsDicts (outer.filterMap (·.frame)) g) ∧
    News g L h ((wd, dictOf ew nw) :: (cd, dictOf ev nv) :: (166, tabObj #[]) :: (159, tabObj ps) :: (cc, oc) :: (nl, listOf nvs.toArray nc) :: (td, tdo) :: (cw, cwo) :: (wo, instObj 146 wd) :: (co, instObj 75 cd) :: (tl ++ news)) ∧
    (m (Str.ofString "rows") = some (.ref r) ∧ m (Str.ofString "handled_from") = some (.int hf t1) ∧ m (Str.ofString "way") = some (.int way t2) ∧ m (Str.ofString "goal") = some (.int goal t3) ∧
      m (Str.ofString "control") = some (.ref co) ∧ m (Str.ofString "notes") = some (.ref nl) ∧ m (Str.ofString "tries") = some (.ref td) ∧ m (Str.ofString "at") = some (.int at_ t8) ∧ xm m) ∧
    (WIs ew (if on then 900 else 0) false el ec ∧ CIs ev fa ∧ oc.data = .cell vo ∧ tdo.IsDictOf (intKind PP w) kvs ∧ PyProof.V.FlatPairs PyData.int kvs (kdfD c) ∧ DatAll tl nvs notes ∧ (∀ p ∈ tl, @LT.lt Nat _ td p.1) ∧ TabOk ps tl q)
theorem WSt.close {w : World} {p : Program} {loose : List Str} {mean : ExcName → Option Value} {mg mb : Str → Option Value} {A₀ : Around} {base g0 : Heap} {outer : List Env} {L : Addr} {sb : Shared} {news : List (Addr × Obj)} {q : Str}
    {r cw cc wd wo cd co nl td : Addr} {cwo : Obj} {hf way goal : Int} {t1 t2 t3 : Tok} {notes : List Dat} {c : List (Int × Int)} {at_ : Int} {on : Bool} {xm : (Str → Option Value) → Prop}
    {g h : Heap} {tk t8 : Tok} {m : Str → Option Value} {l tl0 tl1 : List (Addr × Obj)} {ew ev : List DictEntry} {nw nv nc : Nat} {el fa : Int} {ec : Str} {oc tdo : Obj} {vo : Option Value} {nvs : List Value} {kvs : List (Int × Value)} {ps : Array Value}
    (T : KtsTurn (outer.filterMap (·.frame)) g0 g) (F : Fr g L h m) (N : News g L h l) (B : Below A₀ base outer g) (X : (Mine.hd.heap_1 w.params).In g) (P : Top p loose mean mg mb g) (D : KtsDicts (outer.filterMap (·.frame)) g)
    (hwd : (wd, dictOf ew nw) ∈ l) (hcd : (cd, dictOf ev nv) ∈ l) (h166 : (166, tabObj #[]) ∈ l) (h159 : (159, tabObj ps) ∈ l) (hcc : (cc, oc) ∈ l) (hnl : (nl, listOf nvs.toArray nc) ∈ l) (htd : (td, tdo) ∈ l) (hcw : (cw, cwo) ∈ l) (hwo : (wo, instObj 146 wd) ∈ l) (hco : (co, instObj 75 cd) ∈ l) (hnews : ∀ p ∈ news, p ∈ l)
    (m1 : m (Str.ofString "rows") = some (.ref r)) (m2 : m (Str.ofString "handled_from") = some (.int hf t1)) (m3 : m (Str.ofString "way") = some (.int way t2)) (m4 : m (Str.ofString "goal") = some (.int goal t3))
    (m5 : m (Str.ofString "control") = some (.ref co)) (m6 : m (Str.ofString "notes") = some (.ref nl)) (m7 : m (Str.ofString "tries") = some (.ref td)) (m8 : m (Str.ofString "at") = some (.int at_ t8)) (hx : xm m)
    (W : WIs ew (if on then 900 else 0) false el ec) (C : CIs ev fa) (dc : oc.data = .cell vo) (hi : tdo.IsDictOf (intKind PP w) kvs) (hfl : PyProof.V.FlatPairs PyData.int kvs (kdfD c))
    (DA : DatAll tl0 nvs notes) (h0 : ∀ p ∈ tl0, p ∈ l ∧ @LT.lt Nat _ td p.1) (TO : TabOk ps tl1 q) (h1 : ∀ p ∈ tl1, p ∈ l ∧ @LT.lt Nat _ td p.1) :
    WSt w p loose mean mg mb A₀ base g0 outer L sb news q r cw cc wd wo cd co nl td cwo hf way goal t1 t2 t3 notes c at_ on xm { sb with heap := h, toks := tk } := by
  have hin : ∀ tl' : List (Addr × Obj), (∀ p ∈ tl', p ∈ l ∧ @LT.lt Nat _ td p.1) → ∀ p ∈ tl', p ∈ l.filter (fun p => decide (@LT.lt Nat _ td p.1)) := fun tl' H p hp => List.mem_filter.mpr ⟨(H p hp).1, decide_eq_true (H p hp).2⟩
  refine ⟨g, h, tk, m, l.filter (fun p => decide (@LT.lt Nat _ td p.1)), ew, nw, ev, nv, el, ec, fa, oc, vo, nvs, nc, tdo, kvs, ps, t8, ⟨rfl, T, F, B, X, P, D⟩, ?_, ⟨m1, m2, m3, m4, m5, m6, m7, m8, hx⟩, W, C, dc, hi, hfl, DA.mono (hin _ h0), fun p hp => of_decide_eq_true (List.mem_filter.mp hp).2, ?_⟩
  · intro q hq
    refine N q ?_
    simp only [List.mem_cons, List.mem_append] at hq
    rcases hq with rfl | rfl | rfl | rfl | rfl | rfl | rfl | rfl | rfl | rfl | hq | hq
    all_goals first | assumption | exact (List.mem_filter.mp hq).1 | exact hnews _ hq
  · rcases TO with rfl | ⟨c', oc', vs, t, rfl, hm, h2, h3⟩
    · exact .inl rfl
    · exact .inr ⟨c', oc', vs, t, rfl, hin _ h1 _ hm, h2, h3⟩
section
local macro_rules | `(tactic| walk_at "pX") => `(tactic| ((case XB | TB | D => assumption)))
local macro_rules | `(tactic| k_enter) => `(tactic| (refine' code_defCT ?k1 ?k2 ?k3 ?k4 ?k5 ?XB ?TB ?D ?kA ?kF ?kK ?k6 ?k7 ?k8 ?k9 ?kB ?kD ?_ ?c2 ?c3 ?c4; walk_at "pE"; walk_at "pX"; (case kB => exact rfl); (case kD => decide +kernel); (case c2 | c3 | c4 => exact rfl); k_whole; intro g' L' h' tk' cells' FG' F' N' Y' B' X' T' D' l1; (try k_lt l1); (try (have la := allLt_succ l1; have lb := allLt_succ la)); k_cells Y'; (try simp only [List.cons_append, List.nil_append] at N'); (try dsimp only); (try k_lift B'); (try k_fold)))
local macro_rules | `(tactic| k_enter) => `(tactic| first | (refine' code_defT ?k1 ?k2 ?k3 ?k4 ?k5 ?XB ?TB ?D ?kA ?kF ?kK ?k6 ?k7 ?k8 ?k9 ?kB ?_ ?c2 ?c3 ?c4 ?c5; walk_at "pE"; walk_at "pX"; (case c5 => decide); (case kB => exact locs rfl); (case c2 | c3 | c4 => exact rfl); k_whole; intro g' L' h' FG' F' N' B' X' T' D'; (try dsimp only); (try k_lift B'); (try k_fold)) | fail)
local macro_rules | `(tactic| k_inst) => `(tactic| exact instOf (by k_asm) (by k_mem) (by k_mem))
local macro_rules | `(tactic| walk_at "call ref") => `(tactic| (k_here; (with_reducible show wpAny _ _ (call (Value.ref 93) [_, _] []) _ _ _); k_dflt (refine' set_handler_okU ?k1 ?k2 ?k3 ?k4 ?k5 ?k6 ?k7 ?k8 ?e0 ?e1 ?e2 ?e3 ?_; walk_at "p8"; (case e1 => k_mem); (case e2 => assumption); (case e0 => k_updF); (case e3 => first | assumption | omega | decide); k_whole; intro es' n' h' tk' F' N' W'; (try dsimp only at N'); (try k_sweep))))
local macro_rules | `(tactic| walk_at "subscriptTail") => `(tactic| (k_here; (with_reducible show wpAny _ _ (subscriptTail _ _ (Value.ref _) (Value.int _ _)) _ _ _); k_dflt (refine' rows_item ?k1 ?k2 ?k3 ?k4 ?k5 ?k6 ?_; (case k1 => k_asm); (case k2 => k_mem); (case k3 => assumption); (case k4 => omega); (case k5 => omega); (case k6 => assumption); k_whole; intro ra' code' t' many' t2' n' hra' hrow' hin')))
local macro_rules | `(tactic| walk_at "call builtin:len") => `(tactic| (k_here; (with_reducible show wpAny _ _ (call (Value.builtin "len") [Value.ref _]) _ _ _); k_dflt (refine' rows_len ?k1 ?k2 ?k3 ?k4 ?_; (case k1 => k_asm); (case k2 => k_mem); (case k3 => assumption); (case k4 => assumption); k_whole)))
local macro_rules | `(tactic| walk_at "call ref") => `(tactic| (k_here; (with_reducible show wpAny _ _ (call (Value.ref 100) [_, _, _, _, _] []) _ _ _); k_dflt (refine' caught_no (hd := 0) ?k1 ?k2 ?k3 ?k4 ?k5 ?k6 ?k7 ?k8 ?e0 ?e1 ?e2 ?e3 ?e4 ?e5 ?_; walk_at "p8"; (case e0 | e1 | e2 | e3 => k_mem); (case e4 | e5 => assumption); k_whole; intro t' h' tk' F' N'; (try dsimp only at N'); (try k_sweep))))
local macro_rules | `(tactic| walk_at "call ref") => `(tactic| (k_here; (with_reducible show wpAny _ _ (call (Value.ref 100) [_, _, _, _, _] []) _ _ _); k_dflt (refine' caught_yes ?k1 ?k2 ?k3 ?k4 ?k5 ?k6 ?k7 ?k8 ?e0 ?e1 ?e2 ?e3 ?e4 ?e5 ?e6 ?e7 ?_; walk_at "p8"; (case e0 | e1 => k_mem); (case e4 | e6 | e7 => assumption); (case e2 | e3 => k_all); (case e5 => decide); k_whole; intro es' n' ec' nc' t' h' tk' F' N' W' C'; (obtain ⟨⟨t1', w1'⟩, w2', ⟨t3', w3'⟩, ⟨t4', w4'⟩, w5'⟩ := id W'); (try dsimp only at N'); (try k_sweep))))
local macro_rules | `(tactic| walk_at "exec While") => `(tactic| (k_here; refine Hold.out ?_))
local macro_rules | `(tactic| walk_at "exec Assign") => `(tactic| (k_here; (with_reducible rename HoldIf2 => hm); refine Hold.out ?_))
local macro_rules | `(tactic| walk_at "exec If") => `(tactic| (k_here; (with_reducible rename HoldIf => hm); refine Hold.out ?_))
local macro_rules | `(tactic| walk_at "call ref") => `(tactic| (k_here; (with_reducible show wpAny _ _ (call (Value.ref 171) [_, _, _, _] []) _ _ _); refine Hold.out ?_))
local macro_rules | `(tactic| walk_at "call ref") => `(tactic| (k_here; (with_reducible show wpAny _ _ (call (Value.ref 128) [_] []) _ _ _); refine Hold.out ?_))
set_option maxHeartbeats 8000000 in
theorem walk_ok {w : World} {p : Program} {loose : List Str} {mean : ExcName → Option Value} {mg mb : Str → Option Value}
    {dp un : Nat} {gd : Option (List Code)} {cn : Str} {cs : Scope} {a : Addr} {ccd : Value} {cl : List (Str × Addr)} {outer : List Env} {A₀ : Around} {base h₀ : Heap} {L : Addr} {m : Str → Option Value} {s : Shared}
    {Q E : Value → Shared → Prop} {news : List (Addr × Obj)} {r : Addr} {rvs : List Value} {rn : Nat} {rows : List (Int × Int)} {hf way goal : Int} {t1 t2 t3 : Tok}
    (B : Below A₀ base outer h₀) (F : Fr h₀ L s.heap m) (X : (Mine.hd.heap_1 w.params).In h₀)
    (N : News h₀ L s.heap ((166, tabObj #[]) :: (159, tabObj #[]) :: news)) (T : Top p loose mean mg mb h₀) (XB : (Mine.hd.heap_1 w.params).In base) (TB : Top p loose mean mg mb base) (D : KtsDicts (outer.filterMap (·.frame)) h₀) (hk : cs.kind = .function)
    (hdp : dp + 40 < recursionLimit) (hun : un + 400 < cLine) (hrl : rows.length ≤ 6) (hg0 : 0 ≤ goal) (hg1 : goal ≤ 6) (hw0 : 0 ≤ way) (hw1 : way ≤ 5) (hrow : ∀ x ∈ rows, 0 ≤ x.1 ∧ x.1 ≤ 40)
    (ap1 : ∀ p ∈ news, p.1 ≠ 166) (ap2 : ∀ p ∈ news, p.1 ≠ 159) (hr : (r, listOf rvs.toArray rn) ∈ news) (hD : DatAll news rvs (rows.map rowD))
    (CB1 : CodeHd base 170 166) (CB2 : CodeHd base 163 159)
    (ret : ∀ h₀' v tl ps1 ps2 h' tk', KtsTurn (outer.filterMap (·.frame)) h₀ h₀' → Fr h₀' L h' m → News h₀' L h' ((166, tabObj ps1) :: (159, tabObj ps2) :: (tl ++ news)) → Below A₀ base outer h₀' → (Mine.hd.heap_1 w.params).In h₀' → Top p loose mean mg mb h₀' → KtsDicts (outer.filterMap (·.frame)) h₀' → DatIn tl v (resD (walkGo rows hf way goal 41 [] [] 0 false)) → Q v { s with heap := h', toks := tk' }) :
    wpAny (model PP w) (ktrTop dp un gd cn cs L a ccd cl outer) (call (.ref 164) [.ref r, .int hf t1, .int way t2, .int goal t3] [])
      Q E s := by
  refine wpAny_call ?_
  k_dflt k_enter
  k_steps
  refine Hold.mk ?_
  rename_i g0 L0 h0x tk0 FGx Bx Xx Tx Dx o166 o159 lL lL1 lL2 oc1 oc2 dc1 dc2 wo wd ew nw h1 tk1 W1 wa1 wa2 wa3 wa4 lwd lwo co cd ev nv h2 tk2 C1 b1 b2 b3 b4 b5 b6 lcd lco nl h3 c1 c2 c3 c4 c5 c6 c7 c8 lnl td h4 tdo lotd hs4 fs4 hi4 fi4 e1 e2 e3 e4 e5 e6 e7 e8 e9 ltd D5 h5 f1 f2 f3 f4 f5 f6 f7 f8 f9 f10 lD5 h6 h7 cwo dcw h8 h9 h10 h11 F1 N1
  obtain ⟨St, hSt⟩ : ∃ St : List Dat → List (Int × Int) → Int → Bool → ((Str → Option Value) → Prop) → Shared → Prop, St = WSt w p loose mean mg mb (ktrTop dp un gd cn cs L a ccd cl outer) base g0 (envX cn cs L a ccd cl :: outer) L0 s news ((Str.ofString "_law_walk" ++ ".<locals>.") ++ "<lambda>") r (L0 + 1 + 1) (L0 + 1) wd wo cd co nl td cwo hf way goal t1 t2 t3 := ⟨_, rfl⟩
  refine' While_invS (fun n s₁ => ∃ notes c at_ on, St notes c at_ on (fun _ => True) s₁ ∧ 40 ≤ n + notes.length ∧ c.length + n ≤ 41 ∧ 0 ≤ at_ ∧ at_ ≤ 6 ∧ notes.length ≤ 41 ∧ walkGo rows hf way goal n notes c at_ on = walkGo rows hf way goal 41 [] [] 0 false) (n₀ := 41) ?hJ ?turn ?hE
  case hE => exact PassesOwn.leaving
  case hJ =>
    refine ⟨[], [], 0, false, ?_, by decide, by decide, by decide, by decide, by decide, rfl⟩
    rw [hSt]
    refine' WSt.close (nvs := []) (tl0 := []) (tl1 := []) ?qT ?qF ?qN ?qB ?qX ?qP ?qD ?qhwd ?qhcd ?qh166 ?qh159 ?qhcc ?qhnl ?qhtd ?qhcw ?qhwo ?qhco ?qhnews ?qm1 ?qm2 ?qm3 ?qm4 ?qm5 ?qm6 ?qm7 ?qm8 ?qhx ?qW ?qC ?qdc ?qhi ?qhfl ?qDA ?qh0 ?qTO ?qh1
    case qT => exact KtsTurn.refl
    case qF => k_asm
    case qN => k_asm
    case qB => assumption
    case qX => assumption
    case qP => assumption
    case qD => assumption
    case qhwd => k_mem
    case qhcd => k_mem
    case qh166 => k_mem
    case qh159 => k_mem
    case qhcc => k_mem
    case qhnl => k_mem
    case qhtd => k_mem
    case qhcw => k_mem
    case qhwo => k_mem
    case qhco => k_mem
    case qhnews => (intro p hp; k_mem)
    case qm1 => exact rfl
    case qm2 => exact rfl
    case qm3 => exact rfl
    case qm4 => exact rfl
    case qm5 => exact rfl
    case qm6 => exact rfl
    case qm7 => exact rfl
    case qm8 => exact rfl
    case qhx => trivial
    case qW => exact W1
    case qC => exact C1
    case qdc => assumption
    case qhi => exact hi4
    case qhfl => exact fi4
    case qDA => exact DatAll.nil
    case qh0 => exact fun _ h => absurd h List.not_mem_nil
    case qTO => exact Or.inl rfl
    case qh1 => exact fun _ h => absurd h List.not_mem_nil
  case turn =>
    clear F1 N1 Bx Xx Tx Dx W1 C1 hs4 fs4 hi4 fi4 B F X N T D
    rintro n s₁ ⟨notes, c, at_, on, H, hn, hc, ha0, ha1, hnl, hw⟩
    rw [hSt] at H
    obtain ⟨g, h, tk, m, tl, ew, nw, ev, nv, el, ec, fa, oc, vo, nvs, nc, tdo, kvs, ps, t8, ⟨rfl, Tg, F, B, X, P, D⟩, N, ⟨m1, m2, m3, m4, m5, m6, m7, m8, hx⟩, W, C, dcc, hi, hfl, DA, hT, TO⟩ := H
    have hmark : HoldIf := trivial
    k_steps
    · refine Hold.mk ?_
      rename HoldIf => hz
      refine' wpAny_mono (Q := fun f s' => Hold (f = .next ∧ St notes c at_ (on || decide (at_ = hf)) (fun _ => True) s')) ?seg ?rest (fun _ _ h => h)
      case seg =>
        clear hz
        k_steps
        · refine Hold.mk ⟨rfl, ?_⟩
          have e : (on || decide (at_ = hf)) = true := by rw [decide_eq_true (by assumption)]; cases on <;> rfl
          rw [hSt, e]
          refine' WSt.close ?qT ?qF ?qN ?qB ?qX ?qP ?qD ?qhwd ?qhcd ?qh166 ?qh159 ?qhcc ?qhnl ?qhtd ?qhcw ?qhwo ?qhco ?qhnews ?qm1 ?qm2 ?qm3 ?qm4 ?qm5 ?qm6 ?qm7 ?qm8 ?qhx ?qW ?qC ?qdc ?qhi ?qhfl ?qDA ?qh0 ?qTO ?qh1
          case qT => assumption
          case qF => k_asm
          case qN => k_asm
          case qB => assumption
          case qX => assumption
          case qP => assumption
          case qD => assumption
          case qhwd => k_mem
          case qhcd => k_mem
          case qh166 => k_mem
          case qh159 => k_mem
          case qhcc => k_mem
          case qhnl => k_mem
          case qhtd => k_mem
          case qhcw => k_mem
          case qhwo => k_mem
          case qhco => k_mem
          case qhnews => (intro p hp; k_mem)
          case qm1 => first | with_reducible assumption | exact if_pos rfl | exact (if_neg (by decide +kernel)).trans (by with_reducible assumption) | exact (if_neg (by decide +kernel)).trans (if_pos rfl) | exact (if_neg (by decide +kernel)).trans ((if_neg (by decide +kernel)).trans (by with_reducible assumption)) | exact (if_neg (by decide +kernel)).trans ((if_neg (by decide +kernel)).trans (if_pos rfl)) | exact (if_neg (by decide +kernel)).trans ((if_neg (by decide +kernel)).trans ((if_neg (by decide +kernel)).trans (by with_reducible assumption)))
          case qm2 => first | with_reducible assumption | exact if_pos rfl | exact (if_neg (by decide +kernel)).trans (by with_reducible assumption) | exact (if_neg (by decide +kernel)).trans (if_pos rfl) | exact (if_neg (by decide +kernel)).trans ((if_neg (by decide +kernel)).trans (by with_reducible assumption)) | exact (if_neg (by decide +kernel)).trans ((if_neg (by decide +kernel)).trans (if_pos rfl)) | exact (if_neg (by decide +kernel)).trans ((if_neg (by decide +kernel)).trans ((if_neg (by decide +kernel)).trans (by with_reducible assumption)))
          case qm3 => first | with_reducible assumption | exact if_pos rfl | exact (if_neg (by decide +kernel)).trans (by with_reducible assumption) | exact (if_neg (by decide +kernel)).trans (if_pos rfl) | exact (if_neg (by decide +kernel)).trans ((if_neg (by decide +kernel)).trans (by with_reducible assumption)) | exact (if_neg (by decide +kernel)).trans ((if_neg (by decide +kernel)).trans (if_pos rfl)) | exact (if_neg (by decide +kernel)).trans ((if_neg (by decide +kernel)).trans ((if_neg (by decide +kernel)).trans (by with_reducible assumption)))
          case qm4 => first | with_reducible assumption | exact if_pos rfl | exact (if_neg (by decide +kernel)).trans (by with_reducible assumption) | exact (if_neg (by decide +kernel)).trans (if_pos rfl) | exact (if_neg (by decide +kernel)).trans ((if_neg (by decide +kernel)).trans (by with_reducible assumption)) | exact (if_neg (by decide +kernel)).trans ((if_neg (by decide +kernel)).trans (if_pos rfl)) | exact (if_neg (by decide +kernel)).trans ((if_neg (by decide +kernel)).trans ((if_neg (by decide +kernel)).trans (by with_reducible assumption)))
          case qm5 => first | with_reducible assumption | exact if_pos rfl | exact (if_neg (by decide +kernel)).trans (by with_reducible assumption) | exact (if_neg (by decide +kernel)).trans (if_pos rfl) | exact (if_neg (by decide +kernel)).trans ((if_neg (by decide +kernel)).trans (by with_reducible assumption)) | exact (if_neg (by decide +kernel)).trans ((if_neg (by decide +kernel)).trans (if_pos rfl)) | exact (if_neg (by decide +kernel)).trans ((if_neg (by decide +kernel)).trans ((if_neg (by decide +kernel)).trans (by with_reducible assumption)))
          case qm6 => first | with_reducible assumption | exact if_pos rfl | exact (if_neg (by decide +kernel)).trans (by with_reducible assumption) | exact (if_neg (by decide +kernel)).trans (if_pos rfl) | exact (if_neg (by decide +kernel)).trans ((if_neg (by decide +kernel)).trans (by with_reducible assumption)) | exact (if_neg (by decide +kernel)).trans ((if_neg (by decide +kernel)).trans (if_pos rfl)) | exact (if_neg (by decide +kernel)).trans ((if_neg (by decide +kernel)).trans ((if_neg (by decide +kernel)).trans (by with_reducible assumption)))
          case qm7 => first | with_reducible assumption | exact if_pos rfl | exact (if_neg (by decide +kernel)).trans (by with_reducible assumption) | exact (if_neg (by decide +kernel)).trans (if_pos rfl) | exact (if_neg (by decide +kernel)).trans ((if_neg (by decide +kernel)).trans (by with_reducible assumption)) | exact (if_neg (by decide +kernel)).trans ((if_neg (by decide +kernel)).trans (if_pos rfl)) | exact (if_neg (by decide +kernel)).trans ((if_neg (by decide +kernel)).trans ((if_neg (by decide +kernel)).trans (by with_reducible assumption)))
          case qm8 => first | with_reducible assumption | exact if_pos rfl | exact (if_neg (by decide +kernel)).trans (by with_reducible assumption) | exact (if_neg (by decide +kernel)).trans (if_pos rfl) | exact (if_neg (by decide +kernel)).trans ((if_neg (by decide +kernel)).trans (by with_reducible assumption)) | exact (if_neg (by decide +kernel)).trans ((if_neg (by decide +kernel)).trans (if_pos rfl)) | exact (if_neg (by decide +kernel)).trans ((if_neg (by decide +kernel)).trans ((if_neg (by decide +kernel)).trans (by with_reducible assumption)))
          case qhx => trivial
          case qW => assumption
          case qC => assumption
          case qdc => assumption
          case qhi => assumption
          case qhfl => assumption
          case qDA => assumption
          case qh0 => (intro p hp; exact ⟨by k_mem, hT p hp⟩)
          case qTO => assumption
          case qh1 => (intro p hp; exact ⟨by k_mem, hT p hp⟩)
        · refine Hold.mk ⟨rfl, ?_⟩
          have e : (on || decide (at_ = hf)) = on := by rw [decide_eq_false (by assumption)]; cases on <;> rfl
          rw [hSt, e]
          refine' WSt.close ?qT ?qF ?qN ?qB ?qX ?qP ?qD ?qhwd ?qhcd ?qh166 ?qh159 ?qhcc ?qhnl ?qhtd ?qhcw ?qhwo ?qhco ?qhnews ?qm1 ?qm2 ?qm3 ?qm4 ?qm5 ?qm6 ?qm7 ?qm8 ?qhx ?qW ?qC ?qdc ?qhi ?qhfl ?qDA ?qh0 ?qTO ?qh1
          case qT => assumption
          case qF => k_asm
          case qN => k_asm
          case qB => assumption
          case qX => assumption
          case qP => assumption
          case qD => assumption
          case qhwd => k_mem
          case qhcd => k_mem
          case qh166 => k_mem
          case qh159 => k_mem
          case qhcc => k_mem
          case qhnl => k_mem
          case qhtd => k_mem
          case qhcw => k_mem
          case qhwo => k_mem
          case qhco => k_mem
          case qhnews => (intro p hp; k_mem)
          case qm1 => first | with_reducible assumption | exact if_pos rfl | exact (if_neg (by decide +kernel)).trans (by with_reducible assumption) | exact (if_neg (by decide +kernel)).trans (if_pos rfl) | exact (if_neg (by decide +kernel)).trans ((if_neg (by decide +kernel)).trans (by with_reducible assumption)) | exact (if_neg (by decide +kernel)).trans ((if_neg (by decide +kernel)).trans (if_pos rfl)) | exact (if_neg (by decide +kernel)).trans ((if_neg (by decide +kernel)).trans ((if_neg (by decide +kernel)).trans (by with_reducible assumption)))
          case qm2 => first | with_reducible assumption | exact if_pos rfl | exact (if_neg (by decide +kernel)).trans (by with_reducible assumption) | exact (if_neg (by decide +kernel)).trans (if_pos rfl) | exact (if_neg (by decide +kernel)).trans ((if_neg (by decide +kernel)).trans (by with_reducible assumption)) | exact (if_neg (by decide +kernel)).trans ((if_neg (by decide +kernel)).trans (if_pos rfl)) | exact (if_neg (by decide +kernel)).trans ((if_neg (by decide +kernel)).trans ((if_neg (by decide +kernel)).trans (by with_reducible assumption)))
          case qm3 => first | with_reducible assumption | exact if_pos rfl | exact (if_neg (by decide +kernel)).trans (by with_reducible assumption) | exact (if_neg (by decide +kernel)).trans (if_pos rfl) | exact (if_neg (by decide +kernel)).trans ((if_neg (by decide +kernel)).trans (by with_reducible assumption)) | exact (if_neg (by decide +kernel)).trans ((if_neg (by decide +kernel)).trans (if_pos rfl)) | exact (if_neg (by decide +kernel)).trans ((if_neg (by decide +kernel)).trans ((if_neg (by decide +kernel)).trans (by with_reducible assumption)))
          case qm4 => first | with_reducible assumption | exact if_pos rfl | exact (if_neg (by decide +kernel)).trans (by with_reducible assumption) | exact (if_neg (by decide +kernel)).trans (if_pos rfl) | exact (if_neg (by decide +kernel)).trans ((if_neg (by decide +kernel)).trans (by with_reducible assumption)) | exact (if_neg (by decide +kernel)).trans ((if_neg (by decide +kernel)).trans (if_pos rfl)) | exact (if_neg (by decide +kernel)).trans ((if_neg (by decide +kernel)).trans ((if_neg (by decide +kernel)).trans (by with_reducible assumption)))
          case qm5 => first | with_reducible assumption | exact if_pos rfl | exact (if_neg (by decide +kernel)).trans (by with_reducible assumption) | exact (if_neg (by decide +kernel)).trans (if_pos rfl) | exact (if_neg (by decide +kernel)).trans ((if_neg (by decide +kernel)).trans (by with_reducible assumption)) | exact (if_neg (by decide +kernel)).trans ((if_neg (by decide +kernel)).trans (if_pos rfl)) | exact (if_neg (by decide +kernel)).trans ((if_neg (by decide +kernel)).trans ((if_neg (by decide +kernel)).trans (by with_reducible assumption)))
          case qm6 => first | with_reducible assumption | exact if_pos rfl | exact (if_neg (by decide +kernel)).trans (by with_reducible assumption) | exact (if_neg (by decide +kernel)).trans (if_pos rfl) | exact (if_neg (by decide +kernel)).trans ((if_neg (by decide +kernel)).trans (by with_reducible assumption)) | exact (if_neg (by decide +kernel)).trans ((if_neg (by decide +kernel)).trans (if_pos rfl)) | exact (if_neg (by decide +kernel)).trans ((if_neg (by decide +kernel)).trans ((if_neg (by decide +kernel)).trans (by with_reducible assumption)))
          case qm7 => first | with_reducible assumption | exact if_pos rfl | exact (if_neg (by decide +kernel)).trans (by with_reducible assumption) | exact (if_neg (by decide +kernel)).trans (if_pos rfl) | exact (if_neg (by decide +kernel)).trans ((if_neg (by decide +kernel)).trans (by with_reducible assumption)) | exact (if_neg (by decide +kernel)).trans ((if_neg (by decide +kernel)).trans (if_pos rfl)) | exact (if_neg (by decide +kernel)).trans ((if_neg (by decide +kernel)).trans ((if_neg (by decide +kernel)).trans (by with_reducible assumption)))
          case qm8 => first | with_reducible assumption | exact if_pos rfl | exact (if_neg (by decide +kernel)).trans (by with_reducible assumption) | exact (if_neg (by decide +kernel)).trans (if_pos rfl) | exact (if_neg (by decide +kernel)).trans ((if_neg (by decide +kernel)).trans (by with_reducible assumption)) | exact (if_neg (by decide +kernel)).trans ((if_neg (by decide +kernel)).trans (if_pos rfl)) | exact (if_neg (by decide +kernel)).trans ((if_neg (by decide +kernel)).trans ((if_neg (by decide +kernel)).trans (by with_reducible assumption)))
          case qhx => trivial
          case qW => assumption
          case qC => assumption
          case qdc => assumption
          case qhi => assumption
          case qhfl => assumption
          case qDA => assumption
          case qh0 => (intro p hp; exact ⟨by k_mem, hT p hp⟩)
          case qTO => assumption
          case qh1 => (intro p hp; exact ⟨by k_mem, hT p hp⟩)
      case rest =>
        rintro f s2 ⟨rfl, H⟩
        dsimp only
        (try clear F); (try clear N); (try clear B); (try clear X); (try clear P); (try clear D); (try clear m1); (try clear m2); (try clear m3); (try clear m4); (try clear m5); (try clear m6); (try clear m7); (try clear m8); (try clear hx); (try clear W); (try clear C); (try clear dcc); (try clear hi); (try clear hfl); (try clear DA); (try clear hT); (try clear TO); (try clear Tg); (try clear hnv)
        rw [hSt] at H
        obtain ⟨g, h, tk, m, tl, ew, nw, ev, nv, el, ec, fa, oc, vo, nvs, nc, tdo, kvs, ps, t8, ⟨rfl, Tg, F, B, X, P, D⟩, N, ⟨m1, m2, m3, m4, m5, m6, m7, m8, hx⟩, W, C, dcc, hi, hfl, DA, hT, TO⟩ := H
        have hnv := DA.length
        k_steps
        refine Hold.mk ?_
        refine wpAny_If ?_
        k_steps
        · rcases TO with rfl | ⟨c1, ocx, vsx, tx, rfl, hmx, hx2, hx3⟩
          all_goals k_steps
          all_goals refine Hold.mk ?_
          all_goals (
            k_dflt (refine' law_code_none ?k1 ?k2 ?k3 ?k4 ?k5 ?k6 ?k7 ?k8 ?k9 ?k10 ?k11 ?k12  ?hdeed ?hret)
            case k1 => k_asm
            case k2 => k_asm
            case k3 => k_asm
            case k4 => k_asm
            case k5 => k_asm
            case k6 => assumption
            case k7 => assumption
            case k8 => assumption
            case k9 => first | rfl | assumption
            case k10 => (simp only [depth_under_make, depth_under_kw, depth_in1, depth_deeper, depth_caller]); omega
            case k11 => ktr_units
            case k12 => exact ⟨_, _, _, _, by k_mem⟩
            case hdeed =>
              intro cn' cs' a' ccd' g' L' h' m' tk' un' hk' hu' F' N' B' X' T'
              k_steps
              refine Hold.mk ?_
              k_dflt (refine' check_end_ok ?k1 ?k2 ?k3 ?k4 ?k5 ?k6 ?k7 ?k8 ?e0 ?e1 ?e2 ?_)
              case k1 => k_asm
              case k2 => k_asm
              case k3 => k_asm
              case k4 => k_asm
              case k5 => k_asm
              case k6 => first | rfl | assumption
              case k7 => (simp only [depth_under_make, depth_under_kw, depth_in1, depth_deeper, depth_caller]); omega
              case k8 => ktr_units
              case e0 => k_mem
              case e1 => k_mem
              case e2 => assumption
              intro h2 tk2 F2 N2
              k_steps
              exact ⟨_, _, _, rfl, by k_asm, by k_asm, rfl⟩
            case hret =>
              intro h₀' h' tk' T1 F1 N1 B1 X1 P1 D1
              k_steps
              k_dflt (refine' leaveT_ (by k_asm) (by k_asm) (Tg.trans T1) ?_)
              intro h₀'' T2 F2 N2 B2 X2 P2 D2
              obtain ⟨tl', hN, hDI⟩ := res_close (news := news) N2 (by k_mem) (by k_mem) (by k_mem) (by k_mem) DA (by intro p hp; k_mem) (by intro p hp; k_mem)
              refine' ret h₀'' _ tl' _ _ _ _ T2 F2 hN B2 X2 P2 D2 ?_
              rw [← hw, walkGo_end hn (by assumption) (by omega)]
              exact hDI)
        · refine Hold.mk ?_
          refine wpAny_If ?_
          have hm2 : HoldIf2 := trivial
          k_steps
          · refine Hold.mk ?_
            (rename HoldIf2 => hz2; clear hz2)
            k_steps
            dsimp only
            refine Hold.mk ⟨n - 1, by omega, notes ++ [.int at_], kdfPut c at_ (kdfLook c at_ 0 + 1), at_ + 1, (on || decide (at_ = hf)), ?_, by simp only [List.length_append, List.length_cons, List.length_nil]; omega, (by have := kdfPut_len c at_ (kdfLook c at_ 0 + 1); omega), by omega, by omega, by simp only [List.length_append, List.length_cons, List.length_nil]; omega, ?_⟩
            · rw [hSt]
              refine' WSt.close ?qT ?qF ?qN ?qB ?qX ?qP ?qD ?qhwd ?qhcd ?qh166 ?qh159 ?qhcc ?qhnl ?qhtd ?qhcw ?qhwo ?qhco ?qhnews ?qm1 ?qm2 ?qm3 ?qm4 ?qm5 ?qm6 ?qm7 ?qm8 ?qhx ?qW ?qC ?qdc ?qhi ?qhfl ?qDA ?qh0 ?qTO ?qh1
              case qT => assumption
              case qF => k_asm
              case qN => k_asm
              case qB => assumption
              case qX => assumption
              case qP => assumption
              case qD => assumption
              case qhwd => k_mem
              case qhcd => k_mem
              case qh166 => k_mem
              case qh159 => k_mem
              case qhcc => k_mem
              case qhnl => k_mem
              case qhtd => k_mem
              case qhcw => k_mem
              case qhwo => k_mem
              case qhco => k_mem
              case qhnews => (intro p hp; k_mem)
              case qm1 => first | with_reducible assumption | exact if_pos rfl | exact (if_neg (by decide +kernel)).trans (by with_reducible assumption) | exact (if_neg (by decide +kernel)).trans (if_pos rfl) | exact (if_neg (by decide +kernel)).trans ((if_neg (by decide +kernel)).trans (by with_reducible assumption)) | exact (if_neg (by decide +kernel)).trans ((if_neg (by decide +kernel)).trans (if_pos rfl)) | exact (if_neg (by decide +kernel)).trans ((if_neg (by decide +kernel)).trans ((if_neg (by decide +kernel)).trans (by with_reducible assumption)))
              case qm2 => first | with_reducible assumption | exact if_pos rfl | exact (if_neg (by decide +kernel)).trans (by with_reducible assumption) | exact (if_neg (by decide +kernel)).trans (if_pos rfl) | exact (if_neg (by decide +kernel)).trans ((if_neg (by decide +kernel)).trans (by with_reducible assumption)) | exact (if_neg (by decide +kernel)).trans ((if_neg (by decide +kernel)).trans (if_pos rfl)) | exact (if_neg (by decide +kernel)).trans ((if_neg (by decide +kernel)).trans ((if_neg (by decide +kernel)).trans (by with_reducible assumption)))
              case qm3 => first | with_reducible assumption | exact if_pos rfl | exact (if_neg (by decide +kernel)).trans (by with_reducible assumption) | exact (if_neg (by decide +kernel)).trans (if_pos rfl) | exact (if_neg (by decide +kernel)).trans ((if_neg (by decide +kernel)).trans (by with_reducible assumption)) | exact (if_neg (by decide +kernel)).trans ((if_neg (by decide +kernel)).trans (if_pos rfl)) | exact (if_neg (by decide +kernel)).trans ((if_neg (by decide +kernel)).trans ((if_neg (by decide +kernel)).trans (by with_reducible assumption)))
              case qm4 => first | with_reducible assumption | exact if_pos rfl | exact (if_neg (by decide +kernel)).trans (by with_reducible assumption) | exact (if_neg (by decide +kernel)).trans (if_pos rfl) | exact (if_neg (by decide +kernel)).trans ((if_neg (by decide +kernel)).trans (by with_reducible assumption)) | exact (if_neg (by decide +kernel)).trans ((if_neg (by decide +kernel)).trans (if_pos rfl)) | exact (if_neg (by decide +kernel)).trans ((if_neg (by decide +kernel)).trans ((if_neg (by decide +kernel)).trans (by with_reducible assumption)))
              case qm5 => first | with_reducible assumption | exact if_pos rfl | exact (if_neg (by decide +kernel)).trans (by with_reducible assumption) | exact (if_neg (by decide +kernel)).trans (if_pos rfl) | exact (if_neg (by decide +kernel)).trans ((if_neg (by decide +kernel)).trans (by with_reducible assumption)) | exact (if_neg (by decide +kernel)).trans ((if_neg (by decide +kernel)).trans (if_pos rfl)) | exact (if_neg (by decide +kernel)).trans ((if_neg (by decide +kernel)).trans ((if_neg (by decide +kernel)).trans (by with_reducible assumption)))
              case qm6 => first | with_reducible assumption | exact if_pos rfl | exact (if_neg (by decide +kernel)).trans (by with_reducible assumption) | exact (if_neg (by decide +kernel)).trans (if_pos rfl) | exact (if_neg (by decide +kernel)).trans ((if_neg (by decide +kernel)).trans (by with_reducible assumption)) | exact (if_neg (by decide +kernel)).trans ((if_neg (by decide +kernel)).trans (if_pos rfl)) | exact (if_neg (by decide +kernel)).trans ((if_neg (by decide +kernel)).trans ((if_neg (by decide +kernel)).trans (by with_reducible assumption)))
              case qm7 => first | with_reducible assumption | exact if_pos rfl | exact (if_neg (by decide +kernel)).trans (by with_reducible assumption) | exact (if_neg (by decide +kernel)).trans (if_pos rfl) | exact (if_neg (by decide +kernel)).trans ((if_neg (by decide +kernel)).trans (by with_reducible assumption)) | exact (if_neg (by decide +kernel)).trans ((if_neg (by decide +kernel)).trans (if_pos rfl)) | exact (if_neg (by decide +kernel)).trans ((if_neg (by decide +kernel)).trans ((if_neg (by decide +kernel)).trans (by with_reducible assumption)))
              case qm8 => first | with_reducible assumption | exact if_pos rfl | exact (if_neg (by decide +kernel)).trans (by with_reducible assumption) | exact (if_neg (by decide +kernel)).trans (if_pos rfl) | exact (if_neg (by decide +kernel)).trans ((if_neg (by decide +kernel)).trans (by with_reducible assumption)) | exact (if_neg (by decide +kernel)).trans ((if_neg (by decide +kernel)).trans (if_pos rfl)) | exact (if_neg (by decide +kernel)).trans ((if_neg (by decide +kernel)).trans ((if_neg (by decide +kernel)).trans (by with_reducible assumption)))
              case qhx => trivial
              case qW => assumption
              case qC => assumption
              case qdc => assumption
              case qhi => assumption
              case qhfl => assumption
              case qDA => exact DatAll.append DA (.one (.int _ _))
              case qh0 => (intro p hp; exact ⟨by k_mem, hT p hp⟩)
              case qTO => assumption
              case qh1 => (intro p hp; exact ⟨by k_mem, hT p hp⟩)
            · rw [← hw]
              exact (walkGo_skip hn (by omega) (by omega) (by assumption) (by first | exact .inl (by assumption) | exact .inr (by assumption) | exact .inr (by omega))).symm
          · refine Hold.mk ?_
            (rename HoldIf2 => hz2; clear hz2)
            k_steps
            dsimp only
            refine Hold.mk ⟨n - 1, by omega, notes ++ [.int at_], kdfPut c at_ (kdfLook c at_ 0 + 1), at_ + 1, (on || decide (at_ = hf)), ?_, by simp only [List.length_append, List.length_cons, List.length_nil]; omega, (by have := kdfPut_len c at_ (kdfLook c at_ 0 + 1); omega), by omega, by omega, by simp only [List.length_append, List.length_cons, List.length_nil]; omega, ?_⟩
            · rw [hSt]
              refine' WSt.close ?qT ?qF ?qN ?qB ?qX ?qP ?qD ?qhwd ?qhcd ?qh166 ?qh159 ?qhcc ?qhnl ?qhtd ?qhcw ?qhwo ?qhco ?qhnews ?qm1 ?qm2 ?qm3 ?qm4 ?qm5 ?qm6 ?qm7 ?qm8 ?qhx ?qW ?qC ?qdc ?qhi ?qhfl ?qDA ?qh0 ?qTO ?qh1
              case qT => assumption
              case qF => k_asm
              case qN => k_asm
              case qB => assumption
              case qX => assumption
              case qP => assumption
              case qD => assumption
              case qhwd => k_mem
              case qhcd => k_mem
              case qh166 => k_mem
              case qh159 => k_mem
              case qhcc => k_mem
              case qhnl => k_mem
              case qhtd => k_mem
              case qhcw => k_mem
              case qhwo => k_mem
              case qhco => k_mem
              case qhnews => (intro p hp; k_mem)
              case qm1 => first | with_reducible assumption | exact if_pos rfl | exact (if_neg (by decide +kernel)).trans (by with_reducible assumption) | exact (if_neg (by decide +kernel)).trans (if_pos rfl) | exact (if_neg (by decide +kernel)).trans ((if_neg (by decide +kernel)).trans (by with_reducible assumption)) | exact (if_neg (by decide +kernel)).trans ((if_neg (by decide +kernel)).trans (if_pos rfl)) | exact (if_neg (by decide +kernel)).trans ((if_neg (by decide +kernel)).trans ((if_neg (by decide +kernel)).trans (by with_reducible assumption)))
              case qm2 => first | with_reducible assumption | exact if_pos rfl | exact (if_neg (by decide +kernel)).trans (by with_reducible assumption) | exact (if_neg (by decide +kernel)).trans (if_pos rfl) | exact (if_neg (by decide +kernel)).trans ((if_neg (by decide +kernel)).trans (by with_reducible assumption)) | exact (if_neg (by decide +kernel)).trans ((if_neg (by decide +kernel)).trans (if_pos rfl)) | exact (if_neg (by decide +kernel)).trans ((if_neg (by decide +kernel)).trans ((if_neg (by decide +kernel)).trans (by with_reducible assumption)))
              case qm3 => first | with_reducible assumption | exact if_pos rfl | exact (if_neg (by decide +kernel)).trans (by with_reducible assumption) | exact (if_neg (by decide +kernel)).trans (if_pos rfl) | exact (if_neg (by decide +kernel)).trans ((if_neg (by decide +kernel)).trans (by with_reducible assumption)) | exact (if_neg (by decide +kernel)).trans ((if_neg (by decide +kernel)).trans (if_pos rfl)) | exact (if_neg (by decide +kernel)).trans ((if_neg (by decide +kernel)).trans ((if_neg (by decide +kernel)).trans (by with_reducible assumption)))
              case qm4 => first | with_reducible assumption | exact if_pos rfl | exact (if_neg (by decide +kernel)).trans (by with_reducible assumption) | exact (if_neg (by decide +kernel)).trans (if_pos rfl) | exact (if_neg (by decide +kernel)).trans ((if_neg (by decide +kernel)).trans (by with_reducible assumption)) | exact (if_neg (by decide +kernel)).trans ((if_neg (by decide +kernel)).trans (if_pos rfl)) | exact (if_neg (by decide +kernel)).trans ((if_neg (by decide +kernel)).trans ((if_neg (by decide +kernel)).trans (by with_reducible assumption)))
              case qm5 => first | with_reducible assumption | exact if_pos rfl | exact (if_neg (by decide +kernel)).trans (by with_reducible assumption) | exact (if_neg (by decide +kernel)).trans (if_pos rfl) | exact (if_neg (by decide +kernel)).trans ((if_neg (by decide +kernel)).trans (by with_reducible assumption)) | exact (if_neg (by decide +kernel)).trans ((if_neg (by decide +kernel)).trans (if_pos rfl)) | exact (if_neg (by decide +kernel)).trans ((if_neg (by decide +kernel)).trans ((if_neg (by decide +kernel)).trans (by with_reducible assumption)))
              case qm6 => first | with_reducible assumption | exact if_pos rfl | exact (if_neg (by decide +kernel)).trans (by with_reducible assumption) | exact (if_neg (by decide +kernel)).trans (if_pos rfl) | exact (if_neg (by decide +kernel)).trans ((if_neg (by decide +kernel)).trans (by with_reducible assumption)) | exact (if_neg (by decide +kernel)).trans ((if_neg (by decide +kernel)).trans (if_pos rfl)) | exact (if_neg (by decide +kernel)).trans ((if_neg (by decide +kernel)).trans ((if_neg (by decide +kernel)).trans (by with_reducible assumption)))
              case qm7 => first | with_reducible assumption | exact if_pos rfl | exact (if_neg (by decide +kernel)).trans (by with_reducible assumption) | exact (if_neg (by decide +kernel)).trans (if_pos rfl) | exact (if_neg (by decide +kernel)).trans ((if_neg (by decide +kernel)).trans (by with_reducible assumption)) | exact (if_neg (by decide +kernel)).trans ((if_neg (by decide +kernel)).trans (if_pos rfl)) | exact (if_neg (by decide +kernel)).trans ((if_neg (by decide +kernel)).trans ((if_neg (by decide +kernel)).trans (by with_reducible assumption)))
              case qm8 => first | with_reducible assumption | exact if_pos rfl | exact (if_neg (by decide +kernel)).trans (by with_reducible assumption) | exact (if_neg (by decide +kernel)).trans (if_pos rfl) | exact (if_neg (by decide +kernel)).trans ((if_neg (by decide +kernel)).trans (by with_reducible assumption)) | exact (if_neg (by decide +kernel)).trans ((if_neg (by decide +kernel)).trans (if_pos rfl)) | exact (if_neg (by decide +kernel)).trans ((if_neg (by decide +kernel)).trans ((if_neg (by decide +kernel)).trans (by with_reducible assumption)))
              case qhx => trivial
              case qW => assumption
              case qC => assumption
              case qdc => assumption
              case qhi => assumption
              case qhfl => assumption
              case qDA => exact DatAll.append DA (.one (.int _ _))
              case qh0 => (intro p hp; exact ⟨by k_mem, hT p hp⟩)
              case qTO => assumption
              case qh1 => (intro p hp; exact ⟨by k_mem, hT p hp⟩)
            · rw [← hw]
              exact (walkGo_skip hn (by omega) (by omega) (by assumption) (by first | exact .inl (by assumption) | exact .inr (by assumption) | exact .inr (by omega))).symm
          · refine Hold.mk ?_
            (rename HoldIf2 => hz2; clear hz2)
            have hAB : (rows.getD at_.toNat (0, 0)).1 ≠ 0 ∧ ¬ (rows.getD at_.toNat (0, 0)).2 < kdfLook (kdfPut c at_ (kdfLook c at_ 0 + 1)) at_ 0 := by
              rw [(by assumption : rows.getD at_.toNat (0, 0) = (_, _))]
              exact ⟨by first | assumption | omega, by dsimp only; omega⟩
            have hlt : at_ < (rows.length : Int) := by omega
            have h40 : (notes.length : Int) < 40 := by omega
            refine' wpAny_mono (Q := fun f s' => Hold (f = .next ∧ St (notes ++ [.int at_]) (kdfPut c at_ (kdfLook c at_ 0 + 1)) at_ (on || decide (at_ = hf)) (fun m => ∃ t, m (Str.ofString "told") = some (.str (codeOf (rows.getD at_.toNat (0, 0)).1) t)) s')) ?seg2 ?rest2 (fun _ _ h => h)
            case seg2 =>
              rcases TO with rfl | ⟨c1, ocx, vsx, tx, rfl, hmx, hx2, hx3⟩
              all_goals k_steps
              all_goals refine Hold.mk ?_
              all_goals (
                k_dflt (refine' law_code_same (R := fun c => c = codeOf (rows.getD at_.toNat (0, 0)).1) ?k1 ?k2 ?k3 ?k4 ?k5 ?k6 ?k7 ?k8 ?k9 ?k10 ?k11 ?k12  ?hdeed ?hret)
                case k1 => k_asm
                case k2 => k_asm
                case k3 => k_asm
                case k4 => k_asm
                case k5 => k_asm
                case k6 => assumption
                case k7 => assumption
                case k8 => assumption
                case k9 => first | rfl | assumption
                case k10 => (simp only [depth_under_make, depth_under_kw, depth_in1, depth_deeper, depth_caller]); omega
                case k11 => ktr_units
                case k12 => exact ⟨_, _, _, _, by k_mem⟩
                case hdeed =>
                  intro cn' cs' a' ccd' g' L' h' m' tk' un' hk' hu' F' N' B' X' T'
                  k_steps
                  refine Hold.mk ?_
                  k_dflt (refine' wpAny_mono (raise_told_ok ?k1 ?k2 ?k3 ?k4 ?k5 ?k6 ?k7 ?k8 ?e0 ?e1) ?hq ?he)
                  case k1 => k_asm
                  case k2 => k_asm
                  case k3 => k_asm
                  case k4 => k_asm
                  case k5 => k_asm
                  case k6 => first | rfl | assumption
                  case k7 => (simp only [depth_under_make, depth_under_kw, depth_in1, depth_deeper, depth_caller]); omega
                  case k8 => ktr_units
                  case e0 => (have hb := hrow _ (by assumption); dsimp only at hb; omega)
                  case e1 => (have hb := hrow _ (by assumption); dsimp only at hb; omega)
                  case hq => intro v s1 h; exact h.elim
                  case he =>
                    intro v s1 H
                    (try k_unfold)
                    (try dsimp only)
                    refine' lam_leave (by assumption) rfl (by assumption) (DeedE.at_ (H.imp ?_) rfl rfl rfl)
                    rintro news1 c ⟨rfl, rfl⟩
                    exact ⟨_, fun _ h => h, rfl, by rw [(by assumption : rows.getD at_.toNat (0, 0) = (_, _))]⟩
                case hret =>
                  intro h₀' c t h' tk' hR T1 F1 N1 B1 X1 P1 D1
                  subst hR
                  k_steps
                  refine Hold.mk ⟨by first | trivial | rfl, ?_⟩
                  rw [hSt]
                  refine' WSt.close ?qT ?qF ?qN ?qB ?qX ?qP ?qD ?qhwd ?qhcd ?qh166 ?qh159 ?qhcc ?qhnl ?qhtd ?qhcw ?qhwo ?qhco ?qhnews ?qm1 ?qm2 ?qm3 ?qm4 ?qm5 ?qm6 ?qm7 ?qm8 ?qhx ?qW ?qC ?qdc ?qhi ?qhfl ?qDA ?qh0 ?qTO ?qh1
                  case qT => exact Tg.trans T1
                  case qF => k_asm
                  case qN => k_asm
                  case qB => assumption
                  case qX => assumption
                  case qP => assumption
                  case qD => assumption
                  case qhwd => k_mem
                  case qhcd => k_mem
                  case qh166 => k_mem
                  case qh159 => k_mem
                  case qhcc => k_mem
                  case qhnl => k_mem
                  case qhtd => k_mem
                  case qhcw => k_mem
                  case qhwo => k_mem
                  case qhco => k_mem
                  case qhnews => (intro p hp; k_mem)
                  case qm1 => first | with_reducible assumption | exact if_pos rfl | exact (if_neg (by decide +kernel)).trans (by with_reducible assumption) | exact (if_neg (by decide +kernel)).trans (if_pos rfl) | exact (if_neg (by decide +kernel)).trans ((if_neg (by decide +kernel)).trans (by with_reducible assumption)) | exact (if_neg (by decide +kernel)).trans ((if_neg (by decide +kernel)).trans (if_pos rfl)) | exact (if_neg (by decide +kernel)).trans ((if_neg (by decide +kernel)).trans ((if_neg (by decide +kernel)).trans (by with_reducible assumption)))
                  case qm2 => first | with_reducible assumption | exact if_pos rfl | exact (if_neg (by decide +kernel)).trans (by with_reducible assumption) | exact (if_neg (by decide +kernel)).trans (if_pos rfl) | exact (if_neg (by decide +kernel)).trans ((if_neg (by decide +kernel)).trans (by with_reducible assumption)) | exact (if_neg (by decide +kernel)).trans ((if_neg (by decide +kernel)).trans (if_pos rfl)) | exact (if_neg (by decide +kernel)).trans ((if_neg (by decide +kernel)).trans ((if_neg (by decide +kernel)).trans (by with_reducible assumption)))
                  case qm3 => first | with_reducible assumption | exact if_pos rfl | exact (if_neg (by decide +kernel)).trans (by with_reducible assumption) | exact (if_neg (by decide +kernel)).trans (if_pos rfl) | exact (if_neg (by decide +kernel)).trans ((if_neg (by decide +kernel)).trans (by with_reducible assumption)) | exact (if_neg (by decide +kernel)).trans ((if_neg (by decide +kernel)).trans (if_pos rfl)) | exact (if_neg (by decide +kernel)).trans ((if_neg (by decide +kernel)).trans ((if_neg (by decide +kernel)).trans (by with_reducible assumption)))
                  case qm4 => first | with_reducible assumption | exact if_pos rfl | exact (if_neg (by decide +kernel)).trans (by with_reducible assumption) | exact (if_neg (by decide +kernel)).trans (if_pos rfl) | exact (if_neg (by decide +kernel)).trans ((if_neg (by decide +kernel)).trans (by with_reducible assumption)) | exact (if_neg (by decide +kernel)).trans ((if_neg (by decide +kernel)).trans (if_pos rfl)) | exact (if_neg (by decide +kernel)).trans ((if_neg (by decide +kernel)).trans ((if_neg (by decide +kernel)).trans (by with_reducible assumption)))
                  case qm5 => first | with_reducible assumption | exact if_pos rfl | exact (if_neg (by decide +kernel)).trans (by with_reducible assumption) | exact (if_neg (by decide +kernel)).trans (if_pos rfl) | exact (if_neg (by decide +kernel)).trans ((if_neg (by decide +kernel)).trans (by with_reducible assumption)) | exact (if_neg (by decide +kernel)).trans ((if_neg (by decide +kernel)).trans (if_pos rfl)) | exact (if_neg (by decide +kernel)).trans ((if_neg (by decide +kernel)).trans ((if_neg (by decide +kernel)).trans (by with_reducible assumption)))
                  case qm6 => first | with_reducible assumption | exact if_pos rfl | exact (if_neg (by decide +kernel)).trans (by with_reducible assumption) | exact (if_neg (by decide +kernel)).trans (if_pos rfl) | exact (if_neg (by decide +kernel)).trans ((if_neg (by decide +kernel)).trans (by with_reducible assumption)) | exact (if_neg (by decide +kernel)).trans ((if_neg (by decide +kernel)).trans (if_pos rfl)) | exact (if_neg (by decide +kernel)).trans ((if_neg (by decide +kernel)).trans ((if_neg (by decide +kernel)).trans (by with_reducible assumption)))
                  case qm7 => first | with_reducible assumption | exact if_pos rfl | exact (if_neg (by decide +kernel)).trans (by with_reducible assumption) | exact (if_neg (by decide +kernel)).trans (if_pos rfl) | exact (if_neg (by decide +kernel)).trans ((if_neg (by decide +kernel)).trans (by with_reducible assumption)) | exact (if_neg (by decide +kernel)).trans ((if_neg (by decide +kernel)).trans (if_pos rfl)) | exact (if_neg (by decide +kernel)).trans ((if_neg (by decide +kernel)).trans ((if_neg (by decide +kernel)).trans (by with_reducible assumption)))
                  case qm8 => first | with_reducible assumption | exact if_pos rfl | exact (if_neg (by decide +kernel)).trans (by with_reducible assumption) | exact (if_neg (by decide +kernel)).trans (if_pos rfl) | exact (if_neg (by decide +kernel)).trans ((if_neg (by decide +kernel)).trans (by with_reducible assumption)) | exact (if_neg (by decide +kernel)).trans ((if_neg (by decide +kernel)).trans (if_pos rfl)) | exact (if_neg (by decide +kernel)).trans ((if_neg (by decide +kernel)).trans ((if_neg (by decide +kernel)).trans (by with_reducible assumption)))
                  case qhx => exact ⟨_, if_pos rfl⟩
                  case qW => assumption
                  case qC => assumption
                  case qdc => assumption
                  case qhi => assumption
                  case qhfl => assumption
                  case qDA => exact DatAll.append DA (.one (.int _ _))
                  case qh0 => (intro p hp; exact ⟨by k_mem, hT p hp⟩)
                  case qTO => first | exact Or.inr ⟨_, _, _, _, rfl, hmx, hx2, hx3⟩ | exact Or.inr ⟨_, _, _, _, rfl, List.mem_singleton.mpr rfl, by assumption, by assumption⟩
                  case qh1 => first | (intro p hp; exact ⟨by k_mem, hT p hp⟩) | (intro p hp; rw [List.mem_singleton.mp hp]; exact ⟨by k_mem, by (show @LT.lt Nat _ _ _); omega⟩))
            case rest2 =>
              rintro f s2 ⟨rfl, H⟩
              dsimp only
              (try clear F); (try clear N); (try clear B); (try clear X); (try clear P); (try clear D); (try clear m1); (try clear m2); (try clear m3); (try clear m4); (try clear m5); (try clear m6); (try clear m7); (try clear m8); (try clear hx); (try clear W); (try clear C); (try clear dcc); (try clear hi); (try clear hfl); (try clear DA); (try clear hT); (try clear TO); (try clear Tg); (try clear hnv)
              rw [hSt] at H
              obtain ⟨g, h, tk, m, tl, ew, nw, ev, nv, el, ec, fa, oc, vo, nvs, nc, tdo, kvs, ps, t8, ⟨rfl, Tg, F, B, X, P, D⟩, N, ⟨m1, m2, m3, m4, m5, m6, m7, m8, hx⟩, W, C, dcc, hi, hfl, DA, hT, TO⟩ := H
              obtain ⟨tt, htold⟩ := hx
              have hEq : rows.getD at_.toNat (0, 0) = ((rows.getD at_.toNat (0, 0)).1, (rows.getD at_.toNat (0, 0)).2) := rfl
              have hnv : nvs.length = notes.length + 1 := by rw [DA.length, List.length_append]; rfl
              k_steps
              refine Hold.mk ?_
              rename HoldIf => hz3
              clear hz3
              refine wpAny_If ?_
              cases hon : (on || decide (at_ = hf)) with
              | false =>
                rw [hon] at W
                have W : WIs ew 0 false el ec := W
                k_steps
                k_dflt (refine' leaveT_ (by k_asm) (by k_asm) (by k_asm) ?_)
                intro h₀'' T2 F2 N2 B2 X2 P2 D2
                obtain ⟨tl', hN, hDI⟩ := res_close (news := news) N2 (by k_mem) (by k_mem) (by k_mem) (by k_mem) DA (by intro p hp; k_mem) (by intro p hp; k_mem)
                refine' ret h₀'' _ tl' _ _ _ _ T2 F2 hN B2 X2 P2 D2 ?_
                rw [← hw, walkGo_off hn h40 hlt hEq hAB.1 hAB.2 hon]
                exact hDI
              | true =>
                rw [hon] at W
                have W : WIs ew 900 false el ec := W
                k_steps
                refine Hold.mk ?_
                obtain ⟨xt, hxe, hxd⟩ := told_split (by assumption)
                k_dflt (refine' led_all ?k1 ?k2 ?k3 ?k4 ?k5 ?k6 ?k7 ?k8 ?k9 ?k10 ?k11 ?hw ?hc ?a1 ?a2 ?a3 ?n1 ?n2 ?W ?C ?hec ?CB ?w0 ?w1 ?reti ?rets)
                case k1 => k_asm
                case k2 => k_asm
                case k3 => k_asm
                case k4 => exact rot4 (by k_asm)
                case k5 => k_asm
                case k6 => assumption
                case k7 => assumption
                case k8 => assumption
                case k9 => first | rfl | assumption
                case k10 => (simp only [depth_under_make, depth_under_kw, depth_in1, depth_deeper, depth_caller]); omega
                case k11 => ktr_units
                case hw => k_mem
                case hc => k_mem
                case a1 => k_all
                case a2 => k_all
                case a3 => k_all
                case n1 => assumption
                case n2 => assumption
                case W => assumption
                case C => assumption
                case hec => exact codeOf_len _
                case CB => exact CB1
                case w0 => exact hw0
                case w1 => exact hw1
                case reti =>
                  intro h₀' es' n' t h' tk' hwle T1 F1 N1 B1 X1 P1 D1 W3
                  k_steps
                  (try dsimp only)
                  have hs0 : 0 ≤ spotOf way at_ goal ∧ spotOf way at_ goal ≤ 6 := by
                    unfold spotOf
                    split
                    · omega
                    · split <;> omega
                  refine Hold.mk ⟨n - 1, by omega, notes ++ [.int at_] ++ [toldD (codeOf (rows.getD at_.toNat (0, 0)).1) at_], kdfPut c at_ (kdfLook c at_ 0 + 1), spotOf way at_ goal, (on || decide (at_ = hf)), ?_, by simp only [List.length_append, List.length_cons, List.length_nil]; omega, (by have := kdfPut_len c at_ (kdfLook c at_ 0 + 1); omega), hs0.1, hs0.2, by simp only [List.length_append, List.length_cons, List.length_nil]; omega, ?_⟩
                  · rw [hSt, hon]
                    refine' WSt.close (tl0 := xt :: tl) ?qT ?qF ?qN ?qB ?qX ?qP ?qD ?qhwd ?qhcd ?qh166 ?qh159 ?qhcc ?qhnl ?qhtd ?qhcw ?qhwo ?qhco ?qhnews ?qm1 ?qm2 ?qm3 ?qm4 ?qm5 ?qm6 ?qm7 ?qm8 ?qhx ?qW ?qC ?qdc ?qhi ?qhfl ?qDA ?qh0 ?qTO ?qh1
                    case qT => exact Tg.trans T1
                    case qF => k_asm
                    case qN => k_asm
                    case qB => assumption
                    case qX => assumption
                    case qP => assumption
                    case qD => assumption
                    case qhwd => k_mem
                    case qhcd => k_mem
                    case qh166 => k_mem
                    case qh159 => k_mem
                    case qhcc => k_mem
                    case qhnl => k_mem
                    case qhtd => k_mem
                    case qhcw => k_mem
                    case qhwo => k_mem
                    case qhco => k_mem
                    case qhnews => (intro p hp; k_mem)
                    case qm1 => first | with_reducible assumption | exact if_pos rfl | exact (if_neg (by decide +kernel)).trans (by with_reducible assumption) | exact (if_neg (by decide +kernel)).trans (if_pos rfl) | exact (if_neg (by decide +kernel)).trans ((if_neg (by decide +kernel)).trans (by with_reducible assumption)) | exact (if_neg (by decide +kernel)).trans ((if_neg (by decide +kernel)).trans (if_pos rfl)) | exact (if_neg (by decide +kernel)).trans ((if_neg (by decide +kernel)).trans ((if_neg (by decide +kernel)).trans (by with_reducible assumption)))
                    case qm2 => first | with_reducible assumption | exact if_pos rfl | exact (if_neg (by decide +kernel)).trans (by with_reducible assumption) | exact (if_neg (by decide +kernel)).trans (if_pos rfl) | exact (if_neg (by decide +kernel)).trans ((if_neg (by decide +kernel)).trans (by with_reducible assumption)) | exact (if_neg (by decide +kernel)).trans ((if_neg (by decide +kernel)).trans (if_pos rfl)) | exact (if_neg (by decide +kernel)).trans ((if_neg (by decide +kernel)).trans ((if_neg (by decide +kernel)).trans (by with_reducible assumption)))
                    case qm3 => first | with_reducible assumption | exact if_pos rfl | exact (if_neg (by decide +kernel)).trans (by with_reducible assumption) | exact (if_neg (by decide +kernel)).trans (if_pos rfl) | exact (if_neg (by decide +kernel)).trans ((if_neg (by decide +kernel)).trans (by with_reducible assumption)) | exact (if_neg (by decide +kernel)).trans ((if_neg (by decide +kernel)).trans (if_pos rfl)) | exact (if_neg (by decide +kernel)).trans ((if_neg (by decide +kernel)).trans ((if_neg (by decide +kernel)).trans (by with_reducible assumption)))
                    case qm4 => first | with_reducible assumption | exact if_pos rfl | exact (if_neg (by decide +kernel)).trans (by with_reducible assumption) | exact (if_neg (by decide +kernel)).trans (if_pos rfl) | exact (if_neg (by decide +kernel)).trans ((if_neg (by decide +kernel)).trans (by with_reducible assumption)) | exact (if_neg (by decide +kernel)).trans ((if_neg (by decide +kernel)).trans (if_pos rfl)) | exact (if_neg (by decide +kernel)).trans ((if_neg (by decide +kernel)).trans ((if_neg (by decide +kernel)).trans (by with_reducible assumption)))
                    case qm5 => first | with_reducible assumption | exact if_pos rfl | exact (if_neg (by decide +kernel)).trans (by with_reducible assumption) | exact (if_neg (by decide +kernel)).trans (if_pos rfl) | exact (if_neg (by decide +kernel)).trans ((if_neg (by decide +kernel)).trans (by with_reducible assumption)) | exact (if_neg (by decide +kernel)).trans ((if_neg (by decide +kernel)).trans (if_pos rfl)) | exact (if_neg (by decide +kernel)).trans ((if_neg (by decide +kernel)).trans ((if_neg (by decide +kernel)).trans (by with_reducible assumption)))
                    case qm6 => first | with_reducible assumption | exact if_pos rfl | exact (if_neg (by decide +kernel)).trans (by with_reducible assumption) | exact (if_neg (by decide +kernel)).trans (if_pos rfl) | exact (if_neg (by decide +kernel)).trans ((if_neg (by decide +kernel)).trans (by with_reducible assumption)) | exact (if_neg (by decide +kernel)).trans ((if_neg (by decide +kernel)).trans (if_pos rfl)) | exact (if_neg (by decide +kernel)).trans ((if_neg (by decide +kernel)).trans ((if_neg (by decide +kernel)).trans (by with_reducible assumption)))
                    case qm7 => first | with_reducible assumption | exact if_pos rfl | exact (if_neg (by decide +kernel)).trans (by with_reducible assumption) | exact (if_neg (by decide +kernel)).trans (if_pos rfl) | exact (if_neg (by decide +kernel)).trans ((if_neg (by decide +kernel)).trans (by with_reducible assumption)) | exact (if_neg (by decide +kernel)).trans ((if_neg (by decide +kernel)).trans (if_pos rfl)) | exact (if_neg (by decide +kernel)).trans ((if_neg (by decide +kernel)).trans ((if_neg (by decide +kernel)).trans (by with_reducible assumption)))
                    case qm8 => first | with_reducible assumption | exact if_pos rfl | exact (if_neg (by decide +kernel)).trans (by with_reducible assumption) | exact (if_neg (by decide +kernel)).trans (if_pos rfl) | exact (if_neg (by decide +kernel)).trans ((if_neg (by decide +kernel)).trans (by with_reducible assumption)) | exact (if_neg (by decide +kernel)).trans ((if_neg (by decide +kernel)).trans (if_pos rfl)) | exact (if_neg (by decide +kernel)).trans ((if_neg (by decide +kernel)).trans ((if_neg (by decide +kernel)).trans (by with_reducible assumption)))
                    case qhx => trivial
                    case qW => assumption
                    case qC => assumption
                    case qdc => assumption
                    case qhi => assumption
                    case qhfl => assumption
                    case qDA => exact DatAll.append (DA.mono (fun p hp => List.mem_cons_of_mem _ hp)) (.one (hxd.mono (fun p hp => (List.mem_singleton.mp hp) ▸ List.mem_cons_self)))
                    case qh0 => (intro p hp; rcases List.mem_cons.mp hp with hp | hp; (rw [hp, hxe]; exact ⟨by k_mem, by (show @LT.lt Nat _ _ _); omega⟩); exact ⟨by k_mem, hT p hp⟩)
                    case qTO => assumption
                    case qh1 => (intro p hp; exact ⟨by k_mem, hT p hp⟩)
                  · rw [← hw, walkGo_on hn h40 hlt hEq hAB.1 hAB.2 hon, if_pos hwle]
                case rets =>
                  intro h₀' es' n' ps' t h' tk' hwgt T1 F1 N1 B1 X1 P1 D1
                  k_steps
                  k_dflt (refine' leaveT_ (by k_asm) (by k_asm) (Tg.trans T1) ?_)
                  intro h₀'' T2 F2 N2 B2 X2 P2 D2
                  obtain ⟨tl', hN, hDI⟩ := res_close (news := news) (tl := xt :: tl) N2 (by k_mem) (by k_mem) (by k_mem) (by k_mem) (DatAll.append (DA.mono (fun p hp => List.mem_cons_of_mem _ hp)) (.one (hxd.mono (fun p hp => (List.mem_singleton.mp hp) ▸ List.mem_cons_self)))) (by intro p hp; rcases List.mem_cons.mp hp with hp | hp; (rw [hp, hxe]; k_mem); k_mem) (by intro p hp; k_mem)
                  refine' ret h₀'' _ tl' _ _ _ _ T2 F2 hN B2 X2 P2 D2 ?_
                  rw [← hw, walkGo_on hn h40 hlt hEq hAB.1 hAB.2 hon, if_neg hwgt]
                  exact hDI
    · k_dflt (refine' leaveT_ (by k_asm) (by k_asm) (by k_asm) ?_)
      intro h₀'' T2 F2 N2 B2 X2 P2 D2
      obtain ⟨tl', hN, hDI⟩ := res_close (news := news) N2 (by k_mem) (by k_mem) (by k_mem) (by k_mem) DA (by intro p hp; k_mem) (by intro p hp; k_mem)
      refine' ret h₀'' _ tl' _ _ _ _ T2 F2 hN B2 X2 P2 D2 ?_
      rw [← hw, walkGo_long (by assumption)]
      exact hDI
end
end Mine
end
section
local macro_rules | `(tactic| walk_at "no such key") => `(tactic| skip)
open PySem PySem.W PyProof.Rows PySem.Calls
namespace Mine
theorem walk_anew_27 : True := by
  w_top off
  trivial
/-- what a draw of rows leaves at the head of its loop -/
def RSt (L fe ce rl : Addr) (cvs : List Value) (cn : Nat) (o3 o2 o1 : Obj) (i : Nat) (m : Str → Option Value) (nx : List (Addr × Obj)) : Prop :=
  ∃ (tv : Int) (t : Tok) (fn : Nat) (rvs : List Value) (rn : Nat) (rows : List (Int × Int)) (tl : List (Addr × Obj)), nx = (rl, listOf rvs.toArray rn) :: (fe, listOf [Value.ref ce, Value.int tv t].toArray fn) :: (ce, listOf cvs.toArray cn) :: (L + 1 + 1 + 1, o3) :: (L + 1 + 1, o2) :: (L + 1, o1) :: (166, tabObj #[]) :: (159, tabObj #[]) :: (185, tabObj #[]) :: tl ∧
    m (Str.ofString "feed") = some (.ref fe) ∧ m (Str.ofString "rows") = some (.ref rl) ∧ tv = 1 + 3 * (i : Int) ∧ rows.length = i ∧ DatAll tl rvs (rows.map rowD) ∧ (∀ x ∈ rows, 0 ≤ x.1 ∧ x.1 ≤ 40 ∧ 1 ≤ x.2) ∧ (∀ p ∈ tl, @LT.lt Nat _ rl p.1)
theorem News.sub {h₀ h : Heap} {L : Addr} {l l' : List (Addr × Obj)} (N : News h₀ L h l) (H : ∀ q ∈ l', q ∈ l) : News h₀ L h l' := fun q hq => N q (H q hq)
theorem num_cases (v : Int) : (1 ≤ v - 20 ∧ v - 20 ≤ 255) ∨ ¬ (1 ≤ v - 20 ∧ v - 20 ≤ 255) := Classical.em _
theorem code_bnd {v k : Int} (h0 : 0 ≤ v) (h1 : v < 40) (k0 : 0 ≤ k) (k1 : k < 2) : 0 ≤ [0, 1 + v].getD k.toNat 0 ∧ [0, 1 + v].getD k.toNat 0 ≤ 40 := by
  rcases (by omega : k = 0 ∨ k = 1) with rfl | rfl
  · show 0 ≤ (0 : Int) ∧ (0 : Int) ≤ 40
    decide
  · show 0 ≤ 1 + v ∧ 1 + v ≤ 40
    omega
theorem many_bnd {k : Int} (k0 : 0 ≤ k) (k1 : k < 4) : 1 ≤ ([1, 2, 3, 99] : List Int).getD k.toNat 0 := by
  rcases (by omega : k = 0 ∨ k = 1 ∨ k = 2 ∨ k = 3) with rfl | rfl | rfl | rfl <;> decide
theorem RSt.close {h₀ h : Heap} {L fe ce rl I T : Addr} {cvs : List Value} {cn : Nat} {o3 o2 o1 o : Obj} {i : Nat} {m : Str → Option Value} {l tl : List (Addr × Obj)} {s : Shared} {tk : Nat}
    {tv : Int} {t t1 t2 : Tok} {fn rn nn : Nat} {rvs : List Value} {rows : List (Int × Int)} {code many : Int}
    (F : Fr h₀ L h m) (N : News h₀ L h l) (hI : (I, o) ∈ l) (q1 : (rl, listOf (rvs ++ [Value.ref T]).toArray rn) ∈ l) (q2 : (fe, listOf [Value.ref ce, Value.int tv t].toArray fn) ∈ l) (q3 : (ce, listOf cvs.toArray cn) ∈ l)
    (q4 : (L + 1 + 1 + 1, o3) ∈ l) (q5 : (L + 1 + 1, o2) ∈ l) (q6 : (L + 1, o1) ∈ l) (q7 : (166, tabObj #[]) ∈ l) (q8 : (159, tabObj #[]) ∈ l) (q9 : (185, tabObj #[]) ∈ l)
    (hT : (T, ({ cls := .type "tuple", data := .seq #[.int code t1, .int many t2] nn } : Obj)) ∈ l) (htl : ∀ p ∈ tl, p ∈ l)
    (mf : m (Str.ofString "feed") = some (.ref fe)) (mr : m (Str.ofString "rows") = some (.ref rl)) (htv : tv = 1 + 3 * ((i : Int) + 1)) (hrl : rows.length = i) (hD : DatAll tl rvs (rows.map rowD)) (hrow : ∀ x ∈ rows, 0 ≤ x.1 ∧ x.1 ≤ 40 ∧ 1 ≤ x.2)
    (hc : 0 ≤ code ∧ code ≤ 40) (hm : 1 ≤ many) (htl2 : ∀ p ∈ tl, @LT.lt Nat _ rl p.1) (hT2 : @LT.lt Nat _ rl T) (hTI : ¬ @Eq Nat T I)
    (i1 : ¬ @Eq Nat rl I) (i2 : ¬ @Eq Nat fe I) (i3 : ¬ @Eq Nat ce I) (i4 : ¬ @Eq Nat (L + 1 + 1 + 1) I) (i5 : ¬ @Eq Nat (L + 1 + 1) I) (i6 : ¬ @Eq Nat (L + 1) I) (i7 : ¬ @Eq Nat 166 I) (i8 : ¬ @Eq Nat 159 I) (i9 : ¬ @Eq Nat 185 I) (i10 : ∀ p ∈ tl, p.1 ≠ I) :
    TurnPost h₀ L s I o i (fun i m nx => RSt L fe ce rl cvs cn o3 o2 o1 i m nx) .next { s with heap := h, toks := tk } := by
  refine ⟨rfl, h, tk, m, _, rfl, F, ?_, ?_, tv, t, fn, rvs ++ [Value.ref T], rn, rows ++ [(code, many)], (T, ({ cls := .type "tuple", data := .seq #[.int code t1, .int many t2] nn } : Obj)) :: tl, rfl, mf, mr, ?_, ?_, ?_, ?_, ?_⟩
  · intro q hq
    refine N q ?_
    simp only [List.mem_cons] at hq
    rcases hq with rfl | rfl | rfl | rfl | rfl | rfl | rfl | rfl | rfl | rfl | rfl | hq
    all_goals first | assumption | exact htl _ hq
  · simp only [List.forall_mem_cons]
    exact ⟨i1, i2, i3, i4, i5, i6, i7, i8, i9, hTI, i10⟩
  · rw [htv]; push_cast; rfl
  · rw [List.length_append, hrl]; rfl
  · rw [List.map_append]
    refine DatAll.append (hD.mono fun p hp => .tail _ hp) (.one ?_)
    exact .tuple (vs := [.int code t1, .int many t2]) (.head _) (.cons (.int _ _) (.cons (.int _ _) .nil))
  · intro x hx
    rcases List.mem_append.mp hx with hx | hx
    · exact hrow x hx
    · rw [List.mem_singleton.mp hx]
      exact ⟨hc.1, hc.2, hm⟩
  · intro p hp
    rcases List.mem_cons.mp hp with rfl | hp
    · exact hT2
    · exact htl2 p hp
section
local macro_rules | `(tactic| walk_at "call ref") => `(tactic| (k_here; (with_reducible show wpAny _ _ (call (Value.ref 157) [_, _] []) _ _ _); k_dflt (refine' next_ok ?k1 ?k2 ?k3 ?k4 ?k5 ?k6 ?U ?hm ?hne ?hI ?hc ?t0 ?t1 ?m0 ?m1 ?k7 ?k8 ?_; walk_at "p8"; (case U => k_updF); (case hm => k_mem); (case hne => k_ne); (case hI => assumption); (case hc => ((simp only [List.length_take]); omega)); (case t0 => omega); (case t1 => omega); (case m0 => decide); (case m1 => decide); k_whole; intro v' t' t2' h' tk' hv0' hv1' F' N'; (try dsimp only at N'); (try k_sweep))))
local macro_rules | `(tactic| walk_at "exec For Name Call cons nil") => `(tactic| (k_here; refine Hold.out ?_))
local macro_rules | `(tactic| walk_at "pyIter ref") => `(tactic| (k_here; refine Hold.out ?_))
local macro_rules | `(tactic| walk_at "call ref") => `(tactic| (k_here; (with_reducible show wpAny _ _ (call (Value.ref 164) [_, _, _, _] []) _ _ _); refine Hold.out ?_))
local macro_rules | `(tactic| walk_at "call ref") => `(tactic| (k_here; (with_reducible show wpAny _ _ (call (Value.ref 183) [_, _, _, _] []) _ _ _); refine Hold.out ?_))
local macro_rules | `(tactic| walk_at "call ref") => `(tactic| (k_here; (with_reducible show wpAny _ _ (call (Value.ref 107) [_, _, _] []) _ _ _); refine Hold.out ?_))
local macro_rules | `(tactic| walk_at "call ref") => `(tactic| (k_here; (with_reducible show wpAny _ _ (call (Value.ref 86) [_, _] []) _ _ _); refine Hold.out ?_))
local macro_rules | `(tactic| walk_at "binaryOp Mult ref int") => `(tactic| (k_here; k_dflt (refine' mul_one ?k1 ?k2 ?k3 ?_; (case k1 | k2 => k_asm); (case k3 => k_mem); k_whole; intro D' h' F' N' l1; (try k_lt l1); (try k_sweep))))
local macro_rules | `(tactic| walk_at "binaryOp Add ref ref") => `(tactic| (k_here; k_dflt (refine' cat_nones ?k1 ?k2 ?k3 ?k4 ?k5 ?k6 ?_; (case k1 | k2 => k_asm); (case k5 => assumption); (case k3 => k_mem); (case k4 => k_mem); (case k6 => omega); k_whole; intro D' h' F' N' l1; (try k_lt l1); (try k_sweep))))
local macro_rules | `(tactic| walk_at "subscriptTail") => `(tactic| (k_here; (with_reducible rename HoldIf => hm); refine Hold.out ?_))
local macro_rules | `(tactic| walk_at "call type:range") => `(tactic| (k_here; k_dflt (refine' range1_rows ?k1 ?k2 ?_; (case k1 | k2 => k_asm); k_whole; intro _ _ _ _ _ _ _ _ _)))
set_option maxHeartbeats 8000000 in
theorem law_holds : PySem.Challenge.rw_pc0002_01.Holds := Mine.hd (by
  k_go0
  repeat' (first | (k_unfold; (try dsimp only)) | (k_end; wrow_close) | walk1 | (dsimp only; walk1) | (leave1; walk_say "STEP leave1"; try dsimp only) | fail "no step")
  refine Hold.mk ?_
  rename_i wW s0 s1 mg mb G Y fa oo pm doc ho hg Xm V T0 Bt TE TW hcd wl hs hlay0 hL0 hr0 hl2 wa1 wa2 sl svs wa3 hLs ra w1 r0 hI hr2 hc1 hc2 hD h1 tk1 o3 o2 o1 d3 d2 d1 X0 XB TB KB c170 c163 l166 l159 l185 ce cvs h2 hCI hCl hCl2 a1 a2 a3 a4 a5 a6 fe h3 b1 b2 b3 b4 b5 b6 b7 rl h4 c1 c2 c3 c4 c5 c6 c7 c8 tp h5 e1 e2 e3 e4 e5 e6 e7 e8 e9 h6 h7 h8 F1 N1
  generalize ghostOf s1.heap [(170, 166), (163, 159), (189, 185)] = base at *
  generalize s1.heap.objs.size = L0 at *
  have u1 : @LT.lt Nat _ (L0 + 1) (L0 + 1 + 1) := by omega
  have u2 : @LT.lt Nat _ (L0 + 1) (L0 + 1 + 1 + 1) := by omega
  have u3 : @LT.lt Nat _ (L0 + 1 + 1) (L0 + 1 + 1 + 1) := by omega
  have u1661 : @LT.lt Nat _ 166 (L0 + 1) := by omega
  have u1662 : @LT.lt Nat _ 166 (L0 + 1 + 1) := by omega
  have u1663 : @LT.lt Nat _ 166 (L0 + 1 + 1 + 1) := by omega
  have u1591 : @LT.lt Nat _ 159 (L0 + 1) := by omega
  have u1592 : @LT.lt Nat _ 159 (L0 + 1 + 1) := by omega
  have u1593 : @LT.lt Nat _ 159 (L0 + 1 + 1 + 1) := by omega
  have u1851 : @LT.lt Nat _ 185 (L0 + 1) := by omega
  have u1852 : @LT.lt Nat _ 185 (L0 + 1 + 1) := by omega
  have u1853 : @LT.lt Nat _ 185 (L0 + 1 + 1 + 1) := by omega
  refine' wpAny_mono (Q := fun f s' => Hold (f = .next ∧ ∃ h tk m nx n, s' = {heap := h, gens := s1.gens, drawn := s1.drawn, toks := tk, os := s1.os} ∧ Fr base L0 h m ∧ News base L0 h nx ∧ 1 ≤ n ∧ n ≤ 6 ∧ RSt L0 fe ce rl cvs 0 o3 o2 o1 n m nx)) ?seg ?rest (fun _ _ h => h)
  case rest =>
    (try clear F1)
    (try clear N1)
    rintro f s2 ⟨rfl, h, tk, m, nx, n, rfl, F, N, hn1, hn6, tv, tt, fn, rvs, rn, rows, tl, rfl, mf, mr, htv, hrl, hD2, hrow, htl⟩
    dsimp only
    k_steps
    refine Hold.mk ?_
    rename News _ _ _ _ => N3
    rename_i vh ta tb h20 k20 vh0 vh1 th vw tc td h21 k21 vw0 vw1 vg te tf h22 k22 vg0 vg1 tp2 h23 f1 f2 f3 f4 f5 f6 f7 f8 f9 f10 f11 h24 h25 h26 h27 F3
    have N4 : News base L0 h27 ((166, tabObj #[]) :: (159, tabObj #[]) :: ((rl, listOf rvs.toArray rn) :: (fe, listOf [Value.ref ce, Value.int (tv + 1 + 1 + 1) te].toArray fn) :: (ce, listOf cvs.toArray 0) :: (L0 + 1 + 1 + 1, o3) :: (L0 + 1 + 1, o2) :: (L0 + 1, o1) :: (185, tabObj #[]) :: tl)) := News.sub N3 (by intro q hq; simp only [List.mem_cons, List.mem_append] at hq; rcases hq with rfl | rfl | rfl | rfl | rfl | rfl | rfl | rfl | rfl | hq; all_goals k_mem)
    k_dflt (refine' walk_ok (outer := []) (rows := rows) (news := ((rl, listOf rvs.toArray rn) :: (fe, listOf [Value.ref ce, Value.int (tv + 1 + 1 + 1) te].toArray fn) :: (ce, listOf cvs.toArray 0) :: (L0 + 1 + 1 + 1, o3) :: (L0 + 1 + 1, o2) :: (L0 + 1, o1) :: (185, tabObj #[]) :: tl)) ?k1 ?k2 ?k3 N4 ?k5 ?k6 ?k7 ?k8 ?k9 ?k10 ?k11 ?hrl ?hg0 ?hg1 ?hw0 ?hw1 ?hrow ?ap1 ?ap2 ?hr ?hD ?cb1 ?cb2 ?ret)
    case k1 => k_asm
    case k2 => k_asm
    case k3 => k_asm
    case k5 => k_asm
    case k6 => assumption
    case k7 => assumption
    case k8 => exact fun b hb => nomatch hb
    case k9 => first | rfl | assumption
    case k10 => decide
    case k11 => ktr_units
    case hrl => omega
    case hg0 => assumption
    case hg1 => omega
    case hw0 => assumption
    case hw1 => omega
    case hrow => exact fun x hx => ⟨(hrow x hx).1, (hrow x hx).2.1⟩
    case ap1 => k_all
    case ap2 => k_all
    case hr => k_mem
    case hD => exact hD2.mono fun p hp => by k_mem
    case cb1 => exact c170
    case cb2 => exact c163
    case ret =>
      (try clear F3)
      clear N3 N4
      intro g1 rv1 tw ps1 ps2 h30 k30 T1 F4 N4 B4 X4 P4 D4 DW
      dsimp only
      k_steps
      refine Hold.mk ?_
      k_dflt (refine' plain_ok (outer := []) (rows := rows) (news := (166, tabObj ps1) :: (159, tabObj ps2) :: (tw ++ ((rl, listOf rvs.toArray rn) :: (fe, listOf [Value.ref ce, Value.int (tv + 1 + 1 + 1) te].toArray fn) :: (ce, listOf cvs.toArray 0) :: (L0 + 1 + 1 + 1, o3) :: (L0 + 1 + 1, o2) :: (L0 + 1, o1) :: (185, tabObj #[]) :: tl))) ?k1 ?k2 ?k3 ?k4 ?k5 ?k9 ?k10 ?k11 ?hrl ?hg0 ?hg1 ?hw0 ?hw1 ?hrow ?hr ?hD ?ret)
      case k1 => k_asm
      case k2 => k_asm
      case k3 => k_asm
      case k4 => k_asm
      case k5 => k_asm
      case k9 => first | rfl | assumption
      case k10 => decide
      case k11 => ktr_units
      case hrl => omega
      case hg0 => assumption
      case hg1 => omega
      case hw0 => assumption
      case hw1 => omega
      case hrow => exact fun x hx => ⟨(hrow x hx).1, (hrow x hx).2.1⟩
      case hr => exact List.mem_cons_of_mem _ (List.mem_cons_of_mem _ (List.mem_append_right _ (by k_mem)))
      case hD => exact hD2.mono fun p hp => List.mem_cons_of_mem _ (List.mem_cons_of_mem _ (List.mem_append_right _ (by k_mem)))
      case ret =>
        intro rv2 tq h40 k40 F5 N5 DP
        dsimp only
        rw [walks_agree (by assumption) fun x hx => (hrow x hx).2.2] at DW
        k_dflt (refine' ne_same N5 DW ?sa DP ?sb ?ok ?un ?go)
        case sa => exact fun p hp => List.mem_append_right _ (List.mem_cons_of_mem _ (List.mem_cons_of_mem _ (List.mem_append_left _ hp)))
        case sb => exact fun p hp => List.mem_append_left _ hp
        case ok => (rw [← walks_agree (by assumption) fun x hx => (hrow x hx).2.2]; exact walkGo_ok _ _ _ _ _ _ _ _ _ (fun _ h => absurd h List.not_mem_nil))
        case un => ktr_units
        case go =>
          have N6 : News g1 L0 h40 ((166, tabObj ps1) :: (159, tabObj ps2) :: ((rl, listOf rvs.toArray rn) :: (fe, listOf [Value.ref ce, Value.int (tv + 1 + 1 + 1) te].toArray fn) :: (ce, listOf cvs.toArray 0) :: (L0 + 1 + 1 + 1, o3) :: (L0 + 1 + 1, o2) :: (L0 + 1, o1) :: (185, tabObj #[]) :: tl)) := News.sub N5 (by
            intro q hq
            refine List.mem_append_right _ ?_
            rcases List.mem_cons.mp hq with rfl | hq
            · exact List.mem_cons_self
            rcases List.mem_cons.mp hq with rfl | hq
            · exact List.mem_cons_of_mem _ List.mem_cons_self
            exact List.mem_cons_of_mem _ (List.mem_cons_of_mem _ (List.mem_append_right _ hq)))
          clear N4 N5 F4 DW DP
          k_steps
          refine Hold.mk ?_
          rename_i x1 dx1 es1 n1 hh1 kk1 W1 l01 l02 l03 l04 l05 l06 l07 l08 l09 la1 lb1 v6 s1a s1b hh2 kk2 v60 v61 v5 s2a s2b hh3 kk3 v50 v51 D5 hh4 m01 m02 m03 m04 m05 m06 m07 m08 m09 m10 m11 la2 hh5 hh6 ow dw hh7 on dn hh8 om F8 N8 dm f9 c9 oc9 vs9 t9 ct9 hh9 kk9 F9 N9 d19 d29 n01 n02 n03 n04 n05 n06 n07 n08 n09 n10 n11 n12 la3 lb3
          k_dflt (refine' law_code_same (R := fun c => c = Str.ofString "RW") ?k1 ?k2 ?k3 ?k4 ?k5 ?k6 ?k7 ?k8 ?k9 ?k10 ?k11 ?k12  ?hdeed ?hret)
          case k1 => k_asm
          case k2 => k_asm
          case k3 => k_asm
          case k4 => k_asm
          case k5 => k_asm
          case k6 => assumption
          case k7 => assumption
          case k8 => assumption
          case k9 => first | rfl | assumption
          case k10 => decide
          case k11 => ktr_units
          case k12 => exact ⟨_, _, _, _, by k_mem⟩
          case hdeed =>
            intro cn' cs' a' ccd' g' L' h' m' tk' un' hk' hu' F' N' B' X' T'
            k_steps
            refine Hold.mk ?_
            k_dflt (refine' wpAny_mono (resume_raise ?k1 ?k2 ?k3 ?k4 ?k5 ?k6 ?k7 ?k8 ?e0 ?e1 ?e2) ?hq ?he)
            case k1 => k_asm
            case k2 => k_asm
            case k3 => k_asm
            case k4 => k_asm
            case k5 => k_asm
            case k6 => first | rfl | assumption
            case k7 => first | decide | ((simp only [depth_under_make, depth_under_kw, depth_in1, depth_deeper, depth_caller]); first | decide | omega)
            case k8 => ktr_units
            case e0 => k_mem
            case e1 => k_mem
            case e2 => assumption
            case hq => intro v s1 h; exact h.elim
            case he =>
              intro v s1 H
              (try k_unfold)
              (try dsimp only)
              refine' lam_leave (by assumption) rfl (by assumption) (DeedE.at_ (H.imp ?_) rfl rfl rfl)
              rintro news1 c ⟨rfl, rfl⟩
              refine' ⟨_, ?mem, rfl, rfl⟩
              case mem => (intro q hq; first | exact List.mem_cons_of_mem _ (List.mem_cons_of_mem _ hq) | exact List.mem_cons_of_mem _ (List.mem_cons_of_mem _ (List.mem_cons_of_mem _ hq)))
          case hret =>
            intro h₀' c t h' tk' hR T1 F1 N1 B1 X1 P1 D1
            subst hR
            clear F8 N8 F9 N9
            k_steps
            refine Hold.mk ?_
            rcases num_cases v6 with hn | hn
            · k_dflt (refine' law_code_same (R := fun c => c = codeOf (v6 - 20)) ?k1 ?k2 ?k3 ?k4 ?k5 ?k6 ?k7 ?k8 ?k9 ?k10 ?k11 ?k12  ?hdeed ?hret)
              case k1 => k_asm
              case k2 => k_asm
              case k3 => k_asm
              case k4 => k_asm
              case k5 => k_asm
              case k6 => assumption
              case k7 => assumption
              case k8 => assumption
              case k9 => first | rfl | assumption
              case k10 => decide
              case k11 => ktr_units
              case k12 => exact ⟨_, _, _, _, by k_mem⟩
              case hdeed =>
                intro cn' cs' a' ccd' g' L' h' m' tk' un' hk' hu' F' N' B' X' T'
                k_steps
                refine Hold.mk ?_
                k_dflt (refine' wpAny_mono (raise_told_ok ?k1 ?k2 ?k3 ?k4 ?k5 ?k6 ?k7 ?k8 ?e0 ?e1) ?hq ?he)
                case k1 => k_asm
                case k2 => k_asm
                case k3 => k_asm
                case k4 => k_asm
                case k5 => k_asm
                case k6 => first | rfl | assumption
                case k7 => first | decide | ((simp only [depth_under_make, depth_under_kw, depth_in1, depth_deeper, depth_caller]); first | decide | omega)
                case k8 => ktr_units
                case e0 => exact hn.1
                case e1 => exact hn.2
                case hq => intro v s1 h; exact h.elim
                case he =>
                  intro v s1 H
                  (try k_unfold)
                  (try dsimp only)
                  refine' lam_leave (by assumption) rfl (by assumption) (DeedE.at_ (H.imp ?_) rfl rfl rfl)
                  rintro news1 c ⟨rfl, rfl⟩
                  exact ⟨_, fun _ hq => hq, rfl, rfl⟩
              case hret =>
                intro h₀' c t h' tk' hR T1 F1 N1 B1 X1 P1 D1
                subst hR
                k_steps
                · exact absurd (by assumption : (_ != _) = true) (by rw [bne_self_eq_false]; decide)
                · refine Hold.mk ?_
                  k_dflt (refine' chosen_ok ?k1 ?k2 ?k3 ?k4 ?k5 ?k6 ?k7 ?k8 ?h1 ?h2 ?r1 ?r2)
                  case k1 => k_asm
                  case k2 => k_asm
                  case k3 => k_asm
                  case k4 => k_asm
                  case k5 => k_asm
                  case k6 => first | rfl | assumption
                  case k7 => first | decide | ((simp only [depth_under_make, depth_under_kw, depth_in1, depth_deeper, depth_caller]); first | decide | omega)
                  case k8 => ktr_units
                  case h1 => omega
                  case h2 => omega
                  case r1 =>
                    intro t h' tk' hA hB F' N'
                    have hmark : HoldIf := trivial
                    k_steps
                    all_goals first | (exfalso; omega) | skip
                    all_goals (
                      refine Hold.mk ?_
                      (rename HoldIf => hz; clear hz)
                      k_dflt (refine' pick ?N ?hm ?hi ?h0 ?h1 ?hn ?hA ?hB ?hs)
                      case N => k_asm
                      case hm => k_mem
                      case hi => assumption
                      case h0 => omega
                      case h1 => omega
                      case hn => omega
                      case hs => with_unfolding_all rfl
                      case hA =>
                        intro t9 hk
                        first
                        | (exfalso; omega)
                        | skip
                        all_goals (
                          k_steps
                          refine' good_law ?gb ?gB ?gF ?gg ?go
                          case gF => k_asm
                          case gB => assumption
                          case gb => first | exact beq_self_eq_true _ | rfl | simp
                          case gg => assumption
                          case go => rfl)
                      case hB =>
                        intro hk
                        first
                        | (exfalso; omega)
                        | skip
                        all_goals (
                          k_steps
                          refine' good_law ?gb ?gB ?gF ?gg ?go
                          case gF => k_asm
                          case gB => assumption
                          case gb => first | exact beq_self_eq_true _ | rfl | simp
                          case gg => assumption
                          case go => rfl))
                  case r2 =>
                    intro h' tk' hA F' N'
                    have hmark : HoldIf := trivial
                    k_steps
                    all_goals first | (exfalso; omega) | skip
                    all_goals (
                      refine Hold.mk ?_
                      (rename HoldIf => hz; clear hz)
                      k_dflt (refine' pick ?N ?hm ?hi ?h0 ?h1 ?hn ?hA ?hB ?hs)
                      case N => k_asm
                      case hm => k_mem
                      case hi => assumption
                      case h0 => omega
                      case h1 => omega
                      case hn => omega
                      case hs => with_unfolding_all rfl
                      case hA =>
                        intro t9 hk
                        first
                        | (exfalso; omega)
                        | skip
                        all_goals (
                          k_steps
                          refine' good_law ?gb ?gB ?gF ?gg ?go
                          case gF => k_asm
                          case gB => assumption
                          case gb => first | exact beq_self_eq_true _ | rfl | simp
                          case gg => assumption
                          case go => rfl)
                      case hB =>
                        intro hk
                        first
                        | (exfalso; omega)
                        | skip
                        all_goals (
                          k_steps
                          refine' good_law ?gb ?gB ?gF ?gg ?go
                          case gF => k_asm
                          case gB => assumption
                          case gb => first | exact beq_self_eq_true _ | rfl | simp
                          case gg => assumption
                          case go => rfl))
            · k_dflt (refine' law_code_same (R := fun c => c = Str.ofString "FC") ?k1 ?k2 ?k3 ?k4 ?k5 ?k6 ?k7 ?k8 ?k9 ?k10 ?k11 ?k12  ?hdeed ?hret)
              case k1 => k_asm
              case k2 => k_asm
              case k3 => k_asm
              case k4 => k_asm
              case k5 => k_asm
              case k6 => assumption
              case k7 => assumption
              case k8 => assumption
              case k9 => first | rfl | assumption
              case k10 => decide
              case k11 => ktr_units
              case k12 => exact ⟨_, _, _, _, by k_mem⟩
              case hdeed =>
                intro cn' cs' a' ccd' g' L' h' m' tk' un' hk' hu' F' N' B' X' T'
                k_steps
                refine Hold.mk ?_
                k_dflt (refine' wpAny_mono (raise_told_out ?k1 ?k2 ?k3 ?k4 ?k5 ?k6 ?k7 ?k8 ?e0) ?hq ?he)
                case k1 => k_asm
                case k2 => k_asm
                case k3 => k_asm
                case k4 => k_asm
                case k5 => k_asm
                case k6 => first | rfl | assumption
                case k7 => first | decide | ((simp only [depth_under_make, depth_under_kw, depth_in1, depth_deeper, depth_caller]); first | decide | omega)
                case k8 => ktr_units
                case e0 => exact hn
                case hq => intro v s1 h; exact h.elim
                case he =>
                  intro v s1 H
                  (try k_unfold)
                  (try dsimp only)
                  refine' lam_leave (by assumption) rfl (by assumption) (DeedE.at_ (H.imp ?_) rfl rfl rfl)
                  rintro news1 c ⟨rfl, rfl⟩
                  exact ⟨_, fun _ hq => hq, rfl, rfl⟩
              case hret =>
                intro h₀' c t h' tk' hR T1 F1 N1 B1 X1 P1 D1
                subst hR
                k_steps
                · refine Hold.mk ?_
                  k_dflt (refine' law_code_same (R := fun c => c = Str.ofString "FC") ?k1 ?k2 ?k3 ?k4 ?k5 ?k6 ?k7 ?k8 ?k9 ?k10 ?k11 ?k12  ?hdeed ?hret)
                  case k1 => k_asm
                  case k2 => k_asm
                  case k3 => k_asm
                  case k4 => k_asm
                  case k5 => k_asm
                  case k6 => assumption
                  case k7 => assumption
                  case k8 => assumption
                  case k9 => first | rfl | assumption
                  case k10 => decide
                  case k11 => ktr_units
                  case k12 => exact ⟨_, _, _, _, by k_mem⟩
                  case hdeed =>
                    intro cn' cs' a' ccd' g' L' h' m' tk' un' hk' hu' F' N' B' X' T'
                    k_steps
                    refine Hold.mk ?_
                    k_dflt (refine' wpAny_mono (chosen_raise ?k1 ?k2 ?k3 ?k4 ?k5 ?k6 ?k7 ?k8 ?e0) ?hq ?he)
                    case k1 => k_asm
                    case k2 => k_asm
                    case k3 => k_asm
                    case k4 => k_asm
                    case k5 => k_asm
                    case k6 => first | rfl | assumption
                    case k7 => first | decide | ((simp only [depth_under_make, depth_under_kw, depth_in1, depth_deeper, depth_caller]); first | decide | omega)
                    case k8 => ktr_units
                    case e0 => omega
                    case hq => intro v s1 h; exact h.elim
                    case he =>
                      intro v s1 H
                      (try k_unfold)
                      (try dsimp only)
                      refine' lam_leave (by assumption) rfl (by assumption) (DeedE.at_ (H.imp ?_) rfl rfl rfl)
                      rintro news1 c ⟨rfl, rfl⟩
                      exact ⟨_, fun _ hq => hq, rfl, rfl⟩
                  case hret =>
                    intro h₀' c t h' tk' hR T1 F1 N1 B1 X1 P1 D1
                    subst hR
                    k_steps
                    refine' good_law ?gb ?gB ?gF ?gg ?go
                    case gF => k_asm
                    case gB => assumption
                    case gb => first | exact beq_self_eq_true _ | rfl | simp
                    case gg => assumption
                    case go => rfl
                · refine Hold.mk ?_
                  k_dflt (refine' chosen_ok ?k1 ?k2 ?k3 ?k4 ?k5 ?k6 ?k7 ?k8 ?h1 ?h2 ?r1 ?r2)
                  case k1 => k_asm
                  case k2 => k_asm
                  case k3 => k_asm
                  case k4 => k_asm
                  case k5 => k_asm
                  case k6 => first | rfl | assumption
                  case k7 => first | decide | ((simp only [depth_under_make, depth_under_kw, depth_in1, depth_deeper, depth_caller]); first | decide | omega)
                  case k8 => ktr_units
                  case h1 => omega
                  case h2 => omega
                  case r1 =>
                    intro t h' tk' hA hB F' N'
                    have hmark : HoldIf := trivial
                    k_steps
                    all_goals first | (exfalso; omega) | skip
                    all_goals (
                      refine Hold.mk ?_
                      (rename HoldIf => hz; clear hz)
                      k_dflt (refine' pick ?N ?hm ?hi ?h0 ?h1 ?hn ?hA ?hB ?hs)
                      case N => k_asm
                      case hm => k_mem
                      case hi => assumption
                      case h0 => omega
                      case h1 => omega
                      case hn => omega
                      case hs => with_unfolding_all rfl
                      case hA =>
                        intro t9 hk
                        first
                        | (exfalso; omega)
                        | skip
                        all_goals (
                          k_steps
                          refine' good_law ?gb ?gB ?gF ?gg ?go
                          case gF => k_asm
                          case gB => assumption
                          case gb => first | exact beq_self_eq_true _ | rfl | simp
                          case gg => assumption
                          case go => rfl)
                      case hB =>
                        intro hk
                        first
                        | (exfalso; omega)
                        | skip
                        all_goals (
                          k_steps
                          refine' good_law ?gb ?gB ?gF ?gg ?go
                          case gF => k_asm
                          case gB => assumption
                          case gb => first | exact beq_self_eq_true _ | rfl | simp
                          case gg => assumption
                          case go => rfl))
                  case r2 =>
                    intro h' tk' hA F' N'
                    have hmark : HoldIf := trivial
                    k_steps
                    all_goals first | (exfalso; omega) | skip
                    all_goals (
                      refine Hold.mk ?_
                      (rename HoldIf => hz; clear hz)
                      k_dflt (refine' pick ?N ?hm ?hi ?h0 ?h1 ?hn ?hA ?hB ?hs)
                      case N => k_asm
                      case hm => k_mem
                      case hi => assumption
                      case h0 => omega
                      case h1 => omega
                      case hn => omega
                      case hs => with_unfolding_all rfl
                      case hA =>
                        intro t9 hk
                        first
                        | (exfalso; omega)
                        | skip
                        all_goals (
                          k_steps
                          refine' good_law ?gb ?gB ?gF ?gg ?go
                          case gF => k_asm
                          case gB => assumption
                          case gb => first | exact beq_self_eq_true _ | rfl | simp
                          case gg => assumption
                          case go => rfl)
                      case hB =>
                        intro hk
                        first
                        | (exfalso; omega)
                        | skip
                        all_goals (
                          k_steps
                          refine' good_law ?gb ?gB ?gF ?gg ?go
                          case gF => k_asm
                          case gB => assumption
                          case gb => first | exact beq_self_eq_true _ | rfl | simp
                          case gg => assumption
                          case go => rfl))
                · refine Hold.mk ?_
                  k_dflt (refine' law_code_same (R := fun c => c = Str.ofString "FC") ?k1 ?k2 ?k3 ?k4 ?k5 ?k6 ?k7 ?k8 ?k9 ?k10 ?k11 ?k12  ?hdeed ?hret)
                  case k1 => k_asm
                  case k2 => k_asm
                  case k3 => k_asm
                  case k4 => k_asm
                  case k5 => k_asm
                  case k6 => assumption
                  case k7 => assumption
                  case k8 => assumption
                  case k9 => first | rfl | assumption
                  case k10 => decide
                  case k11 => ktr_units
                  case k12 => exact ⟨_, _, _, _, by k_mem⟩
                  case hdeed =>
                    intro cn' cs' a' ccd' g' L' h' m' tk' un' hk' hu' F' N' B' X' T'
                    k_steps
                    refine Hold.mk ?_
                    k_dflt (refine' wpAny_mono (chosen_raise ?k1 ?k2 ?k3 ?k4 ?k5 ?k6 ?k7 ?k8 ?e0) ?hq ?he)
                    case k1 => k_asm
                    case k2 => k_asm
                    case k3 => k_asm
                    case k4 => k_asm
                    case k5 => k_asm
                    case k6 => first | rfl | assumption
                    case k7 => first | decide | ((simp only [depth_under_make, depth_under_kw, depth_in1, depth_deeper, depth_caller]); first | decide | omega)
                    case k8 => ktr_units
                    case e0 => omega
                    case hq => intro v s1 h; exact h.elim
                    case he =>
                      intro v s1 H
                      (try k_unfold)
                      (try dsimp only)
                      refine' lam_leave (by assumption) rfl (by assumption) (DeedE.at_ (H.imp ?_) rfl rfl rfl)
                      rintro news1 c ⟨rfl, rfl⟩
                      exact ⟨_, fun _ hq => hq, rfl, rfl⟩
                  case hret =>
                    intro h₀' c t h' tk' hR T1 F1 N1 B1 X1 P1 D1
                    subst hR
                    k_steps
                    refine' good_law ?gb ?gB ?gF ?gg ?go
                    case gF => k_asm
                    case gB => assumption
                    case gb => first | exact beq_self_eq_true _ | rfl | simp
                    case gg => assumption
                    case go => rfl
  case seg =>
    with_unfolding_all refine' For_invVF F1 ?k1 ?k2 ?_
    case k1 => exact rfl
    case k2 => exact rfl
    k_steps
    refine Hold.mk ?_
    rename_i v0 t0 t0b h9 tk9 hv0 hv1 F2 N2 h10 tk10 t10 u10 w10 R10 F10 N10 k10
    have N10' : News base L0 h10 _ := fun q hq => N10 q (List.mem_cons_of_mem _ hq)
    with_unfolding_all refine' loop_range (fun i m nx => RSt L0 fe ce rl cvs 0 o3 o2 o1 i m nx) ?hh R10 ?hsm ?hn F10 N10' ?hR ?turn ?done
    case hh => exact rfl
    case hsm => exact small_one (by omega) (by omega) (by omega) (by omega)
    case hn => exact rangeSize_nat _ _
    case hR =>
      exact ⟨0 + 1, _, 0, [], 0, [], [], rfl, by (first | exact if_pos rfl | decide +kernel | exact rfl), by (first | exact if_pos rfl | exact rfl), rfl, rfl, .nil, fun _ h => absurd h List.not_mem_nil, fun _ h => absurd h List.not_mem_nil⟩
    case done =>
      intro m1 nx h tk hJ F N
      exact ⟨rfl, h, tk, m1, nx, _, rfl, F, N, by omega, by omega, hJ⟩
    case turn =>
      (try clear F2); (try clear N2); (try clear F10); (try clear N10); (try clear R10); (try clear k10); (try clear N10')
      rintro i t m1 nx h tk I o hi hnI ⟨tv, tt, fn, rvs, rn, rows, tl, rfl, mf, mr, htv, hrl, hD, hrow, htl⟩ F1 N1
      simp only [List.forall_mem_cons] at hnI
      obtain ⟨i1, i2, i3, i4, i5, i6, i7, i8, i9, i10⟩ := hnI
      replace F1 : Fr base L0 h _ := F1
      replace N1 : News base L0 h _ := N1
      have hi6 : i < 6 := by omega
      have hnv := hD.length
      rw [List.length_map] at hnv
      replace i1 : ¬ @Eq Nat rl I := i1
      replace i2 : ¬ @Eq Nat fe I := i2
      replace i3 : ¬ @Eq Nat ce I := i3
      replace i4 : ¬ @Eq Nat (L0 + 1 + 1 + 1) I := i4
      replace i5 : ¬ @Eq Nat (L0 + 1 + 1) I := i5
      replace i6 : ¬ @Eq Nat (L0 + 1) I := i6
      replace i7 : ¬ @Eq Nat 166 I := i7
      replace i8 : ¬ @Eq Nat 159 I := i8
      replace i9 : ¬ @Eq Nat 185 I := i9
      dsimp only
      k_steps
      refine' RSt.close (tl := tl) (rows := rows) ?F ?N ?hI ?q1 ?q2 ?q3 ?q4 ?q5 ?q6 ?q7 ?q8 ?q9 ?hT ?htl ?mf ?mr ?htv hrl hD hrow ?hc ?hm htl ?hT2 ?hTI i1 i2 i3 i4 i5 i6 i7 i8 i9 i10
      case F => k_asm
      case N => k_asm
      case hI => k_mem
      case q1 => k_mem
      case q2 => k_mem
      case q3 => k_mem
      case q4 => k_mem
      case q5 => k_mem
      case q6 => k_mem
      case q7 => k_mem
      case q8 => k_mem
      case q9 => k_mem
      case hT => k_mem
      case htl => (intro p hp; k_mem)
      case mf => first | with_reducible assumption | exact if_pos rfl | exact (if_neg (by decide +kernel)).trans (by with_reducible assumption) | exact (if_neg (by decide +kernel)).trans (if_pos rfl) | exact (if_neg (by decide +kernel)).trans ((if_neg (by decide +kernel)).trans (by with_reducible assumption)) | exact (if_neg (by decide +kernel)).trans ((if_neg (by decide +kernel)).trans (if_pos rfl)) | exact (if_neg (by decide +kernel)).trans ((if_neg (by decide +kernel)).trans ((if_neg (by decide +kernel)).trans (by with_reducible assumption)))
      case mr => first | with_reducible assumption | exact if_pos rfl | exact (if_neg (by decide +kernel)).trans (by with_reducible assumption) | exact (if_neg (by decide +kernel)).trans (if_pos rfl) | exact (if_neg (by decide +kernel)).trans ((if_neg (by decide +kernel)).trans (by with_reducible assumption)) | exact (if_neg (by decide +kernel)).trans ((if_neg (by decide +kernel)).trans (if_pos rfl)) | exact (if_neg (by decide +kernel)).trans ((if_neg (by decide +kernel)).trans ((if_neg (by decide +kernel)).trans (by with_reducible assumption)))
      case htv => omega
      case hc => exact code_bnd (by assumption) (by assumption) (by assumption) (by assumption)
      case hm => exact many_bnd (by assumption) (by assumption)
      case hT2 => (show @LT.lt Nat _ _ _); assumption
      case hTI => omega
  )
end
end Mine
end
end
end
end
end
theorem PySem.Challenge.cw_pc0002_01_holds : PySem.Challenge.rw_pc0002_01.Holds := by
  exact Mine.law_holds
