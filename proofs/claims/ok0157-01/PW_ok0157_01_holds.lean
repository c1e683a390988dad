import PyProof.Rows.All
import Wide.All
import OpenK.AllK
import Wide.FinOn
import PySem.Challenge.RW_ok0157_01
open PySem PySem.W PyProof.Rows PySem.Calls
set_option Elab.async false
set_option maxRecDepth 100000
namespace Mine
set_option maxRecDepth 100000 in
set_option maxHeartbeats 8000000 in
open_top hd for PySem.Challenge.rw_ok0157_01
end Mine
namespace Mine
local macro_rules | `(tactic| k_mem) => `(tactic| first | with_reducible assumption | exact List.mem_cons_self | (refine List.mem_cons_of_mem _ ?_; k_mem) | (refine List.mem_append.mpr (.inl ?_); with_reducible assumption) | (refine List.mem_append.mpr (.inr ?_); k_mem))
local macro_rules | `(tactic| walk_at $s:str) => `(tactic| k_extra $s)
noncomputable abbrev TopR (mean : ExcName → Option Value) (mg mb : Str → Option Value) (h₀ : Heap) : Prop := Top hd.view_39 (looseW hd.view_39 []) mean mg mb h₀

/-- the order's dict -/
noncomputable abbrev ordD (h1 h2 h3 h4 : Int) (t1 t2 t3 t4 u1 u2 u3 u4 : Tok) (code jt jf k : Int) : Obj :=
  dictOf [⟨h1, .str (Str.ofString "code") t1, .int code u1⟩, ⟨h2, .str (Str.ofString "jt") t2, .int jt u2⟩, ⟨h3, .str (Str.ofString "jf") t3, .int jf u3⟩, ⟨h4, .str (Str.ofString "k") t4, .int k u4⟩] 4

/-- a contract of a def that reads and gives back one value; the ledger as it was -/
noncomputable abbrev Con (w : World) (f : Addr) (dep uni : Nat) (news : List (Addr × Obj)) (vs : List Value) (R : Value → Prop) : Prop :=
  ∀ (mean : ExcName → Option Value) (mg mb : Str → Option Value) (dp un : Nat) (gd : Option (List Code)) (cn : Str) (cs : Scope) (a : Addr) (ccd : Value) (cl : List (Str × Addr)) (outer : List Env) (A₀ : Around) (base h₀ : Heap) (L : Addr) (m : Str → Option Value) (s : Shared) (Q E : Value → Shared → Prop),
    Below A₀ base outer h₀ → Fr h₀ L s.heap m → (hd.heap_39 w.params).In h₀ → News h₀ L s.heap news → TopR mean mg mb h₀ → cs.kind = .function →
    dp + dep < recursionLimit → un + uni < cLine →
    (∀ (r : Value) (h' : Heap) (tk' : Nat), R r → Fr h₀ L h' m → News h₀ L h' news → Q r { s with heap := h', toks := tk' }) →
    wpAny (model PySem.Challenge.rw_ok0157_01.row.prog w) (ktrTop dp un gd cn cs L a ccd cl outer) (call (.ref f) vs) Q E s

theorem and7 (c : Int) : 0 ≤ Builtin.bitAnd c 7 ∧ Builtin.bitAnd c 7 < 8 := by
  have h := kbt_mask c 3
  have e : (2 : Int) ^ 3 - 1 = 7 := rfl
  rw [e] at h
  have e2 : (2 : Int) ^ 3 = 8 := rfl
  rw [h, e2]
  exact ⟨Int.emod_nonneg _ (by decide), Int.emod_lt_of_pos _ (by decide)⟩
theorem and7fit (c : Int) : Builtin.bitAnd c 7 < 2 ^ 63 := Int.lt_trans (and7 c).2 (by decide)
noncomputable def clsNames : List Str := [⟨#[108, 100]⟩, ⟨#[108, 100, 120]⟩, ⟨#[115, 116]⟩, ⟨#[115, 116, 120]⟩, ⟨#[97, 108, 117]⟩, ⟨#[106, 109, 112]⟩, ⟨#[114, 101, 116]⟩, ⟨#[109, 105, 115, 99]⟩]
noncomputable def className (code : Int) : Str := clsNames.getD (Builtin.bitAnd code 7).toNat PySem.Str.empty
theorem newsList {h₀ h : Heap} {L l : Addr} {news : List (Addr × Obj)} {vs : List Value} {n : Nat} (N : News h₀ L h news) (hm : (l, listOf vs.toArray n) ∈ news) : h.IsList l vs.toArray := ⟨_, (N _ hm).1, rfl, n, rfl⟩
noncomputable def modeNames : List Str := [⟨#[105, 109, 109]⟩, ⟨#[97, 98, 115]⟩, ⟨#[105, 110, 100]⟩, ⟨#[109, 101, 109]⟩, ⟨#[108, 101, 110]⟩, ⟨#[109, 115, 104]⟩]
theorem modeNames_words : Txt.words (Str.ofString "imm abs ind mem len msh") = modeNames := by decide +kernel
noncomputable def aluNames : List Str := [⟨#[97, 100, 100]⟩, ⟨#[115, 117, 98]⟩, ⟨#[109, 117, 108]⟩, ⟨#[100, 105, 118]⟩, ⟨#[111, 114]⟩, ⟨#[97, 110, 100]⟩, ⟨#[108, 115, 104]⟩, ⟨#[114, 115, 104]⟩, ⟨#[110, 101, 103]⟩, ⟨#[109, 111, 100]⟩, ⟨#[120, 111, 114]⟩]
theorem aluNames_words : Txt.words (Str.ofString "add sub mul div or and lsh rsh neg mod xor") = aluNames := by decide +kernel
noncomputable def jumpNames : List Str := [⟨#[106, 97]⟩, ⟨#[106, 101, 113]⟩, ⟨#[106, 103, 116]⟩, ⟨#[106, 103, 101]⟩, ⟨#[106, 115, 101, 116]⟩]
theorem jumpNames_words : Txt.words (Str.ofString "ja jeq jgt jge jset") = jumpNames := by decide +kernel
theorem and15 (c : Int) : 0 ≤ Builtin.bitAnd c 15 ∧ Builtin.bitAnd c 15 < 16 := by
  have h := kbt_mask c 4
  have e : (2 : Int) ^ 4 - 1 = 15 := rfl
  rw [e] at h
  have e2 : (2 : Int) ^ 4 = 16 := rfl
  rw [h, e2]
  exact ⟨Int.emod_nonneg _ (by decide), Int.emod_lt_of_pos _ (by decide)⟩
theorem and15fit (c : Int) : Builtin.bitAnd c 15 < 2 ^ 63 := Int.lt_trans (and15 c).2 (by decide)
noncomputable def modeName (code : Int) : Str := if Builtin.bitAnd (code.fdiv (2 ^ Int.toNat 5)) 7 < 6 then modeNames.getD (Builtin.bitAnd (code.fdiv (2 ^ Int.toNat 5)) 7).toNat PySem.Str.empty else Str.ofString ""
noncomputable def aluName (code : Int) : Str := if Builtin.bitAnd (code.fdiv (2 ^ Int.toNat 4)) 15 < 11 then aluNames.getD (Builtin.bitAnd (code.fdiv (2 ^ Int.toNat 4)) 15).toNat PySem.Str.empty else Str.ofString ""
noncomputable def jumpName (code : Int) : Str := if Builtin.bitAnd (code.fdiv (2 ^ Int.toNat 4)) 15 < 5 then jumpNames.getD (Builtin.bitAnd (code.fdiv (2 ^ Int.toNat 4)) 15).toNat PySem.Str.empty else Str.ofString ""
noncomputable def loadWidth (code : Int) : Int := if Builtin.bitAnd code 24 = 8 then 2 else if Builtin.bitAnd code 24 = 16 then 1 else 4
noncomputable def isByX (code : Int) : Bool := !decide (Builtin.bitAnd code 8 = 0)
noncomputable def isReturn (code : Int) : Bool := decide (Builtin.bitAnd code 7 = 6)
noncomputable def isReturnA (code : Int) : Bool := isReturn code && decide (Builtin.bitAnd code 24 = 16)
noncomputable def readCell (code k : Int) : Int := if (Builtin.bitAnd code 7 = 0 ∨ Builtin.bitAnd code 7 = 1) ∧ modeName code = Str.ofString "mem" then k else -1
noncomputable def writtenCell (code k : Int) : Int := if Builtin.bitAnd code 7 = 2 ∨ Builtin.bitAnd code 7 = 3 then k else -1
theorem rI {a b : Int} {t : Tok} (h : a = b) : ∃ t', Value.int a t = Value.int b t' := ⟨t, by rw [h]⟩
theorem rS {a b : Str} {t : Tok} (h : a = b) : ∃ t', Value.str a t = Value.str b t' := ⟨t, by rw [h]⟩
theorem rB {a b : Bool} (h : a = b) : Value.bool a = Value.bool b := by rw [h]
theorem clsNames_words : Txt.words (Str.ofString "ld ldx st stx alu jmp ret misc") = clsNames := by decide +kernel
section
variable {prog : Program} {w : World} {A : Around} {E : Value → Shared → Prop} {s : Shared} {h₀ : Heap} {L : Addr} {m : Str → Option Value} {news : List (Addr × Obj)} {x : Str} {t : Tok} {ws : List Str} {vs : List Value} {Q : Value → Shared → Prop}
theorem split_ws (hw : Txt.words x = ws) (hF : Fr h₀ L s.heap m) (hN : News h₀ L s.heap news)
    (h : ∀ D vs h' k, StrsAre vs ws → Fr h₀ L h' m → News h₀ L h' ((D, listOf vs.toArray 0) :: news) → Q (.ref D) { s with heap := h', toks := k }) (hsz : x.length + 2 ≤ sizeLine) :
    wpAny (model prog w) A (call (.builtin "str.split") [.str x t]) Q E s :=
  KSpl.split0 hF hN (fun D l h' k e a F N _ => h D (strValues l) h' k (by rw [← hw, ← e]; exact a) F N) hsz
theorem names_len {l : Addr} {c : Nat} {n : Int} (N : News h₀ L s.heap news) (hm : (l, listOf vs.toArray c) ∈ news) (a : StrsAre vs ws) (e : ((ws.length : Nat) : Int) = n) (hn : n < 100)
    (h : Q (.int n (s.toks + 1)) { s with toks := s.toks + 1 + 1 }) : wpAny (model prog w) A (call (.builtin "len") [.ref l]) Q E s :=
  kst_len (k := ws.length) N hm a.length (by omega) (by rw [e]; exact h)
end
theorem kText {k : Int} (h0 : 0 ≤ k) (h1 : k < 4294967296) : (Str.ofString (toString k)).length ≤ 10 := toString_length_le h0 (by decide) (by omega)
theorem getD_len {n : Nat} : ∀ {l : List Str} {i : Nat}, (∀ x ∈ l, x.length ≤ n) → (l.getD i PySem.Str.empty).length ≤ n
  | [], _, _ => Nat.zero_le _
  | a :: _, 0, h => h a (.head _)
  | _ :: r, i + 1, h => by rw [List.getD_cons_succ]; exact getD_len fun x hx => h x (.tail _ hx)
theorem aluLen (code : Int) : (aluName code).length ≤ 3 := by
  unfold aluName; split
  · exact getD_len (by decide)
  · decide
theorem jumpLen (code : Int) : (jumpName code).length ≤ 4 := by
  unfold jumpName; split
  · exact getD_len (by decide)
  · decide
set_option maxHeartbeats 4000000 in
theorem class_name_con {w : World} {news : List (Addr × Obj)} {x dx : Addr} {h1 h2 h3 h4 : Int} {t1 t2 t3 t4 u1 u2 u3 u4 : Tok} {code jt jf k : Int}
    (hx : (x, instObj 45 dx) ∈ news) (hdx : (dx, ordD h1 h2 h3 h4 t1 t2 t3 t4 u1 u2 u3 u4 code jt jf k) ∈ news) :
    Con w 56 1 8 news [.ref x] (fun r => ∃ t, r = .str (className code) t) := by
  unfold Con TopR
  w_top off
  k_fill
  k_with_none
  k_with "call builtin:str.split" => (k_here; (with_reducible show wpAny _ _ (call (Value.builtin "str.split") [Value.str (Str.ofString _) _]) _ _ _); k_dflt (refine' split_ws ?w ?F ?N ?_ ?z; (case w => first | with_reducible exact clsNames_words | with_reducible exact modeNames_words | with_reducible exact aluNames_words | with_reducible exact jumpNames_words); (case F => k_asm); (case N => k_asm); (case z => kspl_size)); intro D' vs' h' k' hA' F' N'; (try k_sweep))
  k_with "call builtin:len" => (k_here; (rename StrsAre _ _ => hA'); (with_reducible show wpAny _ _ (call (Value.builtin "len") [Value.ref _]) _ _ _); k_dflt (refine' names_len ?N ?m hA' ?e ?n ?_; (case N => k_asm); (case m => k_mem); (case e => first | exact (rfl : ((modeNames.length : Nat) : Int) = 6) | exact (rfl : ((aluNames.length : Nat) : Int) = 11) | exact (rfl : ((jumpNames.length : Nat) : Int) = 5)); (case n => decide)))
  k_with "subscriptTail" => (k_here; (rename StrsAre _ _ => hA'); (with_reducible show wpAny _ _ (subscriptTail _ _ (Value.ref _) (Value.int (Builtin.bitAnd _ _) _)) _ _ _); k_dflt (refine' KTb.item_list ?ktbl hA' ?kt0 ?kt1 ?kt2 ?_); (case ktbl => exact newsList (by k_asm) (by k_mem)); (case kt0 => first | exact (and7 _).1 | exact (and15 _).1); (case kt1 => first | exact (by assumption) | exact (and7 _).2); (case kt2 => first | exact and7fit _ | exact and15fit _); intro _ _)
  intro mean mg mb dp un gd cn cs a ccd cl outer A₀ base h₀ L m s Q E B F X N T hk hdp hun hret
  refine wpAny_call ?_
  k_dflt (refine' code_def (binds := [(Str.ofString "order", Value.ref x)]) ?k1 ?k2 ?k3 ?k4 ?k5 ?kA ?kF ?kK ?k6 ?k7 ?k8 ?k9 ?kB ?_ ?c2 ?c3 ?c4 ?c5; (case kA => exact rfl); (case kF => exact rfl); (case kK => assumption); (case k1 => k_asm); (case k2 => k_asm); (case k3 => k_asm); (case k4 => k_asm); (case k5 => k_asm); (case k6 => k_is); (case k7 => k_is); (case k8 => ktr_room); (case k9 => exact BindsTo.of_eq rfl); (case c5 => decide); (case kB => exact locs rfl); (case c2 => exact rfl); (case c3 => exact rfl); (case c4 => exact rfl); k_whole; intro g' L' h' FG' F' N' B' X' T'; (try dsimp only); (try k_lift B'); (try k_fold))
  k_steps
  all_goals (refine hret _ _ _ ?_ (by k_asm) (cb_drop (by k_asm) (by intro p hp; repeat (first | assumption | refine List.mem_cons_of_mem _ ?_))))
  all_goals first | exact ⟨_, rfl⟩ | rfl | (first | refine rI ?_ | refine rS ?_ | refine rB ?_); ((unfold className; repeat (first | rfl | rw [if_pos (by assumption)] | rw [if_neg (by assumption)])))
set_option maxHeartbeats 4000000 in
theorem mode_name_con {w : World} {news : List (Addr × Obj)} {x dx : Addr} {h1 h2 h3 h4 : Int} {t1 t2 t3 t4 u1 u2 u3 u4 : Tok} {code jt jf k : Int}
    (hx : (x, instObj 45 dx) ∈ news) (hdx : (dx, ordD h1 h2 h3 h4 t1 t2 t3 t4 u1 u2 u3 u4 code jt jf k) ∈ news) :
    Con w 63 1 8 news [.ref x] (fun r => ∃ t, r = .str (modeName code) t) := by
  unfold Con TopR
  w_top off
  k_fill
  k_with_none
  k_with "call builtin:str.split" => (k_here; (with_reducible show wpAny _ _ (call (Value.builtin "str.split") [Value.str (Str.ofString _) _]) _ _ _); k_dflt (refine' split_ws ?w ?F ?N ?_ ?z; (case w => first | with_reducible exact clsNames_words | with_reducible exact modeNames_words | with_reducible exact aluNames_words | with_reducible exact jumpNames_words); (case F => k_asm); (case N => k_asm); (case z => kspl_size)); intro D' vs' h' k' hA' F' N'; (try k_sweep))
  k_with "call builtin:len" => (k_here; (rename StrsAre _ _ => hA'); (with_reducible show wpAny _ _ (call (Value.builtin "len") [Value.ref _]) _ _ _); k_dflt (refine' names_len ?N ?m hA' ?e ?n ?_; (case N => k_asm); (case m => k_mem); (case e => first | exact (rfl : ((modeNames.length : Nat) : Int) = 6) | exact (rfl : ((aluNames.length : Nat) : Int) = 11) | exact (rfl : ((jumpNames.length : Nat) : Int) = 5)); (case n => decide)))
  k_with "subscriptTail" => (k_here; (rename StrsAre _ _ => hA'); (with_reducible show wpAny _ _ (subscriptTail _ _ (Value.ref _) (Value.int (Builtin.bitAnd _ _) _)) _ _ _); k_dflt (refine' KTb.item_list ?ktbl hA' ?kt0 ?kt1 ?kt2 ?_); (case ktbl => exact newsList (by k_asm) (by k_mem)); (case kt0 => first | exact (and7 _).1 | exact (and15 _).1); (case kt1 => first | exact (by assumption) | exact (and7 _).2); (case kt2 => first | exact and7fit _ | exact and15fit _); intro _ _)
  k_with "call ref" => (k_here; (with_reducible show wpAny _ _ (call (Value.ref 56) _) _ _ _); k_dflt (refine' class_name_con ?hx ?hdx  _ _ _ _ _ _ _ _ _ _ _ _ _ _ _ _ _ _ _ _ ?k1 ?k2 ?k3 ?k4 ?k5 ?kK ?kd ?ku ?_); (case k2 => k_asm); (case k4 => k_asm); (case hx => k_mem); (case hdx => k_mem); (case k1 => k_asm); (case k3 => k_asm); (case k5 => k_asm); (case kK => first | exact rfl | assumption); (case kd => ktr_room); (case ku => ktr_units); intro r9 h9 tk9 hr9 F9 N9; (obtain ⟨t9, e9⟩ := hr9; subst e9); (try dsimp only); (try k_fold))
  intro mean mg mb dp un gd cn cs a ccd cl outer A₀ base h₀ L m s Q E B F X N T hk hdp hun hret
  refine wpAny_call ?_
  k_dflt (refine' code_def (binds := [(Str.ofString "order", Value.ref x)]) ?k1 ?k2 ?k3 ?k4 ?k5 ?kA ?kF ?kK ?k6 ?k7 ?k8 ?k9 ?kB ?_ ?c2 ?c3 ?c4 ?c5; (case kA => exact rfl); (case kF => exact rfl); (case kK => assumption); (case k1 => k_asm); (case k2 => k_asm); (case k3 => k_asm); (case k4 => k_asm); (case k5 => k_asm); (case k6 => k_is); (case k7 => k_is); (case k8 => ktr_room); (case k9 => exact BindsTo.of_eq rfl); (case c5 => decide); (case kB => exact locs rfl); (case c2 => exact rfl); (case c3 => exact rfl); (case c4 => exact rfl); k_whole; intro g' L' h' FG' F' N' B' X' T'; (try dsimp only); (try k_lift B'); (try k_fold))
  k_steps
  all_goals (refine hret _ _ _ ?_ (by k_asm) (cb_drop (by k_asm) (by intro p hp; repeat (first | assumption | refine List.mem_cons_of_mem _ ?_))))
  all_goals first | exact ⟨_, rfl⟩ | rfl | (first | refine rI ?_ | refine rS ?_ | refine rB ?_); ((unfold modeName; repeat (first | rfl | rw [if_pos (by assumption)] | rw [if_neg (by assumption)])))
set_option maxHeartbeats 4000000 in
theorem alu_name_con {w : World} {news : List (Addr × Obj)} {x dx : Addr} {h1 h2 h3 h4 : Int} {t1 t2 t3 t4 u1 u2 u3 u4 : Tok} {code jt jf k : Int}
    (hx : (x, instObj 45 dx) ∈ news) (hdx : (dx, ordD h1 h2 h3 h4 t1 t2 t3 t4 u1 u2 u3 u4 code jt jf k) ∈ news) :
    Con w 77 1 8 news [.ref x] (fun r => ∃ t, r = .str (aluName code) t) := by
  unfold Con TopR
  w_top off
  k_fill
  k_with_none
  k_with "call builtin:str.split" => (k_here; (with_reducible show wpAny _ _ (call (Value.builtin "str.split") [Value.str (Str.ofString _) _]) _ _ _); k_dflt (refine' split_ws ?w ?F ?N ?_ ?z; (case w => first | with_reducible exact clsNames_words | with_reducible exact modeNames_words | with_reducible exact aluNames_words | with_reducible exact jumpNames_words); (case F => k_asm); (case N => k_asm); (case z => kspl_size)); intro D' vs' h' k' hA' F' N'; (try k_sweep))
  k_with "call builtin:len" => (k_here; (rename StrsAre _ _ => hA'); (with_reducible show wpAny _ _ (call (Value.builtin "len") [Value.ref _]) _ _ _); k_dflt (refine' names_len ?N ?m hA' ?e ?n ?_; (case N => k_asm); (case m => k_mem); (case e => first | exact (rfl : ((modeNames.length : Nat) : Int) = 6) | exact (rfl : ((aluNames.length : Nat) : Int) = 11) | exact (rfl : ((jumpNames.length : Nat) : Int) = 5)); (case n => decide)))
  k_with "subscriptTail" => (k_here; (rename StrsAre _ _ => hA'); (with_reducible show wpAny _ _ (subscriptTail _ _ (Value.ref _) (Value.int (Builtin.bitAnd _ _) _)) _ _ _); k_dflt (refine' KTb.item_list ?ktbl hA' ?kt0 ?kt1 ?kt2 ?_); (case ktbl => exact newsList (by k_asm) (by k_mem)); (case kt0 => first | exact (and7 _).1 | exact (and15 _).1); (case kt1 => first | exact (by assumption) | exact (and7 _).2); (case kt2 => first | exact and7fit _ | exact and15fit _); intro _ _)
  k_with "call ref" => (k_here; (with_reducible show wpAny _ _ (call (Value.ref 56) _) _ _ _); k_dflt (refine' class_name_con ?hx ?hdx  _ _ _ _ _ _ _ _ _ _ _ _ _ _ _ _ _ _ _ _ ?k1 ?k2 ?k3 ?k4 ?k5 ?kK ?kd ?ku ?_); (case k2 => k_asm); (case k4 => k_asm); (case hx => k_mem); (case hdx => k_mem); (case k1 => k_asm); (case k3 => k_asm); (case k5 => k_asm); (case kK => first | exact rfl | assumption); (case kd => ktr_room); (case ku => ktr_units); intro r9 h9 tk9 hr9 F9 N9; (obtain ⟨t9, e9⟩ := hr9; subst e9); (try dsimp only); (try k_fold))
  k_with "call ref" => (k_here; (with_reducible show wpAny _ _ (call (Value.ref 63) _) _ _ _); k_dflt (refine' mode_name_con ?hx ?hdx  _ _ _ _ _ _ _ _ _ _ _ _ _ _ _ _ _ _ _ _ ?k1 ?k2 ?k3 ?k4 ?k5 ?kK ?kd ?ku ?_); (case k2 => k_asm); (case k4 => k_asm); (case hx => k_mem); (case hdx => k_mem); (case k1 => k_asm); (case k3 => k_asm); (case k5 => k_asm); (case kK => first | exact rfl | assumption); (case kd => ktr_room); (case ku => ktr_units); intro r9 h9 tk9 hr9 F9 N9; (obtain ⟨t9, e9⟩ := hr9; subst e9); (try dsimp only); (try k_fold))
  intro mean mg mb dp un gd cn cs a ccd cl outer A₀ base h₀ L m s Q E B F X N T hk hdp hun hret
  refine wpAny_call ?_
  k_dflt (refine' code_def (binds := [(Str.ofString "order", Value.ref x)]) ?k1 ?k2 ?k3 ?k4 ?k5 ?kA ?kF ?kK ?k6 ?k7 ?k8 ?k9 ?kB ?_ ?c2 ?c3 ?c4 ?c5; (case kA => exact rfl); (case kF => exact rfl); (case kK => assumption); (case k1 => k_asm); (case k2 => k_asm); (case k3 => k_asm); (case k4 => k_asm); (case k5 => k_asm); (case k6 => k_is); (case k7 => k_is); (case k8 => ktr_room); (case k9 => exact BindsTo.of_eq rfl); (case c5 => decide); (case kB => exact locs rfl); (case c2 => exact rfl); (case c3 => exact rfl); (case c4 => exact rfl); k_whole; intro g' L' h' FG' F' N' B' X' T'; (try dsimp only); (try k_lift B'); (try k_fold))
  k_steps
  all_goals (refine hret _ _ _ ?_ (by k_asm) (cb_drop (by k_asm) (by intro p hp; repeat (first | assumption | refine List.mem_cons_of_mem _ ?_))))
  all_goals first | exact ⟨_, rfl⟩ | rfl | (first | refine rI ?_ | refine rS ?_ | refine rB ?_); ((unfold aluName; repeat (first | rfl | rw [if_pos (by assumption)] | rw [if_neg (by assumption)])))
set_option maxHeartbeats 4000000 in
theorem jump_name_con {w : World} {news : List (Addr × Obj)} {x dx : Addr} {h1 h2 h3 h4 : Int} {t1 t2 t3 t4 u1 u2 u3 u4 : Tok} {code jt jf k : Int}
    (hx : (x, instObj 45 dx) ∈ news) (hdx : (dx, ordD h1 h2 h3 h4 t1 t2 t3 t4 u1 u2 u3 u4 code jt jf k) ∈ news) :
    Con w 84 1 8 news [.ref x] (fun r => ∃ t, r = .str (jumpName code) t) := by
  unfold Con TopR
  w_top off
  k_fill
  k_with_none
  k_with "call builtin:str.split" => (k_here; (with_reducible show wpAny _ _ (call (Value.builtin "str.split") [Value.str (Str.ofString _) _]) _ _ _); k_dflt (refine' split_ws ?w ?F ?N ?_ ?z; (case w => first | with_reducible exact clsNames_words | with_reducible exact modeNames_words | with_reducible exact aluNames_words | with_reducible exact jumpNames_words); (case F => k_asm); (case N => k_asm); (case z => kspl_size)); intro D' vs' h' k' hA' F' N'; (try k_sweep))
  k_with "call builtin:len" => (k_here; (rename StrsAre _ _ => hA'); (with_reducible show wpAny _ _ (call (Value.builtin "len") [Value.ref _]) _ _ _); k_dflt (refine' names_len ?N ?m hA' ?e ?n ?_; (case N => k_asm); (case m => k_mem); (case e => first | exact (rfl : ((modeNames.length : Nat) : Int) = 6) | exact (rfl : ((aluNames.length : Nat) : Int) = 11) | exact (rfl : ((jumpNames.length : Nat) : Int) = 5)); (case n => decide)))
  k_with "subscriptTail" => (k_here; (rename StrsAre _ _ => hA'); (with_reducible show wpAny _ _ (subscriptTail _ _ (Value.ref _) (Value.int (Builtin.bitAnd _ _) _)) _ _ _); k_dflt (refine' KTb.item_list ?ktbl hA' ?kt0 ?kt1 ?kt2 ?_); (case ktbl => exact newsList (by k_asm) (by k_mem)); (case kt0 => first | exact (and7 _).1 | exact (and15 _).1); (case kt1 => first | exact (by assumption) | exact (and7 _).2); (case kt2 => first | exact and7fit _ | exact and15fit _); intro _ _)
  k_with "call ref" => (k_here; (with_reducible show wpAny _ _ (call (Value.ref 56) _) _ _ _); k_dflt (refine' class_name_con ?hx ?hdx  _ _ _ _ _ _ _ _ _ _ _ _ _ _ _ _ _ _ _ _ ?k1 ?k2 ?k3 ?k4 ?k5 ?kK ?kd ?ku ?_); (case k2 => k_asm); (case k4 => k_asm); (case hx => k_mem); (case hdx => k_mem); (case k1 => k_asm); (case k3 => k_asm); (case k5 => k_asm); (case kK => first | exact rfl | assumption); (case kd => ktr_room); (case ku => ktr_units); intro r9 h9 tk9 hr9 F9 N9; (obtain ⟨t9, e9⟩ := hr9; subst e9); (try dsimp only); (try k_fold))
  k_with "call ref" => (k_here; (with_reducible show wpAny _ _ (call (Value.ref 63) _) _ _ _); k_dflt (refine' mode_name_con ?hx ?hdx  _ _ _ _ _ _ _ _ _ _ _ _ _ _ _ _ _ _ _ _ ?k1 ?k2 ?k3 ?k4 ?k5 ?kK ?kd ?ku ?_); (case k2 => k_asm); (case k4 => k_asm); (case hx => k_mem); (case hdx => k_mem); (case k1 => k_asm); (case k3 => k_asm); (case k5 => k_asm); (case kK => first | exact rfl | assumption); (case kd => ktr_room); (case ku => ktr_units); intro r9 h9 tk9 hr9 F9 N9; (obtain ⟨t9, e9⟩ := hr9; subst e9); (try dsimp only); (try k_fold))
  k_with "call ref" => (k_here; (with_reducible show wpAny _ _ (call (Value.ref 77) _) _ _ _); k_dflt (refine' alu_name_con ?hx ?hdx  _ _ _ _ _ _ _ _ _ _ _ _ _ _ _ _ _ _ _ _ ?k1 ?k2 ?k3 ?k4 ?k5 ?kK ?kd ?ku ?_); (case k2 => k_asm); (case k4 => k_asm); (case hx => k_mem); (case hdx => k_mem); (case k1 => k_asm); (case k3 => k_asm); (case k5 => k_asm); (case kK => first | exact rfl | assumption); (case kd => ktr_room); (case ku => ktr_units); intro r9 h9 tk9 hr9 F9 N9; (obtain ⟨t9, e9⟩ := hr9; subst e9); (try dsimp only); (try k_fold))
  intro mean mg mb dp un gd cn cs a ccd cl outer A₀ base h₀ L m s Q E B F X N T hk hdp hun hret
  refine wpAny_call ?_
  k_dflt (refine' code_def (binds := [(Str.ofString "order", Value.ref x)]) ?k1 ?k2 ?k3 ?k4 ?k5 ?kA ?kF ?kK ?k6 ?k7 ?k8 ?k9 ?kB ?_ ?c2 ?c3 ?c4 ?c5; (case kA => exact rfl); (case kF => exact rfl); (case kK => assumption); (case k1 => k_asm); (case k2 => k_asm); (case k3 => k_asm); (case k4 => k_asm); (case k5 => k_asm); (case k6 => k_is); (case k7 => k_is); (case k8 => ktr_room); (case k9 => exact BindsTo.of_eq rfl); (case c5 => decide); (case kB => exact locs rfl); (case c2 => exact rfl); (case c3 => exact rfl); (case c4 => exact rfl); k_whole; intro g' L' h' FG' F' N' B' X' T'; (try dsimp only); (try k_lift B'); (try k_fold))
  k_steps
  all_goals (refine hret _ _ _ ?_ (by k_asm) (cb_drop (by k_asm) (by intro p hp; repeat (first | assumption | refine List.mem_cons_of_mem _ ?_))))
  all_goals first | exact ⟨_, rfl⟩ | rfl | (first | refine rI ?_ | refine rS ?_ | refine rB ?_); ((unfold jumpName; repeat (first | rfl | rw [if_pos (by assumption)] | rw [if_neg (by assumption)])))
set_option maxHeartbeats 4000000 in
theorem load_width_con {w : World} {news : List (Addr × Obj)} {x dx : Addr} {h1 h2 h3 h4 : Int} {t1 t2 t3 t4 u1 u2 u3 u4 : Tok} {code jt jf k : Int}
    (hx : (x, instObj 45 dx) ∈ news) (hdx : (dx, ordD h1 h2 h3 h4 t1 t2 t3 t4 u1 u2 u3 u4 code jt jf k) ∈ news) :
    Con w 70 1 8 news [.ref x] (fun r => ∃ t, r = .int (loadWidth code) t) := by
  unfold Con TopR
  w_top off
  k_fill
  k_with_none
  k_with "call builtin:str.split" => (k_here; (with_reducible show wpAny _ _ (call (Value.builtin "str.split") [Value.str (Str.ofString _) _]) _ _ _); k_dflt (refine' split_ws ?w ?F ?N ?_ ?z; (case w => first | with_reducible exact clsNames_words | with_reducible exact modeNames_words | with_reducible exact aluNames_words | with_reducible exact jumpNames_words); (case F => k_asm); (case N => k_asm); (case z => kspl_size)); intro D' vs' h' k' hA' F' N'; (try k_sweep))
  k_with "call builtin:len" => (k_here; (rename StrsAre _ _ => hA'); (with_reducible show wpAny _ _ (call (Value.builtin "len") [Value.ref _]) _ _ _); k_dflt (refine' names_len ?N ?m hA' ?e ?n ?_; (case N => k_asm); (case m => k_mem); (case e => first | exact (rfl : ((modeNames.length : Nat) : Int) = 6) | exact (rfl : ((aluNames.length : Nat) : Int) = 11) | exact (rfl : ((jumpNames.length : Nat) : Int) = 5)); (case n => decide)))
  k_with "subscriptTail" => (k_here; (rename StrsAre _ _ => hA'); (with_reducible show wpAny _ _ (subscriptTail _ _ (Value.ref _) (Value.int (Builtin.bitAnd _ _) _)) _ _ _); k_dflt (refine' KTb.item_list ?ktbl hA' ?kt0 ?kt1 ?kt2 ?_); (case ktbl => exact newsList (by k_asm) (by k_mem)); (case kt0 => first | exact (and7 _).1 | exact (and15 _).1); (case kt1 => first | exact (by assumption) | exact (and7 _).2); (case kt2 => first | exact and7fit _ | exact and15fit _); intro _ _)
  k_with "call ref" => (k_here; (with_reducible show wpAny _ _ (call (Value.ref 56) _) _ _ _); k_dflt (refine' class_name_con ?hx ?hdx  _ _ _ _ _ _ _ _ _ _ _ _ _ _ _ _ _ _ _ _ ?k1 ?k2 ?k3 ?k4 ?k5 ?kK ?kd ?ku ?_); (case k2 => k_asm); (case k4 => k_asm); (case hx => k_mem); (case hdx => k_mem); (case k1 => k_asm); (case k3 => k_asm); (case k5 => k_asm); (case kK => first | exact rfl | assumption); (case kd => ktr_room); (case ku => ktr_units); intro r9 h9 tk9 hr9 F9 N9; (obtain ⟨t9, e9⟩ := hr9; subst e9); (try dsimp only); (try k_fold))
  k_with "call ref" => (k_here; (with_reducible show wpAny _ _ (call (Value.ref 63) _) _ _ _); k_dflt (refine' mode_name_con ?hx ?hdx  _ _ _ _ _ _ _ _ _ _ _ _ _ _ _ _ _ _ _ _ ?k1 ?k2 ?k3 ?k4 ?k5 ?kK ?kd ?ku ?_); (case k2 => k_asm); (case k4 => k_asm); (case hx => k_mem); (case hdx => k_mem); (case k1 => k_asm); (case k3 => k_asm); (case k5 => k_asm); (case kK => first | exact rfl | assumption); (case kd => ktr_room); (case ku => ktr_units); intro r9 h9 tk9 hr9 F9 N9; (obtain ⟨t9, e9⟩ := hr9; subst e9); (try dsimp only); (try k_fold))
  k_with "call ref" => (k_here; (with_reducible show wpAny _ _ (call (Value.ref 77) _) _ _ _); k_dflt (refine' alu_name_con ?hx ?hdx  _ _ _ _ _ _ _ _ _ _ _ _ _ _ _ _ _ _ _ _ ?k1 ?k2 ?k3 ?k4 ?k5 ?kK ?kd ?ku ?_); (case k2 => k_asm); (case k4 => k_asm); (case hx => k_mem); (case hdx => k_mem); (case k1 => k_asm); (case k3 => k_asm); (case k5 => k_asm); (case kK => first | exact rfl | assumption); (case kd => ktr_room); (case ku => ktr_units); intro r9 h9 tk9 hr9 F9 N9; (obtain ⟨t9, e9⟩ := hr9; subst e9); (try dsimp only); (try k_fold))
  k_with "call ref" => (k_here; (with_reducible show wpAny _ _ (call (Value.ref 84) _) _ _ _); k_dflt (refine' jump_name_con ?hx ?hdx  _ _ _ _ _ _ _ _ _ _ _ _ _ _ _ _ _ _ _ _ ?k1 ?k2 ?k3 ?k4 ?k5 ?kK ?kd ?ku ?_); (case k2 => k_asm); (case k4 => k_asm); (case hx => k_mem); (case hdx => k_mem); (case k1 => k_asm); (case k3 => k_asm); (case k5 => k_asm); (case kK => first | exact rfl | assumption); (case kd => ktr_room); (case ku => ktr_units); intro r9 h9 tk9 hr9 F9 N9; (obtain ⟨t9, e9⟩ := hr9; subst e9); (try dsimp only); (try k_fold))
  intro mean mg mb dp un gd cn cs a ccd cl outer A₀ base h₀ L m s Q E B F X N T hk hdp hun hret
  refine wpAny_call ?_
  k_dflt (refine' code_def (binds := [(Str.ofString "order", Value.ref x)]) ?k1 ?k2 ?k3 ?k4 ?k5 ?kA ?kF ?kK ?k6 ?k7 ?k8 ?k9 ?kB ?_ ?c2 ?c3 ?c4 ?c5; (case kA => exact rfl); (case kF => exact rfl); (case kK => assumption); (case k1 => k_asm); (case k2 => k_asm); (case k3 => k_asm); (case k4 => k_asm); (case k5 => k_asm); (case k6 => k_is); (case k7 => k_is); (case k8 => ktr_room); (case k9 => exact BindsTo.of_eq rfl); (case c5 => decide); (case kB => exact locs rfl); (case c2 => exact rfl); (case c3 => exact rfl); (case c4 => exact rfl); k_whole; intro g' L' h' FG' F' N' B' X' T'; (try dsimp only); (try k_lift B'); (try k_fold))
  k_steps
  all_goals (refine hret _ _ _ ?_ (by k_asm) (cb_drop (by k_asm) (by intro p hp; repeat (first | assumption | refine List.mem_cons_of_mem _ ?_))))
  all_goals first | exact ⟨_, rfl⟩ | rfl | (first | refine rI ?_ | refine rS ?_ | refine rB ?_); ((unfold loadWidth; repeat (first | rfl | rw [if_pos (by assumption)] | rw [if_neg (by assumption)])))
set_option maxHeartbeats 4000000 in
theorem is_by_x_con {w : World} {news : List (Addr × Obj)} {x dx : Addr} {h1 h2 h3 h4 : Int} {t1 t2 t3 t4 u1 u2 u3 u4 : Tok} {code jt jf k : Int}
    (hx : (x, instObj 45 dx) ∈ news) (hdx : (dx, ordD h1 h2 h3 h4 t1 t2 t3 t4 u1 u2 u3 u4 code jt jf k) ∈ news) :
    Con w 91 1 8 news [.ref x] (fun r => r = .bool (isByX code)) := by
  unfold Con TopR
  w_top off
  k_fill
  k_with_none
  k_with "call builtin:str.split" => (k_here; (with_reducible show wpAny _ _ (call (Value.builtin "str.split") [Value.str (Str.ofString _) _]) _ _ _); k_dflt (refine' split_ws ?w ?F ?N ?_ ?z; (case w => first | with_reducible exact clsNames_words | with_reducible exact modeNames_words | with_reducible exact aluNames_words | with_reducible exact jumpNames_words); (case F => k_asm); (case N => k_asm); (case z => kspl_size)); intro D' vs' h' k' hA' F' N'; (try k_sweep))
  k_with "call builtin:len" => (k_here; (rename StrsAre _ _ => hA'); (with_reducible show wpAny _ _ (call (Value.builtin "len") [Value.ref _]) _ _ _); k_dflt (refine' names_len ?N ?m hA' ?e ?n ?_; (case N => k_asm); (case m => k_mem); (case e => first | exact (rfl : ((modeNames.length : Nat) : Int) = 6) | exact (rfl : ((aluNames.length : Nat) : Int) = 11) | exact (rfl : ((jumpNames.length : Nat) : Int) = 5)); (case n => decide)))
  k_with "subscriptTail" => (k_here; (rename StrsAre _ _ => hA'); (with_reducible show wpAny _ _ (subscriptTail _ _ (Value.ref _) (Value.int (Builtin.bitAnd _ _) _)) _ _ _); k_dflt (refine' KTb.item_list ?ktbl hA' ?kt0 ?kt1 ?kt2 ?_); (case ktbl => exact newsList (by k_asm) (by k_mem)); (case kt0 => first | exact (and7 _).1 | exact (and15 _).1); (case kt1 => first | exact (by assumption) | exact (and7 _).2); (case kt2 => first | exact and7fit _ | exact and15fit _); intro _ _)
  k_with "call ref" => (k_here; (with_reducible show wpAny _ _ (call (Value.ref 56) _) _ _ _); k_dflt (refine' class_name_con ?hx ?hdx  _ _ _ _ _ _ _ _ _ _ _ _ _ _ _ _ _ _ _ _ ?k1 ?k2 ?k3 ?k4 ?k5 ?kK ?kd ?ku ?_); (case k2 => k_asm); (case k4 => k_asm); (case hx => k_mem); (case hdx => k_mem); (case k1 => k_asm); (case k3 => k_asm); (case k5 => k_asm); (case kK => first | exact rfl | assumption); (case kd => ktr_room); (case ku => ktr_units); intro r9 h9 tk9 hr9 F9 N9; (obtain ⟨t9, e9⟩ := hr9; subst e9); (try dsimp only); (try k_fold))
  k_with "call ref" => (k_here; (with_reducible show wpAny _ _ (call (Value.ref 63) _) _ _ _); k_dflt (refine' mode_name_con ?hx ?hdx  _ _ _ _ _ _ _ _ _ _ _ _ _ _ _ _ _ _ _ _ ?k1 ?k2 ?k3 ?k4 ?k5 ?kK ?kd ?ku ?_); (case k2 => k_asm); (case k4 => k_asm); (case hx => k_mem); (case hdx => k_mem); (case k1 => k_asm); (case k3 => k_asm); (case k5 => k_asm); (case kK => first | exact rfl | assumption); (case kd => ktr_room); (case ku => ktr_units); intro r9 h9 tk9 hr9 F9 N9; (obtain ⟨t9, e9⟩ := hr9; subst e9); (try dsimp only); (try k_fold))
  k_with "call ref" => (k_here; (with_reducible show wpAny _ _ (call (Value.ref 77) _) _ _ _); k_dflt (refine' alu_name_con ?hx ?hdx  _ _ _ _ _ _ _ _ _ _ _ _ _ _ _ _ _ _ _ _ ?k1 ?k2 ?k3 ?k4 ?k5 ?kK ?kd ?ku ?_); (case k2 => k_asm); (case k4 => k_asm); (case hx => k_mem); (case hdx => k_mem); (case k1 => k_asm); (case k3 => k_asm); (case k5 => k_asm); (case kK => first | exact rfl | assumption); (case kd => ktr_room); (case ku => ktr_units); intro r9 h9 tk9 hr9 F9 N9; (obtain ⟨t9, e9⟩ := hr9; subst e9); (try dsimp only); (try k_fold))
  k_with "call ref" => (k_here; (with_reducible show wpAny _ _ (call (Value.ref 84) _) _ _ _); k_dflt (refine' jump_name_con ?hx ?hdx  _ _ _ _ _ _ _ _ _ _ _ _ _ _ _ _ _ _ _ _ ?k1 ?k2 ?k3 ?k4 ?k5 ?kK ?kd ?ku ?_); (case k2 => k_asm); (case k4 => k_asm); (case hx => k_mem); (case hdx => k_mem); (case k1 => k_asm); (case k3 => k_asm); (case k5 => k_asm); (case kK => first | exact rfl | assumption); (case kd => ktr_room); (case ku => ktr_units); intro r9 h9 tk9 hr9 F9 N9; (obtain ⟨t9, e9⟩ := hr9; subst e9); (try dsimp only); (try k_fold))
  k_with "call ref" => (k_here; (with_reducible show wpAny _ _ (call (Value.ref 70) _) _ _ _); k_dflt (refine' load_width_con ?hx ?hdx  _ _ _ _ _ _ _ _ _ _ _ _ _ _ _ _ _ _ _ _ ?k1 ?k2 ?k3 ?k4 ?k5 ?kK ?kd ?ku ?_); (case k2 => k_asm); (case k4 => k_asm); (case hx => k_mem); (case hdx => k_mem); (case k1 => k_asm); (case k3 => k_asm); (case k5 => k_asm); (case kK => first | exact rfl | assumption); (case kd => ktr_room); (case ku => ktr_units); intro r9 h9 tk9 hr9 F9 N9; (obtain ⟨t9, e9⟩ := hr9; subst e9); (try dsimp only); (try k_fold))
  intro mean mg mb dp un gd cn cs a ccd cl outer A₀ base h₀ L m s Q E B F X N T hk hdp hun hret
  refine wpAny_call ?_
  k_dflt (refine' code_def (binds := [(Str.ofString "order", Value.ref x)]) ?k1 ?k2 ?k3 ?k4 ?k5 ?kA ?kF ?kK ?k6 ?k7 ?k8 ?k9 ?kB ?_ ?c2 ?c3 ?c4 ?c5; (case kA => exact rfl); (case kF => exact rfl); (case kK => assumption); (case k1 => k_asm); (case k2 => k_asm); (case k3 => k_asm); (case k4 => k_asm); (case k5 => k_asm); (case k6 => k_is); (case k7 => k_is); (case k8 => ktr_room); (case k9 => exact BindsTo.of_eq rfl); (case c5 => decide); (case kB => exact locs rfl); (case c2 => exact rfl); (case c3 => exact rfl); (case c4 => exact rfl); k_whole; intro g' L' h' FG' F' N' B' X' T'; (try dsimp only); (try k_lift B'); (try k_fold))
  k_steps
  all_goals (refine hret _ _ _ ?_ (by k_asm) (cb_drop (by k_asm) (by intro p hp; repeat (first | assumption | refine List.mem_cons_of_mem _ ?_))))
  all_goals first | exact ⟨_, rfl⟩ | rfl | (first | refine rI ?_ | refine rS ?_ | refine rB ?_); ((unfold isByX; repeat (first | rfl | rw [if_pos (by assumption)] | rw [if_neg (by assumption)])))
set_option maxHeartbeats 4000000 in
theorem is_return_con {w : World} {news : List (Addr × Obj)} {x dx : Addr} {h1 h2 h3 h4 : Int} {t1 t2 t3 t4 u1 u2 u3 u4 : Tok} {code jt jf k : Int}
    (hx : (x, instObj 45 dx) ∈ news) (hdx : (dx, ordD h1 h2 h3 h4 t1 t2 t3 t4 u1 u2 u3 u4 code jt jf k) ∈ news) :
    Con w 98 1 8 news [.ref x] (fun r => r = .bool (isReturn code)) := by
  unfold Con TopR
  w_top off
  k_fill
  k_with_none
  k_with "call builtin:str.split" => (k_here; (with_reducible show wpAny _ _ (call (Value.builtin "str.split") [Value.str (Str.ofString _) _]) _ _ _); k_dflt (refine' split_ws ?w ?F ?N ?_ ?z; (case w => first | with_reducible exact clsNames_words | with_reducible exact modeNames_words | with_reducible exact aluNames_words | with_reducible exact jumpNames_words); (case F => k_asm); (case N => k_asm); (case z => kspl_size)); intro D' vs' h' k' hA' F' N'; (try k_sweep))
  k_with "call builtin:len" => (k_here; (rename StrsAre _ _ => hA'); (with_reducible show wpAny _ _ (call (Value.builtin "len") [Value.ref _]) _ _ _); k_dflt (refine' names_len ?N ?m hA' ?e ?n ?_; (case N => k_asm); (case m => k_mem); (case e => first | exact (rfl : ((modeNames.length : Nat) : Int) = 6) | exact (rfl : ((aluNames.length : Nat) : Int) = 11) | exact (rfl : ((jumpNames.length : Nat) : Int) = 5)); (case n => decide)))
  k_with "subscriptTail" => (k_here; (rename StrsAre _ _ => hA'); (with_reducible show wpAny _ _ (subscriptTail _ _ (Value.ref _) (Value.int (Builtin.bitAnd _ _) _)) _ _ _); k_dflt (refine' KTb.item_list ?ktbl hA' ?kt0 ?kt1 ?kt2 ?_); (case ktbl => exact newsList (by k_asm) (by k_mem)); (case kt0 => first | exact (and7 _).1 | exact (and15 _).1); (case kt1 => first | exact (by assumption) | exact (and7 _).2); (case kt2 => first | exact and7fit _ | exact and15fit _); intro _ _)
  k_with "call ref" => (k_here; (with_reducible show wpAny _ _ (call (Value.ref 56) _) _ _ _); k_dflt (refine' class_name_con ?hx ?hdx  _ _ _ _ _ _ _ _ _ _ _ _ _ _ _ _ _ _ _ _ ?k1 ?k2 ?k3 ?k4 ?k5 ?kK ?kd ?ku ?_); (case k2 => k_asm); (case k4 => k_asm); (case hx => k_mem); (case hdx => k_mem); (case k1 => k_asm); (case k3 => k_asm); (case k5 => k_asm); (case kK => first | exact rfl | assumption); (case kd => ktr_room); (case ku => ktr_units); intro r9 h9 tk9 hr9 F9 N9; (obtain ⟨t9, e9⟩ := hr9; subst e9); (try dsimp only); (try k_fold))
  k_with "call ref" => (k_here; (with_reducible show wpAny _ _ (call (Value.ref 63) _) _ _ _); k_dflt (refine' mode_name_con ?hx ?hdx  _ _ _ _ _ _ _ _ _ _ _ _ _ _ _ _ _ _ _ _ ?k1 ?k2 ?k3 ?k4 ?k5 ?kK ?kd ?ku ?_); (case k2 => k_asm); (case k4 => k_asm); (case hx => k_mem); (case hdx => k_mem); (case k1 => k_asm); (case k3 => k_asm); (case k5 => k_asm); (case kK => first | exact rfl | assumption); (case kd => ktr_room); (case ku => ktr_units); intro r9 h9 tk9 hr9 F9 N9; (obtain ⟨t9, e9⟩ := hr9; subst e9); (try dsimp only); (try k_fold))
  k_with "call ref" => (k_here; (with_reducible show wpAny _ _ (call (Value.ref 77) _) _ _ _); k_dflt (refine' alu_name_con ?hx ?hdx  _ _ _ _ _ _ _ _ _ _ _ _ _ _ _ _ _ _ _ _ ?k1 ?k2 ?k3 ?k4 ?k5 ?kK ?kd ?ku ?_); (case k2 => k_asm); (case k4 => k_asm); (case hx => k_mem); (case hdx => k_mem); (case k1 => k_asm); (case k3 => k_asm); (case k5 => k_asm); (case kK => first | exact rfl | assumption); (case kd => ktr_room); (case ku => ktr_units); intro r9 h9 tk9 hr9 F9 N9; (obtain ⟨t9, e9⟩ := hr9; subst e9); (try dsimp only); (try k_fold))
  k_with "call ref" => (k_here; (with_reducible show wpAny _ _ (call (Value.ref 84) _) _ _ _); k_dflt (refine' jump_name_con ?hx ?hdx  _ _ _ _ _ _ _ _ _ _ _ _ _ _ _ _ _ _ _ _ ?k1 ?k2 ?k3 ?k4 ?k5 ?kK ?kd ?ku ?_); (case k2 => k_asm); (case k4 => k_asm); (case hx => k_mem); (case hdx => k_mem); (case k1 => k_asm); (case k3 => k_asm); (case k5 => k_asm); (case kK => first | exact rfl | assumption); (case kd => ktr_room); (case ku => ktr_units); intro r9 h9 tk9 hr9 F9 N9; (obtain ⟨t9, e9⟩ := hr9; subst e9); (try dsimp only); (try k_fold))
  k_with "call ref" => (k_here; (with_reducible show wpAny _ _ (call (Value.ref 70) _) _ _ _); k_dflt (refine' load_width_con ?hx ?hdx  _ _ _ _ _ _ _ _ _ _ _ _ _ _ _ _ _ _ _ _ ?k1 ?k2 ?k3 ?k4 ?k5 ?kK ?kd ?ku ?_); (case k2 => k_asm); (case k4 => k_asm); (case hx => k_mem); (case hdx => k_mem); (case k1 => k_asm); (case k3 => k_asm); (case k5 => k_asm); (case kK => first | exact rfl | assumption); (case kd => ktr_room); (case ku => ktr_units); intro r9 h9 tk9 hr9 F9 N9; (obtain ⟨t9, e9⟩ := hr9; subst e9); (try dsimp only); (try k_fold))
  k_with "call ref" => (k_here; (with_reducible show wpAny _ _ (call (Value.ref 91) _) _ _ _); k_dflt (refine' is_by_x_con ?hx ?hdx  _ _ _ _ _ _ _ _ _ _ _ _ _ _ _ _ _ _ _ _ ?k1 ?k2 ?k3 ?k4 ?k5 ?kK ?kd ?ku ?_); (case k2 => k_asm); (case k4 => k_asm); (case hx => k_mem); (case hdx => k_mem); (case k1 => k_asm); (case k3 => k_asm); (case k5 => k_asm); (case kK => first | exact rfl | assumption); (case kd => ktr_room); (case ku => ktr_units); intro r9 h9 tk9 hr9 F9 N9; subst hr9; (try dsimp only); (try k_fold))
  intro mean mg mb dp un gd cn cs a ccd cl outer A₀ base h₀ L m s Q E B F X N T hk hdp hun hret
  refine wpAny_call ?_
  k_dflt (refine' code_def (binds := [(Str.ofString "order", Value.ref x)]) ?k1 ?k2 ?k3 ?k4 ?k5 ?kA ?kF ?kK ?k6 ?k7 ?k8 ?k9 ?kB ?_ ?c2 ?c3 ?c4 ?c5; (case kA => exact rfl); (case kF => exact rfl); (case kK => assumption); (case k1 => k_asm); (case k2 => k_asm); (case k3 => k_asm); (case k4 => k_asm); (case k5 => k_asm); (case k6 => k_is); (case k7 => k_is); (case k8 => ktr_room); (case k9 => exact BindsTo.of_eq rfl); (case c5 => decide); (case kB => exact locs rfl); (case c2 => exact rfl); (case c3 => exact rfl); (case c4 => exact rfl); k_whole; intro g' L' h' FG' F' N' B' X' T'; (try dsimp only); (try k_lift B'); (try k_fold))
  k_steps
  all_goals (refine hret _ _ _ ?_ (by k_asm) (cb_drop (by k_asm) (by intro p hp; repeat (first | assumption | refine List.mem_cons_of_mem _ ?_))))
  all_goals first | exact ⟨_, rfl⟩ | rfl | (first | refine rI ?_ | refine rS ?_ | refine rB ?_); ((unfold isReturn; repeat (first | rfl | rw [if_pos (by assumption)] | rw [if_neg (by assumption)])))
set_option maxHeartbeats 4000000 in
theorem is_return_a_con {w : World} {news : List (Addr × Obj)} {x dx : Addr} {h1 h2 h3 h4 : Int} {t1 t2 t3 t4 u1 u2 u3 u4 : Tok} {code jt jf k : Int}
    (hx : (x, instObj 45 dx) ∈ news) (hdx : (dx, ordD h1 h2 h3 h4 t1 t2 t3 t4 u1 u2 u3 u4 code jt jf k) ∈ news) :
    Con w 105 2 16 news [.ref x] (fun r => r = .bool (isReturnA code)) := by
  unfold Con TopR
  w_top off
  k_fill
  k_with_none
  k_with "call builtin:str.split" => (k_here; (with_reducible show wpAny _ _ (call (Value.builtin "str.split") [Value.str (Str.ofString _) _]) _ _ _); k_dflt (refine' split_ws ?w ?F ?N ?_ ?z; (case w => first | with_reducible exact clsNames_words | with_reducible exact modeNames_words | with_reducible exact aluNames_words | with_reducible exact jumpNames_words); (case F => k_asm); (case N => k_asm); (case z => kspl_size)); intro D' vs' h' k' hA' F' N'; (try k_sweep))
  k_with "call builtin:len" => (k_here; (rename StrsAre _ _ => hA'); (with_reducible show wpAny _ _ (call (Value.builtin "len") [Value.ref _]) _ _ _); k_dflt (refine' names_len ?N ?m hA' ?e ?n ?_; (case N => k_asm); (case m => k_mem); (case e => first | exact (rfl : ((modeNames.length : Nat) : Int) = 6) | exact (rfl : ((aluNames.length : Nat) : Int) = 11) | exact (rfl : ((jumpNames.length : Nat) : Int) = 5)); (case n => decide)))
  k_with "subscriptTail" => (k_here; (rename StrsAre _ _ => hA'); (with_reducible show wpAny _ _ (subscriptTail _ _ (Value.ref _) (Value.int (Builtin.bitAnd _ _) _)) _ _ _); k_dflt (refine' KTb.item_list ?ktbl hA' ?kt0 ?kt1 ?kt2 ?_); (case ktbl => exact newsList (by k_asm) (by k_mem)); (case kt0 => first | exact (and7 _).1 | exact (and15 _).1); (case kt1 => first | exact (by assumption) | exact (and7 _).2); (case kt2 => first | exact and7fit _ | exact and15fit _); intro _ _)
  k_with "call ref" => (k_here; (with_reducible show wpAny _ _ (call (Value.ref 56) _) _ _ _); k_dflt (refine' class_name_con ?hx ?hdx  _ _ _ _ _ _ _ _ _ _ _ _ _ _ _ _ _ _ _ _ ?k1 ?k2 ?k3 ?k4 ?k5 ?kK ?kd ?ku ?_); (case k2 => k_asm); (case k4 => k_asm); (case hx => k_mem); (case hdx => k_mem); (case k1 => k_asm); (case k3 => k_asm); (case k5 => k_asm); (case kK => first | exact rfl | assumption); (case kd => ktr_room); (case ku => ktr_units); intro r9 h9 tk9 hr9 F9 N9; (obtain ⟨t9, e9⟩ := hr9; subst e9); (try dsimp only); (try k_fold))
  k_with "call ref" => (k_here; (with_reducible show wpAny _ _ (call (Value.ref 63) _) _ _ _); k_dflt (refine' mode_name_con ?hx ?hdx  _ _ _ _ _ _ _ _ _ _ _ _ _ _ _ _ _ _ _ _ ?k1 ?k2 ?k3 ?k4 ?k5 ?kK ?kd ?ku ?_); (case k2 => k_asm); (case k4 => k_asm); (case hx => k_mem); (case hdx => k_mem); (case k1 => k_asm); (case k3 => k_asm); (case k5 => k_asm); (case kK => first | exact rfl | assumption); (case kd => ktr_room); (case ku => ktr_units); intro r9 h9 tk9 hr9 F9 N9; (obtain ⟨t9, e9⟩ := hr9; subst e9); (try dsimp only); (try k_fold))
  k_with "call ref" => (k_here; (with_reducible show wpAny _ _ (call (Value.ref 77) _) _ _ _); k_dflt (refine' alu_name_con ?hx ?hdx  _ _ _ _ _ _ _ _ _ _ _ _ _ _ _ _ _ _ _ _ ?k1 ?k2 ?k3 ?k4 ?k5 ?kK ?kd ?ku ?_); (case k2 => k_asm); (case k4 => k_asm); (case hx => k_mem); (case hdx => k_mem); (case k1 => k_asm); (case k3 => k_asm); (case k5 => k_asm); (case kK => first | exact rfl | assumption); (case kd => ktr_room); (case ku => ktr_units); intro r9 h9 tk9 hr9 F9 N9; (obtain ⟨t9, e9⟩ := hr9; subst e9); (try dsimp only); (try k_fold))
  k_with "call ref" => (k_here; (with_reducible show wpAny _ _ (call (Value.ref 84) _) _ _ _); k_dflt (refine' jump_name_con ?hx ?hdx  _ _ _ _ _ _ _ _ _ _ _ _ _ _ _ _ _ _ _ _ ?k1 ?k2 ?k3 ?k4 ?k5 ?kK ?kd ?ku ?_); (case k2 => k_asm); (case k4 => k_asm); (case hx => k_mem); (case hdx => k_mem); (case k1 => k_asm); (case k3 => k_asm); (case k5 => k_asm); (case kK => first | exact rfl | assumption); (case kd => ktr_room); (case ku => ktr_units); intro r9 h9 tk9 hr9 F9 N9; (obtain ⟨t9, e9⟩ := hr9; subst e9); (try dsimp only); (try k_fold))
  k_with "call ref" => (k_here; (with_reducible show wpAny _ _ (call (Value.ref 70) _) _ _ _); k_dflt (refine' load_width_con ?hx ?hdx  _ _ _ _ _ _ _ _ _ _ _ _ _ _ _ _ _ _ _ _ ?k1 ?k2 ?k3 ?k4 ?k5 ?kK ?kd ?ku ?_); (case k2 => k_asm); (case k4 => k_asm); (case hx => k_mem); (case hdx => k_mem); (case k1 => k_asm); (case k3 => k_asm); (case k5 => k_asm); (case kK => first | exact rfl | assumption); (case kd => ktr_room); (case ku => ktr_units); intro r9 h9 tk9 hr9 F9 N9; (obtain ⟨t9, e9⟩ := hr9; subst e9); (try dsimp only); (try k_fold))
  k_with "call ref" => (k_here; (with_reducible show wpAny _ _ (call (Value.ref 91) _) _ _ _); k_dflt (refine' is_by_x_con ?hx ?hdx  _ _ _ _ _ _ _ _ _ _ _ _ _ _ _ _ _ _ _ _ ?k1 ?k2 ?k3 ?k4 ?k5 ?kK ?kd ?ku ?_); (case k2 => k_asm); (case k4 => k_asm); (case hx => k_mem); (case hdx => k_mem); (case k1 => k_asm); (case k3 => k_asm); (case k5 => k_asm); (case kK => first | exact rfl | assumption); (case kd => ktr_room); (case ku => ktr_units); intro r9 h9 tk9 hr9 F9 N9; subst hr9; (try dsimp only); (try k_fold))
  k_with "call ref" => (k_here; (with_reducible show wpAny _ _ (call (Value.ref 98) _) _ _ _); k_dflt (refine' is_return_con ?hx ?hdx  _ _ _ _ _ _ _ _ _ _ _ _ _ _ _ _ _ _ _ _ ?k1 ?k2 ?k3 ?k4 ?k5 ?kK ?kd ?ku ?_); (case k2 => k_asm); (case k4 => k_asm); (case hx => k_mem); (case hdx => k_mem); (case k1 => k_asm); (case k3 => k_asm); (case k5 => k_asm); (case kK => first | exact rfl | assumption); (case kd => ktr_room); (case ku => ktr_units); intro r9 h9 tk9 hr9 F9 N9; subst hr9; (try dsimp only); (try k_fold))
  intro mean mg mb dp un gd cn cs a ccd cl outer A₀ base h₀ L m s Q E B F X N T hk hdp hun hret
  refine wpAny_call ?_
  k_dflt (refine' code_def (binds := [(Str.ofString "order", Value.ref x)]) ?k1 ?k2 ?k3 ?k4 ?k5 ?kA ?kF ?kK ?k6 ?k7 ?k8 ?k9 ?kB ?_ ?c2 ?c3 ?c4 ?c5; (case kA => exact rfl); (case kF => exact rfl); (case kK => assumption); (case k1 => k_asm); (case k2 => k_asm); (case k3 => k_asm); (case k4 => k_asm); (case k5 => k_asm); (case k6 => k_is); (case k7 => k_is); (case k8 => ktr_room); (case k9 => exact BindsTo.of_eq rfl); (case c5 => decide); (case kB => exact locs rfl); (case c2 => exact rfl); (case c3 => exact rfl); (case c4 => exact rfl); k_whole; intro g' L' h' FG' F' N' B' X' T'; (try dsimp only); (try k_lift B'); (try k_fold))
  k_steps
  all_goals (refine hret _ _ _ ?_ (by k_asm) (cb_drop (by k_asm) (by intro p hp; repeat (first | assumption | refine List.mem_cons_of_mem _ ?_))))
  all_goals first | exact ⟨_, rfl⟩ | rfl | (first | refine rI ?_ | refine rS ?_ | refine rB ?_); (simp_all [isReturnA] <;> rfl)
set_option maxHeartbeats 4000000 in
theorem read_cell_con {w : World} {news : List (Addr × Obj)} {x dx : Addr} {h1 h2 h3 h4 : Int} {t1 t2 t3 t4 u1 u2 u3 u4 : Tok} {code jt jf k : Int}
    (hx : (x, instObj 45 dx) ∈ news) (hdx : (dx, ordD h1 h2 h3 h4 t1 t2 t3 t4 u1 u2 u3 u4 code jt jf k) ∈ news) :
    Con w 112 2 16 news [.ref x] (fun r => ∃ t, r = .int (readCell code k) t) := by
  unfold Con TopR
  w_top off
  k_fill
  k_with_none
  k_with "call builtin:str.split" => (k_here; (with_reducible show wpAny _ _ (call (Value.builtin "str.split") [Value.str (Str.ofString _) _]) _ _ _); k_dflt (refine' split_ws ?w ?F ?N ?_ ?z; (case w => first | with_reducible exact clsNames_words | with_reducible exact modeNames_words | with_reducible exact aluNames_words | with_reducible exact jumpNames_words); (case F => k_asm); (case N => k_asm); (case z => kspl_size)); intro D' vs' h' k' hA' F' N'; (try k_sweep))
  k_with "call builtin:len" => (k_here; (rename StrsAre _ _ => hA'); (with_reducible show wpAny _ _ (call (Value.builtin "len") [Value.ref _]) _ _ _); k_dflt (refine' names_len ?N ?m hA' ?e ?n ?_; (case N => k_asm); (case m => k_mem); (case e => first | exact (rfl : ((modeNames.length : Nat) : Int) = 6) | exact (rfl : ((aluNames.length : Nat) : Int) = 11) | exact (rfl : ((jumpNames.length : Nat) : Int) = 5)); (case n => decide)))
  k_with "subscriptTail" => (k_here; (rename StrsAre _ _ => hA'); (with_reducible show wpAny _ _ (subscriptTail _ _ (Value.ref _) (Value.int (Builtin.bitAnd _ _) _)) _ _ _); k_dflt (refine' KTb.item_list ?ktbl hA' ?kt0 ?kt1 ?kt2 ?_); (case ktbl => exact newsList (by k_asm) (by k_mem)); (case kt0 => first | exact (and7 _).1 | exact (and15 _).1); (case kt1 => first | exact (by assumption) | exact (and7 _).2); (case kt2 => first | exact and7fit _ | exact and15fit _); intro _ _)
  k_with "call ref" => (k_here; (with_reducible show wpAny _ _ (call (Value.ref 56) _) _ _ _); k_dflt (refine' class_name_con ?hx ?hdx  _ _ _ _ _ _ _ _ _ _ _ _ _ _ _ _ _ _ _ _ ?k1 ?k2 ?k3 ?k4 ?k5 ?kK ?kd ?ku ?_); (case k2 => k_asm); (case k4 => k_asm); (case hx => k_mem); (case hdx => k_mem); (case k1 => k_asm); (case k3 => k_asm); (case k5 => k_asm); (case kK => first | exact rfl | assumption); (case kd => ktr_room); (case ku => ktr_units); intro r9 h9 tk9 hr9 F9 N9; (obtain ⟨t9, e9⟩ := hr9; subst e9); (try dsimp only); (try k_fold))
  k_with "call ref" => (k_here; (with_reducible show wpAny _ _ (call (Value.ref 63) _) _ _ _); k_dflt (refine' mode_name_con ?hx ?hdx  _ _ _ _ _ _ _ _ _ _ _ _ _ _ _ _ _ _ _ _ ?k1 ?k2 ?k3 ?k4 ?k5 ?kK ?kd ?ku ?_); (case k2 => k_asm); (case k4 => k_asm); (case hx => k_mem); (case hdx => k_mem); (case k1 => k_asm); (case k3 => k_asm); (case k5 => k_asm); (case kK => first | exact rfl | assumption); (case kd => ktr_room); (case ku => ktr_units); intro r9 h9 tk9 hr9 F9 N9; (obtain ⟨t9, e9⟩ := hr9; subst e9); (try dsimp only); (try k_fold))
  k_with "call ref" => (k_here; (with_reducible show wpAny _ _ (call (Value.ref 77) _) _ _ _); k_dflt (refine' alu_name_con ?hx ?hdx  _ _ _ _ _ _ _ _ _ _ _ _ _ _ _ _ _ _ _ _ ?k1 ?k2 ?k3 ?k4 ?k5 ?kK ?kd ?ku ?_); (case k2 => k_asm); (case k4 => k_asm); (case hx => k_mem); (case hdx => k_mem); (case k1 => k_asm); (case k3 => k_asm); (case k5 => k_asm); (case kK => first | exact rfl | assumption); (case kd => ktr_room); (case ku => ktr_units); intro r9 h9 tk9 hr9 F9 N9; (obtain ⟨t9, e9⟩ := hr9; subst e9); (try dsimp only); (try k_fold))
  k_with "call ref" => (k_here; (with_reducible show wpAny _ _ (call (Value.ref 84) _) _ _ _); k_dflt (refine' jump_name_con ?hx ?hdx  _ _ _ _ _ _ _ _ _ _ _ _ _ _ _ _ _ _ _ _ ?k1 ?k2 ?k3 ?k4 ?k5 ?kK ?kd ?ku ?_); (case k2 => k_asm); (case k4 => k_asm); (case hx => k_mem); (case hdx => k_mem); (case k1 => k_asm); (case k3 => k_asm); (case k5 => k_asm); (case kK => first | exact rfl | assumption); (case kd => ktr_room); (case ku => ktr_units); intro r9 h9 tk9 hr9 F9 N9; (obtain ⟨t9, e9⟩ := hr9; subst e9); (try dsimp only); (try k_fold))
  k_with "call ref" => (k_here; (with_reducible show wpAny _ _ (call (Value.ref 70) _) _ _ _); k_dflt (refine' load_width_con ?hx ?hdx  _ _ _ _ _ _ _ _ _ _ _ _ _ _ _ _ _ _ _ _ ?k1 ?k2 ?k3 ?k4 ?k5 ?kK ?kd ?ku ?_); (case k2 => k_asm); (case k4 => k_asm); (case hx => k_mem); (case hdx => k_mem); (case k1 => k_asm); (case k3 => k_asm); (case k5 => k_asm); (case kK => first | exact rfl | assumption); (case kd => ktr_room); (case ku => ktr_units); intro r9 h9 tk9 hr9 F9 N9; (obtain ⟨t9, e9⟩ := hr9; subst e9); (try dsimp only); (try k_fold))
  k_with "call ref" => (k_here; (with_reducible show wpAny _ _ (call (Value.ref 91) _) _ _ _); k_dflt (refine' is_by_x_con ?hx ?hdx  _ _ _ _ _ _ _ _ _ _ _ _ _ _ _ _ _ _ _ _ ?k1 ?k2 ?k3 ?k4 ?k5 ?kK ?kd ?ku ?_); (case k2 => k_asm); (case k4 => k_asm); (case hx => k_mem); (case hdx => k_mem); (case k1 => k_asm); (case k3 => k_asm); (case k5 => k_asm); (case kK => first | exact rfl | assumption); (case kd => ktr_room); (case ku => ktr_units); intro r9 h9 tk9 hr9 F9 N9; subst hr9; (try dsimp only); (try k_fold))
  k_with "call ref" => (k_here; (with_reducible show wpAny _ _ (call (Value.ref 98) _) _ _ _); k_dflt (refine' is_return_con ?hx ?hdx  _ _ _ _ _ _ _ _ _ _ _ _ _ _ _ _ _ _ _ _ ?k1 ?k2 ?k3 ?k4 ?k5 ?kK ?kd ?ku ?_); (case k2 => k_asm); (case k4 => k_asm); (case hx => k_mem); (case hdx => k_mem); (case k1 => k_asm); (case k3 => k_asm); (case k5 => k_asm); (case kK => first | exact rfl | assumption); (case kd => ktr_room); (case ku => ktr_units); intro r9 h9 tk9 hr9 F9 N9; subst hr9; (try dsimp only); (try k_fold))
  k_with "call ref" => (k_here; (with_reducible show wpAny _ _ (call (Value.ref 105) _) _ _ _); k_dflt (refine' is_return_a_con ?hx ?hdx  _ _ _ _ _ _ _ _ _ _ _ _ _ _ _ _ _ _ _ _ ?k1 ?k2 ?k3 ?k4 ?k5 ?kK ?kd ?ku ?_); (case k2 => k_asm); (case k4 => k_asm); (case hx => k_mem); (case hdx => k_mem); (case k1 => k_asm); (case k3 => k_asm); (case k5 => k_asm); (case kK => first | exact rfl | assumption); (case kd => ktr_room); (case ku => ktr_units); intro r9 h9 tk9 hr9 F9 N9; subst hr9; (try dsimp only); (try k_fold))
  intro mean mg mb dp un gd cn cs a ccd cl outer A₀ base h₀ L m s Q E B F X N T hk hdp hun hret
  refine wpAny_call ?_
  k_dflt (refine' code_def (binds := [(Str.ofString "order", Value.ref x)]) ?k1 ?k2 ?k3 ?k4 ?k5 ?kA ?kF ?kK ?k6 ?k7 ?k8 ?k9 ?kB ?_ ?c2 ?c3 ?c4 ?c5; (case kA => exact rfl); (case kF => exact rfl); (case kK => assumption); (case k1 => k_asm); (case k2 => k_asm); (case k3 => k_asm); (case k4 => k_asm); (case k5 => k_asm); (case k6 => k_is); (case k7 => k_is); (case k8 => ktr_room); (case k9 => exact BindsTo.of_eq rfl); (case c5 => decide); (case kB => exact locs rfl); (case c2 => exact rfl); (case c3 => exact rfl); (case c4 => exact rfl); k_whole; intro g' L' h' FG' F' N' B' X' T'; (try dsimp only); (try k_lift B'); (try k_fold))
  k_steps
  all_goals (refine hret _ _ _ ?_ (by k_asm) (cb_drop (by k_asm) (by intro p hp; repeat (first | assumption | refine List.mem_cons_of_mem _ ?_))))
  all_goals first | exact ⟨_, rfl⟩ | rfl | (first | refine rI ?_ | refine rS ?_ | refine rB ?_); (simp_all [readCell])
set_option maxHeartbeats 4000000 in
theorem written_cell_con {w : World} {news : List (Addr × Obj)} {x dx : Addr} {h1 h2 h3 h4 : Int} {t1 t2 t3 t4 u1 u2 u3 u4 : Tok} {code jt jf k : Int}
    (hx : (x, instObj 45 dx) ∈ news) (hdx : (dx, ordD h1 h2 h3 h4 t1 t2 t3 t4 u1 u2 u3 u4 code jt jf k) ∈ news) :
    Con w 119 1 8 news [.ref x] (fun r => ∃ t, r = .int (writtenCell code k) t) := by
  unfold Con TopR
  w_top off
  k_fill
  k_with_none
  k_with "call builtin:str.split" => (k_here; (with_reducible show wpAny _ _ (call (Value.builtin "str.split") [Value.str (Str.ofString _) _]) _ _ _); k_dflt (refine' split_ws ?w ?F ?N ?_ ?z; (case w => first | with_reducible exact clsNames_words | with_reducible exact modeNames_words | with_reducible exact aluNames_words | with_reducible exact jumpNames_words); (case F => k_asm); (case N => k_asm); (case z => kspl_size)); intro D' vs' h' k' hA' F' N'; (try k_sweep))
  k_with "call builtin:len" => (k_here; (rename StrsAre _ _ => hA'); (with_reducible show wpAny _ _ (call (Value.builtin "len") [Value.ref _]) _ _ _); k_dflt (refine' names_len ?N ?m hA' ?e ?n ?_; (case N => k_asm); (case m => k_mem); (case e => first | exact (rfl : ((modeNames.length : Nat) : Int) = 6) | exact (rfl : ((aluNames.length : Nat) : Int) = 11) | exact (rfl : ((jumpNames.length : Nat) : Int) = 5)); (case n => decide)))
  k_with "subscriptTail" => (k_here; (rename StrsAre _ _ => hA'); (with_reducible show wpAny _ _ (subscriptTail _ _ (Value.ref _) (Value.int (Builtin.bitAnd _ _) _)) _ _ _); k_dflt (refine' KTb.item_list ?ktbl hA' ?kt0 ?kt1 ?kt2 ?_); (case ktbl => exact newsList (by k_asm) (by k_mem)); (case kt0 => first | exact (and7 _).1 | exact (and15 _).1); (case kt1 => first | exact (by assumption) | exact (and7 _).2); (case kt2 => first | exact and7fit _ | exact and15fit _); intro _ _)
  k_with "call ref" => (k_here; (with_reducible show wpAny _ _ (call (Value.ref 56) _) _ _ _); k_dflt (refine' class_name_con ?hx ?hdx  _ _ _ _ _ _ _ _ _ _ _ _ _ _ _ _ _ _ _ _ ?k1 ?k2 ?k3 ?k4 ?k5 ?kK ?kd ?ku ?_); (case k2 => k_asm); (case k4 => k_asm); (case hx => k_mem); (case hdx => k_mem); (case k1 => k_asm); (case k3 => k_asm); (case k5 => k_asm); (case kK => first | exact rfl | assumption); (case kd => ktr_room); (case ku => ktr_units); intro r9 h9 tk9 hr9 F9 N9; (obtain ⟨t9, e9⟩ := hr9; subst e9); (try dsimp only); (try k_fold))
  k_with "call ref" => (k_here; (with_reducible show wpAny _ _ (call (Value.ref 63) _) _ _ _); k_dflt (refine' mode_name_con ?hx ?hdx  _ _ _ _ _ _ _ _ _ _ _ _ _ _ _ _ _ _ _ _ ?k1 ?k2 ?k3 ?k4 ?k5 ?kK ?kd ?ku ?_); (case k2 => k_asm); (case k4 => k_asm); (case hx => k_mem); (case hdx => k_mem); (case k1 => k_asm); (case k3 => k_asm); (case k5 => k_asm); (case kK => first | exact rfl | assumption); (case kd => ktr_room); (case ku => ktr_units); intro r9 h9 tk9 hr9 F9 N9; (obtain ⟨t9, e9⟩ := hr9; subst e9); (try dsimp only); (try k_fold))
  k_with "call ref" => (k_here; (with_reducible show wpAny _ _ (call (Value.ref 77) _) _ _ _); k_dflt (refine' alu_name_con ?hx ?hdx  _ _ _ _ _ _ _ _ _ _ _ _ _ _ _ _ _ _ _ _ ?k1 ?k2 ?k3 ?k4 ?k5 ?kK ?kd ?ku ?_); (case k2 => k_asm); (case k4 => k_asm); (case hx => k_mem); (case hdx => k_mem); (case k1 => k_asm); (case k3 => k_asm); (case k5 => k_asm); (case kK => first | exact rfl | assumption); (case kd => ktr_room); (case ku => ktr_units); intro r9 h9 tk9 hr9 F9 N9; (obtain ⟨t9, e9⟩ := hr9; subst e9); (try dsimp only); (try k_fold))
  k_with "call ref" => (k_here; (with_reducible show wpAny _ _ (call (Value.ref 84) _) _ _ _); k_dflt (refine' jump_name_con ?hx ?hdx  _ _ _ _ _ _ _ _ _ _ _ _ _ _ _ _ _ _ _ _ ?k1 ?k2 ?k3 ?k4 ?k5 ?kK ?kd ?ku ?_); (case k2 => k_asm); (case k4 => k_asm); (case hx => k_mem); (case hdx => k_mem); (case k1 => k_asm); (case k3 => k_asm); (case k5 => k_asm); (case kK => first | exact rfl | assumption); (case kd => ktr_room); (case ku => ktr_units); intro r9 h9 tk9 hr9 F9 N9; (obtain ⟨t9, e9⟩ := hr9; subst e9); (try dsimp only); (try k_fold))
  k_with "call ref" => (k_here; (with_reducible show wpAny _ _ (call (Value.ref 70) _) _ _ _); k_dflt (refine' load_width_con ?hx ?hdx  _ _ _ _ _ _ _ _ _ _ _ _ _ _ _ _ _ _ _ _ ?k1 ?k2 ?k3 ?k4 ?k5 ?kK ?kd ?ku ?_); (case k2 => k_asm); (case k4 => k_asm); (case hx => k_mem); (case hdx => k_mem); (case k1 => k_asm); (case k3 => k_asm); (case k5 => k_asm); (case kK => first | exact rfl | assumption); (case kd => ktr_room); (case ku => ktr_units); intro r9 h9 tk9 hr9 F9 N9; (obtain ⟨t9, e9⟩ := hr9; subst e9); (try dsimp only); (try k_fold))
  k_with "call ref" => (k_here; (with_reducible show wpAny _ _ (call (Value.ref 91) _) _ _ _); k_dflt (refine' is_by_x_con ?hx ?hdx  _ _ _ _ _ _ _ _ _ _ _ _ _ _ _ _ _ _ _ _ ?k1 ?k2 ?k3 ?k4 ?k5 ?kK ?kd ?ku ?_); (case k2 => k_asm); (case k4 => k_asm); (case hx => k_mem); (case hdx => k_mem); (case k1 => k_asm); (case k3 => k_asm); (case k5 => k_asm); (case kK => first | exact rfl | assumption); (case kd => ktr_room); (case ku => ktr_units); intro r9 h9 tk9 hr9 F9 N9; subst hr9; (try dsimp only); (try k_fold))
  k_with "call ref" => (k_here; (with_reducible show wpAny _ _ (call (Value.ref 98) _) _ _ _); k_dflt (refine' is_return_con ?hx ?hdx  _ _ _ _ _ _ _ _ _ _ _ _ _ _ _ _ _ _ _ _ ?k1 ?k2 ?k3 ?k4 ?k5 ?kK ?kd ?ku ?_); (case k2 => k_asm); (case k4 => k_asm); (case hx => k_mem); (case hdx => k_mem); (case k1 => k_asm); (case k3 => k_asm); (case k5 => k_asm); (case kK => first | exact rfl | assumption); (case kd => ktr_room); (case ku => ktr_units); intro r9 h9 tk9 hr9 F9 N9; subst hr9; (try dsimp only); (try k_fold))
  k_with "call ref" => (k_here; (with_reducible show wpAny _ _ (call (Value.ref 105) _) _ _ _); k_dflt (refine' is_return_a_con ?hx ?hdx  _ _ _ _ _ _ _ _ _ _ _ _ _ _ _ _ _ _ _ _ ?k1 ?k2 ?k3 ?k4 ?k5 ?kK ?kd ?ku ?_); (case k2 => k_asm); (case k4 => k_asm); (case hx => k_mem); (case hdx => k_mem); (case k1 => k_asm); (case k3 => k_asm); (case k5 => k_asm); (case kK => first | exact rfl | assumption); (case kd => ktr_room); (case ku => ktr_units); intro r9 h9 tk9 hr9 F9 N9; subst hr9; (try dsimp only); (try k_fold))
  k_with "call ref" => (k_here; (with_reducible show wpAny _ _ (call (Value.ref 112) _) _ _ _); k_dflt (refine' read_cell_con ?hx ?hdx  _ _ _ _ _ _ _ _ _ _ _ _ _ _ _ _ _ _ _ _ ?k1 ?k2 ?k3 ?k4 ?k5 ?kK ?kd ?ku ?_); (case k2 => k_asm); (case k4 => k_asm); (case hx => k_mem); (case hdx => k_mem); (case k1 => k_asm); (case k3 => k_asm); (case k5 => k_asm); (case kK => first | exact rfl | assumption); (case kd => ktr_room); (case ku => ktr_units); intro r9 h9 tk9 hr9 F9 N9; (obtain ⟨t9, e9⟩ := hr9; subst e9); (try dsimp only); (try k_fold))
  intro mean mg mb dp un gd cn cs a ccd cl outer A₀ base h₀ L m s Q E B F X N T hk hdp hun hret
  refine wpAny_call ?_
  k_dflt (refine' code_def (binds := [(Str.ofString "order", Value.ref x)]) ?k1 ?k2 ?k3 ?k4 ?k5 ?kA ?kF ?kK ?k6 ?k7 ?k8 ?k9 ?kB ?_ ?c2 ?c3 ?c4 ?c5; (case kA => exact rfl); (case kF => exact rfl); (case kK => assumption); (case k1 => k_asm); (case k2 => k_asm); (case k3 => k_asm); (case k4 => k_asm); (case k5 => k_asm); (case k6 => k_is); (case k7 => k_is); (case k8 => ktr_room); (case k9 => exact BindsTo.of_eq rfl); (case c5 => decide); (case kB => exact locs rfl); (case c2 => exact rfl); (case c3 => exact rfl); (case c4 => exact rfl); k_whole; intro g' L' h' FG' F' N' B' X' T'; (try dsimp only); (try k_lift B'); (try k_fold))
  k_steps
  all_goals (refine hret _ _ _ ?_ (by k_asm) (cb_drop (by k_asm) (by intro p hp; repeat (first | assumption | refine List.mem_cons_of_mem _ ?_))))
  all_goals first | exact ⟨_, rfl⟩ | rfl | (first | refine rI ?_ | refine rS ?_ | refine rB ?_); (simp_all [writtenCell])
noncomputable def loadText (code k : Int) : Str :=
  if modeName code = Str.ofString "imm" then (if Builtin.bitAnd code 7 = 0 then Str.ofString "ld" else Str.ofString "ldx") ++ Str.ofString " #" ++ Str.ofString (toString k)
  else if modeName code = Str.ofString "mem" then (if Builtin.bitAnd code 7 = 0 then Str.ofString "ld" else Str.ofString "ldx") ++ Str.ofString " M[" ++ Str.ofString (toString k) ++ Str.ofString "]"
  else if modeName code = Str.ofString "len" then (if Builtin.bitAnd code 7 = 0 then Str.ofString "ld" else Str.ofString "ldx") ++ Str.ofString " #len"
  else if modeName code = Str.ofString "msh" then Str.ofString "ldx 4*([" ++ Str.ofString (toString k) ++ Str.ofString "]&0xf)"
  else (if Builtin.bitAnd code 7 = 0 then (if loadWidth code = 4 then Str.ofString "ld" else if loadWidth code = 2 then Str.ofString "ldh" else Str.ofString "ldb")
      else (if loadWidth code = 4 then Str.ofString "ldx" else if loadWidth code = 2 then Str.ofString "ldxh" else Str.ofString "ldxb"))
    ++ ((if modeName code = Str.ofString "abs" then Str.ofString " [" else Str.ofString " [x + ") ++ Str.ofString (toString k) ++ Str.ofString "]")
theorem loadWidth_three (code : Int) : loadWidth code = 4 ∨ loadWidth code = 2 ∨ loadWidth code = 1 := by
  unfold loadWidth
  split
  · exact .inr (.inl rfl)
  · split
    · exact .inr (.inr rfl)
    · exact .inl rfl
set_option maxHeartbeats 4000000 in
theorem load_text_con {w : World} {news : List (Addr × Obj)} {x dx : Addr} {h1 h2 h3 h4 : Int} {t1 t2 t3 t4 u1 u2 u3 u4 : Tok} {code jt jf k : Int}
    (hx : (x, instObj 45 dx) ∈ news) (hdx : (dx, ordD h1 h2 h3 h4 t1 t2 t3 t4 u1 u2 u3 u4 code jt jf k) ∈ news) (hk0 : 0 ≤ k) (hk1 : k < 4294967296) :
    Con w 126 2 16 news [.ref x] (fun r => ∃ t, r = .str (loadText code k) t) := by
  unfold Con TopR
  w_top off
  k_fill
  k_with_none
  k_with "call builtin:str.split" => (k_here; (with_reducible show wpAny _ _ (call (Value.builtin "str.split") [Value.str (Str.ofString _) _]) _ _ _); k_dflt (refine' split_ws ?w ?F ?N ?_ ?z; (case w => first | with_reducible exact clsNames_words | with_reducible exact modeNames_words | with_reducible exact aluNames_words | with_reducible exact jumpNames_words); (case F => k_asm); (case N => k_asm); (case z => kspl_size)); intro D' vs' h' k' hA' F' N'; (try k_sweep))
  k_with "call builtin:len" => (k_here; (rename StrsAre _ _ => hA'); (with_reducible show wpAny _ _ (call (Value.builtin "len") [Value.ref _]) _ _ _); k_dflt (refine' names_len ?N ?m hA' ?e ?n ?_; (case N => k_asm); (case m => k_mem); (case e => first | exact (rfl : ((modeNames.length : Nat) : Int) = 6) | exact (rfl : ((aluNames.length : Nat) : Int) = 11) | exact (rfl : ((jumpNames.length : Nat) : Int) = 5)); (case n => decide)))
  k_with "subscriptTail" => (k_here; (rename StrsAre _ _ => hA'); (with_reducible show wpAny _ _ (subscriptTail _ _ (Value.ref _) (Value.int (Builtin.bitAnd _ _) _)) _ _ _); k_dflt (refine' KTb.item_list ?ktbl hA' ?kt0 ?kt1 ?kt2 ?_); (case ktbl => exact newsList (by k_asm) (by k_mem)); (case kt0 => first | exact (and7 _).1 | exact (and15 _).1); (case kt1 => first | exact (by assumption) | exact (and7 _).2); (case kt2 => first | exact and7fit _ | exact and15fit _); intro _ _)
  k_with "call ref" => (k_here; (with_reducible show wpAny _ _ (call (Value.ref 56) _) _ _ _); k_dflt (refine' class_name_con ?hx ?hdx  _ _ _ _ _ _ _ _ _ _ _ _ _ _ _ _ _ _ _ _ ?k1 ?k2 ?k3 ?k4 ?k5 ?kK ?kd ?ku ?_); (case k2 => k_asm); (case k4 => k_asm); (case hx => k_mem); (case hdx => k_mem); (case k1 => k_asm); (case k3 => k_asm); (case k5 => k_asm); (case kK => first | exact rfl | assumption); (case kd => ktr_room); (case ku => ktr_units); intro r9 h9 tk9 hr9 F9 N9; (obtain ⟨t9, e9⟩ := hr9; subst e9); (try dsimp only); (try k_fold))
  k_with "call ref" => (k_here; (with_reducible show wpAny _ _ (call (Value.ref 63) _) _ _ _); k_dflt (refine' mode_name_con ?hx ?hdx  _ _ _ _ _ _ _ _ _ _ _ _ _ _ _ _ _ _ _ _ ?k1 ?k2 ?k3 ?k4 ?k5 ?kK ?kd ?ku ?_); (case k2 => k_asm); (case k4 => k_asm); (case hx => k_mem); (case hdx => k_mem); (case k1 => k_asm); (case k3 => k_asm); (case k5 => k_asm); (case kK => first | exact rfl | assumption); (case kd => ktr_room); (case ku => ktr_units); intro r9 h9 tk9 hr9 F9 N9; (obtain ⟨t9, e9⟩ := hr9; subst e9); (try dsimp only); (try k_fold))
  k_with "call ref" => (k_here; (with_reducible show wpAny _ _ (call (Value.ref 77) _) _ _ _); k_dflt (refine' alu_name_con ?hx ?hdx  _ _ _ _ _ _ _ _ _ _ _ _ _ _ _ _ _ _ _ _ ?k1 ?k2 ?k3 ?k4 ?k5 ?kK ?kd ?ku ?_); (case k2 => k_asm); (case k4 => k_asm); (case hx => k_mem); (case hdx => k_mem); (case k1 => k_asm); (case k3 => k_asm); (case k5 => k_asm); (case kK => first | exact rfl | assumption); (case kd => ktr_room); (case ku => ktr_units); intro r9 h9 tk9 hr9 F9 N9; (obtain ⟨t9, e9⟩ := hr9; subst e9); (try dsimp only); (try k_fold))
  k_with "call ref" => (k_here; (with_reducible show wpAny _ _ (call (Value.ref 84) _) _ _ _); k_dflt (refine' jump_name_con ?hx ?hdx  _ _ _ _ _ _ _ _ _ _ _ _ _ _ _ _ _ _ _ _ ?k1 ?k2 ?k3 ?k4 ?k5 ?kK ?kd ?ku ?_); (case k2 => k_asm); (case k4 => k_asm); (case hx => k_mem); (case hdx => k_mem); (case k1 => k_asm); (case k3 => k_asm); (case k5 => k_asm); (case kK => first | exact rfl | assumption); (case kd => ktr_room); (case ku => ktr_units); intro r9 h9 tk9 hr9 F9 N9; (obtain ⟨t9, e9⟩ := hr9; subst e9); (try dsimp only); (try k_fold))
  k_with "call ref" => (k_here; (with_reducible show wpAny _ _ (call (Value.ref 70) _) _ _ _); k_dflt (refine' load_width_con ?hx ?hdx  _ _ _ _ _ _ _ _ _ _ _ _ _ _ _ _ _ _ _ _ ?k1 ?k2 ?k3 ?k4 ?k5 ?kK ?kd ?ku ?_); (case k2 => k_asm); (case k4 => k_asm); (case hx => k_mem); (case hdx => k_mem); (case k1 => k_asm); (case k3 => k_asm); (case k5 => k_asm); (case kK => first | exact rfl | assumption); (case kd => ktr_room); (case ku => ktr_units); intro r9 h9 tk9 hr9 F9 N9; (obtain ⟨t9, e9⟩ := hr9; subst e9); (try dsimp only); (try k_fold))
  k_with "call ref" => (k_here; (with_reducible show wpAny _ _ (call (Value.ref 91) _) _ _ _); k_dflt (refine' is_by_x_con ?hx ?hdx  _ _ _ _ _ _ _ _ _ _ _ _ _ _ _ _ _ _ _ _ ?k1 ?k2 ?k3 ?k4 ?k5 ?kK ?kd ?ku ?_); (case k2 => k_asm); (case k4 => k_asm); (case hx => k_mem); (case hdx => k_mem); (case k1 => k_asm); (case k3 => k_asm); (case k5 => k_asm); (case kK => first | exact rfl | assumption); (case kd => ktr_room); (case ku => ktr_units); intro r9 h9 tk9 hr9 F9 N9; subst hr9; (try dsimp only); (try k_fold))
  k_with "call ref" => (k_here; (with_reducible show wpAny _ _ (call (Value.ref 98) _) _ _ _); k_dflt (refine' is_return_con ?hx ?hdx  _ _ _ _ _ _ _ _ _ _ _ _ _ _ _ _ _ _ _ _ ?k1 ?k2 ?k3 ?k4 ?k5 ?kK ?kd ?ku ?_); (case k2 => k_asm); (case k4 => k_asm); (case hx => k_mem); (case hdx => k_mem); (case k1 => k_asm); (case k3 => k_asm); (case k5 => k_asm); (case kK => first | exact rfl | assumption); (case kd => ktr_room); (case ku => ktr_units); intro r9 h9 tk9 hr9 F9 N9; subst hr9; (try dsimp only); (try k_fold))
  k_with "call ref" => (k_here; (with_reducible show wpAny _ _ (call (Value.ref 105) _) _ _ _); k_dflt (refine' is_return_a_con ?hx ?hdx  _ _ _ _ _ _ _ _ _ _ _ _ _ _ _ _ _ _ _ _ ?k1 ?k2 ?k3 ?k4 ?k5 ?kK ?kd ?ku ?_); (case k2 => k_asm); (case k4 => k_asm); (case hx => k_mem); (case hdx => k_mem); (case k1 => k_asm); (case k3 => k_asm); (case k5 => k_asm); (case kK => first | exact rfl | assumption); (case kd => ktr_room); (case ku => ktr_units); intro r9 h9 tk9 hr9 F9 N9; subst hr9; (try dsimp only); (try k_fold))
  k_with "call ref" => (k_here; (with_reducible show wpAny _ _ (call (Value.ref 112) _) _ _ _); k_dflt (refine' read_cell_con ?hx ?hdx  _ _ _ _ _ _ _ _ _ _ _ _ _ _ _ _ _ _ _ _ ?k1 ?k2 ?k3 ?k4 ?k5 ?kK ?kd ?ku ?_); (case k2 => k_asm); (case k4 => k_asm); (case hx => k_mem); (case hdx => k_mem); (case k1 => k_asm); (case k3 => k_asm); (case k5 => k_asm); (case kK => first | exact rfl | assumption); (case kd => ktr_room); (case ku => ktr_units); intro r9 h9 tk9 hr9 F9 N9; (obtain ⟨t9, e9⟩ := hr9; subst e9); (try dsimp only); (try k_fold))
  k_with "call ref" => (k_here; (with_reducible show wpAny _ _ (call (Value.ref 119) _) _ _ _); k_dflt (refine' written_cell_con ?hx ?hdx  _ _ _ _ _ _ _ _ _ _ _ _ _ _ _ _ _ _ _ _ ?k1 ?k2 ?k3 ?k4 ?k5 ?kK ?kd ?ku ?_); (case k2 => k_asm); (case k4 => k_asm); (case hx => k_mem); (case hdx => k_mem); (case k1 => k_asm); (case k3 => k_asm); (case k5 => k_asm); (case kK => first | exact rfl | assumption); (case kd => ktr_room); (case ku => ktr_units); intro r9 h9 tk9 hr9 F9 N9; (obtain ⟨t9, e9⟩ := hr9; subst e9); (try dsimp only); (try k_fold))
  intro mean mg mb dp un gd cn cs a ccd cl outer A₀ base h₀ L m s Q E B F X N T hk hdp hun hret
  refine wpAny_call ?_
  k_dflt (refine' code_def (binds := [(Str.ofString "order", Value.ref x)]) ?k1 ?k2 ?k3 ?k4 ?k5 ?kA ?kF ?kK ?k6 ?k7 ?k8 ?k9 ?kB ?_ ?c2 ?c3 ?c4 ?c5; (case kA => exact rfl); (case kF => exact rfl); (case kK => assumption); (case k1 => k_asm); (case k2 => k_asm); (case k3 => k_asm); (case k4 => k_asm); (case k5 => k_asm); (case k6 => k_is); (case k7 => k_is); (case k8 => ktr_room); (case k9 => exact BindsTo.of_eq rfl); (case c5 => decide); (case kB => exact locs rfl); (case c2 => exact rfl); (case c3 => exact rfl); (case c4 => exact rfl); k_whole; intro g' L' h' FG' F' N' B' X' T'; (try dsimp only); (try k_lift B'); (try k_fold))
  have hkl := kText hk0 hk1
  have hlw := loadWidth_three code
  k_steps
  all_goals (refine hret _ _ _ ?_ (by k_asm) (cb_drop (by k_asm) (by intro p hp; repeat (first | assumption | refine List.mem_cons_of_mem _ ?_))))
  all_goals first | exact ⟨_, rfl⟩ | rfl | (first | refine rI ?_ | refine rS ?_ | refine rB ?_); (simp only [beq_iff_eq, beq_eq_false_iff_ne, ne_eq] at *; simp (decide := true) [loadText, *])
noncomputable def jumpText (code jt jf k : Int) : Str :=
  if jumpName code = Str.ofString "ja" then Str.ofString "ja +" ++ Str.ofString (toString k)
  else jumpName code ++ Str.ofString " " ++ (if isByX code = true then Str.ofString "x" else Str.ofString "#" ++ Str.ofString (toString k)) ++ Str.ofString ", +" ++ Str.ofString (toString jt) ++ Str.ofString ", +" ++ Str.ofString (toString jf)
set_option maxHeartbeats 4000000 in
theorem jump_text_con {w : World} {news : List (Addr × Obj)} {x dx : Addr} {h1 h2 h3 h4 : Int} {t1 t2 t3 t4 u1 u2 u3 u4 : Tok} {code jt jf k : Int}
    (hx : (x, instObj 45 dx) ∈ news) (hdx : (dx, ordD h1 h2 h3 h4 t1 t2 t3 t4 u1 u2 u3 u4 code jt jf k) ∈ news) (hk0 : 0 ≤ k) (hk1 : k < 4294967296) (hjt0 : 0 ≤ jt) (hjt1 : jt < 4294967296) (hjf0 : 0 ≤ jf) (hjf1 : jf < 4294967296) :
    Con w 133 2 16 news [.ref x] (fun r => ∃ t, r = .str (jumpText code jt jf k) t) := by
  unfold Con TopR
  w_top off
  k_fill
  k_with_none
  k_with "call builtin:str.split" => (k_here; (with_reducible show wpAny _ _ (call (Value.builtin "str.split") [Value.str (Str.ofString _) _]) _ _ _); k_dflt (refine' split_ws ?w ?F ?N ?_ ?z; (case w => first | with_reducible exact clsNames_words | with_reducible exact modeNames_words | with_reducible exact aluNames_words | with_reducible exact jumpNames_words); (case F => k_asm); (case N => k_asm); (case z => kspl_size)); intro D' vs' h' k' hA' F' N'; (try k_sweep))
  k_with "call builtin:len" => (k_here; (rename StrsAre _ _ => hA'); (with_reducible show wpAny _ _ (call (Value.builtin "len") [Value.ref _]) _ _ _); k_dflt (refine' names_len ?N ?m hA' ?e ?n ?_; (case N => k_asm); (case m => k_mem); (case e => first | exact (rfl : ((modeNames.length : Nat) : Int) = 6) | exact (rfl : ((aluNames.length : Nat) : Int) = 11) | exact (rfl : ((jumpNames.length : Nat) : Int) = 5)); (case n => decide)))
  k_with "subscriptTail" => (k_here; (rename StrsAre _ _ => hA'); (with_reducible show wpAny _ _ (subscriptTail _ _ (Value.ref _) (Value.int (Builtin.bitAnd _ _) _)) _ _ _); k_dflt (refine' KTb.item_list ?ktbl hA' ?kt0 ?kt1 ?kt2 ?_); (case ktbl => exact newsList (by k_asm) (by k_mem)); (case kt0 => first | exact (and7 _).1 | exact (and15 _).1); (case kt1 => first | exact (by assumption) | exact (and7 _).2); (case kt2 => first | exact and7fit _ | exact and15fit _); intro _ _)
  k_with "call ref" => (k_here; (with_reducible show wpAny _ _ (call (Value.ref 56) _) _ _ _); k_dflt (refine' class_name_con ?hx ?hdx  _ _ _ _ _ _ _ _ _ _ _ _ _ _ _ _ _ _ _ _ ?k1 ?k2 ?k3 ?k4 ?k5 ?kK ?kd ?ku ?_); (case k2 => k_asm); (case k4 => k_asm); (case hx => k_mem); (case hdx => k_mem); (case k1 => k_asm); (case k3 => k_asm); (case k5 => k_asm); (case kK => first | exact rfl | assumption); (case kd => ktr_room); (case ku => ktr_units); intro r9 h9 tk9 hr9 F9 N9; (obtain ⟨t9, e9⟩ := hr9; subst e9); (try dsimp only); (try k_fold))
  k_with "call ref" => (k_here; (with_reducible show wpAny _ _ (call (Value.ref 63) _) _ _ _); k_dflt (refine' mode_name_con ?hx ?hdx  _ _ _ _ _ _ _ _ _ _ _ _ _ _ _ _ _ _ _ _ ?k1 ?k2 ?k3 ?k4 ?k5 ?kK ?kd ?ku ?_); (case k2 => k_asm); (case k4 => k_asm); (case hx => k_mem); (case hdx => k_mem); (case k1 => k_asm); (case k3 => k_asm); (case k5 => k_asm); (case kK => first | exact rfl | assumption); (case kd => ktr_room); (case ku => ktr_units); intro r9 h9 tk9 hr9 F9 N9; (obtain ⟨t9, e9⟩ := hr9; subst e9); (try dsimp only); (try k_fold))
  k_with "call ref" => (k_here; (with_reducible show wpAny _ _ (call (Value.ref 77) _) _ _ _); k_dflt (refine' alu_name_con ?hx ?hdx  _ _ _ _ _ _ _ _ _ _ _ _ _ _ _ _ _ _ _ _ ?k1 ?k2 ?k3 ?k4 ?k5 ?kK ?kd ?ku ?_); (case k2 => k_asm); (case k4 => k_asm); (case hx => k_mem); (case hdx => k_mem); (case k1 => k_asm); (case k3 => k_asm); (case k5 => k_asm); (case kK => first | exact rfl | assumption); (case kd => ktr_room); (case ku => ktr_units); intro r9 h9 tk9 hr9 F9 N9; (obtain ⟨t9, e9⟩ := hr9; subst e9); (try dsimp only); (try k_fold))
  k_with "call ref" => (k_here; (with_reducible show wpAny _ _ (call (Value.ref 84) _) _ _ _); k_dflt (refine' jump_name_con ?hx ?hdx  _ _ _ _ _ _ _ _ _ _ _ _ _ _ _ _ _ _ _ _ ?k1 ?k2 ?k3 ?k4 ?k5 ?kK ?kd ?ku ?_); (case k2 => k_asm); (case k4 => k_asm); (case hx => k_mem); (case hdx => k_mem); (case k1 => k_asm); (case k3 => k_asm); (case k5 => k_asm); (case kK => first | exact rfl | assumption); (case kd => ktr_room); (case ku => ktr_units); intro r9 h9 tk9 hr9 F9 N9; (obtain ⟨t9, e9⟩ := hr9; subst e9); (try dsimp only); (try k_fold))
  k_with "call ref" => (k_here; (with_reducible show wpAny _ _ (call (Value.ref 70) _) _ _ _); k_dflt (refine' load_width_con ?hx ?hdx  _ _ _ _ _ _ _ _ _ _ _ _ _ _ _ _ _ _ _ _ ?k1 ?k2 ?k3 ?k4 ?k5 ?kK ?kd ?ku ?_); (case k2 => k_asm); (case k4 => k_asm); (case hx => k_mem); (case hdx => k_mem); (case k1 => k_asm); (case k3 => k_asm); (case k5 => k_asm); (case kK => first | exact rfl | assumption); (case kd => ktr_room); (case ku => ktr_units); intro r9 h9 tk9 hr9 F9 N9; (obtain ⟨t9, e9⟩ := hr9; subst e9); (try dsimp only); (try k_fold))
  k_with "call ref" => (k_here; (with_reducible show wpAny _ _ (call (Value.ref 91) _) _ _ _); k_dflt (refine' is_by_x_con ?hx ?hdx  _ _ _ _ _ _ _ _ _ _ _ _ _ _ _ _ _ _ _ _ ?k1 ?k2 ?k3 ?k4 ?k5 ?kK ?kd ?ku ?_); (case k2 => k_asm); (case k4 => k_asm); (case hx => k_mem); (case hdx => k_mem); (case k1 => k_asm); (case k3 => k_asm); (case k5 => k_asm); (case kK => first | exact rfl | assumption); (case kd => ktr_room); (case ku => ktr_units); intro r9 h9 tk9 hr9 F9 N9; subst hr9; (try dsimp only); (try k_fold))
  k_with "call ref" => (k_here; (with_reducible show wpAny _ _ (call (Value.ref 98) _) _ _ _); k_dflt (refine' is_return_con ?hx ?hdx  _ _ _ _ _ _ _ _ _ _ _ _ _ _ _ _ _ _ _ _ ?k1 ?k2 ?k3 ?k4 ?k5 ?kK ?kd ?ku ?_); (case k2 => k_asm); (case k4 => k_asm); (case hx => k_mem); (case hdx => k_mem); (case k1 => k_asm); (case k3 => k_asm); (case k5 => k_asm); (case kK => first | exact rfl | assumption); (case kd => ktr_room); (case ku => ktr_units); intro r9 h9 tk9 hr9 F9 N9; subst hr9; (try dsimp only); (try k_fold))
  k_with "call ref" => (k_here; (with_reducible show wpAny _ _ (call (Value.ref 105) _) _ _ _); k_dflt (refine' is_return_a_con ?hx ?hdx  _ _ _ _ _ _ _ _ _ _ _ _ _ _ _ _ _ _ _ _ ?k1 ?k2 ?k3 ?k4 ?k5 ?kK ?kd ?ku ?_); (case k2 => k_asm); (case k4 => k_asm); (case hx => k_mem); (case hdx => k_mem); (case k1 => k_asm); (case k3 => k_asm); (case k5 => k_asm); (case kK => first | exact rfl | assumption); (case kd => ktr_room); (case ku => ktr_units); intro r9 h9 tk9 hr9 F9 N9; subst hr9; (try dsimp only); (try k_fold))
  k_with "call ref" => (k_here; (with_reducible show wpAny _ _ (call (Value.ref 112) _) _ _ _); k_dflt (refine' read_cell_con ?hx ?hdx  _ _ _ _ _ _ _ _ _ _ _ _ _ _ _ _ _ _ _ _ ?k1 ?k2 ?k3 ?k4 ?k5 ?kK ?kd ?ku ?_); (case k2 => k_asm); (case k4 => k_asm); (case hx => k_mem); (case hdx => k_mem); (case k1 => k_asm); (case k3 => k_asm); (case k5 => k_asm); (case kK => first | exact rfl | assumption); (case kd => ktr_room); (case ku => ktr_units); intro r9 h9 tk9 hr9 F9 N9; (obtain ⟨t9, e9⟩ := hr9; subst e9); (try dsimp only); (try k_fold))
  k_with "call ref" => (k_here; (with_reducible show wpAny _ _ (call (Value.ref 119) _) _ _ _); k_dflt (refine' written_cell_con ?hx ?hdx  _ _ _ _ _ _ _ _ _ _ _ _ _ _ _ _ _ _ _ _ ?k1 ?k2 ?k3 ?k4 ?k5 ?kK ?kd ?ku ?_); (case k2 => k_asm); (case k4 => k_asm); (case hx => k_mem); (case hdx => k_mem); (case k1 => k_asm); (case k3 => k_asm); (case k5 => k_asm); (case kK => first | exact rfl | assumption); (case kd => ktr_room); (case ku => ktr_units); intro r9 h9 tk9 hr9 F9 N9; (obtain ⟨t9, e9⟩ := hr9; subst e9); (try dsimp only); (try k_fold))
  k_with "call ref" => (k_here; (with_reducible show wpAny _ _ (call (Value.ref 126) _) _ _ _); k_dflt (refine' load_text_con ?hx ?hdx ?e0 ?e1 _ _ _ _ _ _ _ _ _ _ _ _ _ _ _ _ _ _ _ _ ?k1 ?k2 ?k3 ?k4 ?k5 ?kK ?kd ?ku ?_); (case k2 => k_asm); (case k4 => k_asm); (case hx => k_mem); (case hdx => k_mem); (case e0 => assumption); (case e1 => assumption); (case k1 => k_asm); (case k3 => k_asm); (case k5 => k_asm); (case kK => first | exact rfl | assumption); (case kd => ktr_room); (case ku => ktr_units); intro r9 h9 tk9 hr9 F9 N9; (obtain ⟨t9, e9⟩ := hr9; subst e9); (try dsimp only); (try k_fold))
  intro mean mg mb dp un gd cn cs a ccd cl outer A₀ base h₀ L m s Q E B F X N T hk hdp hun hret
  refine wpAny_call ?_
  k_dflt (refine' code_def (binds := [(Str.ofString "order", Value.ref x)]) ?k1 ?k2 ?k3 ?k4 ?k5 ?kA ?kF ?kK ?k6 ?k7 ?k8 ?k9 ?kB ?_ ?c2 ?c3 ?c4 ?c5; (case kA => exact rfl); (case kF => exact rfl); (case kK => assumption); (case k1 => k_asm); (case k2 => k_asm); (case k3 => k_asm); (case k4 => k_asm); (case k5 => k_asm); (case k6 => k_is); (case k7 => k_is); (case k8 => ktr_room); (case k9 => exact BindsTo.of_eq rfl); (case c5 => decide); (case kB => exact locs rfl); (case c2 => exact rfl); (case c3 => exact rfl); (case c4 => exact rfl); k_whole; intro g' L' h' FG' F' N' B' X' T'; (try dsimp only); (try k_lift B'); (try k_fold))
  have hkl := kText hk0 hk1
  have hjtl := kText hjt0 hjt1
  have hjfl := kText hjf0 hjf1
  have hjl := jumpLen code
  k_steps
  all_goals (refine hret _ _ _ ?_ (by k_asm) (cb_drop (by k_asm) (by intro p hp; repeat (first | assumption | refine List.mem_cons_of_mem _ ?_))))
  all_goals first | exact ⟨_, rfl⟩ | rfl | (first | refine rI ?_ | refine rS ?_ | refine rB ?_); (simp only [beq_iff_eq, beq_eq_false_iff_ne, ne_eq] at *; simp (decide := true) [jumpText, *])
theorem clsLen (code : Int) : (className code).length ≤ 4 := getD_len (by decide)
noncomputable def showText (code jt jf k : Int) : Str :=
  if className code = Str.ofString "ld" ∨ className code = Str.ofString "ldx" then loadText code k
  else if className code = Str.ofString "st" ∨ className code = Str.ofString "stx" then className code ++ Str.ofString " M[" ++ Str.ofString (toString k) ++ Str.ofString "]"
  else if className code = Str.ofString "alu" then (if aluName code = Str.ofString "neg" then aluName code else aluName code ++ (if isByX code = true then Str.ofString " x" else Str.ofString " #" ++ Str.ofString (toString k)))
  else if className code = Str.ofString "jmp" then jumpText code jt jf k
  else if className code = Str.ofString "ret" then (if isReturnA code = true then Str.ofString "ret a" else Str.ofString "ret #" ++ Str.ofString (toString k))
  else if Builtin.bitAnd code 128 = 0 then Str.ofString "tax" else Str.ofString "txa"
set_option maxHeartbeats 4000000 in
theorem show_classic_con {w : World} {news : List (Addr × Obj)} {x dx : Addr} {h1 h2 h3 h4 : Int} {t1 t2 t3 t4 u1 u2 u3 u4 : Tok} {code jt jf k : Int}
    (hx : (x, instObj 45 dx) ∈ news) (hdx : (dx, ordD h1 h2 h3 h4 t1 t2 t3 t4 u1 u2 u3 u4 code jt jf k) ∈ news) (hk0 : 0 ≤ k) (hk1 : k < 4294967296) (hjt0 : 0 ≤ jt) (hjt1 : jt < 4294967296) (hjf0 : 0 ≤ jf) (hjf1 : jf < 4294967296) :
    Con w 140 3 24 news [.ref x] (fun r => ∃ t, r = .str (showText code jt jf k) t) := by
  unfold Con TopR
  w_top off
  k_fill
  k_with_none
  k_with "call builtin:str.split" => (k_here; (with_reducible show wpAny _ _ (call (Value.builtin "str.split") [Value.str (Str.ofString _) _]) _ _ _); k_dflt (refine' split_ws ?w ?F ?N ?_ ?z; (case w => first | with_reducible exact clsNames_words | with_reducible exact modeNames_words | with_reducible exact aluNames_words | with_reducible exact jumpNames_words); (case F => k_asm); (case N => k_asm); (case z => kspl_size)); intro D' vs' h' k' hA' F' N'; (try k_sweep))
  k_with "call builtin:len" => (k_here; (rename StrsAre _ _ => hA'); (with_reducible show wpAny _ _ (call (Value.builtin "len") [Value.ref _]) _ _ _); k_dflt (refine' names_len ?N ?m hA' ?e ?n ?_; (case N => k_asm); (case m => k_mem); (case e => first | exact (rfl : ((modeNames.length : Nat) : Int) = 6) | exact (rfl : ((aluNames.length : Nat) : Int) = 11) | exact (rfl : ((jumpNames.length : Nat) : Int) = 5)); (case n => decide)))
  k_with "subscriptTail" => (k_here; (rename StrsAre _ _ => hA'); (with_reducible show wpAny _ _ (subscriptTail _ _ (Value.ref _) (Value.int (Builtin.bitAnd _ _) _)) _ _ _); k_dflt (refine' KTb.item_list ?ktbl hA' ?kt0 ?kt1 ?kt2 ?_); (case ktbl => exact newsList (by k_asm) (by k_mem)); (case kt0 => first | exact (and7 _).1 | exact (and15 _).1); (case kt1 => first | exact (by assumption) | exact (and7 _).2); (case kt2 => first | exact and7fit _ | exact and15fit _); intro _ _)
  k_with "call ref" => (k_here; (with_reducible show wpAny _ _ (call (Value.ref 56) _) _ _ _); k_dflt (refine' class_name_con ?hx ?hdx  _ _ _ _ _ _ _ _ _ _ _ _ _ _ _ _ _ _ _ _ ?k1 ?k2 ?k3 ?k4 ?k5 ?kK ?kd ?ku ?_); (case k2 => k_asm); (case k4 => k_asm); (case hx => k_mem); (case hdx => k_mem); (case k1 => k_asm); (case k3 => k_asm); (case k5 => k_asm); (case kK => first | exact rfl | assumption); (case kd => ktr_room); (case ku => ktr_units); intro r9 h9 tk9 hr9 F9 N9; (obtain ⟨t9, e9⟩ := hr9; subst e9); (try dsimp only); (try k_fold))
  k_with "call ref" => (k_here; (with_reducible show wpAny _ _ (call (Value.ref 63) _) _ _ _); k_dflt (refine' mode_name_con ?hx ?hdx  _ _ _ _ _ _ _ _ _ _ _ _ _ _ _ _ _ _ _ _ ?k1 ?k2 ?k3 ?k4 ?k5 ?kK ?kd ?ku ?_); (case k2 => k_asm); (case k4 => k_asm); (case hx => k_mem); (case hdx => k_mem); (case k1 => k_asm); (case k3 => k_asm); (case k5 => k_asm); (case kK => first | exact rfl | assumption); (case kd => ktr_room); (case ku => ktr_units); intro r9 h9 tk9 hr9 F9 N9; (obtain ⟨t9, e9⟩ := hr9; subst e9); (try dsimp only); (try k_fold))
  k_with "call ref" => (k_here; (with_reducible show wpAny _ _ (call (Value.ref 77) _) _ _ _); k_dflt (refine' alu_name_con ?hx ?hdx  _ _ _ _ _ _ _ _ _ _ _ _ _ _ _ _ _ _ _ _ ?k1 ?k2 ?k3 ?k4 ?k5 ?kK ?kd ?ku ?_); (case k2 => k_asm); (case k4 => k_asm); (case hx => k_mem); (case hdx => k_mem); (case k1 => k_asm); (case k3 => k_asm); (case k5 => k_asm); (case kK => first | exact rfl | assumption); (case kd => ktr_room); (case ku => ktr_units); intro r9 h9 tk9 hr9 F9 N9; (obtain ⟨t9, e9⟩ := hr9; subst e9); (try dsimp only); (try k_fold))
  k_with "call ref" => (k_here; (with_reducible show wpAny _ _ (call (Value.ref 84) _) _ _ _); k_dflt (refine' jump_name_con ?hx ?hdx  _ _ _ _ _ _ _ _ _ _ _ _ _ _ _ _ _ _ _ _ ?k1 ?k2 ?k3 ?k4 ?k5 ?kK ?kd ?ku ?_); (case k2 => k_asm); (case k4 => k_asm); (case hx => k_mem); (case hdx => k_mem); (case k1 => k_asm); (case k3 => k_asm); (case k5 => k_asm); (case kK => first | exact rfl | assumption); (case kd => ktr_room); (case ku => ktr_units); intro r9 h9 tk9 hr9 F9 N9; (obtain ⟨t9, e9⟩ := hr9; subst e9); (try dsimp only); (try k_fold))
  k_with "call ref" => (k_here; (with_reducible show wpAny _ _ (call (Value.ref 70) _) _ _ _); k_dflt (refine' load_width_con ?hx ?hdx  _ _ _ _ _ _ _ _ _ _ _ _ _ _ _ _ _ _ _ _ ?k1 ?k2 ?k3 ?k4 ?k5 ?kK ?kd ?ku ?_); (case k2 => k_asm); (case k4 => k_asm); (case hx => k_mem); (case hdx => k_mem); (case k1 => k_asm); (case k3 => k_asm); (case k5 => k_asm); (case kK => first | exact rfl | assumption); (case kd => ktr_room); (case ku => ktr_units); intro r9 h9 tk9 hr9 F9 N9; (obtain ⟨t9, e9⟩ := hr9; subst e9); (try dsimp only); (try k_fold))
  k_with "call ref" => (k_here; (with_reducible show wpAny _ _ (call (Value.ref 91) _) _ _ _); k_dflt (refine' is_by_x_con ?hx ?hdx  _ _ _ _ _ _ _ _ _ _ _ _ _ _ _ _ _ _ _ _ ?k1 ?k2 ?k3 ?k4 ?k5 ?kK ?kd ?ku ?_); (case k2 => k_asm); (case k4 => k_asm); (case hx => k_mem); (case hdx => k_mem); (case k1 => k_asm); (case k3 => k_asm); (case k5 => k_asm); (case kK => first | exact rfl | assumption); (case kd => ktr_room); (case ku => ktr_units); intro r9 h9 tk9 hr9 F9 N9; subst hr9; (try dsimp only); (try k_fold))
  k_with "call ref" => (k_here; (with_reducible show wpAny _ _ (call (Value.ref 98) _) _ _ _); k_dflt (refine' is_return_con ?hx ?hdx  _ _ _ _ _ _ _ _ _ _ _ _ _ _ _ _ _ _ _ _ ?k1 ?k2 ?k3 ?k4 ?k5 ?kK ?kd ?ku ?_); (case k2 => k_asm); (case k4 => k_asm); (case hx => k_mem); (case hdx => k_mem); (case k1 => k_asm); (case k3 => k_asm); (case k5 => k_asm); (case kK => first | exact rfl | assumption); (case kd => ktr_room); (case ku => ktr_units); intro r9 h9 tk9 hr9 F9 N9; subst hr9; (try dsimp only); (try k_fold))
  k_with "call ref" => (k_here; (with_reducible show wpAny _ _ (call (Value.ref 105) _) _ _ _); k_dflt (refine' is_return_a_con ?hx ?hdx  _ _ _ _ _ _ _ _ _ _ _ _ _ _ _ _ _ _ _ _ ?k1 ?k2 ?k3 ?k4 ?k5 ?kK ?kd ?ku ?_); (case k2 => k_asm); (case k4 => k_asm); (case hx => k_mem); (case hdx => k_mem); (case k1 => k_asm); (case k3 => k_asm); (case k5 => k_asm); (case kK => first | exact rfl | assumption); (case kd => ktr_room); (case ku => ktr_units); intro r9 h9 tk9 hr9 F9 N9; subst hr9; (try dsimp only); (try k_fold))
  k_with "call ref" => (k_here; (with_reducible show wpAny _ _ (call (Value.ref 112) _) _ _ _); k_dflt (refine' read_cell_con ?hx ?hdx  _ _ _ _ _ _ _ _ _ _ _ _ _ _ _ _ _ _ _ _ ?k1 ?k2 ?k3 ?k4 ?k5 ?kK ?kd ?ku ?_); (case k2 => k_asm); (case k4 => k_asm); (case hx => k_mem); (case hdx => k_mem); (case k1 => k_asm); (case k3 => k_asm); (case k5 => k_asm); (case kK => first | exact rfl | assumption); (case kd => ktr_room); (case ku => ktr_units); intro r9 h9 tk9 hr9 F9 N9; (obtain ⟨t9, e9⟩ := hr9; subst e9); (try dsimp only); (try k_fold))
  k_with "call ref" => (k_here; (with_reducible show wpAny _ _ (call (Value.ref 119) _) _ _ _); k_dflt (refine' written_cell_con ?hx ?hdx  _ _ _ _ _ _ _ _ _ _ _ _ _ _ _ _ _ _ _ _ ?k1 ?k2 ?k3 ?k4 ?k5 ?kK ?kd ?ku ?_); (case k2 => k_asm); (case k4 => k_asm); (case hx => k_mem); (case hdx => k_mem); (case k1 => k_asm); (case k3 => k_asm); (case k5 => k_asm); (case kK => first | exact rfl | assumption); (case kd => ktr_room); (case ku => ktr_units); intro r9 h9 tk9 hr9 F9 N9; (obtain ⟨t9, e9⟩ := hr9; subst e9); (try dsimp only); (try k_fold))
  k_with "call ref" => (k_here; (with_reducible show wpAny _ _ (call (Value.ref 126) _) _ _ _); k_dflt (refine' load_text_con ?hx ?hdx ?e0 ?e1 _ _ _ _ _ _ _ _ _ _ _ _ _ _ _ _ _ _ _ _ ?k1 ?k2 ?k3 ?k4 ?k5 ?kK ?kd ?ku ?_); (case k2 => k_asm); (case k4 => k_asm); (case hx => k_mem); (case hdx => k_mem); (case e0 => assumption); (case e1 => assumption); (case k1 => k_asm); (case k3 => k_asm); (case k5 => k_asm); (case kK => first | exact rfl | assumption); (case kd => ktr_room); (case ku => ktr_units); intro r9 h9 tk9 hr9 F9 N9; (obtain ⟨t9, e9⟩ := hr9; subst e9); (try dsimp only); (try k_fold))
  k_with "call ref" => (k_here; (with_reducible show wpAny _ _ (call (Value.ref 133) _) _ _ _); k_dflt (refine' jump_text_con ?hx ?hdx ?e0 ?e1 ?e2 ?e3 ?e4 ?e5 _ _ _ _ _ _ _ _ _ _ _ _ _ _ _ _ _ _ _ _ ?k1 ?k2 ?k3 ?k4 ?k5 ?kK ?kd ?ku ?_); (case k2 => k_asm); (case k4 => k_asm); (case hx => k_mem); (case hdx => k_mem); (case e0 => assumption); (case e1 => assumption); (case e2 => assumption); (case e3 => assumption); (case e4 => assumption); (case e5 => assumption); (case k1 => k_asm); (case k3 => k_asm); (case k5 => k_asm); (case kK => first | exact rfl | assumption); (case kd => ktr_room); (case ku => ktr_units); intro r9 h9 tk9 hr9 F9 N9; (obtain ⟨t9, e9⟩ := hr9; subst e9); (try dsimp only); (try k_fold))
  intro mean mg mb dp un gd cn cs a ccd cl outer A₀ base h₀ L m s Q E B F X N T hk hdp hun hret
  refine wpAny_call ?_
  k_dflt (refine' code_def (binds := [(Str.ofString "order", Value.ref x)]) ?k1 ?k2 ?k3 ?k4 ?k5 ?kA ?kF ?kK ?k6 ?k7 ?k8 ?k9 ?kB ?_ ?c2 ?c3 ?c4 ?c5; (case kA => exact rfl); (case kF => exact rfl); (case kK => assumption); (case k1 => k_asm); (case k2 => k_asm); (case k3 => k_asm); (case k4 => k_asm); (case k5 => k_asm); (case k6 => k_is); (case k7 => k_is); (case k8 => ktr_room); (case k9 => exact BindsTo.of_eq rfl); (case c5 => decide); (case kB => exact locs rfl); (case c2 => exact rfl); (case c3 => exact rfl); (case c4 => exact rfl); k_whole; intro g' L' h' FG' F' N' B' X' T'; (try dsimp only); (try k_lift B'); (try k_fold))
  have hkl := kText hk0 hk1
  have hal := aluLen code
  have hcl := clsLen code
  k_steps
  all_goals (refine hret _ _ _ ?_ (by k_asm) (cb_drop (by k_asm) (by intro p hp; repeat (first | assumption | refine List.mem_cons_of_mem _ ?_))))
  all_goals first | exact ⟨_, rfl⟩ | rfl | (first | refine rI ?_ | refine rS ?_ | refine rB ?_); (simp only [beq_iff_eq, beq_eq_false_iff_ne, ne_eq] at *; simp (decide := true) [showText, *])
noncomputable abbrev RowT : Type := Int × Str × Str × Str
noncomputable abbrev tupO (vs : List Value) : Obj := { cls := .type "tuple", data := .seq vs.toArray }
noncomputable def lawRows : List RowT := [
  (0, Str.ofString "ld", Str.ofString "imm", Str.ofString "ld #K"),
  (32, Str.ofString "ld", Str.ofString "abs", Str.ofString "ld [K]"),
  (40, Str.ofString "ld", Str.ofString "abs", Str.ofString "ldh [K]"),
  (48, Str.ofString "ld", Str.ofString "abs", Str.ofString "ldb [K]"),
  (64, Str.ofString "ld", Str.ofString "ind", Str.ofString "ld [x + K]"),
  (72, Str.ofString "ld", Str.ofString "ind", Str.ofString "ldh [x + K]"),
  (80, Str.ofString "ld", Str.ofString "ind", Str.ofString "ldb [x + K]"),
  (96, Str.ofString "ld", Str.ofString "mem", Str.ofString "ld M[K]"),
  (128, Str.ofString "ld", Str.ofString "len", Str.ofString "ld #len"),
  (1, Str.ofString "ldx", Str.ofString "imm", Str.ofString "ldx #K"),
  (97, Str.ofString "ldx", Str.ofString "mem", Str.ofString "ldx M[K]"),
  (129, Str.ofString "ldx", Str.ofString "len", Str.ofString "ldx #len"),
  (177, Str.ofString "ldx", Str.ofString "msh", Str.ofString "ldx 4*([K]&0xf)"),
  (2, Str.ofString "st", Str.ofString "", Str.ofString "st M[K]"),
  (3, Str.ofString "stx", Str.ofString "", Str.ofString "stx M[K]"),
  (4, Str.ofString "alu", Str.ofString "add", Str.ofString "add #K"),
  (20, Str.ofString "alu", Str.ofString "sub", Str.ofString "sub #K"),
  (36, Str.ofString "alu", Str.ofString "mul", Str.ofString "mul #K"),
  (52, Str.ofString "alu", Str.ofString "div", Str.ofString "div #K"),
  (68, Str.ofString "alu", Str.ofString "or", Str.ofString "or #K"),
  (84, Str.ofString "alu", Str.ofString "and", Str.ofString "and #K"),
  (100, Str.ofString "alu", Str.ofString "lsh", Str.ofString "lsh #K"),
  (116, Str.ofString "alu", Str.ofString "rsh", Str.ofString "rsh #K"),
  (132, Str.ofString "alu", Str.ofString "neg", Str.ofString "neg"),
  (148, Str.ofString "alu", Str.ofString "mod", Str.ofString "mod #K"),
  (164, Str.ofString "alu", Str.ofString "xor", Str.ofString "xor #K"),
  (12, Str.ofString "alu", Str.ofString "add", Str.ofString "add x"),
  (28, Str.ofString "alu", Str.ofString "sub", Str.ofString "sub x"),
  (44, Str.ofString "alu", Str.ofString "mul", Str.ofString "mul x"),
  (60, Str.ofString "alu", Str.ofString "div", Str.ofString "div x"),
  (76, Str.ofString "alu", Str.ofString "or", Str.ofString "or x"),
  (92, Str.ofString "alu", Str.ofString "and", Str.ofString "and x"),
  (108, Str.ofString "alu", Str.ofString "lsh", Str.ofString "lsh x"),
  (124, Str.ofString "alu", Str.ofString "rsh", Str.ofString "rsh x"),
  (156, Str.ofString "alu", Str.ofString "mod", Str.ofString "mod x"),
  (172, Str.ofString "alu", Str.ofString "xor", Str.ofString "xor x"),
  (5, Str.ofString "jmp", Str.ofString "ja", Str.ofString "ja +K"),
  (21, Str.ofString "jmp", Str.ofString "jeq", Str.ofString "jeq #K, +T, +F"),
  (37, Str.ofString "jmp", Str.ofString "jgt", Str.ofString "jgt #K, +T, +F"),
  (53, Str.ofString "jmp", Str.ofString "jge", Str.ofString "jge #K, +T, +F"),
  (69, Str.ofString "jmp", Str.ofString "jset", Str.ofString "jset #K, +T, +F"),
  (29, Str.ofString "jmp", Str.ofString "jeq", Str.ofString "jeq x, +T, +F"),
  (45, Str.ofString "jmp", Str.ofString "jgt", Str.ofString "jgt x, +T, +F"),
  (61, Str.ofString "jmp", Str.ofString "jge", Str.ofString "jge x, +T, +F"),
  (77, Str.ofString "jmp", Str.ofString "jset", Str.ofString "jset x, +T, +F"),
  (6, Str.ofString "ret", Str.ofString "", Str.ofString "ret #K"),
  (22, Str.ofString "ret", Str.ofString "a", Str.ofString "ret a"),
  (7, Str.ofString "misc", Str.ofString "", Str.ofString "tax"),
  (135, Str.ofString "misc", Str.ofString "", Str.ofString "txa")]
inductive RowExprs : List PySem.Expr → List RowT → Prop
  | nil : RowExprs [] []
  | cons {c : Int} {x y z : Str} {p0 p1 p2 p3 p4 : Pos} {es : List PySem.Expr} {rs : List RowT} : RowExprs es rs →
      RowExprs (.Tuple [.Constant (.int c) 0 p1, .Constant (.str x) 0 p2, .Constant (.str y) 0 p3, .Constant (.str z) 0 p4] 0 p0 :: es) ((c, x, y, z) :: rs)
inductive RowsAre (news : List (Addr × Obj)) : List Value → List RowT → Prop
  | nil : RowsAre news [] []
  | cons {a : Addr} {c : Int} {x y z : Str} {t1 t2 t3 t4 : Tok} {vs : List Value} {rs : List RowT} : (a, tupO [.int c t1, .str x t2, .str y t3, .str z t4]) ∈ news → RowsAre news vs rs → RowsAre news (.ref a :: vs) ((c, x, y, z) :: rs)
theorem RowsAre.mono {news news' : List (Addr × Obj)} (hs : ∀ p ∈ news, p ∈ news') {vs : List Value} {rs : List RowT} (h : RowsAre news vs rs) : RowsAre news' vs rs := by
  induction h with
  | nil => exact .nil
  | cons hm _ ih => exact .cons (hs _ hm) ih
theorem RowsAre.length {news : List (Addr × Obj)} {vs : List Value} {rs : List RowT} (h : RowsAre news vs rs) : vs.length = rs.length := by
  induction h with
  | nil => rfl
  | cons _ _ ih => rw [List.length_cons, List.length_cons, ih]
theorem RowsAre.get {news : List (Addr × Obj)} {vs : List Value} {rs : List RowT} (h : RowsAre news vs rs) : ∀ {j : Nat}, j < rs.length →
    ∃ a c x y z t1 t2 t3 t4, vs[j]? = some (.ref a) ∧ (a, tupO [.int c t1, .str x t2, .str y t3, .str z t4]) ∈ news ∧ (c, x, y, z) ∈ rs := by
  induction h with
  | nil => intro j hj; exact absurd hj (Nat.not_lt_zero _)
  | cons hm _ ih =>
    intro j hj
    cases j with
    | zero => exact ⟨_, _, _, _, _, _, _, _, _, rfl, hm, .head _⟩
    | succ j =>
      obtain ⟨a, c, x, y, z, t1, t2, t3, t4, h1, h2, h3⟩ := ih (Nat.lt_of_succ_lt_succ hj)
      exact ⟨a, c, x, y, z, t1, t2, t3, t4, h1, h2, .tail _ h3⟩
theorem rows_spliced {M : Model} {A : Around} {E : Value → Shared → Prop} {env : Env} {pos : Pos} {h₀ : Heap} {L : Addr} {m : Str → Option Value} {es : List PySem.Expr} {rs : List RowT} (R : RowExprs es rs) :
    ∀ {s : Shared} {news : List (Addr × Obj)} {Q : List Value → Shared → Prop}, Fr h₀ L s.heap m → News h₀ L s.heap news →
    (∀ vs add h' tk', RowsAre add vs rs → Fr h₀ L h' m → News h₀ L h' (add ++ news) → (∀ p ∈ news, ∀ q ∈ add, @LT.lt Nat _ p.1 q.1) → Q vs { s with heap := h', toks := tk' }) →
    wpAny M A (spliced (backTo pos (starEach es env))) Q E s := by
  induction R with
  | nil =>
    intro s news Q F N h
    exact spliced_nil (h [] [] s.heap s.toks .nil F N (fun _ _ _ hq => nomatch hq))
  | cons _ ih =>
    intro s news Q F N h
    refine spliced_more ?_
    refine Tuple_ ?_
    refine spliced_more ?_
    refine wpAny_Constant_int ?_
    refine spliced_more ?_
    refine Constant_str ?_
    refine spliced_more ?_
    refine Constant_str ?_
    refine spliced_more ?_
    refine Constant_str ?_
    refine spliced_none ?_
    refine kup_newTuple F N (fun D h' F' N' hlt => ?_) (show 4 ≤ sizeLine by rw [sizeLine_eq]; decide)
    refine ih F' N' fun vs add h'' tk'' hR F'' N'' hlt' => ?_
    refine h (.ref D :: vs) (add ++ [(D, _)]) h'' tk'' (.cons (List.mem_append.mpr (.inr (.head _))) (hR.mono fun p hp => List.mem_append.mpr (.inl hp))) F'' (by rw [List.append_assoc]; exact N'') ?_
    intro p hp q hq
    rcases List.mem_append.mp hq with hq | hq
    · exact hlt' p (.tail _ hp) q hq
    · rw [List.mem_singleton.mp hq]; exact hlt p hp
noncomputable abbrev ConRows (w : World) (dep uni : Nat) (news : List (Addr × Obj)) : Prop :=
  ∀ (mean : ExcName → Option Value) (mg mb : Str → Option Value) (dp un : Nat) (gd : Option (List Code)) (cn : Str) (cs : Scope) (a : Addr) (ccd : Value) (cl : List (Str × Addr)) (outer : List Env) (A₀ : Around) (base h₀ : Heap) (L : Addr) (m : Str → Option Value) (s : Shared) (Q E : Value → Shared → Prop),
    Below A₀ base outer h₀ → Fr h₀ L s.heap m → (hd.heap_39 w.params).In h₀ → News h₀ L s.heap news → TopR mean mg mb h₀ → cs.kind = .function →
    dp + dep < recursionLimit → un + uni < cLine →
    (∀ (l : Addr) (vs : List Value) (add : List (Addr × Obj)) (h' : Heap) (tk' : Nat), RowsAre add vs lawRows → Fr h₀ L h' m → News h₀ L h' ((l, listOf vs.toArray 0) :: (add ++ news)) → (∀ p ∈ news, ∀ q ∈ add, @LT.lt Nat _ p.1 q.1) → Q (.ref l) { s with heap := h', toks := tk' }) →
    wpAny (model PySem.Challenge.rw_ok0157_01.row.prog w) (ktrTop dp un gd cn cs L a ccd cl outer) (call (.ref 147) []) Q E s
set_option maxHeartbeats 4000000 in
theorem law_rows_con {w : World} {news : List (Addr × Obj)} : ConRows w 1 8 news := by
  unfold ConRows TopR
  w_top off
  k_fill
  k_with_none
  intro mean mg mb dp un gd cn cs a ccd cl outer A₀ base h₀ L m s Q E B F X N T hk hdp hun hret
  refine wpAny_call ?_
  k_dflt (refine' code_def (binds := []) ?k1 ?k2 ?k3 ?k4 ?k5 ?kA ?kF ?kK ?k6 ?k7 ?k8 ?k9 ?kB ?_ ?c2 ?c3 ?c4 ?c5; (case kA => exact rfl); (case kF => exact rfl); (case kK => assumption); (case k1 => k_asm); (case k2 => k_asm); (case k3 => k_asm); (case k4 => k_asm); (case k5 => k_asm); (case k6 => k_is); (case k7 => k_is); (case k8 => ktr_room); (case k9 => exact BindsTo.of_eq rfl); (case c5 => decide); (case kB => exact locs rfl); (case c2 => exact rfl); (case c3 => exact rfl); (case c4 => exact rfl); k_whole; intro g' L' h' FG' F' N' B' X' T'; (try dsimp only); (try k_lift B'); (try k_fold))
  iterate 3 walk1
  refine List_ ?_
  with_reducible refine' rows_spliced (rs := lawRows) ?kR F' N' ?_
  (case kR => unfold lawRows; (repeat (with_reducible refine RowExprs.cons ?_)); exact RowExprs.nil)
  intro vs add h2 tk2 hR F2 N2 hlt
  refine newList_K F2 N2 (fun l h3 F3 N3 hl3 => ?_) (by rw [hR.length, sizeLine_eq]; decide)
  k_steps
  exact hret _ _ _ _ _ hR (by k_asm) (by k_asm) hlt
/-- an int's text; a figure's sign -/
noncomputable abbrev numT (n : Int) : Str := Str.ofString (toString n)
noncomputable abbrev figT (w : Int) : Str := Txt.item (Str.ofString "0123456789") (w.fmod 10)
theorem str_toList {a b : Str} (h : a.cps.toList = b.cps.toList) : a = b := Str.ext' (Array.toList_inj.mp h)
theorem figT_at : ∀ d : Nat, d < 10 → (Txt.item (Str.ofString "0123456789") (d : Int)).cps.toList = [(Nat.digitChar d).toNat] := by decide
theorem figT_nat (m : Nat) : (figT (m : Int)).cps.toList = [(Nat.digitChar (m % 10)).toNat] := by
  have e : ((m : Int).fmod 10) = ((m % 10 : Nat) : Int) := by rw [Int.fmod_eq_emod_of_nonneg _ (by decide)]; rfl
  unfold figT
  rw [e]
  exact figT_at _ (Nat.mod_lt _ (by decide))
theorem numT_low {w : Int} (h0 : 0 ≤ w) (h : ¬ 9 < w) : numT w = figT w := by
  obtain ⟨m, rfl⟩ := Int.eq_ofNat_of_zero_le h0
  have hm : m < 10 := by omega
  refine str_toList ?_
  rw [KIN.signs_num, figT_nat, Nat.toDigits_of_lt_base hm, Nat.mod_eq_of_lt hm]
  rfl
theorem numT_high {w : Int} (h : 9 < w) : numT w = numT (w.fdiv 10) ++ figT w := by
  obtain ⟨m, rfl⟩ := Int.eq_ofNat_of_zero_le (show 0 ≤ w by omega)
  have hm : 10 ≤ m := by omega
  have e : ((m : Int).fdiv 10) = ((m / 10 : Nat) : Int) := by rw [Int.fdiv_eq_ediv_of_nonneg _ (by decide)]; rfl
  refine str_toList ?_
  rw [Str.cps_append, Array.toList_append, e, KIN.signs_num, KIN.signs_num, figT_nat, Nat.toDigits_of_base_le (by decide) hm, List.map_append]
  rfl
noncomputable def FigInv (n w : Int) (f : Str) : Prop := 0 ≤ w ∧ w ≤ n ∧ f.length ≤ 10 ∧ numT n = if 9 < w then numT (w.fdiv 10) ++ f else f
theorem fig_start {n : Int} (h0 : 0 ≤ n) : FigInv n n (figT n) := by
  refine ⟨h0, Int.le_refl _, by show 1 ≤ 10; decide, ?_⟩
  split
  · exact numT_high (by assumption)
  · exact numT_low h0 (by assumption)
theorem fig_turn {n w : Int} {f : Str} (hn : (numT n).length ≤ 10) (h : FigInv n w f) (h9 : 9 < w) : FigInv n (w.fdiv 10) (figT (w.fdiv 10) ++ f) := by
  obtain ⟨h0, hw, hf, he⟩ := h
  rw [if_pos h9] at he
  have e : w.fdiv 10 = w / 10 := Int.fdiv_eq_ediv_of_nonneg _ (by decide)
  have hw0 : 0 ≤ w.fdiv 10 := by rw [e]; omega
  have key : numT n = if 9 < w.fdiv 10 then numT ((w.fdiv 10).fdiv 10) ++ (figT (w.fdiv 10) ++ f) else figT (w.fdiv 10) ++ f := by
    rw [he]
    split
    · rw [numT_high (w := w.fdiv 10) (by assumption), Str.append_assoc]
    · rw [numT_low hw0 (by assumption)]
  refine ⟨hw0, by rw [e]; omega, ?_, key⟩
  have hl := hn
  rw [key] at hl
  split at hl
  · rw [Str.length_append] at hl; omega
  · exact hl
theorem fig_end {n w : Int} {f : Str} (h : FigInv n w f) (h9 : ¬ 9 < w) : f = numT n := by
  have := h.2.2.2
  rw [if_neg h9] at this
  exact this.symm
theorem fig_meas {n w : Int} {f : Str} (h : FigInv n w f) (h9 : 9 < w) : (w.fdiv 10).toNat < w.toNat := by
  have e : w.fdiv 10 = w / 10 := Int.fdiv_eq_ediv_of_nonneg _ (by decide)
  rw [e]; omega
set_option maxHeartbeats 4000000 in
theorem law_figures_con {w : World} {news : List (Addr × Obj)} {n : Int} {t : Tok} (hn0 : 0 ≤ n) (hn1 : n < 4294967296) :
    Con w 154 1 8 news [.int n t] (fun r => ∃ t, r = .str (Str.ofString (toString n)) t) := by
  unfold Con TopR
  w_top off
  k_fill
  k_with_none
  intro mean mg mb dp un gd cn cs a ccd cl outer A₀ base h₀ L m s Q E B F X N T hk hdp hun hret
  refine wpAny_call ?_
  k_dflt (refine' code_def (binds := [(Str.ofString "worth", Value.int n t)]) ?k1 ?k2 ?k3 ?k4 ?k5 ?kA ?kF ?kK ?k6 ?k7 ?k8 ?k9 ?kB ?_ ?c2 ?c3 ?c4 ?c5; (case kA => exact rfl); (case kF => exact rfl); (case kK => assumption); (case k1 => k_asm); (case k2 => k_asm); (case k3 => k_asm); (case k4 => k_asm); (case k5 => k_asm); (case k6 => k_is); (case k7 => k_is); (case k8 => ktr_room); (case k9 => exact BindsTo.of_eq rfl); (case c5 => decide); (case kB => exact locs rfl); (case c2 => exact rfl); (case c3 => exact rfl); (case c4 => exact rfl); k_whole; intro g' L' h' FG' F' N' B' X' T'; (try dsimp only); (try k_lift B'); (try k_fold))
  have hnl := kText hn0 hn1
  iterate 11 walk1
  k_with "state" => first | exact fig_start hn0 | exact fig_turn hnl (by assumption) (by assumption)
  k_with "measure" => exact fig_meas (by assumption) (by assumption)
  k_while (fun _ w f => FigInv n w f) (fun _ w _ => w.toNat) "worth" "found"
  have hf := kInv.2.2.1
  have hw0 := kInv.1
  k_steps
  exact hret _ _ _ (rS (fig_end kInv (by assumption))) (by k_asm) (by k_asm)
noncomputable abbrev ConDrawn (w : World) (dep uni : Nat) (news : List (Addr × Obj)) (cell : Value) : Prop :=
  ∀ (mean : ExcName → Option Value) (mg mb : Str → Option Value) (dp un : Nat) (gd : Option (List Code)) (cn : Str) (cs : Scope) (a : Addr) (ccd : Value) (cl : List (Str × Addr)) (outer : List Env) (A₀ : Around) (base h₀ : Heap) (L : Addr) (m : Str → Option Value) (s : Shared) (Q E : Value → Shared → Prop),
    Below A₀ base outer h₀ → Fr h₀ L s.heap m → (hd.heap_39 w.params).In h₀ → News h₀ L s.heap news → TopR mean mg mb h₀ → cs.kind = .function →
    dp + dep < recursionLimit → un + uni < cLine →
    (∀ (p r f : Addr) (h' : Heap) (tk' : Nat) (c jt jf k : Int) (x y z : Str) (t1 t2 t3 t4 u1 u2 u3 u4 : Tok), (c, x, y, z) ∈ lawRows → 0 ≤ jt → jt < 256 → 0 ≤ jf → jf < 256 → 0 ≤ k → k < 4294967296 →
      Fr h₀ L h' m → News h₀ L h' ((p, tupO [.ref r, .ref f]) :: (f, tupO [.int c u1, .int jt u2, .int jf u3, .int k u4]) :: (r, tupO [.int c t1, .str x t2, .str y t3, .str z t4]) :: news) →
      (∀ q ∈ news, @LT.lt Nat _ q.1 r) → @LT.lt Nat _ r f → @LT.lt Nat _ f p → Q (.ref p) { s with heap := h', toks := tk' }) →
    wpAny (model PySem.Challenge.rw_ok0157_01.row.prog w) (ktrTop dp un gd cn cs L a ccd cl outer) (call (.ref 161) [cell]) Q E s
section
variable {prog : Program} {w : World} {A : Around} {E : Value → Shared → Prop} {s : Shared} {h₀ : Heap} {L l : Addr} {news add : List (Addr × Obj)} {vs : List Value} {c : Nat} {Q : Value → Shared → Prop}
theorem rows_len (N : News h₀ L s.heap news) (hm : (l, listOf vs.toArray c) ∈ news) (R : RowsAre add vs lawRows)
    (h : Q (.int 49 (s.toks + 1)) { s with toks := s.toks + 1 + 1 }) : wpAny (model prog w) A (call (.builtin "len") [.ref l]) Q E s :=
  kst_len (k := 49) N hm R.length (by decide) h
theorem rows_item {value slice : PySem.Expr} {i : Int} {u : Tok} (N : News h₀ L s.heap news) (hm : (l, listOf vs.toArray c) ∈ news) (R : RowsAre add vs lawRows) (h0 : 0 ≤ i) (h1 : i < 49)
    (h : ∀ a c x y z t1 t2 t3 t4, (a, tupO [.int c t1, .str x t2, .str y t3, .str z t4]) ∈ add → (c, x, y, z) ∈ lawRows → Q (.ref a) s)
    (hs : subscripted slice false (.ref l) (.int i u) = operate [.ref l, .int i u] (getItem (.ref l) (.int i u)) := by with_unfolding_all rfl) :
    wpAny (model prog w) A (subscriptTail value slice (.ref l) (.int i u)) Q E s := by
  have hl := newsList N hm
  obtain ⟨a, c, x, y, z, t1, t2, t3, t4, e1, e2, e3⟩ := R.get (j := i.toNat) (show i.toNat < 49 by omega)
  exact tail_any hl.typeIs slot_list_getitem.lookup (wpAny_getItem_list hl h0 (by omega) (x := .ref a) (by simpa using e1) (h _ _ _ _ _ _ _ _ _ e2 e3)) hs
theorem item_bnd {value slice : PySem.Expr} {i : Int} {u : Tok} (N : News h₀ L s.heap news) (hm : (l, listOf vs.toArray c) ∈ news) (hall : ∀ v ∈ vs, ∃ z t, v = Value.int z t ∧ 0 ≤ z ∧ z < 4294967296) (h0 : 0 ≤ i) (h1 : i < (vs.length : Int)) (hf : i < 8)
    (h : ∀ z t, 0 ≤ z → z < 4294967296 → Q (.int z t) s)
    (hs : subscripted slice false (.ref l) (.int i u) = operate [.ref l, .int i u] (getItem (.ref l) (.int i u)) := by with_unfolding_all rfl) :
    wpAny (model prog w) A (subscriptTail value slice (.ref l) (.int i u)) Q E s := by
  have hl := newsList N hm
  have hlt : i.toNat < vs.length := by omega
  obtain ⟨z, t, e, e0, e1⟩ := hall _ (List.getElem_mem hlt)
  exact tail_any hl.typeIs slot_list_getitem.lookup (wpAny_getItem_list hl h0 (by omega) (x := .int z t) (by simp [List.getElem?_eq_getElem hlt, e]) (h _ _ e0 e1)) hs
theorem mod_some {a b : Int} {t u : Tok} (hb : 0 < b) (h : ∀ z t', 0 ≤ z → z < b → Q (.int z t') { s with toks := s.toks + 1 }) : wpAny (model prog w) A (binaryOp .Mod (.int a t) (.int b u)) Q E s :=
  mod_int' (by omega) (h _ _ (by rw [Int.fmod_eq_emod_of_nonneg _ (by omega)]; exact Int.emod_nonneg _ (by omega)) (by rw [Int.fmod_eq_emod_of_nonneg _ (by omega)]; exact Int.emod_lt_of_pos _ hb))
theorem mod_free {a : Int} {t u : Tok} (h : ∀ z t', Q (.int z t') { s with toks := s.toks + 1 }) : wpAny (model prog w) A (binaryOp .Mod (.int a t) (.int (2 ^ Int.toNat 128) u)) Q E s :=
  mod_int' (by decide) (h _ _)
theorem mod_32 {a : Int} {t u : Tok} (h : ∀ z t', 0 ≤ z → z < 4294967296 → Q (.int z t') { s with toks := s.toks + 1 }) : wpAny (model prog w) A (binaryOp .Mod (.int a t) (.int (2 ^ Int.toNat 32) u)) Q E s := by
  rw [show (2 : Int) ^ Int.toNat 32 = 4294967296 by decide]
  exact mod_some (by decide) h
theorem div_some {a b : Int} {t u : Tok} (hb : b ≠ 0) (hl : b.natAbs < 1073741824) (h : ∀ z t', Q (.int z t') { s with toks := s.toks + 1 }) : wpAny (model prog w) A (binaryOp .FloorDiv (.int a t) (.int b u)) Q E s :=
  floordiv_int hb (h _ _) (.inl (PyProof.noPylong_small hl))
end
theorem pow128 : (0 : Int) < 2 ^ Int.toNat 128 := by decide
theorem pow32 : (0 : Int) < 2 ^ Int.toNat 32 := by decide
theorem pow32_is : ((2 : Int) ^ Int.toNat 32) = 4294967296 := by decide
theorem kList_all {a b c d e f g h : Tok} {x y : Int} (hx0 : 0 ≤ x) (hx1 : x < 4294967296) (hy0 : 0 ≤ y) (hy1 : y < 100) :
    ∀ v ∈ [Value.int 0 a, .int 9 b, .int 10 c, .int 15 d, .int 65535 e, .int (2 ^ Int.toNat 32 - 1) f, .int x g, .int y h], ∃ z t, v = Value.int z t ∧ 0 ≤ z ∧ z < 4294967296 := by
  rw [pow32_is]
  intro v hv
  simp only [List.mem_cons, List.not_mem_nil, or_false] at hv
  rcases hv with rfl | rfl | rfl | rfl | rfl | rfl | rfl | rfl <;> exact ⟨_, _, rfl, by omega, by omega⟩
theorem fmod_at (x : Int) {k : Int} (hk : 0 < k) : 0 ≤ x.fmod k ∧ x.fmod k < k := by
  rw [Int.fmod_eq_emod_of_nonneg _ (by omega)]
  exact ⟨Int.emod_nonneg _ (by omega), Int.emod_lt_of_pos _ hk⟩
theorem drawn_end {h₀ h : Heap} {L p r f : Addr} {news rest : List (Addr × Obj)} {v1 v2 : List Value} (N : News h₀ L h ((p, tupO [.ref r, .ref f]) :: (f, tupO v1) :: rest)) (hm : (r, tupO v2) ∈ rest) (hs : ∀ q ∈ news, q ∈ rest) :
    News h₀ L h ((p, tupO [.ref r, .ref f]) :: (f, tupO v1) :: (r, tupO v2) :: news) := by
  intro q hq
  rcases List.mem_cons.mp hq with rfl | hq
  · exact N _ (.head _)
  · rcases List.mem_cons.mp hq with rfl | hq
    · exact N _ (.tail _ (.head _))
    · rcases List.mem_cons.mp hq with rfl | hq
      · exact N _ (.tail _ (.tail _ hm))
      · exact N _ (.tail _ (.tail _ (hs _ hq)))
set_option maxHeartbeats 4000000 in
theorem law_drawn_con {w : World} {news : List (Addr × Obj)} {n : Int} {t : Tok} : ConDrawn w 2 16 news (.int n t) := by
  unfold ConDrawn TopR
  w_top off
  k_fill
  k_with_none
  k_with "call builtin:len" => (k_here; (rename RowsAre _ _ _ => hR'); (with_reducible show wpAny _ _ (call (Value.builtin "len") [Value.ref _]) _ _ _); k_dflt (refine' rows_len ?k1 ?k2 hR' ?_; (case k1 => k_asm); (case k2 => k_mem); k_whole))
  k_with "subscriptTail" => (k_here; (rename RowsAre _ _ _ => hR'); (with_reducible show wpAny _ _ (subscriptTail _ _ (Value.ref _) (Value.int _ _)) _ _ _); k_dflt (refine' rows_item ?k1 ?k2 hR' ?k3 ?k4 ?_; (case k1 => k_asm); (case k2 => k_mem); (case k3 => with_reducible assumption); (case k4 => with_reducible assumption); k_whole); (intro a9 c9 x9 y9 z9 t91 t92 t93 t94 hm9 hr9))
  k_with "binaryOp Mod int int" => (k_here; first | (with_reducible refine mod_free ?_; intro z9 t9) | (with_reducible refine mod_32 ?_; intro z9 t9 hz0 hz1) | (with_reducible refine mod_some (by decide) ?_; intro z9 t9 hz0 hz1))
  k_with "binaryOp Pow int int" => (k_here; with_reducible refine pow_int_small (by decide) (by decide) (by decide) ?_)
  k_with "binaryOp FloorDiv int int" => (k_here; (with_reducible refine div_some (by decide) (by decide) ?_); intro z9 t9)
  k_with "subscriptTail" => (k_here; (with_reducible show wpAny _ _ (subscriptTail _ _ (Value.ref _) (Value.int _ _)) _ _ _); k_dflt (refine' item_bnd ?k1 ?k2 ?ka ?k3 ?k4 ?k5 ?_; (case k1 => k_asm); (case k2 => k_mem); (case ka => exact kList_all (by assumption) (by assumption) (by assumption) (by assumption)); (case k3 => with_reducible assumption); (case k4 => assumption); (case k5 => with_reducible assumption); k_whole); (intro z9 t9 hz0 hz1))
  k_with "call ref" => (k_here; (with_reducible show wpAny _ _ (call (Value.ref 147) _) _ _ _); k_dflt (refine' law_rows_con _ _ _ _ _ _ _ _ _ _ _ _ _ _ _ _ _ _ _ _ ?k1 ?k2 ?k3 ?k4 ?k5 ?kK ?kd ?ku ?_); (case k2 => k_asm); (case k4 => k_asm); (case k1 => k_asm); (case k3 => k_asm); (case k5 => k_asm); (case kK => first | exact rfl | assumption); (case kd => ktr_room); (case ku => ktr_units); intro l9 vs9 add9 h9 tk9 hR9 F9 N9 hlt9; (try dsimp only); (try k_fold))
  intro mean mg mb dp un gd cn cs a ccd cl outer A₀ base h₀ L m s Q E B F X N T hk hdp hun hret
  refine wpAny_call ?_
  k_dflt (refine' code_def (binds := [(Str.ofString "cell", Value.int n t)]) ?k1 ?k2 ?k3 ?k4 ?k5 ?kA ?kF ?kK ?k6 ?k7 ?k8 ?k9 ?kB ?_ ?c2 ?c3 ?c4 ?c5; (case kA => exact rfl); (case kF => exact rfl); (case kK => assumption); (case k1 => k_asm); (case k2 => k_asm); (case k3 => k_asm); (case k4 => k_asm); (case k5 => k_asm); (case k6 => k_is); (case k7 => k_is); (case k8 => ktr_room); (case k9 => exact BindsTo.of_eq rfl); (case c5 => decide); (case kB => exact locs rfl); (case c2 => exact rfl); (case c3 => exact rfl); (case c4 => exact rfl); k_whole; intro g' L' h' FG' F' N' B' X' T'; (try dsimp only); (try k_lift B'); (try k_fold))
  k_steps
  rename News _ _ _ _ => NE
  rename (_, tupO [_, _, _, _]) ∈ _ => hm
  rename _ ∧ _ ∧ _ ∧ _ ∧ _ ∧ AllLt _ _ => hl1
  rename _ ∧ _ ∧ _ ∧ _ ∧ _ ∧ _ ∧ AllLt _ _ => hl2
  refine hret _ _ _ _ _ _ _ _ _ _ _ _ _ _ _ _ _ _ _ _ (by assumption) (by assumption) (by assumption) (by assumption) (by assumption) (by assumption) (by assumption) (by k_asm)
    (drawn_end NE (by repeat (first | exact List.mem_append.mpr (.inl hm) | refine List.mem_cons_of_mem _ ?_)) (fun q hq => by repeat (first | exact List.mem_append.mpr (.inr hq) | refine List.mem_cons_of_mem _ ?_)))
    (fun q hq => ?_) ?_ hl2.1
  · rename ∀ _ ∈ news, _ => hlt
    exact hlt q hq _ hm
  · exact kst_ltOf hl1.2.2.2.2.2 _ (List.mem_append.mpr (.inl hm))
noncomputable def pieceI (k jt jf c : Int) : Str := if c = 75 then numT k else if c = 84 then numT jt else if c = 70 then numT jf else ⟨#[c.toNat]⟩
noncomputable def expandI (k jt jf : Int) (cs : List Int) : Str := cs.foldl (fun acc c => acc ++ pieceI k jt jf c) (Str.ofString "")
theorem expand_snoc (k jt jf : Int) (cs : List Int) (c : Int) : expandI k jt jf (cs ++ [c]) = expandI k jt jf cs ++ pieceI k jt jf c := by
  unfold expandI; rw [List.foldl_append]; rfl
noncomputable def ShInv (k jt jf : Int) (pre : List Int) (f : Str) : Prop := f = expandI k jt jf pre ∧ f.length ≤ 10 * pre.length
theorem sh_start (k jt jf : Int) : ShInv k jt jf [] (Str.ofString "") := ⟨rfl, by decide⟩
theorem sh_step {k jt jf : Int} {pre : List Int} {f : Str} {n : Nat} {y : Str} (h : ShInv k jt jf pre f) (hy : pieceI k jt jf n = y) (hl : y.length ≤ 10) : ShInv k jt jf (pre ++ [(n : Int)]) (f ++ y) := by
  refine ⟨by rw [expand_snoc, hy, ← h.1], ?_⟩
  rw [Str.length_append, List.length_append, List.length_singleton]
  have := h.2
  omega
theorem one_K {n : Nat} : ((Str.mk #[n] == Str.ofString "K") = true) ↔ n = 75 := by
  rw [show Str.ofString "K" = Str.mk #[75] by decide, beq_iff_eq, Str.mk.injEq]; simp
theorem one_T {n : Nat} : ((Str.mk #[n] == Str.ofString "T") = true) ↔ n = 84 := by
  rw [show Str.ofString "T" = Str.mk #[84] by decide, beq_iff_eq, Str.mk.injEq]; simp
theorem one_F {n : Nat} : ((Str.mk #[n] == Str.ofString "F") = true) ↔ n = 70 := by
  rw [show Str.ofString "F" = Str.mk #[70] by decide, beq_iff_eq, Str.mk.injEq]; simp
section
variable {k jt jf : Int} {n : Nat}
theorem pc_K (h : (Str.mk #[n] == Str.ofString "K") = true) : pieceI k jt jf n = numT k := by
  rw [one_K] at h; subst h; rfl
theorem pc_T (h : (Str.mk #[n] == Str.ofString "T") = true) : pieceI k jt jf n = numT jt := by
  rw [one_T] at h; subst h; rfl
theorem pc_F (h : (Str.mk #[n] == Str.ofString "F") = true) : pieceI k jt jf n = numT jf := by
  rw [one_F] at h; subst h; rfl
theorem pc_O (h1 : (Str.mk #[n] == Str.ofString "K") = false) (h2 : (Str.mk #[n] == Str.ofString "T") = false) (h3 : (Str.mk #[n] == Str.ofString "F") = false) : pieceI k jt jf n = ⟨#[n]⟩ := by
  have a := (not_congr one_K).mp (by rw [h1]; decide : ¬ ((Str.mk #[n] == Str.ofString "K") = true))
  have b := (not_congr one_T).mp (by rw [h2]; decide : ¬ ((Str.mk #[n] == Str.ofString "T") = true))
  have c := (not_congr one_F).mp (by rw [h3]; decide : ¬ ((Str.mk #[n] == Str.ofString "F") = true))
  unfold pieceI
  rw [if_neg (by omega), if_neg (by omega), if_neg (by omega)]
  rfl
end
noncomputable def shownText (k jt jf : Int) (z : Str) : Str := expandI k jt jf (KStt.codes z)
set_option maxHeartbeats 4000000 in
theorem law_shown_con {w : World} {news : List (Addr × Obj)} {r f : Addr} {c c' jt jf k : Int} {x y z : Str} {t1 t2 t3 t4 u1 u2 u3 u4 : Tok}
    (hr : (r, tupO [.int c t1, .str x t2, .str y t3, .str z t4]) ∈ news) (hf : (f, tupO [.int c' u1, .int jt u2, .int jf u3, .int k u4]) ∈ news) (hz : z.length ≤ 20)
    (hk0 : 0 ≤ k) (hk1 : k < 4294967296) (hjt0 : 0 ≤ jt) (hjt1 : jt < 4294967296) (hjf0 : 0 ≤ jf) (hjf1 : jf < 4294967296) :
    Con w 168 2 16 news [.ref r, .ref f] (fun v => ∃ t, v = .str (shownText k jt jf z) t) := by
  unfold Con TopR
  w_top off
  k_fill
  k_with_none
  k_with "call ref" => (k_here; (with_reducible show wpAny _ _ (call (Value.ref 154) _) _ _ _); k_dflt (refine' law_figures_con ?e0 ?e1 _ _ _ _ _ _ _ _ _ _ _ _ _ _ _ _ _ _ _ _ ?k1 ?k2 ?k3 ?k4 ?k5 ?kK ?kd ?ku ?_); (case k2 => k_asm); (case k4 => k_asm); (case e0 => with_reducible assumption); (case e1 => with_reducible assumption); (case k1 => k_asm); (case k3 => k_asm); (case k5 => k_asm); (case kK => first | exact rfl | assumption); (case kd => ktr_room); (case ku => ktr_units); intro r9 h9 tk9 hr9 F9 N9; (obtain ⟨t9, e9⟩ := hr9; subst e9); (try dsimp only); (try k_fold))
  intro mean mg mb dp un gd cn cs a ccd cl outer A₀ base h₀ L m s Q E B F X N T hk hdp hun hret
  refine wpAny_call ?_
  k_dflt (refine' code_def (binds := [(Str.ofString "row", Value.ref r), (Str.ofString "fields", Value.ref f)]) ?k1 ?k2 ?k3 ?k4 ?k5 ?kA ?kF ?kK ?k6 ?k7 ?k8 ?k9 ?kB ?_ ?c2 ?c3 ?c4 ?c5; (case kA => exact rfl); (case kF => exact rfl); (case kK => assumption); (case k1 => k_asm); (case k2 => k_asm); (case k3 => k_asm); (case k4 => k_asm); (case k5 => k_asm); (case k6 => k_is); (case k7 => k_is); (case k8 => ktr_room); (case k9 => exact BindsTo.of_eq rfl); (case c5 => decide); (case kB => exact locs rfl); (case c2 => exact rfl); (case c3 => exact rfl); (case c4 => exact rfl); k_whole; intro g' L' h' FG' F' N' B' X' T'; (try dsimp only); (try k_lift B'); (try k_fold))
  have hkl := kText hk0 hk1
  have hjtl := kText hjt0 hjt1
  have hjfl := kText hjf0 hjf1
  iterate 5 walk1
  (rename Fr _ _ _ _ => lF'); (with_unfolding_all refine' For_invVF lF' ?k1 ?k2 ?_; (case k1 => exact rfl); (case k2 => exact rfl))
  iterate 4 walk1
  k_with "state" => first | exact sh_start _ _ _ | exact sh_step (by assumption) (pc_K (by assumption)) hkl | exact sh_step (by assumption) (pc_T (by assumption)) hjtl | exact sh_step (by assumption) (pc_F (by assumption)) hjfl | exact sh_step (by assumption) (pc_O (by assumption) (by assumption) (by assumption)) (show 1 ≤ 10 by decide)
  k_state (fun pre f => ShInv k jt jf pre f) "found"
  · have hfl := kInv.2
    k_steps
  · k_steps
    exact hret _ _ _ (rS kInv.1) (by k_asm) (by k_asm)
theorem If_cut {M : Model} {A : Around} {E : Value → Shared → Prop} {s : Shared} {env : Env} {test : PySem.Expr} {body : List Stmt} {pos : Pos} {Q : Flow → Shared → Prop} {g : Heap} {L : Addr} {m : Str → Option Value} {news : List (Addr × Obj)}
    (_F : Fr g L s.heap m) (_N : News g L s.heap news)
    (h1 : wpAny M A (PySem.isTrue test env (eval test env)) (fun b s' => b = false ∧ ∃ h' tk', s' = { s with heap := h', toks := tk' } ∧ Fr g L h' m ∧ News g L h' news) E s)
    (h2 : ∀ h' tk', Fr g L h' m → News g L h' news → Q .next { s with heap := h', toks := tk' }) :
    wpAny M A (exec (.If test body [] pos) env) Q E s := by
  refine wpAny_If (wpAny_mono h1 (fun b s' h => ?_) fun _ _ x => x)
  obtain ⟨rfl, h', tk', rfl, F, N⟩ := h
  simp only [Bool.false_eq_true, if_false]
  exact wpAny_execs_nil (h2 h' tk' F N)
theorem cut_end {g : Heap} {L : Addr} {m : Str → Option Value} {news news' : List (Addr × Obj)} {s : Shared} {h' : Heap} {tk' : Nat} {b : Bool} (hb : b = false) (F : Fr g L h' m) (N : News g L h' news') (hs : ∀ p ∈ news, p ∈ news') :
    b = false ∧ ∃ h'' tk'', ({ s with heap := h', toks := tk' } : Shared) = { s with heap := h'', toks := tk'' } ∧ Fr g L h'' m ∧ News g L h'' news := ⟨hb, h', tk', rfl, F, cb_drop N hs⟩
theorem Con.conv {w : World} {f : Addr} {d u : Nat} {news : List (Addr × Obj)} {vs : List Value} {R R' : Value → Prop} (h : Con w f d u news vs R) (hr : ∀ r, R r → R' r) : Con w f d u news vs R' := by
  intro mean mg mb dp un gd cn cs a ccd cl outer A₀ base h₀ L m s Q E B F X N T hk hdp hun hret
  exact h mean mg mb dp un gd cn cs a ccd cl outer A₀ base h₀ L m s Q E B F X N T hk hdp hun fun r h' tk' hR => hret r h' tk' (hr r hR)
theorem class_name_val {w : World} {news : List (Addr × Obj)} {x dx : Addr} {h1 h2 h3 h4 : Int} {t1 t2 t3 t4 u1 u2 u3 u4 : Tok} {code jt jf k : Int}
    (hx : (x, instObj 45 dx) ∈ news) (hdx : (dx, ordD h1 h2 h3 h4 t1 t2 t3 t4 u1 u2 u3 u4 code jt jf k) ∈ news) {v : Str} (hv : className code = v) : Con w 56 1 8 news [.ref x] (fun r => ∃ t, r = .str v t) := (class_name_con hx hdx).conv fun r h => by obtain ⟨t, rfl⟩ := h; exact ⟨t, by rw [hv]⟩
theorem mode_name_val {w : World} {news : List (Addr × Obj)} {x dx : Addr} {h1 h2 h3 h4 : Int} {t1 t2 t3 t4 u1 u2 u3 u4 : Tok} {code jt jf k : Int}
    (hx : (x, instObj 45 dx) ∈ news) (hdx : (dx, ordD h1 h2 h3 h4 t1 t2 t3 t4 u1 u2 u3 u4 code jt jf k) ∈ news) {v : Str} (hv : modeName code = v) : Con w 63 1 8 news [.ref x] (fun r => ∃ t, r = .str v t) := (mode_name_con hx hdx).conv fun r h => by obtain ⟨t, rfl⟩ := h; exact ⟨t, by rw [hv]⟩
theorem alu_name_val {w : World} {news : List (Addr × Obj)} {x dx : Addr} {h1 h2 h3 h4 : Int} {t1 t2 t3 t4 u1 u2 u3 u4 : Tok} {code jt jf k : Int}
    (hx : (x, instObj 45 dx) ∈ news) (hdx : (dx, ordD h1 h2 h3 h4 t1 t2 t3 t4 u1 u2 u3 u4 code jt jf k) ∈ news) {v : Str} (hv : aluName code = v) : Con w 77 1 8 news [.ref x] (fun r => ∃ t, r = .str v t) := (alu_name_con hx hdx).conv fun r h => by obtain ⟨t, rfl⟩ := h; exact ⟨t, by rw [hv]⟩
theorem jump_name_val {w : World} {news : List (Addr × Obj)} {x dx : Addr} {h1 h2 h3 h4 : Int} {t1 t2 t3 t4 u1 u2 u3 u4 : Tok} {code jt jf k : Int}
    (hx : (x, instObj 45 dx) ∈ news) (hdx : (dx, ordD h1 h2 h3 h4 t1 t2 t3 t4 u1 u2 u3 u4 code jt jf k) ∈ news) {v : Str} (hv : jumpName code = v) : Con w 84 1 8 news [.ref x] (fun r => ∃ t, r = .str v t) := (jump_name_con hx hdx).conv fun r h => by obtain ⟨t, rfl⟩ := h; exact ⟨t, by rw [hv]⟩
theorem load_width_val {w : World} {news : List (Addr × Obj)} {x dx : Addr} {h1 h2 h3 h4 : Int} {t1 t2 t3 t4 u1 u2 u3 u4 : Tok} {code jt jf k : Int}
    (hx : (x, instObj 45 dx) ∈ news) (hdx : (dx, ordD h1 h2 h3 h4 t1 t2 t3 t4 u1 u2 u3 u4 code jt jf k) ∈ news) {v : Int} (hv : loadWidth code = v) : Con w 70 1 8 news [.ref x] (fun r => ∃ t, r = .int v t) := (load_width_con hx hdx).conv fun r h => by obtain ⟨t, rfl⟩ := h; exact ⟨t, by rw [hv]⟩
theorem is_by_x_val {w : World} {news : List (Addr × Obj)} {x dx : Addr} {h1 h2 h3 h4 : Int} {t1 t2 t3 t4 u1 u2 u3 u4 : Tok} {code jt jf k : Int}
    (hx : (x, instObj 45 dx) ∈ news) (hdx : (dx, ordD h1 h2 h3 h4 t1 t2 t3 t4 u1 u2 u3 u4 code jt jf k) ∈ news) {v : Bool} (hv : isByX code = v) : Con w 91 1 8 news [.ref x] (fun r => r = .bool v) := (is_by_x_con hx hdx).conv fun r h => by rw [← hv]; exact h
theorem is_return_val {w : World} {news : List (Addr × Obj)} {x dx : Addr} {h1 h2 h3 h4 : Int} {t1 t2 t3 t4 u1 u2 u3 u4 : Tok} {code jt jf k : Int}
    (hx : (x, instObj 45 dx) ∈ news) (hdx : (dx, ordD h1 h2 h3 h4 t1 t2 t3 t4 u1 u2 u3 u4 code jt jf k) ∈ news) {v : Bool} (hv : isReturn code = v) : Con w 98 1 8 news [.ref x] (fun r => r = .bool v) := (is_return_con hx hdx).conv fun r h => by rw [← hv]; exact h
theorem is_return_a_val {w : World} {news : List (Addr × Obj)} {x dx : Addr} {h1 h2 h3 h4 : Int} {t1 t2 t3 t4 u1 u2 u3 u4 : Tok} {code jt jf k : Int}
    (hx : (x, instObj 45 dx) ∈ news) (hdx : (dx, ordD h1 h2 h3 h4 t1 t2 t3 t4 u1 u2 u3 u4 code jt jf k) ∈ news) {v : Bool} (hv : isReturnA code = v) : Con w 105 2 16 news [.ref x] (fun r => r = .bool v) := (is_return_a_con hx hdx).conv fun r h => by rw [← hv]; exact h
theorem read_cell_val {w : World} {news : List (Addr × Obj)} {x dx : Addr} {h1 h2 h3 h4 : Int} {t1 t2 t3 t4 u1 u2 u3 u4 : Tok} {code jt jf k : Int}
    (hx : (x, instObj 45 dx) ∈ news) (hdx : (dx, ordD h1 h2 h3 h4 t1 t2 t3 t4 u1 u2 u3 u4 code jt jf k) ∈ news) {v : Int} (hv : readCell code k = v) : Con w 112 2 16 news [.ref x] (fun r => ∃ t, r = .int v t) := (read_cell_con hx hdx).conv fun r h => by obtain ⟨t, rfl⟩ := h; exact ⟨t, by rw [hv]⟩
theorem written_cell_val {w : World} {news : List (Addr × Obj)} {x dx : Addr} {h1 h2 h3 h4 : Int} {t1 t2 t3 t4 u1 u2 u3 u4 : Tok} {code jt jf k : Int}
    (hx : (x, instObj 45 dx) ∈ news) (hdx : (dx, ordD h1 h2 h3 h4 t1 t2 t3 t4 u1 u2 u3 u4 code jt jf k) ∈ news) {v : Int} (hv : writtenCell code k = v) : Con w 119 1 8 news [.ref x] (fun r => ∃ t, r = .int v t) := (written_cell_con hx hdx).conv fun r h => by obtain ⟨t, rfl⟩ := h; exact ⟨t, by rw [hv]⟩
theorem neS {a : Str} : ¬ ((a != a) = true) := by simp
theorem neB {a : Bool} : ¬ ((a != a) = true) := by simp
theorem neI {a : Int} : ¬ ((a != a) = true) := by simp
theorem eqI {a : Int} : (a == a) = true := by simp
theorem notT {b : Bool} (h : b = false) : ¬ (b = true) := by rw [h]; decide
set_option maxHeartbeats 4000000 in
theorem law_told_right_con {w : World} {news : List (Addr × Obj)} {x dx : Addr} {h1 h2 h3 h4 : Int} {t1 t2 t3 t4 u1 u2 u3 u4 : Tok} {c jt jf k : Int} {r : Addr} {kd nm z : Str} {v1 v2 v3 v4 : Tok}
    (hr : (r, tupO [.int c v1, .str kd v2, .str nm v3, .str z v4]) ∈ news) (hx : (x, instObj 45 dx) ∈ news) (hdx : (dx, ordD h1 h2 h3 h4 t1 t2 t3 t4 u1 u2 u3 u4 c jt jf k) ∈ news)
    (hcls : className c = kd) (hret : isReturn c = (kd == Str.ofString "ret")) (hreta : isReturnA c = (nm == Str.ofString "a"))
    (hm2 : ([Str.ofString "ld", Str.ofString "ldx"].any fun x => x == kd) = true ∧ modeName c = nm ∨ ([Str.ofString "ld", Str.ofString "ldx"].any fun x => x == kd) = false)
    (hm3 : ([Str.ofString "abs", Str.ofString "ind"].any fun x => x == nm) = false ∨ ([Str.ofString "abs", Str.ofString "ind"].any fun x => x == nm) = true ∧
      (z = Str.ofString "ld [K]" ∧ loadWidth c = 4 ∨ z = Str.ofString "ldh [K]" ∧ loadWidth c = 2 ∨ z = Str.ofString "ldb [K]" ∧ loadWidth c = 1 ∨ z = Str.ofString "ld [x + K]" ∧ loadWidth c = 4 ∨ z = Str.ofString "ldh [x + K]" ∧ loadWidth c = 2 ∨ z = Str.ofString "ldb [x + K]" ∧ loadWidth c = 1))
    (hm4 : (kd == Str.ofString "alu") = true ∧ aluName c = nm ∧ isByX c = (Txt.item z (-1) == Str.ofString "x") ∨ (kd == Str.ofString "alu") = false)
    (hm5 : (kd == Str.ofString "jmp") = true ∧ jumpName c = nm ∧ isByX c = (!(Builtin.Str.occurrences z (Str.ofString "x,") 0 z.length 1).isEmpty) ∨ (kd == Str.ofString "jmp") = false)
    (hm6 : ([Str.ofString "st", Str.ofString "stx"].any fun x => x == kd) = true ∧ (!(Builtin.Str.occurrences z (Str.ofString "M[") 0 z.length 1).isEmpty) = true ∧ readCell c k = -1 ∧ writtenCell c k = k ∨
      ([Str.ofString "st", Str.ofString "stx"].any fun x => x == kd) = false ∧ (!(Builtin.Str.occurrences z (Str.ofString "M[") 0 z.length 1).isEmpty) = true ∧ readCell c k = k ∧ writtenCell c k = -1 ∨
      ([Str.ofString "st", Str.ofString "stx"].any fun x => x == kd) = false ∧ (!(Builtin.Str.occurrences z (Str.ofString "M[") 0 z.length 1).isEmpty) = false ∧ readCell c k = -1 ∧ writtenCell c k = -1)
    (hz : 1 ≤ z.length) (hz2 : z.length ≤ 20) :
    Con w 175 3 24 news [.ref r, .ref x] (fun v => v = .bool true) := by
  unfold Con TopR
  w_top off
  k_fill
  k_with_none
  k_with "call ref" => (k_here; (with_reducible show wpAny _ _ (call (Value.ref 56) _) _ _ _); k_dflt (refine' class_name_val ?hx ?hdx ?hv _ _ _ _ _ _ _ _ _ _ _ _ _ _ _ _ _ _ _ _ ?k1 ?k2 ?k3 ?k4 ?k5 ?kK ?kd ?ku ?_); (case k2 => k_asm); (case k4 => k_asm); (case hx => k_mem); (case hdx => k_mem); (case hv => with_reducible assumption); (case k1 => k_asm); (case k3 => k_asm); (case k5 => k_asm); (case kK => first | exact rfl | assumption); (case kd => ktr_room); (case ku => ktr_units); intro r9 h9 tk9 hr9 F9 N9; (obtain ⟨t9, e9⟩ := hr9; subst e9); (try dsimp only); (try k_fold))
  k_with "call ref" => (k_here; (with_reducible show wpAny _ _ (call (Value.ref 63) _) _ _ _); k_dflt (refine' mode_name_val ?hx ?hdx ?hv _ _ _ _ _ _ _ _ _ _ _ _ _ _ _ _ _ _ _ _ ?k1 ?k2 ?k3 ?k4 ?k5 ?kK ?kd ?ku ?_); (case k2 => k_asm); (case k4 => k_asm); (case hx => k_mem); (case hdx => k_mem); (case hv => with_reducible assumption); (case k1 => k_asm); (case k3 => k_asm); (case k5 => k_asm); (case kK => first | exact rfl | assumption); (case kd => ktr_room); (case ku => ktr_units); intro r9 h9 tk9 hr9 F9 N9; (obtain ⟨t9, e9⟩ := hr9; subst e9); (try dsimp only); (try k_fold))
  k_with "call ref" => (k_here; (with_reducible show wpAny _ _ (call (Value.ref 77) _) _ _ _); k_dflt (refine' alu_name_val ?hx ?hdx ?hv _ _ _ _ _ _ _ _ _ _ _ _ _ _ _ _ _ _ _ _ ?k1 ?k2 ?k3 ?k4 ?k5 ?kK ?kd ?ku ?_); (case k2 => k_asm); (case k4 => k_asm); (case hx => k_mem); (case hdx => k_mem); (case hv => with_reducible assumption); (case k1 => k_asm); (case k3 => k_asm); (case k5 => k_asm); (case kK => first | exact rfl | assumption); (case kd => ktr_room); (case ku => ktr_units); intro r9 h9 tk9 hr9 F9 N9; (obtain ⟨t9, e9⟩ := hr9; subst e9); (try dsimp only); (try k_fold))
  k_with "call ref" => (k_here; (with_reducible show wpAny _ _ (call (Value.ref 84) _) _ _ _); k_dflt (refine' jump_name_val ?hx ?hdx ?hv _ _ _ _ _ _ _ _ _ _ _ _ _ _ _ _ _ _ _ _ ?k1 ?k2 ?k3 ?k4 ?k5 ?kK ?kd ?ku ?_); (case k2 => k_asm); (case k4 => k_asm); (case hx => k_mem); (case hdx => k_mem); (case hv => with_reducible assumption); (case k1 => k_asm); (case k3 => k_asm); (case k5 => k_asm); (case kK => first | exact rfl | assumption); (case kd => ktr_room); (case ku => ktr_units); intro r9 h9 tk9 hr9 F9 N9; (obtain ⟨t9, e9⟩ := hr9; subst e9); (try dsimp only); (try k_fold))
  k_with "call ref" => (k_here; (with_reducible show wpAny _ _ (call (Value.ref 70) _) _ _ _); k_dflt (refine' load_width_val ?hx ?hdx ?hv _ _ _ _ _ _ _ _ _ _ _ _ _ _ _ _ _ _ _ _ ?k1 ?k2 ?k3 ?k4 ?k5 ?kK ?kd ?ku ?_); (case k2 => k_asm); (case k4 => k_asm); (case hx => k_mem); (case hdx => k_mem); (case hv => with_reducible assumption); (case k1 => k_asm); (case k3 => k_asm); (case k5 => k_asm); (case kK => first | exact rfl | assumption); (case kd => ktr_room); (case ku => ktr_units); intro r9 h9 tk9 hr9 F9 N9; (obtain ⟨t9, e9⟩ := hr9; subst e9); (try dsimp only); (try k_fold))
  k_with "call ref" => (k_here; (with_reducible show wpAny _ _ (call (Value.ref 91) _) _ _ _); k_dflt (refine' is_by_x_val ?hx ?hdx ?hv _ _ _ _ _ _ _ _ _ _ _ _ _ _ _ _ _ _ _ _ ?k1 ?k2 ?k3 ?k4 ?k5 ?kK ?kd ?ku ?_); (case k2 => k_asm); (case k4 => k_asm); (case hx => k_mem); (case hdx => k_mem); (case hv => with_reducible assumption); (case k1 => k_asm); (case k3 => k_asm); (case k5 => k_asm); (case kK => first | exact rfl | assumption); (case kd => ktr_room); (case ku => ktr_units); intro r9 h9 tk9 hr9 F9 N9; subst hr9; (try dsimp only); (try k_fold))
  k_with "call ref" => (k_here; (with_reducible show wpAny _ _ (call (Value.ref 98) _) _ _ _); k_dflt (refine' is_return_val ?hx ?hdx ?hv _ _ _ _ _ _ _ _ _ _ _ _ _ _ _ _ _ _ _ _ ?k1 ?k2 ?k3 ?k4 ?k5 ?kK ?kd ?ku ?_); (case k2 => k_asm); (case k4 => k_asm); (case hx => k_mem); (case hdx => k_mem); (case hv => with_reducible assumption); (case k1 => k_asm); (case k3 => k_asm); (case k5 => k_asm); (case kK => first | exact rfl | assumption); (case kd => ktr_room); (case ku => ktr_units); intro r9 h9 tk9 hr9 F9 N9; subst hr9; (try dsimp only); (try k_fold))
  k_with "call ref" => (k_here; (with_reducible show wpAny _ _ (call (Value.ref 105) _) _ _ _); k_dflt (refine' is_return_a_val ?hx ?hdx ?hv _ _ _ _ _ _ _ _ _ _ _ _ _ _ _ _ _ _ _ _ ?k1 ?k2 ?k3 ?k4 ?k5 ?kK ?kd ?ku ?_); (case k2 => k_asm); (case k4 => k_asm); (case hx => k_mem); (case hdx => k_mem); (case hv => with_reducible assumption); (case k1 => k_asm); (case k3 => k_asm); (case k5 => k_asm); (case kK => first | exact rfl | assumption); (case kd => ktr_room); (case ku => ktr_units); intro r9 h9 tk9 hr9 F9 N9; subst hr9; (try dsimp only); (try k_fold))
  k_with "call ref" => (k_here; (with_reducible show wpAny _ _ (call (Value.ref 112) _) _ _ _); k_dflt (refine' read_cell_val ?hx ?hdx ?hv _ _ _ _ _ _ _ _ _ _ _ _ _ _ _ _ _ _ _ _ ?k1 ?k2 ?k3 ?k4 ?k5 ?kK ?kd ?ku ?_); (case k2 => k_asm); (case k4 => k_asm); (case hx => k_mem); (case hdx => k_mem); (case hv => with_reducible assumption); (case k1 => k_asm); (case k3 => k_asm); (case k5 => k_asm); (case kK => first | exact rfl | assumption); (case kd => ktr_room); (case ku => ktr_units); intro r9 h9 tk9 hr9 F9 N9; (obtain ⟨t9, e9⟩ := hr9; subst e9); (try dsimp only); (try k_fold))
  k_with "call ref" => (k_here; (with_reducible show wpAny _ _ (call (Value.ref 119) _) _ _ _); k_dflt (refine' written_cell_val ?hx ?hdx ?hv _ _ _ _ _ _ _ _ _ _ _ _ _ _ _ _ _ _ _ _ ?k1 ?k2 ?k3 ?k4 ?k5 ?kK ?kd ?ku ?_); (case k2 => k_asm); (case k4 => k_asm); (case hx => k_mem); (case hdx => k_mem); (case hv => with_reducible assumption); (case k1 => k_asm); (case k3 => k_asm); (case k5 => k_asm); (case kK => first | exact rfl | assumption); (case kd => ktr_room); (case ku => ktr_units); intro r9 h9 tk9 hr9 F9 N9; (obtain ⟨t9, e9⟩ := hr9; subst e9); (try dsimp only); (try k_fold))
  k_with "ite" => (k_here; first | with_reducible refine ite_neg neS ?_ | with_reducible refine ite_neg neB ?_ | with_reducible refine ite_neg neI ?_ | with_reducible refine ite_pos eqI ?_ | (with_reducible refine' ite_pos ?kc ?_; (case kc => with_reducible assumption)) | (with_reducible refine' ite_neg (notT ?kc) ?_; (case kc => with_reducible assumption)))
  k_with "ite" => (k_here; with_reducible refine ite_neg (notT rfl) ?_)
  k_with "ite" => (k_here; with_reducible refine ite_pos rfl ?_)
  intro mean mg mb dp un gd cn cs a ccd cl outer A₀ base h₀ L m s Q E B F X N T hk hdp hun hend
  refine wpAny_call ?_
  k_dflt (refine' code_def (binds := [(Str.ofString "row", Value.ref r), (Str.ofString "order", Value.ref x)]) ?k1 ?k2 ?k3 ?k4 ?k5 ?kA ?kF ?kK ?k6 ?k7 ?k8 ?k9 ?kB ?_ ?c2 ?c3 ?c4 ?c5; (case kA => exact rfl); (case kF => exact rfl); (case kK => assumption); (case k1 => k_asm); (case k2 => k_asm); (case k3 => k_asm); (case k4 => k_asm); (case k5 => k_asm); (case k6 => k_is); (case k7 => k_is); (case k8 => ktr_room); (case k9 => exact BindsTo.of_eq rfl); (case c5 => decide); (case kB => exact locs rfl); (case c2 => exact rfl); (case c3 => exact rfl); (case c4 => exact rfl); k_whole; intro g' L' h' FG' F' N' B' X' T'; (try dsimp only); (try k_lift B'); (try k_fold))
  iterate 19 walk1
  rename Fr g' _ _ _ => FF0
  rename News g' _ _ _ => NN
  obtain ⟨mm, e1, e2, e3, e4, FF⟩ : ∃ mm : Str → Option Value, mm (Str.ofString "kind") = some (.str kd v2) ∧ mm (Str.ofString "name") = some (.str nm v3) ∧ mm (Str.ofString "text") = some (.str z v4) ∧ mm (Str.ofString "order") = some (.ref x) ∧ Fr g' _ _ mm := ⟨_, rfl, rfl, rfl, rfl, FF0⟩
  clear FF0
  k_with "eval Name" => (k_here; k_dflt (refine' ld ?k1 ?k2 ?_; (case k1 => k_asm); (case k2 => first | with_reducible assumption | assumption); k_whole))
  refine If_cut FF NN ?_ ?_
  · k_steps <;> assumption
  intro h2 tk2 F2 N2
  clear FF NN
  dsimp only
  walk1
  refine If_cut F2 N2 ?_ ?_
  · rcases hm2 with ⟨hm, hm'⟩ | hm <;> (k_steps <;> first | trivial | assumption | (refine' cb_drop ?ca ?cb; (case ca => k_asm); (case cb => (intro p hp; repeat (first | assumption | refine List.mem_cons_of_mem _ ?_)))))
  intro h3 tk3 F3 N3
  clear F2 N2
  dsimp only
  walk1
  refine If_cut F3 N3 ?_ ?_
  · obtain ⟨lw, hlw⟩ : ∃ lw, loadWidth c = lw := ⟨_, rfl⟩
    rw [hlw] at hm3
    rcases hm3 with hm | ⟨hm, hm3⟩
    · k_steps <;> first | trivial | assumption | (refine' cb_drop ?ca ?cb; (case ca => k_asm); (case cb => (intro p hp; repeat (first | assumption | refine List.mem_cons_of_mem _ ?_))))
    · repeat' (first | (k_unfold; (try dsimp only)) | (k_end; wrow_close) | ((fail_if_success (with_reducible show wpAny _ _ (PySem.call (Value.builtin "str.split") _) _ _ _)); first | walk1 | (dsimp only; walk1) | (leave1; try dsimp only)))
      clear hm hlw
      rcases hm3 with ⟨rfl, rfl⟩ | ⟨rfl, rfl⟩ | ⟨rfl, rfl⟩ | ⟨rfl, rfl⟩ | ⟨rfl, rfl⟩ | ⟨rfl, rfl⟩ <;> k_steps <;> first | trivial | assumption | (refine' cb_drop ?ca ?cb; (case ca => k_asm); (case cb => (intro p hp; repeat (first | assumption | refine List.mem_cons_of_mem _ ?_))))
  intro h4 tk4 F4 N4
  clear F3 N3
  dsimp only
  walk1
  refine If_cut F4 N4 ?_ ?_
  · rcases hm4 with ⟨hm, hm', hm''⟩ | hm <;> (k_steps <;> first | trivial | assumption | (refine' cb_drop ?ca ?cb; (case ca => k_asm); (case cb => (intro p hp; repeat (first | assumption | refine List.mem_cons_of_mem _ ?_)))))
  intro h5 tk5 F5 N5
  clear F4 N4
  dsimp only
  walk1
  refine If_cut F5 N5 ?_ ?_
  · rcases hm5 with ⟨hm, hm', hm''⟩ | hm <;> (k_steps <;> first | trivial | assumption | (refine' cb_drop ?ca ?cb; (case ca => k_asm); (case cb => (intro p hp; repeat (first | assumption | refine List.mem_cons_of_mem _ ?_)))))
  intro h6 tk6 F6 N6
  clear F5 N5
  dsimp only
  rcases hm6 with ⟨hm, hm', ha, hb⟩ | ⟨hm, hm', ha, hb⟩ | ⟨hm, hm', ha, hb⟩ <;> k_steps
  all_goals refine hend _ _ _ (by simp) (by k_asm) ?_
  all_goals (refine' cb_drop ?ca ?cb; (case ca => k_asm); (case cb => (intro p hp; repeat (first | assumption | refine List.mem_cons_of_mem _ ?_))))
noncomputable abbrev occ (z y : Str) : Bool := !(Builtin.Str.occurrences z y 0 z.length 1).isEmpty
/-- a text's items: a sign that is no figure, a number -/
inductive Itm where
  | lit (c : Nat)
  | num (n : Nat)
  deriving DecidableEq
noncomputable def figs (n : Nat) : List Nat := (Nat.toDigits 10 n).map Char.toNat
noncomputable def isFig (c : Nat) : Bool := decide (48 ≤ c) && decide (c ≤ 57)
noncomputable def Itm.show : Itm → List Nat
  | .lit c => [c]
  | .num n => figs n
noncomputable def showAll (l : List Itm) : List Nat := l.flatMap Itm.show
noncomputable def itmOf (k jt jf : Nat) (c : Nat) : Itm := if c = 75 then .num k else if c = 84 then .num jt else if c = 70 then .num jf else if isFig c = true then .num (c - 48) else .lit c
noncomputable def isNum : Itm → Bool
  | .num _ => true
  | .lit _ => false
noncomputable def Sep : List Itm → Bool
  | [] => true
  | .lit c :: r => !isFig c && Sep r
  | .num _ :: r => !((r.head?.map isNum).getD false) && Sep r
theorem figs_fig (n : Nat) : ∀ c ∈ figs n, isFig c = true := by
  intro c hc
  obtain ⟨ch, hch, rfl⟩ := List.mem_map.mp hc
  have r := PyProof.Rows.digit_range (Nat.isDigit_of_mem_toDigits (by decide) (by decide) hch)
  unfold isFig
  rw [decide_eq_true r.1, decide_eq_true r.2]; rfl
theorem figs_ne (n : Nat) : figs n ≠ [] := by
  unfold figs
  intro h
  exact Nat.toDigits_ne_nil (List.map_eq_nil_iff.mp h)
theorem figs_inj {n m : Nat} (h : figs n = figs m) : n = m := by
  have := congrArg PySem.NumText.digitsVal h
  unfold figs at this
  rw [KIN.val_back, KIN.val_back] at this
  exact this
theorem take_figs {a b : List Nat} (ha : ∀ c ∈ a, isFig c = true) (hb : (b.head?.map isFig).getD false = false) : (a ++ b).takeWhile isFig = a := by
  induction a with
  | nil =>
    cases b with
    | nil => rfl
    | cons x r =>
      have hx : isFig x = false := hb
      rw [List.nil_append, List.takeWhile_cons, hx]; rfl
  | cons x r ih =>
    rw [List.cons_append, List.takeWhile_cons, ha x (.head _), if_pos rfl, ih fun c hc => ha c (.tail _ hc)]
theorem head_show {r : List Itm} (hs : Sep r = true) (hn : (r.head?.map isNum).getD false = false) : ((showAll r).head?.map isFig).getD false = false := by
  cases r with
  | nil => rfl
  | cons i r =>
    cases i with
    | num n => exact absurd (show true = false from hn) (by decide)
    | lit c =>
      have : (!isFig c && Sep r) = true := hs
      rw [Bool.and_eq_true, Bool.not_eq_true'] at this
      exact this.1
theorem sep_num {n : Nat} {r : List Itm} (h : Sep (.num n :: r) = true) : (r.head?.map isNum).getD false = false ∧ Sep r = true := by
  have : (!((r.head?.map isNum).getD false) && Sep r) = true := h
  rwa [Bool.and_eq_true, Bool.not_eq_true'] at this
theorem sep_lit {c : Nat} {r : List Itm} (h : Sep (.lit c :: r) = true) : isFig c = false ∧ Sep r = true := by
  have : (!isFig c && Sep r) = true := h
  rwa [Bool.and_eq_true, Bool.not_eq_true'] at this
theorem show_cons (i : Itm) (r : List Itm) : showAll (i :: r) = i.show ++ showAll r := rfl
theorem show_inj : ∀ {l m : List Itm}, Sep l = true → Sep m = true → showAll l = showAll m → l = m := by
  intro l
  induction l with
  | nil =>
    intro m _ _ h
    cases m with
    | nil => rfl
    | cons i r =>
      exfalso
      rw [show_cons] at h
      cases i with
      | lit c => exact absurd h (by simp [showAll, Itm.show])
      | num n =>
        have := (List.append_eq_nil_iff.mp h.symm).1
        exact figs_ne n this
  | cons i r ih =>
    intro m hl hm h
    cases m with
    | nil =>
      exfalso
      rw [show_cons] at h
      cases i with
      | lit c => exact absurd h (by simp [showAll, Itm.show])
      | num n => exact figs_ne n (List.append_eq_nil_iff.mp h).1
    | cons j q =>
      rw [show_cons, show_cons] at h
      cases i with
      | lit c =>
        cases j with
        | lit c' =>
          have h' : c :: showAll r = c' :: showAll q := h
          rw [List.cons.injEq] at h'
          rw [h'.1, ih (sep_lit hl).2 (sep_lit hm).2 h'.2]
        | num n =>
          exfalso
          have h' : c :: showAll r = figs n ++ showAll q := h
          cases hf : figs n with
          | nil => exact figs_ne n hf
          | cons x y =>
            rw [hf, List.cons_append, List.cons.injEq] at h'
            have h1 := figs_fig n x (by rw [hf]; exact .head _)
            rw [← h'.1, (sep_lit hl).1] at h1
            cases h1
      | num n =>
        cases j with
        | lit c =>
          exfalso
          have h' : figs n ++ showAll r = c :: showAll q := h
          cases hf : figs n with
          | nil => exact figs_ne n hf
          | cons x y =>
            rw [hf, List.cons_append, List.cons.injEq] at h'
            have h1 := figs_fig n x (by rw [hf]; exact .head _)
            rw [h'.1, (sep_lit hm).1] at h1
            cases h1
        | num n' =>
          have h' : figs n ++ showAll r = figs n' ++ showAll q := h
          have e1 := take_figs (figs_fig n) (head_show (sep_num hl).2 (sep_num hl).1)
          have e2 := take_figs (figs_fig n') (head_show (sep_num hm).2 (sep_num hm).1)
          have e : figs n = figs n' := by rw [← e1, ← e2, h']
          rw [e] at h'
          have h2 := List.append_cancel_left h'
          rw [figs_inj e, ih (sep_num hl).2 (sep_num hm).2 h2]
theorem numT_codes {k : Int} (h : 0 ≤ k) : (numT k).cps.toList = figs k.toNat := by
  obtain ⟨m, rfl⟩ := Int.eq_ofNat_of_zero_le h
  exact KIN.signs_num m
theorem fig_one : ∀ d : Nat, d < 10 → figs d = [d + 48] := by decide
theorem piece_codes {k jt jf : Int} (hk : 0 ≤ k) (hjt : 0 ≤ jt) (hjf : 0 ≤ jf) (c : Nat) : (pieceI k jt jf (c : Int)).cps.toList = (itmOf k.toNat jt.toNat jf.toNat c).show := by
  unfold pieceI itmOf
  by_cases h1 : c = 75
  · rw [if_pos (by omega), if_pos h1]; exact numT_codes hk
  · rw [if_neg (by omega), if_neg h1]
    by_cases h2 : c = 84
    · rw [if_pos (by omega), if_pos h2]; exact numT_codes hjt
    · rw [if_neg (by omega), if_neg h2]
      by_cases h3 : c = 70
      · rw [if_pos (by omega), if_pos h3]; exact numT_codes hjf
      · rw [if_neg (by omega), if_neg h3]
        by_cases h4 : isFig c = true
        · rw [if_pos h4]
          unfold isFig at h4
          rw [Bool.and_eq_true, decide_eq_true_eq, decide_eq_true_eq] at h4
          show [((c : Int)).toNat] = figs (c - 48)
          rw [fig_one _ (by omega), Int.toNat_natCast]
          congr 1; omega
        · rw [if_neg h4]
          show [((c : Int)).toNat] = [c]
          rw [Int.toNat_natCast]
theorem fold_codes {k jt jf : Int} (hk : 0 ≤ k) (hjt : 0 ≤ jt) (hjf : 0 ≤ jf) : ∀ (l : List Nat) (a : Str), ((l.map fun (c : Nat) => (c : Int)).foldl (fun acc c => acc ++ pieceI k jt jf c) a).cps.toList = a.cps.toList ++ showAll (l.map (itmOf k.toNat jt.toNat jf.toNat))
  | [], a => by simp [showAll]
  | c :: r, a => by
    rw [List.map_cons, List.foldl_cons, fold_codes hk hjt hjf r, Str.cps_append, Array.toList_append, piece_codes hk hjt hjf, List.append_assoc]
    rfl
theorem shown_codes {k jt jf : Int} (hk : 0 ≤ k) (hjt : 0 ≤ jt) (hjf : 0 ≤ jf) (z : Str) : (shownText k jt jf z).cps.toList = showAll (z.cps.toList.map (itmOf k.toNat jt.toNat jf.toNat)) := by
  unfold shownText expandI KStt.codes
  rw [fold_codes hk hjt hjf, show (Str.ofString "").cps.toList = [] by decide, List.nil_append]
/-- the shape of a row's text -/
noncomputable def kindOf (c : Nat) : Nat := if c = 75 ∨ c = 84 ∨ c = 70 ∨ isFig c = true then 48 else c
noncomputable def Itm.kind : Itm → Nat
  | .lit c => c
  | .num _ => 48
theorem kind_itm (k jt jf c : Nat) : (itmOf k jt jf c).kind = kindOf c := by
  unfold itmOf kindOf
  by_cases h1 : c = 75
  · rw [if_pos h1, if_pos (.inl h1)]; rfl
  · rw [if_neg h1]
    by_cases h2 : c = 84
    · rw [if_pos h2, if_pos (.inr (.inl h2))]; rfl
    · rw [if_neg h2]
      by_cases h3 : c = 70
      · rw [if_pos h3, if_pos (.inr (.inr (.inl h3)))]; rfl
      · rw [if_neg h3]
        by_cases h4 : isFig c = true
        · rw [if_pos h4, if_pos (.inr (.inr (.inr h4)))]; rfl
        · rw [if_neg h4, if_neg (by rintro (h | h | h | h) <;> contradiction)]; rfl
noncomputable def SepC : List Nat → Bool
  | [] => true
  | c :: r => (if kindOf c = 48 then !((r.head?.map fun x => decide (kindOf x = 48)).getD false) else true) && SepC r
theorem num_itm (k jt jf c : Nat) : isNum (itmOf k jt jf c) = decide (kindOf c = 48) := by
  by_cases h1 : c = 75 ∨ c = 84 ∨ c = 70 ∨ isFig c = true
  · have e : kindOf c = 48 := if_pos h1
    rw [e]
    unfold itmOf
    rcases h1 with h | h | h | h
    · rw [if_pos h]; rfl
    · split
      · rfl
      · rfl
    · split
      · rfl
      · split
        · rfl
        · rfl
    · split
      · rfl
      · split
        · rfl
        · split
          · rfl
          · rfl
  · have e : kindOf c = c := if_neg h1
    rw [e]
    have hc : c ≠ 48 := fun h => h1 (.inr (.inr (.inr (by rw [h]; decide))))
    unfold itmOf
    rw [if_neg fun h => h1 (.inl h), if_neg fun h => h1 (.inr (.inl h)), if_neg fun h => h1 (.inr (.inr (.inl h))), if_neg fun h => h1 (.inr (.inr (.inr h))), decide_eq_false hc]
    rfl
theorem lit_itm {k jt jf c x : Nat} (h : itmOf k jt jf c = .lit x) : isFig x = false := by
  unfold itmOf at h
  split at h
  · cases h
  · split at h
    · cases h
    · split at h
      · cases h
      · split at h
        · cases h
        · rename_i hf
          cases h
          exact Bool.not_eq_true _ |>.mp hf
theorem sep_itm (k jt jf : Nat) : ∀ l : List Nat, SepC l = true → Sep (l.map (itmOf k jt jf)) = true
  | [], _ => rfl
  | c :: r, h => by
    have h' : ((if kindOf c = 48 then !((r.head?.map fun x => decide (kindOf x = 48)).getD false) else true) && SepC r) = true := h
    rw [Bool.and_eq_true] at h'
    have ih := sep_itm k jt jf r h'.2
    rw [List.map_cons]
    cases hi : itmOf k jt jf c with
    | lit x =>
      show (!isFig x && Sep (r.map (itmOf k jt jf))) = true
      rw [lit_itm hi, ih]; rfl
    | num n =>
      have hk : kindOf c = 48 := by
        have := num_itm k jt jf c
        rw [hi] at this
        exact of_decide_eq_true this.symm
      have h1 := h'.1
      rw [if_pos hk, Bool.not_eq_true'] at h1
      show (!(((r.map (itmOf k jt jf)).head?.map isNum).getD false) && Sep (r.map (itmOf k jt jf))) = true
      have e : ((r.map (itmOf k jt jf)).head?.map isNum) = r.head?.map fun x => decide (kindOf x = 48) := by
        cases r with
        | nil => rfl
        | cons a t => show some (isNum (itmOf k jt jf a)) = some _; rw [num_itm]
      rw [e, h1, ih]; rfl
noncomputable abbrev ShT : Type := Int × Int × Option (Int × Int)
noncomputable def shOf (c : Int) (z : Str) (k jt jf : Int) : ShT := (c, if occ z (Str.ofString "K") = true then k else 0, if occ z (Str.ofString "T") = true then some (jt, jf) else none)
noncomputable def Dec (txt : Str) (sh : ShT) : Prop := ∃ c kd nm z k jt jf, (c, kd, nm, z) ∈ lawRows ∧ 0 ≤ k ∧ 0 ≤ jt ∧ 0 ≤ jf ∧ txt = shownText k jt jf z ∧ sh = shOf c z k jt jf
theorem rows_sep : ∀ p ∈ lawRows, SepC p.2.2.2.cps.toList = true := by decide +kernel
theorem rows_apart : ∀ p ∈ lawRows, ∀ q ∈ lawRows, p.2.2.2.cps.toList.map kindOf = q.2.2.2.cps.toList.map kindOf → p.1 = q.1 ∧ p.2.2.2 = q.2.2.2 := by decide +kernel
theorem rows_K : ∀ p ∈ lawRows, occ p.2.2.2 (Str.ofString "K") = true → 75 ∈ p.2.2.2.cps.toList := by decide +kernel
theorem rows_T : ∀ p ∈ lawRows, occ p.2.2.2 (Str.ofString "T") = true → 84 ∈ p.2.2.2.cps.toList ∧ 70 ∈ p.2.2.2.cps.toList := by decide +kernel
theorem row_lens : ∀ p ∈ lawRows, 1 ≤ p.2.2.2.length ∧ p.2.2.2.length ≤ 20 := by decide +kernel
theorem itm_K {k jt jf k' jt' jf' : Nat} (h : itmOf k jt jf 75 = itmOf k' jt' jf' 75) : k = k' := by
  have h' : Itm.num k = Itm.num k' := h
  cases h'; rfl
theorem itm_T {k jt jf k' jt' jf' : Nat} (h : itmOf k jt jf 84 = itmOf k' jt' jf' 84) : jt = jt' := by
  have h' : Itm.num jt = Itm.num jt' := h
  cases h'; rfl
theorem itm_F {k jt jf k' jt' jf' : Nat} (h : itmOf k jt jf 70 = itmOf k' jt' jf' 70) : jf = jf' := by
  have h' : Itm.num jf = Itm.num jf' := h
  cases h'; rfl
theorem Dec.inj {txt : Str} {sh sh' : ShT} (h : Dec txt sh) (h' : Dec txt sh') : sh = sh' := by
  obtain ⟨c, kd, nm, z, k, jt, jf, hm, hk, hjt, hjf, e, rfl⟩ := h
  obtain ⟨c', kd', nm', z', k', jt', jf', hm', hk', hjt', hjf', e', rfl⟩ := h'
  have hc : (shownText k jt jf z).cps.toList = (shownText k' jt' jf' z').cps.toList := by rw [← e, ← e']
  rw [shown_codes hk hjt hjf, shown_codes hk' hjt' hjf'] at hc
  have hi := show_inj (sep_itm _ _ _ _ (rows_sep _ hm)) (sep_itm _ _ _ _ (rows_sep _ hm')) hc
  have hs := congrArg (List.map Itm.kind) hi
  rw [List.map_map, List.map_map] at hs
  have hs' : z.cps.toList.map kindOf = z'.cps.toList.map kindOf := by
    have e1 : ∀ a b d : Nat, (Itm.kind ∘ itmOf a b d) = kindOf := fun a b d => funext fun x => kind_itm a b d x
    rw [e1, e1] at hs
    exact hs
  obtain ⟨rfl, rfl⟩ := rows_apart _ hm _ hm' hs'
  dsimp only at *
  have ha := List.map_inj_left.mp hi
  unfold shOf
  refine Prod.ext rfl (Prod.ext ?_ ?_)
  · by_cases hK : occ z (Str.ofString "K") = true
    · show (if _ then k else 0) = if _ then k' else 0
      rw [if_pos hK, if_pos hK]
      have := itm_K (ha 75 (rows_K _ hm hK))
      omega
    · show (if _ then k else 0) = if _ then k' else 0
      rw [if_neg hK, if_neg hK]
  · by_cases hT : occ z (Str.ofString "T") = true
    · show (if _ then some (jt, jf) else none) = if _ then some (jt', jf') else none
      rw [if_pos hT, if_pos hT]
      have h1 := itm_T (ha 84 (rows_T _ hm hT).1)
      have h2 := itm_F (ha 70 (rows_T _ hm hT).2)
      rw [show jt = jt' by omega, show jf = jf' by omega]
    · show (if _ then some (jt, jf) else none) = if _ then some (jt', jf') else none
      rw [if_neg hT, if_neg hT]
/-- a text by tokens: a sign, or one of the three numbers -/
inductive Tk where
  | c (n : Nat)
  | K
  | T
  | F
  deriving DecidableEq
noncomputable def tkC (ks ts fs : List Nat) : Tk → List Nat
  | .c n => [n]
  | .K => ks
  | .T => ts
  | .F => fs
noncomputable def evL (ks ts fs : List Nat) (l : List Tk) : List Nat := l.flatMap (tkC ks ts fs)
noncomputable def lit (s : Str) : List Tk := s.cps.toList.map .c
section
variable {ks ts fs : List Nat}
theorem evL_app (a b : List Tk) : evL ks ts fs (a ++ b) = evL ks ts fs a ++ evL ks ts fs b := List.flatMap_append ..
theorem evL_lit (s : Str) : evL ks ts fs (lit s) = s.cps.toList := by
  unfold evL lit
  generalize s.cps.toList = l
  induction l with
  | nil => rfl
  | cons a r ih => rw [List.map_cons, List.flatMap_cons, ih]; rfl
theorem evL_K : evL ks ts fs [.K] = ks := by simp [evL, tkC]
theorem evL_T : evL ks ts fs [.T] = ts := by simp [evL, tkC]
theorem evL_F : evL ks ts fs [.F] = fs := by simp [evL, tkC]
end
theorem app_codes (a b : Str) : (a ++ b).cps.toList = a.cps.toList ++ b.cps.toList := by rw [Str.cps_append, Array.toList_append]
noncomputable def loadTk (code : Int) : List Tk :=
  if modeName code = Str.ofString "imm" then (if Builtin.bitAnd code 7 = 0 then lit (Str.ofString "ld") else lit (Str.ofString "ldx")) ++ lit (Str.ofString " #") ++ [.K]
  else if modeName code = Str.ofString "mem" then (if Builtin.bitAnd code 7 = 0 then lit (Str.ofString "ld") else lit (Str.ofString "ldx")) ++ lit (Str.ofString " M[") ++ [.K] ++ lit (Str.ofString "]")
  else if modeName code = Str.ofString "len" then (if Builtin.bitAnd code 7 = 0 then lit (Str.ofString "ld") else lit (Str.ofString "ldx")) ++ lit (Str.ofString " #len")
  else if modeName code = Str.ofString "msh" then lit (Str.ofString "ldx 4*([") ++ [.K] ++ lit (Str.ofString "]&0xf)")
  else (if Builtin.bitAnd code 7 = 0 then (if loadWidth code = 4 then lit (Str.ofString "ld") else if loadWidth code = 2 then lit (Str.ofString "ldh") else lit (Str.ofString "ldb"))
      else (if loadWidth code = 4 then lit (Str.ofString "ldx") else if loadWidth code = 2 then lit (Str.ofString "ldxh") else lit (Str.ofString "ldxb")))
    ++ ((if modeName code = Str.ofString "abs" then lit (Str.ofString " [") else lit (Str.ofString " [x + ")) ++ [.K] ++ lit (Str.ofString "]"))
noncomputable def jumpTk (code : Int) : List Tk :=
  if jumpName code = Str.ofString "ja" then lit (Str.ofString "ja +") ++ [.K]
  else lit (jumpName code) ++ lit (Str.ofString " ") ++ (if isByX code = true then lit (Str.ofString "x") else lit (Str.ofString "#") ++ [.K]) ++ lit (Str.ofString ", +") ++ [.T] ++ lit (Str.ofString ", +") ++ [.F]
noncomputable def showTk (code : Int) : List Tk :=
  if className code = Str.ofString "ld" ∨ className code = Str.ofString "ldx" then loadTk code
  else if className code = Str.ofString "st" ∨ className code = Str.ofString "stx" then lit (className code) ++ lit (Str.ofString " M[") ++ [.K] ++ lit (Str.ofString "]")
  else if className code = Str.ofString "alu" then (if aluName code = Str.ofString "neg" then lit (aluName code) else lit (aluName code) ++ (if isByX code = true then lit (Str.ofString " x") else lit (Str.ofString " #") ++ [.K]))
  else if className code = Str.ofString "jmp" then jumpTk code
  else if className code = Str.ofString "ret" then (if isReturnA code = true then lit (Str.ofString "ret a") else lit (Str.ofString "ret #") ++ [.K])
  else if Builtin.bitAnd code 128 = 0 then lit (Str.ofString "tax") else lit (Str.ofString "txa")
section
variable (code k jt jf : Int)
theorem load_ev (ts fs : List Nat) : (loadText code k).cps.toList = evL (numT k).cps.toList ts fs (loadTk code) := by
  unfold loadText loadTk
  simp only [apply_ite Str.cps, apply_ite Array.toList, apply_ite (evL (numT k).cps.toList ts fs), app_codes, evL_app, evL_lit, evL_K]
theorem jump_ev : (jumpText code jt jf k).cps.toList = evL (numT k).cps.toList (numT jt).cps.toList (numT jf).cps.toList (jumpTk code) := by
  unfold jumpText jumpTk
  simp only [apply_ite Str.cps, apply_ite Array.toList, apply_ite (evL (numT k).cps.toList (numT jt).cps.toList (numT jf).cps.toList), app_codes, evL_app, evL_lit, evL_K, evL_T, evL_F]
theorem show_ev : (showText code jt jf k).cps.toList = evL (numT k).cps.toList (numT jt).cps.toList (numT jf).cps.toList (showTk code) := by
  unfold showText showTk
  simp only [apply_ite Str.cps, apply_ite Array.toList, apply_ite (evL (numT k).cps.toList (numT jt).cps.toList (numT jf).cps.toList), app_codes, evL_app, evL_lit, evL_K, load_ev code k (numT jt).cps.toList (numT jf).cps.toList, jump_ev code k jt jf]
end
noncomputable def tokOf (c : Nat) : Tk := if c = 75 then .K else if c = 84 then .T else if c = 70 then .F else .c c
theorem piece_ev (k jt jf : Int) (c : Nat) : (pieceI k jt jf (c : Int)).cps.toList = tkC (numT k).cps.toList (numT jt).cps.toList (numT jf).cps.toList (tokOf c) := by
  unfold pieceI tokOf
  by_cases h1 : c = 75
  · rw [if_pos (by omega), if_pos h1]; rfl
  · rw [if_neg (by omega), if_neg h1]
    by_cases h2 : c = 84
    · rw [if_pos (by omega), if_pos h2]; rfl
    · rw [if_neg (by omega), if_neg h2]
      by_cases h3 : c = 70
      · rw [if_pos (by omega), if_pos h3]; rfl
      · rw [if_neg (by omega), if_neg h3]
        show [((c : Int)).toNat] = [c]
        rw [Int.toNat_natCast]
theorem fold_ev (k jt jf : Int) : ∀ (l : List Nat) (a : Str), ((l.map fun (c : Nat) => (c : Int)).foldl (fun acc c => acc ++ pieceI k jt jf c) a).cps.toList = a.cps.toList ++ evL (numT k).cps.toList (numT jt).cps.toList (numT jf).cps.toList (l.map tokOf)
  | [], a => by simp [evL]
  | c :: r, a => by
    rw [List.map_cons, List.foldl_cons, fold_ev k jt jf r, app_codes, piece_ev, List.append_assoc]
    rfl
theorem shown_ev (k jt jf : Int) (z : Str) : (shownText k jt jf z).cps.toList = evL (numT k).cps.toList (numT jt).cps.toList (numT jf).cps.toList (z.cps.toList.map tokOf) := by
  unfold shownText expandI KStt.codes
  rw [fold_ev, show (Str.ofString "").cps.toList = [] by decide, List.nil_append]
theorem rows_tk : ∀ p ∈ lawRows, showTk p.1 = p.2.2.2.cps.toList.map tokOf := by decide +kernel
theorem show_row {c : Int} {kd nm z : Str} (h : (c, kd, nm, z) ∈ lawRows) (k jt jf : Int) : showText c jt jf k = shownText k jt jf z := by
  refine str_toList ?_
  rw [show_ev, shown_ev, rows_tk _ h]
theorem row_len {c : Int} {kd nm z : Str} (h : (c, kd, nm, z) ∈ lawRows) : z.length ≤ 20 := (row_lens _ h).2
theorem rows_told : ∀ p ∈ lawRows, (className p.1 = p.2.1) ∧
  (isReturn p.1 = (p.2.1 == Str.ofString "ret")) ∧
  (isReturnA p.1 = (p.2.2.1 == Str.ofString "a")) ∧
  (([Str.ofString "ld", Str.ofString "ldx"].any fun x => x == p.2.1) = true ∧ modeName p.1 = p.2.2.1 ∨ ([Str.ofString "ld", Str.ofString "ldx"].any fun x => x == p.2.1) = false) ∧
  (([Str.ofString "abs", Str.ofString "ind"].any fun x => x == p.2.2.1) = false ∨ ([Str.ofString "abs", Str.ofString "ind"].any fun x => x == p.2.2.1) = true ∧
      (p.2.2.2 = Str.ofString "ld [K]" ∧ loadWidth p.1 = 4 ∨ p.2.2.2 = Str.ofString "ldh [K]" ∧ loadWidth p.1 = 2 ∨ p.2.2.2 = Str.ofString "ldb [K]" ∧ loadWidth p.1 = 1 ∨ p.2.2.2 = Str.ofString "ld [x + K]" ∧ loadWidth p.1 = 4 ∨ p.2.2.2 = Str.ofString "ldh [x + K]" ∧ loadWidth p.1 = 2 ∨ p.2.2.2 = Str.ofString "ldb [x + K]" ∧ loadWidth p.1 = 1)) ∧
  ((p.2.1 == Str.ofString "alu") = true ∧ aluName p.1 = p.2.2.1 ∧ isByX p.1 = (Txt.item p.2.2.2 (-1) == Str.ofString "x") ∨ (p.2.1 == Str.ofString "alu") = false) ∧
  ((p.2.1 == Str.ofString "jmp") = true ∧ jumpName p.1 = p.2.2.1 ∧ isByX p.1 = (!(Builtin.Str.occurrences p.2.2.2 (Str.ofString "x,") 0 p.2.2.2.length 1).isEmpty) ∨ (p.2.1 == Str.ofString "jmp") = false) := by decide +kernel
theorem rows_cell : ∀ p ∈ lawRows, ([Str.ofString "st", Str.ofString "stx"].any fun x => x == p.2.1) = true ∧ occ p.2.2.2 (Str.ofString "M[") = true ∧ ¬ ((Builtin.bitAnd p.1 7 = 0 ∨ Builtin.bitAnd p.1 7 = 1) ∧ modeName p.1 = Str.ofString "mem") ∧ (Builtin.bitAnd p.1 7 = 2 ∨ Builtin.bitAnd p.1 7 = 3) ∨
    ([Str.ofString "st", Str.ofString "stx"].any fun x => x == p.2.1) = false ∧ occ p.2.2.2 (Str.ofString "M[") = true ∧ ((Builtin.bitAnd p.1 7 = 0 ∨ Builtin.bitAnd p.1 7 = 1) ∧ modeName p.1 = Str.ofString "mem") ∧ ¬ (Builtin.bitAnd p.1 7 = 2 ∨ Builtin.bitAnd p.1 7 = 3) ∨
    ([Str.ofString "st", Str.ofString "stx"].any fun x => x == p.2.1) = false ∧ occ p.2.2.2 (Str.ofString "M[") = false ∧ ¬ ((Builtin.bitAnd p.1 7 = 0 ∨ Builtin.bitAnd p.1 7 = 1) ∧ modeName p.1 = Str.ofString "mem") ∧ ¬ (Builtin.bitAnd p.1 7 = 2 ∨ Builtin.bitAnd p.1 7 = 3) := by decide +kernel
theorem told_row {w : World} {news : List (Addr × Obj)} {x dx : Addr} {h1 h2 h3 h4 : Int} {t1 t2 t3 t4 u1 u2 u3 u4 : Tok} {c jt jf k : Int} {r : Addr} {kd nm z : Str} {v1 v2 v3 v4 : Tok}
    (hrow : (c, kd, nm, z) ∈ lawRows)
    (hr : (r, tupO [.int c v1, .str kd v2, .str nm v3, .str z v4]) ∈ news) (hx : (x, instObj 45 dx) ∈ news) (hdx : (dx, ordD h1 h2 h3 h4 t1 t2 t3 t4 u1 u2 u3 u4 c jt jf k) ∈ news) :
    Con w 175 3 24 news [.ref r, .ref x] (fun v => v = .bool true) := by
  obtain ⟨a1, a2, a3, a4, a5, a6, a7⟩ := rows_told _ hrow
  have b := rows_cell _ hrow
  have l := row_lens _ hrow
  refine law_told_right_con hr hx hdx a1 a2 a3 a4 a5 a6 a7 ?_ l.1 l.2
  rcases b with ⟨e1, e2, e3, e4⟩ | ⟨e1, e2, e3, e4⟩ | ⟨e1, e2, e3, e4⟩
  · exact .inl ⟨e1, e2, if_neg e3, if_pos e4⟩
  · exact .inr (.inl ⟨e1, e2, if_pos e3, if_neg e4⟩)
  · exact .inr (.inr ⟨e1, e2, if_neg e3, if_neg e4⟩)
section
variable {prog : Program} {w : World} {A : Around} {E : Value → Shared → Prop} {s : Shared} {h₀ : Heap} {L : Addr} {m : Str → Option Value} {news : List (Addr × Obj)}
/-- the places of [1:3] in four -/
theorem applied13 {sl : Addr} {u u' : Tok} {Q : Int × Int × Nat → Shared → Prop} (hs : s.heap.IsSliceOf sl (.int 1 u) (.int 3 u') .none) (h : Q (1, 1, 2) s) :
    wpAny (model prog w) A (Builtin.Slice.sliceApplied (.ref sl) (pure (4 : Int))) Q E s := by
  obtain ⟨os, hos, _, hds⟩ := id hs
  unfold Builtin.Slice.sliceApplied Builtin.Slice.sliceFields
  refine wpAny_bind (wpAny_bind (wpAny_field hos hds (x := .int 1 u) rfl (wpAny_bind (wpAny_field hos hds (x := .int 3 u') rfl (wpAny_bind (wpAny_field hos hds (x := .none) rfl (wpAny_pure ?_)))))))
  refine wpAny_bind (slicePart_none ?_)
  show wpAny _ _ (if ((1 : Int) == 0) = true then _ else _) _ _ s
  rw [if_neg (by decide)]
  refine wpAny_bind (slicePart_int (wpAny_bind (slicePart_int (wpAny_bind (wpAny_pure ?_)))))
  exact wpAny_pure h
theorem getItem13 {t sl : Addr} {a b c e : Value} {u u' : Tok} {Q : Value → Shared → Prop} (ht : IsTup s.heap t #[a, b, c, e]) (hs : s.heap.IsSliceOf sl (.int 1 u) (.int 3 u') .none)
    (h : Q (.ref s.heap.objs.size) { s with heap := s.heap.push (tupO [b, c]) }) : wpAny (model prog w) A (getItem (.ref t) (.ref sl)) Q E s := by
  obtain ⟨os, hos, hcs, hds⟩ := id hs
  have hTs : s.TypeIs (.ref sl) "slice" := ⟨os, hos, hcs⟩
  have hsz : sizeOk (.seq #[b, c]) := by
    show 2 ≤ sizeLine
    rw [sizeLine_eq]; decide
  unfold getItem
  try with_reducible refine wpAny_holding ?_
  first | refine wpAny_bind (wpAny_pure ?_) | skip
  refine wpAny_bind (wpAny_sequenceKey ht.typeIs (by decide) ?_)
  refine wpAny_bind (wpAny_callSpecial?_slot (name := Str.ofString "__getitem__") ht.typeIs slot_tuple_getitem
    (wpAny_call_entry slot_tuple_getitem ht.typeIs entry_tuple_getitem ?_ (args_tuple_getitem _ _)))
  show wpAny _ _ (Builtin.Tuple.tupleItemsOf (.ref t) >>= _) _ _ s
  refine wpAny_bind (tupleItemsOf_ ht ?_)
  refine wpAny_bind (wpAny_typeOf hTs ?_)
  rw [if_pos (by decide)]
  refine wpAny_bind (applied13 hs ?_)
  show wpAny _ _ (if ((1 : Int) == 0 && (1 : Int) == 1 && 2 == 4) = true then _ else _) _ _ s
  rw [if_neg (by decide)]
  first
    | exact wpAny_bind (m := Builtin.Tuple.tupleExact _) (wpAny_newObj_type (wpAny_pure ⟨_, rfl, wpAny_pure h⟩) hsz)
    | exact wpAny_bind (m := Builtin.Tuple.tupleExact _) (wpAny_newObj_type (wpAny_bind (wpAny_pure (wpAny_pure ⟨_, rfl, wpAny_pure h⟩))) hsz)
    | exact wpAny_bind (wpAny_bind (m := Builtin.Tuple.tupleExact _) (wpAny_newObj_type (wpAny_pure (wpAny_pure ⟨_, rfl, wpAny_pure h⟩)) hsz))
    | exact wpAny_bind (wpAny_bind (m := Builtin.Tuple.tupleExact _) (wpAny_newObj_type (wpAny_pure ⟨_, rfl, wpAny_pure h⟩) hsz))
theorem tail13 {value slice : PySem.Expr} {t : Addr} {a b c e : Value} {u u' : Tok} {Q : Value → Shared → Prop}
    (F : Fr h₀ L s.heap m) (N : News h₀ L s.heap news) (ht : (t, tupO [a, b, c, e]) ∈ news)
    (h : ∀ D h', Fr h₀ L h' m → News h₀ L h' ((D, tupO [b, c]) :: news) → (∀ p ∈ news, p.1 < D) → Q (.ref D) { s with heap := h' })
    (hs : subscripted slice false (.ref t) (.ref s.heap.objs.size) = operate [.ref s.heap.objs.size, .ref t] (getItem (.ref t) (.ref s.heap.objs.size)))
    (hg : ∀ r, letTemporaryGo value (.ref t) r = pure ()) :
    wpAny (model prog w) A (subscriptTail value slice (.ref t) (.ref s.heap.objs.size)) Q E { s with heap := s.heap.push { cls := .type "slice", data := .fields #[.int 1 u, .int 3 u', .none] } } := by
  have ht0 : IsTup s.heap t #[a, b, c, e] := News.isTup N ht
  have ht' : IsTup (s.heap.push { cls := .type "slice", data := .fields #[.int 1 u, .int 3 u', .none] }) t #[a, b, c, e] := ht0.keeps fun _ _ e => Heap.get?_push_of_some _ e
  refine subscriptTail_ops (s := { s with heap := s.heap.push { cls := .type "slice", data := .fields #[.int 1 u, .int 3 u', .none] } }) ht'.typeIs slot_tuple_getitem.lookup
    (getItem13 ht' (Heap.IsSliceOf.new ..) ?_) hs hg
  have N1 := News.push (F.push { cls := .type "slice", data := .fields #[.int 1 u, .int 3 u', .none] }) (N.grown fun _ _ e => Heap.get?_push_of_some _ e) (tupO [b, c])
  rw [Heap.size_push] at N1
  show Q (.ref (s.heap.push _).objs.size) _
  rw [Heap.size_push]
  exact h _ _ ((F.push _).push _) N1 fun p hp => Nat.lt_succ_of_lt (Heap.lt_size (N p hp).1)
end
theorem cut_stmt {M : Model} {A : Around} {E : Value → Shared → Prop} {s : Shared} {env : Env} {st : Stmt} {rest : List Stmt} {Q : Flow → Shared → Prop} {P : Shared → Prop}
    (h1 : wpAny M A (exec st env) (fun f s' => f = .next ∧ P s') E s) (h2 : ∀ s', P s' → wpAny M A (execs rest env) Q E s') : wpAny M A (execs (st :: rest) env) Q E s := by
  refine wpAny_execs_cons (wpAny_mono h1 (fun f s' h => ?_) fun _ _ x => x)
  obtain ⟨rfl, h⟩ := h
  exact h2 s' h
/-- the ledger bears it -/
inductive InnerAt (L : List (Addr × Obj)) (b : Addr) : Option (Int × Int) → Prop
  | none : (b, tupO []) ∈ L → InnerAt L b none
  | some {x y : Int} {t u : Tok} : (b, tupO [.int x t, .int y u]) ∈ L → InnerAt L b (some (x, y))
inductive ShAt (L : List (Addr × Obj)) : Value → ShT → Prop
  | mk {a b : Addr} {c kk : Int} {t u : Tok} {i : Option (Int × Int)} : (a, tupO [.int c t, .int kk u, .ref b]) ∈ L → InnerAt L b i → ShAt L (.ref a) (c, kk, i)
theorem InnerAt.mono {L L' : List (Addr × Obj)} (hs : ∀ p ∈ L, p ∈ L') {b : Addr} {i : Option (Int × Int)} (h : InnerAt L b i) : InnerAt L' b i := by
  cases h with
  | none h => exact .none (hs _ h)
  | some h => exact .some (hs _ h)
theorem ShAt.mono {L L' : List (Addr × Obj)} (hs : ∀ p ∈ L, p ∈ L') {v : Value} {sh : ShT} (h : ShAt L v sh) : ShAt L' v sh := by
  cases h with
  | mk h i => exact .mk (hs _ h) (i.mono hs)
noncomputable def SeenOk (L : List (Addr × Obj)) (kvs : List (Str × Value)) : Prop := ∀ p ∈ kvs, ∃ sh, ShAt L p.2 sh ∧ Dec p.1 sh
theorem SeenOk.mono {L L' : List (Addr × Obj)} (hs : ∀ p ∈ L, p ∈ L') {kvs : List (Str × Value)} (h : SeenOk L kvs) : SeenOk L' kvs := fun p hp =>
  let ⟨sh, a, b⟩ := h p hp; ⟨sh, a.mono hs, b⟩
theorem SeenOk.at {L : List (Addr × Obj)} {kvs : List (Str × Value)} (h : SeenOk L kvs) {k : Str} {v : Value} (hv : valueAt kvs k = some v) : ∃ sh, ShAt L v sh ∧ Dec k sh := by
  unfold valueAt at hv
  cases hf : kvs.find? (fun kv => decide (kv.1 = k)) with
  | none => rw [hf] at hv; cases hv
  | some p =>
    rw [hf] at hv
    cases hv
    have hk : p.1 = k := by simpa using List.find?_some hf
    obtain ⟨sh, a, b⟩ := h p (List.mem_of_find?_eq_some hf)
    exact ⟨sh, a, hk ▸ b⟩
theorem SeenOk.stored {L : List (Addr × Obj)} {kvs : List (Str × Value)} (h : SeenOk L kvs) {k : Str} {v : Value} {sh : ShT} (ha : ShAt L v sh) (hd : Dec k sh) : SeenOk L (PySem.stored kvs k v) := by
  intro p hp
  unfold PySem.stored at hp
  split at hp
  · obtain ⟨q, hq, rfl⟩ := List.mem_map.mp hp
    split
    · rename_i e
      exact ⟨sh, ha, by rw [e]; exact hd⟩
    · exact h q hq
  · rcases List.mem_append.mp hp with hp | hp
    · exact h p hp
    · rw [List.mem_singleton.mp hp]; exact ⟨sh, ha, hd⟩
/-- what holds between the turns -/
noncomputable def LawJ (w : World) (d : Addr) (lo : Addr × Obj) (i : Nat) (m : Str → Option Value) (nx : List (Addr × Obj)) : Prop :=
  ∃ o kvs tl, nx = (d, o) :: lo :: tl ∧ o.IsDictOf (strKind PySem.Challenge.rw_ok0157_01.row.prog w) kvs ∧ kvs.length ≤ i ∧ SeenOk tl kvs ∧ (∀ p ∈ tl, p.1 ≠ d) ∧ m (Str.ofString "seen") = some (.ref d)
theorem fr_seen {h₀ h : Heap} {L d : Addr} {m : Str → Option Value} {v : Value} (F : Fr h₀ L h (fun y => if y = Str.ofString "cell" then some v else m y)) (hm : m (Str.ofString "seen") = some (.ref d)) :
    Fr h₀ L h (fun y => if y = Str.ofString "cell" then some v else if y = Str.ofString "seen" then some (.ref d) else m y) := by
  have e : (fun y => if y = Str.ofString "cell" then some v else if y = Str.ofString "seen" then some (.ref d) else m y) = (fun y => if y = Str.ofString "cell" then some v else m y) := by
    funext y
    split
    · rfl
    · split
      · rename_i e; rw [e, hm]
      · rfl
  rw [e]; exact F
/-- how a turn ends -/
noncomputable def TurnEnd (w : World) (h₀ : Heap) (L d : Addr) (lo : Addr × Obj) (tl own : List (Addr × Obj)) (n : Nat) (s : Shared) (f : Flow) (s' : Shared) : Prop :=
  f = .next ∧ ∃ h' tk' o' kvs' add m', s' = { s with heap := h', toks := tk' } ∧ Fr h₀ L h' m' ∧ m' (Str.ofString "seen") = some (.ref d) ∧ News h₀ L h' ((d, o') :: lo :: (add ++ (tl ++ own))) ∧
    o'.IsDictOf (strKind PySem.Challenge.rw_ok0157_01.row.prog w) kvs' ∧ kvs'.length ≤ n + 1 ∧ SeenOk (add ++ tl) kvs' ∧ (∀ q ∈ add, q.1 ≠ d) ∧ (∀ q ∈ add, ∀ p ∈ own, p.1 ≠ q.1)
theorem law_loop {w : World} {A : Around} {E : Value → Shared → Prop} {s : Shared} {env : Env} {h₀ : Heap} {body : List Stmt} {Q : Flow → Shared → Prop} {d l L : Addr} {o : Obj} {vs : List Value} {nn : Nat} {ns : List Int} {m₀ : Str → Option Value}
    (hh : A.handled = none) (hL : env.locals = L) (F : Fr h₀ L s.heap m₀) (N : News h₀ L s.heap [(l, listOf vs.toArray nn), (d, o)]) (hd : o.IsDictOf (strKind PySem.Challenge.rw_ok0157_01.row.prog w) []) (hI : IntsAre vs ns) (hne : l ≠ d) (hmod : (d == sysModules) = false) (hm : m₀ (Str.ofString "seen") = some (.ref d))
    (turn : ∀ (d : Addr) (lo : Addr × Obj) o kvs tl own n t (m₁ : Str → Option Value) h tk, (d == sysModules) = false → lo.1 ≠ d → o.IsDictOf (strKind PySem.Challenge.rw_ok0157_01.row.prog w) kvs → kvs.length ≤ vs.length → SeenOk tl kvs → (∀ p ∈ tl, p.1 ≠ d) → (∀ p ∈ own, p.1 ≠ d) →
      Fr h₀ L h (fun y => if y = Str.ofString "cell" then some (.int n t) else if y = Str.ofString "seen" then some (.ref d) else m₁ y) → News h₀ L h ((d, o) :: lo :: (tl ++ own)) →
      wpAny (model PySem.Challenge.rw_ok0157_01.row.prog w) A (execs body env) (TurnEnd w h₀ L d lo tl own kvs.length { s with heap := h, toks := tk }) E { s with heap := h, toks := tk })
    (done : ∀ m₁ h tk, Fr h₀ L h m₁ → Q .next { s with heap := h, toks := tk }) :
    wpAny (model PySem.Challenge.rw_ok0157_01.row.prog w) A (pyIter (.ref l)) (fun it s₂ => LoopAtV PySem.Challenge.rw_ok0157_01.row.prog w A h₀ env (Str.ofString "cell") body Q E it s₂) E s := by
  subst hL
  refine kdl_iter (news := [(d, o), (l, listOf vs.toArray nn)]) (fun i m nx => LawJ w d (l, listOf vs.toArray nn) i m nx) hh (.tail _ (.head _)) F
    (fun p hp => N p (by rcases List.mem_cons.mp hp with rfl | hp; exact .tail _ (.head _); rw [List.mem_singleton.mp hp]; exact .head _))
    ⟨o, [], [], rfl, hd, Nat.le_refl _, (fun p hp => nomatch hp), (fun p hp => nomatch hp), hm⟩ ?_ ?_
  · rintro i v m₁ nx h tk own hv hoff _ ⟨o, kvs, tl, rfl, hd', hlen, hok, hne', hm'⟩ F₁ N₁
    have hi : i < vs.length := (List.getElem?_eq_some_iff.mp hv).1
    obtain ⟨t, hx⟩ := hI.get i (ns[i]'(by rw [← hI.length]; exact hi)) (List.getElem?_eq_getElem _)
    have ev : v = .int (ns[i]'(by rw [← hI.length]; exact hi)) t := by rw [hx] at hv; exact (Option.some.inj hv).symm
    subst ev
    have hown : ∀ p ∈ own, p.1 ≠ d := fun p hp => hoff p hp d (.head _)
    refine wpAny_mono (turn d (l, listOf vs.toArray nn) o kvs tl own _ t m₁ h tk hmod hne hd' (by omega) hok hne' hown (fr_seen F₁ hm') N₁) (fun f s' hend => ?_) fun _ _ e => e
    obtain ⟨rfl, h', tk', o', kvs', add, m', rfl, F', hm'', N', hd'', hlen', hok', ha, hb⟩ := hend
    refine ⟨h', tk', m', _, (d, o') :: (l, listOf vs.toArray nn) :: (add ++ tl), rfl, F', N', ?_, ?_, ?_, .tail _ (.head _), o', kvs', add ++ tl, rfl, hd'', by omega, hok', ?_, hm''⟩
    · intro p hp
      rcases List.mem_cons.mp hp with rfl | hp
      · exact .head _
      · rcases List.mem_cons.mp hp with rfl | hp
        · exact .tail _ (.head _)
        · refine .tail _ (.tail _ ?_)
          rcases List.mem_append.mp hp with hp | hp
          · exact List.mem_append.mpr (.inl hp)
          · exact List.mem_append.mpr (.inr (List.mem_append.mpr (.inl hp)))
    · intro p hp
      exact .tail _ (.tail _ (List.mem_append.mpr (.inr (List.mem_append.mpr (.inr hp)))))
    · intro p hp b hb'
      rw [List.map_cons, List.map_cons, List.map_append] at hb'
      rcases List.mem_cons.mp hb' with rfl | hb'
      · exact hown p hp
      · rcases List.mem_cons.mp hb' with rfl | hb'
        · exact hoff p hp _ (.tail _ (.head _))
        · rcases List.mem_append.mp hb' with hb' | hb'
          · obtain ⟨q, hq, rfl⟩ := List.mem_map.mp hb'
            exact hb q hq p hp
          · exact hoff p hp _ (.tail _ (.tail _ hb'))
    · intro p hp
      rcases List.mem_append.mp hp with hp | hp
      · exact ha p hp
      · exact hne' p hp
  · rintro m₁ nx h tk _ F₁ _
    exact done m₁ h tk F₁
inductive InnerIs : List Value → Option (Int × Int) → Prop
  | none : InnerIs [] none
  | some {x y : Int} {t u : Tok} : InnerIs [.int x t, .int y u] (some (x, y))
/-- behind the statement that makes the tuple -/
noncomputable def ShownP (h₀ : Heap) (L d : Addr) (lo : Addr × Obj) (tl own : List (Addr × Obj)) (o : Obj) (txt : Str) (sh : ShT) (s s' : Shared) : Prop :=
  ∃ h' tk' a b inner t u v m, s' = { s with heap := h', toks := tk' } ∧ Fr h₀ L h' m ∧ m (Str.ofString "shown") = some (.ref a) ∧ m (Str.ofString "text") = some (.str txt v) ∧ m (Str.ofString "seen") = some (.ref d) ∧
    News h₀ L h' ((a, tupO [.int sh.1 t, .int sh.2.1 u, .ref b]) :: (b, tupO inner) :: (d, o) :: lo :: (tl ++ own)) ∧ InnerIs inner sh.2.2 ∧ a ≠ d ∧ b ≠ d ∧ (∀ p ∈ own, p.1 ≠ a) ∧ (∀ p ∈ own, p.1 ≠ b)
theorem fr_three {h₀ h : Heap} {L d a : Addr} {m : Str → Option Value} {v : Value} (F : Fr h₀ L h m) (h1 : m (Str.ofString "shown") = some (.ref a)) (h2 : m (Str.ofString "text") = some v) (h3 : m (Str.ofString "seen") = some (.ref d)) :
    Fr h₀ L h (fun y => if y = Str.ofString "shown" then some (.ref a) else if y = Str.ofString "text" then some v else if y = Str.ofString "seen" then some (.ref d) else m y) := by
  have e : (fun y => if y = Str.ofString "shown" then some (.ref a) else if y = Str.ofString "text" then some v else if y = Str.ofString "seen" then some (.ref d) else m y) = m := by
    funext y
    split
    · rename_i e; rw [e, h1]
    · split
      · rename_i e; rw [e, h2]
      · split
        · rename_i e; rw [e, h3]
        · rfl
  rw [e]; exact F
theorem cut_shown {M : Model} {A : Around} {E : Value → Shared → Prop} {s : Shared} {env : Env} {st : Stmt} {rest : List Stmt} {Q : Flow → Shared → Prop} {h₀ : Heap} {L d : Addr} {m : Str → Option Value} {lo : Addr × Obj} {tl own news : List (Addr × Obj)} {o : Obj} (txt : Str) (sh : ShT)
    (_F : Fr h₀ L s.heap m) (_N : News h₀ L s.heap (news ++ ((d, o) :: lo :: (tl ++ own))))
    (h1 : wpAny M A (exec st env) (fun f s' => f = .next ∧ ShownP h₀ L d lo tl own o txt sh s s') E s)
    (h2 : ∀ h' tk' (a b : Addr) inner t u v (m : Str → Option Value), Fr h₀ L h' (fun y => if y = Str.ofString "shown" then some (.ref a) else if y = Str.ofString "text" then some (.str txt v) else if y = Str.ofString "seen" then some (.ref d) else m y) →
      News h₀ L h' ((d, o) :: (a, tupO [.int sh.1 t, .int sh.2.1 u, .ref b]) :: (b, tupO inner) :: lo :: (tl ++ own)) → InnerIs inner sh.2.2 → a ≠ d → b ≠ d → (∀ p ∈ own, p.1 ≠ a) → (∀ p ∈ own, p.1 ≠ b) →
      wpAny M A (execs rest env) Q E { s with heap := h', toks := tk' }) :
    wpAny M A (execs (st :: rest) env) Q E s := by
  refine cut_stmt h1 fun s' hP => ?_
  obtain ⟨h', tk', a, b, inner, t, u, v, m', rfl, F', m1, m2, m3, N', hi, e1, e2, e3, e4⟩ := hP
  refine h2 h' tk' a b inner t u v m' (fr_three F' m1 m2 m3) (cb_drop N' ?_) hi e1 e2 e3 e4
  intro p hp
  rcases List.mem_cons.mp hp with rfl | hp
  · exact .tail _ (.tail _ (.head _))
  · rcases List.mem_cons.mp hp with rfl | hp
    · exact .head _
    · rcases List.mem_cons.mp hp with rfl | hp
      · exact .tail _ (.head _)
      · exact .tail _ (.tail _ (.tail _ hp))
theorem shown_end {h₀ : Heap} {L d a b : Addr} {lo : Addr × Obj} {tl own news : List (Addr × Obj)} {o : Obj} {txt : Str} {sh : ShT} {s : Shared} {h' : Heap} {tk' : Nat} {m : Str → Option Value} {v t u : Tok} {inner : List Value} {c kk : Int}
    (F : Fr h₀ L h' m) (N : News h₀ L h' ((a, tupO [.int c t, .int kk u, .ref b]) :: news)) (hb : (b, tupO inner) ∈ news) (hs : ∀ p ∈ (d, o) :: lo :: (tl ++ own), p ∈ news) (ha : ∀ p ∈ (b, tupO inner) :: (d, o) :: lo :: (tl ++ own), @LT.lt Nat _ p.1 a) (hb' : ∀ p ∈ (d, o) :: lo :: (tl ++ own), @LT.lt Nat _ p.1 b)
    (h1 : m (Str.ofString "shown") = some (.ref a)) (h2 : m (Str.ofString "text") = some (.str txt v)) (h3 : m (Str.ofString "seen") = some (.ref d)) (hc : sh.1 = c) (hk : sh.2.1 = kk) (hi : InnerIs inner sh.2.2) :
    Flow.next = Flow.next ∧ ShownP h₀ L d lo tl own o txt sh s { s with heap := h', toks := tk' } := by
  subst hc hk
  refine ⟨rfl, h', tk', a, b, inner, t, u, v, m, rfl, F, h1, h2, h3, ?_, hi, ?_, ?_, ?_, ?_⟩
  · intro p hp
    rcases List.mem_cons.mp hp with rfl | hp
    · exact N _ (.head _)
    · rcases List.mem_cons.mp hp with rfl | hp
      · exact N _ (.tail _ hb)
      · exact N _ (.tail _ (hs _ hp))
  · exact fun e => Nat.lt_irrefl _ (e ▸ ha (d, o) (.tail _ (.head _)))
  · exact fun e => Nat.lt_irrefl _ (e ▸ hb' (d, o) (.head _))
  · exact fun p hp => Nat.ne_of_lt (ha p (.tail _ (.tail _ (.tail _ (List.mem_append.mpr (.inr hp))))))
  · exact fun p hp => Nat.ne_of_lt (hb' p (.tail _ (.tail _ (List.mem_append.mpr (.inr hp)))))
theorem sh1 {c k jt jf : Int} {z : Str} : (shOf c z k jt jf).1 = c := rfl
theorem sh2t {c k jt jf : Int} {z : Str} (h : occ z (Str.ofString "K") = true) : (shOf c z k jt jf).2.1 = k := if_pos h
theorem sh2f {c k jt jf : Int} {z : Str} (h : occ z (Str.ofString "K") = false) : (shOf c z k jt jf).2.1 = 0 := if_neg (by rw [h]; decide)
theorem sh3t {c k jt jf : Int} {z : Str} {t u : Tok} (h : occ z (Str.ofString "T") = true) : InnerIs [.int jt t, .int jf u] (shOf c z k jt jf).2.2 := by
  rw [show (shOf c z k jt jf).2.2 = some (jt, jf) from if_pos h]; exact .some
theorem sh3f {c k jt jf : Int} {z : Str} (h : occ z (Str.ofString "T") = false) : InnerIs [] (shOf c z k jt jf).2.2 := by
  rw [show (shOf c z k jt jf).2.2 = none from if_neg (by rw [h]; decide)]; exact .none
theorem lt_sub {D : Addr} {l l' : List (Addr × Obj)} (h : ∀ p ∈ l, p.1 < D) (hs : ∀ p ∈ l', p ∈ l) : ∀ p ∈ l', @LT.lt Nat _ p.1 D := fun p hp => h p (hs p hp)
theorem sub3 {a b c : Addr × Obj} {l : List (Addr × Obj)} : ∀ p ∈ l, p ∈ a :: b :: c :: l := fun _ h => .tail _ (.tail _ (.tail _ h))
theorem sub2 {a b : Addr × Obj} {l : List (Addr × Obj)} : ∀ p ∈ l, p ∈ a :: b :: l := fun _ h => .tail _ (.tail _ h)
theorem sub12 {a b c : Addr × Obj} {l : List (Addr × Obj)} : ∀ p ∈ a :: l, p ∈ a :: b :: c :: l := fun _ h => by
  rcases List.mem_cons.mp h with rfl | h
  · exact .head _
  · exact .tail _ (.tail _ (.tail _ h))
noncomputable def innerD : Option (Int × Int) → PySem.PyData
  | none => .tuple []
  | some (x, y) => .tuple [.int x, .int y]
noncomputable def shD (sh : ShT) : PySem.PyData := .tuple [.int sh.1, .int sh.2.1, innerD sh.2.2]
theorem InnerAt.reads {h₀ h : Heap} {L b : Addr} {news : List (Addr × Obj)} {i : Option (Int × Int)} (N : News h₀ L h news) (a : InnerAt news b i) : Reads h (.ref b) (innerD i) [] := by
  cases a with
  | none hm => exact reads_tuple_at (News.get N hm) rfl rfl .nil
  | some hm => exact reads_tuple_at (as := [] ++ ([] ++ [])) (News.get N hm) rfl rfl (.cons (.int _ _) (.cons (.int _ _) .nil))
theorem ShAt.reads {h₀ h : Heap} {L : Addr} {news : List (Addr × Obj)} {v : Value} {sh : ShT} (N : News h₀ L h news) (a : ShAt news v sh) : Reads h v (shD sh) [] := by
  cases a with
  | mk hm hi => exact reads_tuple_at (as := [] ++ ([] ++ ([] ++ []))) (News.get N hm) rfl rfl (.cons (.int _ _) (.cons (.int _ _) (.cons (hi.reads N) .nil)))
theorem shD_shaped (sh : ShT) : SeqAt.shaped (shD sh) = true := by
  obtain ⟨c, k, i⟩ := sh
  cases i with
  | none => rfl
  | some p => obtain ⟨x, y⟩ := p; rfl
theorem sh_ne {prog : Program} {w : World} {A : Around} {E : Value → Shared → Prop} {s : Shared} {Q : Value → Shared → Prop} {h₀ : Heap} {L : Addr} {news : List (Addr × Obj)} {v v' : Value} {sh : ShT}
    (N : News h₀ L s.heap news) (a : ShAt news v sh) (a' : ShAt news v' sh) (hu : A.units + 64 < cLine) (h : Q (.bool false) s) : wpAny (model prog w) A (compareOp .NotEq v v') Q E s := by
  refine ne_dataH (a.reads N) (a'.reads N) (shD_shaped sh) (shD_shaped sh) hu ?_
  rw [PySem.SeqAt.eqv_refl _ (SeqAt.canLay_of_shaped (shD_shaped sh))]
  exact h
theorem sh_new {news : List (Addr × Obj)} {a b : Addr} {sh : ShT} {t u : Tok} {inner : List Value} (h : (a, tupO [.int sh.1 t, .int sh.2.1 u, .ref b]) ∈ news) (hb : (b, tupO inner) ∈ news) (hi : InnerIs inner sh.2.2) : ShAt news (.ref a) sh := by
  obtain ⟨c, k, i⟩ := sh
  dsimp only at h hi
  cases hi with
  | none => exact .mk h (.none hb)
  | some => exact .mk h (.some hb)
theorem sh_got {L news : List (Addr × Obj)} {kvs : List (Str × Value)} {txt : Str} {sh : ShT} {v : Value} (h : SeenOk L kvs) (hs : ∀ p ∈ L, p ∈ news) (hd : Dec txt sh) (hv : ShAt news v sh) : ShAt news ((valueAt kvs txt).getD v) sh := by
  cases hg : valueAt kvs txt with
  | none => exact hv
  | some w =>
    obtain ⟨sh', a, b⟩ := h.at hg
    rw [← b.inj hd]
    exact a.mono hs
theorem turn_end {w : World} {h₀ : Heap} {L d a b : Addr} {lo : Addr × Obj} {tl own : List (Addr × Obj)} {s : Shared} {h' : Heap} {tk' : Nat} {o' : Obj} {kvs : List (Str × Value)} {txt : Str} {sh : ShT} {m : Str → Option Value} {v1 v2 : Tok} {inner : List Value}
    (F : Fr h₀ L h' m) (hm : m (Str.ofString "seen") = some (.ref d)) (N : News h₀ L h' ((d, o') :: (a, tupO [.int sh.1 v1, .int sh.2.1 v2, .ref b]) :: (b, tupO inner) :: lo :: (tl ++ own)))
    (hd : o'.IsDictOf (strKind PySem.Challenge.rw_ok0157_01.row.prog w) (stored kvs txt (.ref a))) (hok : SeenOk tl kvs) (hdec : Dec txt sh) (hin : InnerIs inner sh.2.2) (e1 : a ≠ d) (e2 : b ≠ d) (e3 : ∀ p ∈ own, p.1 ≠ a) (e4 : ∀ p ∈ own, p.1 ≠ b) :
    TurnEnd w h₀ L d lo tl own kvs.length s .next { s with heap := h', toks := tk' } := by
  refine ⟨rfl, h', tk', o', _, [(a, tupO [.int sh.1 v1, .int sh.2.1 v2, .ref b]), (b, tupO inner)], m, rfl, F, hm, cb_drop N ?_, hd, stored_length_le .., ?_, ?_, ?_⟩
  · intro p hp
    rcases List.mem_cons.mp hp with rfl | hp
    · exact .head _
    · rcases List.mem_cons.mp hp with rfl | hp
      · exact .tail _ (.tail _ (.tail _ (.head _)))
      · rcases List.mem_cons.mp hp with rfl | hp
        · exact .tail _ (.head _)
        · rcases List.mem_cons.mp hp with rfl | hp
          · exact .tail _ (.tail _ (.head _))
          · exact .tail _ (.tail _ (.tail _ (.tail _ hp)))
  · exact SeenOk.stored (hok.mono fun p hp => List.mem_append.mpr (.inr hp)) (sh_new (.head _) (.tail _ (.head _)) hin) hdec
  · intro q hq
    rcases List.mem_cons.mp hq with rfl | hq
    · exact e1
    · rw [List.mem_singleton.mp hq]; exact e2
  · intro q hq p hp
    rcases List.mem_cons.mp hq with rfl | hq
    · exact e3 p hp
    · rw [List.mem_singleton.mp hq]; exact e4 p hp
theorem all_ne {a b d : Addr} {x y : Obj} {lo : Addr × Obj} {tl own : List (Addr × Obj)} (e1 : a ≠ d) (e2 : b ≠ d) (e3 : lo.1 ≠ d) (e4 : ∀ p ∈ tl, p.1 ≠ d) (e5 : ∀ p ∈ own, p.1 ≠ d) : ∀ p ∈ (a, x) :: (b, y) :: lo :: (tl ++ own), p.1 ≠ d := by
  intro p hp
  rcases List.mem_cons.mp hp with rfl | hp
  · exact e1
  · rcases List.mem_cons.mp hp with rfl | hp
    · exact e2
    · rcases List.mem_cons.mp hp with rfl | hp
      · exact e3
      · rcases List.mem_append.mp hp with hp | hp
        · exact e4 p hp
        · exact e5 p hp
theorem show_row_con {w : World} {news : List (Addr × Obj)} {x dx : Addr} {h1 h2 h3 h4 : Int} {t1 t2 t3 t4 u1 u2 u3 u4 : Tok} {code jt jf k : Int} {kd nm z : Str}
    (hx : (x, instObj 45 dx) ∈ news) (hdx : (dx, ordD h1 h2 h3 h4 t1 t2 t3 t4 u1 u2 u3 u4 code jt jf k) ∈ news) (hrow : (code, kd, nm, z) ∈ lawRows) (hk0 : 0 ≤ k) (hk1 : k < 4294967296) (hjt0 : 0 ≤ jt) (hjt1 : jt < 256) (hjf0 : 0 ≤ jf) (hjf1 : jf < 256) :
    Con w 140 3 24 news [.ref x] (fun r => ∃ t, r = .str (shownText k jt jf z) t) :=
  (show_classic_con hx hdx hk0 hk1 hjt0 (by omega) hjf0 (by omega)).conv fun r h => by obtain ⟨t, rfl⟩ := h; exact ⟨t, by rw [show_row hrow]⟩
theorem shown_row_con {w : World} {news : List (Addr × Obj)} {r f : Addr} {c c' jt jf k : Int} {x y z : Str} {t1 t2 t3 t4 u1 u2 u3 u4 : Tok}
    (hr : (r, tupO [.int c t1, .str x t2, .str y t3, .str z t4]) ∈ news) (hf : (f, tupO [.int c' u1, .int jt u2, .int jf u3, .int k u4]) ∈ news) (hrow : (c, x, y, z) ∈ lawRows)
    (hk0 : 0 ≤ k) (hk1 : k < 4294967296) (hjt0 : 0 ≤ jt) (hjt1 : jt < 256) (hjf0 : 0 ≤ jf) (hjf1 : jf < 256) :
    Con w 168 2 16 news [.ref r, .ref f] (fun v => ∃ t, v = .str (shownText k jt jf z) t) :=
  law_shown_con hr hf (row_len hrow) hk0 hk1 hjt0 (by omega) hjf0 (by omega)
local macro_rules | `(tactic| k_all) => `(tactic| kst_allNe)
set_option maxHeartbeats 8000000 in
theorem main : PySem.Challenge.rw_ok0157_01.Holds := by
  refine hd ?_
  k_with_none
  k_with "call ref" => (k_here; (with_reducible show wpAny _ _ (call (Value.ref 161) _) _ _ _); k_dflt (refine' law_drawn_con _ _ _ _ _ _ _ _ _ _ _ _ _ _ _ _ _ _ _ _ ?k1 ?k2 ?k3 ?k4 ?k5 ?kK ?kd ?ku ?_); (case k2 => k_asm); (case k4 => k_asm); (case k1 => k_asm); (case k3 => k_asm); (case k5 => k_asm); (case kK => first | exact rfl | assumption); (case kd => ktr_room); (case ku => ktr_units); intro p9 r9 f9 h9 tk9 c9 jt9 jf9 k9 x9 y9 z9 t91 t92 t93 t94 u91 u92 u93 u94 hrow9 hjt0 hjt1 hjf0 hjf1 hk0 hk1 F9 N9 lt1 lt2 lt3; (try dsimp only); (try k_fold))
  k_with "call ref" => (k_here; (with_reducible show wpAny _ _ (call (Value.ref 140) _) _ _ _); k_dflt (refine' show_row_con ?hx ?hdx ?hrow ?e0 ?e1 ?e2 ?e3 ?e4 ?e5 _ _ _ _ _ _ _ _ _ _ _ _ _ _ _ _ _ _ _ _ ?k1 ?k2 ?k3 ?k4 ?k5 ?kK ?kd ?ku ?_); (case k2 => k_asm); (case k4 => k_asm); (case hx => k_mem); (case hdx => k_mem); (case hrow => with_reducible assumption); (case e0 => with_reducible assumption); (case e1 => with_reducible assumption); (case e2 => with_reducible assumption); (case e3 => with_reducible assumption); (case e4 => with_reducible assumption); (case e5 => with_reducible assumption); (case k1 => k_asm); (case k3 => k_asm); (case k5 => k_asm); (case kK => first | exact rfl | assumption); (case kd => ktr_room); (case ku => ktr_units); intro r9 h9 tk9 hr9 F9 N9; (obtain ⟨t9, e9⟩ := hr9; subst e9); (try dsimp only); (try k_fold))
  k_with "call ref" => (k_here; (with_reducible show wpAny _ _ (call (Value.ref 168) _) _ _ _); k_dflt (refine' shown_row_con ?hr ?hf ?hrow ?e0 ?e1 ?e2 ?e3 ?e4 ?e5 _ _ _ _ _ _ _ _ _ _ _ _ _ _ _ _ _ _ _ _ ?k1 ?k2 ?k3 ?k4 ?k5 ?kK ?kd ?ku ?_); (case k2 => k_asm); (case k4 => k_asm); (case hr => k_mem); (case hf => k_mem); (case hrow => with_reducible assumption); (case e0 => with_reducible assumption); (case e1 => with_reducible assumption); (case e2 => with_reducible assumption); (case e3 => with_reducible assumption); (case e4 => with_reducible assumption); (case e5 => with_reducible assumption); (case k1 => k_asm); (case k3 => k_asm); (case k5 => k_asm); (case kK => first | exact rfl | assumption); (case kd => ktr_room); (case ku => ktr_units); intro r9 h9 tk9 hr9 F9 N9; (obtain ⟨t9, e9⟩ := hr9; subst e9); (try dsimp only); (try k_fold))
  k_with "call ref" => (k_here; (with_reducible show wpAny _ _ (call (Value.ref 175) _) _ _ _); k_dflt (refine' told_row ?hrow ?hr ?hx ?hdx _ _ _ _ _ _ _ _ _ _ _ _ _ _ _ _ _ _ _ _ ?k1 ?k2 ?k3 ?k4 ?k5 ?kK ?kd ?ku ?_); (case k2 => k_asm); (case k4 => k_asm); (case hr => k_mem); (case hx => k_mem); (case hdx => k_mem); (case hrow => with_reducible assumption); (case k1 => k_asm); (case k3 => k_asm); (case k5 => k_asm); (case kK => first | exact rfl | assumption); (case kd => ktr_room); (case ku => ktr_units); intro r9 h9 tk9 hr9 F9 N9; subst hr9; (try dsimp only); (try k_fold))
  k_with "ite" => (k_here; first | with_reducible refine ite_neg neS ?_ | with_reducible refine ite_neg neB ?_ | with_reducible refine ite_neg neI ?_ | with_reducible refine ite_pos eqI ?_ | (with_reducible refine' ite_pos ?kc ?_; (case kc => with_reducible assumption)) | (with_reducible refine' ite_neg (notT ?kc) ?_; (case kc => with_reducible assumption)))
  k_with "ite" => (k_here; with_reducible refine ite_neg (notT rfl) ?_)
  k_with "ite" => (k_here; with_reducible refine ite_pos rfl ?_)
  k_with "subscriptTail Name Slice ref ref" => (k_here; (with_reducible show wpAny _ _ (subscriptTail _ (PySem.Expr.Slice _ _ none _) (Value.ref _) (Value.ref _)) _ _ _); k_dflt (refine' tail13 ?F ?N ?l ?_ ?s ?t; (case F => k_asm); (case N => k_asm); (case l => k_mem); (case s => with_unfolding_all rfl); (case t => kmk_pure)); intro D' h' F' N' l1)
  k_with "newTuple" => (k_here; k_dflt (refine' kup_newTuple ?F ?N ?_ ?z; (case F => k_asm); (case N => k_asm); (case z => kmk_size)); intro D' h' F' N' l1)
  k_with "call builtin:dict.get" => (k_here; (with_reducible show wpAny _ _ (call (Value.builtin "dict.get") [Value.ref _, Value.str _ _, _]) _ _ _); k_dflt (refine' kdg_get2 (knd := PySem.strKind _ _) ?N ?p ?d ?lo (strKind_is _ _ _ _) _ ?hl ?_; (case N => k_asm); (case p => k_mem); (case d => k_asm); (case lo => k_asm); (case hl => k_asm)); (try dsimp only [Option.getD]))
  k_go0
  all_goals try k_fold
  iterate 5 walk1
  (rename Fr _ _ _ _ => lF'); (with_unfolding_all refine' For_invVF lF' ?k1 ?k2 ?_; (case k1 => exact rfl); (case k2 => exact rfl))
  iterate 8 walk1
  rename Obj.IsDictOf (strKind _ _) _ _ => hd0
  rename News _ _ _ _ => NN
  rename Fr _ _ _ _ => FF
  rename IntsAre _ (List.take 20 _) => hI
  rename (List.take 20 _).length = _ => hC
  rename _ < _ => hlt0
  rename (_ == sysModules) = false => hmods
  refine' law_loop ?jh ?jL FF NN hd0 hI (Nat.ne_of_gt hlt0) hmods (by rfl) ?jt ?jd
  (case jh => rfl); (case jL => rfl)
  · clear NN FF hd0 hlt0 hmods
    intro d lo o kvs tl own n t m₁ h tk hmods hlo hd0 hlen hok hne hown F N
    have hlen20 : kvs.length ≤ 20 := by have := hI.length; rw [hC] at this; omega
    have kMark := kstMark
    with_reducible show wpAny _ _ (execs _ _) _ _ _
    try k_fold
    repeat' (first | (k_unfold; (try dsimp only)) | (k_end; wrow_close) | ((fail_if_success (with_reducible show wpAny _ _ (PySem.call (Value.ref 161) _) _ _ _)); first | walk1 | (dsimp only; walk1) | (leave1; try dsimp only)))
    k_dflt (refine' law_drawn_con _ _ _ _ _ _ _ _ _ _ _ _ _ _ _ _ _ _ _ _ ?k1 ?k2 ?k3 ?k4 ?k5 ?kK ?kd ?ku ?_); (case k2 => k_asm); (case k4 => k_asm); (case k1 => k_asm); (case k3 => k_asm); (case k5 => k_asm); (case kK => first | exact rfl | assumption); (case kd => ktr_room); (case ku => ktr_units)
    intro p r f h1 tk1 c jt jf k x y z t1 t2 t3 t4 u1 u2 u3 u4 hrow hjt0 hjt1 hjf0 hjf1 hk0 hk1 F1 N1 lt1 lt2 lt3
    (try dsimp only)
    (try k_fold)
    repeat' (first | (k_unfold; (try dsimp only)) | (k_end; wrow_close) | ((fail_if_success (with_reducible show wpAny _ _ (execs (Stmt.Assign [Expr.Name (Str.ofString "shown") _] _ _ :: _) _) _ _ _)); first | walk1 | (dsimp only; walk1) | (leave1; try dsimp only)))
    rename News _ _ _ _ => NN
    rename Fr _ _ _ _ => FF
    have hfd : d < r := lt1 _ (.head _)
    have hfl : AllLt r (tl ++ own) := allLt_of fun q hq => lt1 q (.tail _ (.tail _ hq))
    replace NN := cb_drop (news := [(f, tupO [.int c u1, .int jt u2, .int jf u3, .int k u4]), (r, tupO [.int c t1, .str x t2, .str y t3, .str z t4])] ++ ((d, o) :: lo :: (tl ++ own))) NN (fun q hq => .tail _ (.tail _ (.tail _ hq)))
    refine cut_shown (shownText k jt jf z) (shOf c z k jt jf) FF NN ?_ ?_
    · rw [List.cons_append, List.cons_append, List.nil_append] at NN
      rcases hK : occ z (Str.ofString "K") with _ | _ <;> rcases hT : occ z (Str.ofString "T") with _ | _ <;> k_steps <;> first | trivial | (rename Fr _ _ _ _ => FE; rename News _ _ _ _ => NE; refine (shown_end FE NE (.head _) sub3 (lt_sub (by assumption) sub12) (lt_sub (by assumption) sub2) rfl rfl rfl sh1 (by first | exact sh2t hK | exact sh2f hK) (by first | exact sh3t hT | exact sh3f hT)).2)
    clear NN FF
    intro h2 tk2 a b inner v1 v2 v3 m2 F2 N2 hin hne1 hne2 how1 how2
    have hdec : Dec (shownText k jt jf z) (shOf c z k jt jf) := ⟨c, x, y, z, k, jt, jf, hrow, hk0, hjt0, hjf0, rfl, rfl⟩
    generalize shOf c z k jt jf = sh at *
    generalize shownText k jt jf z = txt at *
    have hnew := sh_new (news := (d, o) :: (a, tupO [.int sh.1 v1, .int sh.2.1 v2, .ref b]) :: (b, tupO inner) :: lo :: (tl ++ own)) (.tail _ (.head _)) (.tail _ (.tail _ (.head _))) hin
    refine wpAny_execs_cons ?_
    refine If_cut F2 N2 ?_ ?_
    · repeat' (first | (k_unfold; (try dsimp only)) | (k_end; wrow_close) | ((fail_if_success (with_reducible show wpAny _ _ (PySem.call (Value.builtin "dict.get") _) _ _ _)); first | walk1 | (dsimp only; walk1) | (leave1; try dsimp only)))
      refine kdg_get2 (knd := PySem.strKind _ _) (by k_asm) (.head _) hd0 hmods (strKind_is _ _ _ _) _ rfl ?_
      have hgot := sh_got hok (fun p hp => .tail _ (.tail _ (.tail _ (.tail _ (List.mem_append.mpr (.inl hp)))))) hdec hnew
      generalize (valueAt kvs txt).getD (.ref a) = v at *
      repeat' (first | (k_unfold; (try dsimp only)) | (k_end; wrow_close) | ((fail_if_success (with_reducible show wpAny _ _ (PySem.compareOp CmpOp.NotEq _ _) _ _ _)); first | walk1 | (dsimp only; walk1) | (leave1; try dsimp only)))
      refine sh_ne (by k_asm) hgot hnew (by ke_room) ?_
      k_steps <;> first | trivial | exact F2 | exact N2
    clear N2 F2
    intro h3 tk3 F3 N3
    dsimp only
    repeat' (first | (k_unfold; (try dsimp only)) | (k_end; wrow_close) | ((fail_if_success (with_reducible show wpAny _ _ (PySem.setItem _ _ _) _ _ _)); first | walk1 | (dsimp only; walk1) | (leave1; try dsimp only)))
    refine kda_set (knd := PySem.strKind _ _) (by k_asm) (by k_asm) (UpdF.head (all_ne hne1 hne2 hlo hne hown)) hd0 (strKind_is _ _ _ _) (by rw [sizeLine_eq]; omega) ?_
    intro h4 o4 F4 N4 hd4
    try dsimp only at N4
    k_steps
    exact turn_end (by k_asm) rfl N4 hd4 hok hdec hin hne1 hne2 how1 how2
  · clear NN FF hd0 hlt0 hmods
    intro m₁ h tk F
    k_steps
end Mine
theorem PySem.Challenge.cw_ok0157_01_holds : PySem.Challenge.rw_ok0157_01.Holds :=
  Mine.main
