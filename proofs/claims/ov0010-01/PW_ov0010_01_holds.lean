import PyProof.Rows.All
import Wide.All
import OpenK.AllK
import Wide.FinOn
import Lean
import PySem.Challenge.RW_ov0010_01
open PySem PySem.W PyProof.Rows
set_option Elab.async false
namespace Mine
theorem fr_of {r : OpenRow} (K : Params → Frag) (_ : True) (hc : K = K → r.Holds) : r.Holds := hc rfl
section
set_option hygiene false in
local macro_rules | `(tactic| o_head (kHook $k $_ $_)) => `(tactic| refine fr_of $k ?hw ?hc)
local macro_rules | `(tactic| w_witness2) => `(tactic| trivial)
set_option maxRecDepth 100000 in
set_option maxHeartbeats 8000000 in
open_top fr for (PySem.Challenge.rw_ov0010_01.row)
end
end Mine

set_option maxRecDepth 100000
set_option compiler.extract_closed false
namespace Mine
open PySem PySem.W PySem.Spec PySem.Calls PyProof.Rows
local macro_rules | `(tactic| walk_at $s:str) => do
  let t := Lean.Syntax.mkStrLit (s.getString ++ "!")
  `(tactic| k_extra $t)
/-- a call of the def at f with these arguments, over this ledger, hands back what Ret says -/
noncomputable def Con (f : Addr) (room : Nat) (news : List (Addr × Obj)) (args : List Value) (Ret : Value → List (Addr × Obj) → Prop) : Prop :=
  ∀ (w : World) (p : Program) (loose : List Str) (mean : ExcName → Option Value) (mg mb : Str → Option Value)
    (dp un : Nat) (gd : Option (List Code)) (cn : Str) (cs : Scope) (a : Addr) (ccd : Value) (cl : List (Str × Addr)) (outer : List Env) (A₀ : Around) (base h₀ : Heap) (L : Addr) (m : Str → Option Value) (s : Shared) (Q E : Value → Shared → Prop),
    Below A₀ base outer h₀ → Fr h₀ L s.heap m → (fr.heap_1 w.params).In h₀ → News h₀ L s.heap news → Top p loose mean mg mb h₀ → cs.kind = .function →
    dp + room < recursionLimit → un + 8 * room < cLine →
    (∀ r news' h' tk', Ret r news' → Fr h₀ L h' m → News h₀ L h' news' → Q r { s with heap := h', toks := tk' }) →
    wpAny (model PySem.Challenge.rw_ov0010_01.row.prog w) (ktrTop dp un gd cn cs L a ccd cl outer) (call (.ref f) args) Q E s

theorem Con.use {f : Addr} {room : Nat} {news : List (Addr × Obj)} {args : List Value} {Ret : Value → List (Addr × Obj) → Prop} (C : Con f room news args Ret)
    {w : World} {p : Program} {loose : List Str} {mean : ExcName → Option Value} {mg mb : Str → Option Value}
    {dp un : Nat} {gd : Option (List Code)} {cn : Str} {cs : Scope} {a : Addr} {ccd : Value} {cl : List (Str × Addr)} {outer : List Env} {A₀ : Around} {base h₀ : Heap} {L : Addr} {m : Str → Option Value} {s : Shared} {Q E : Value → Shared → Prop}
    (B : Below A₀ base outer h₀) (F : Fr h₀ L s.heap m) (X : (fr.heap_1 w.params).In h₀) (N : News h₀ L s.heap news) (T : Top p loose mean mg mb h₀) (hk : cs.kind = .function)
    (hd : dp + room < recursionLimit) (hu : un + 8 * room < cLine)
    (ret : ∀ r news' h' tk', Ret r news' → Fr h₀ L h' m → News h₀ L h' news' → Q r { s with heap := h', toks := tk' }) :
    wpAny (model PySem.Challenge.rw_ov0010_01.row.prog w) (ktrTop dp un gd cn cs L a ccd cl outer) (call (.ref f) args) Q E s :=
  C w p loose mean mg mb dp un gd cn cs a ccd cl outer A₀ base h₀ L m s Q E B F X N T hk hd hu ret
noncomputable def Stop (P : Prop) : Prop := P
theorem Stop.out {P : Prop} (h : Stop P) : P := h

noncomputable abbrev tupO (vs : List Value) : Obj := { cls := .type "tuple", data := .seq vs.toArray }

noncomputable def shapeF (n : Int) : Option (Int × Int × Int) :=
  if 194 ≤ n ∧ n ≤ 223 then some (1, 128, Builtin.bitAnd n 31) else if 224 ≤ n ∧ n ≤ 239 then some (2, 2048, Builtin.bitAnd n 15) else if 240 ≤ n ∧ n ≤ 244 then some (3, 65536, Builtin.bitAnd n 7) else none

theorem shape1 {n : Int} (a : 194 ≤ n) (b : n ≤ 223) : shapeF n = some (1, 128, Builtin.bitAnd n 31) := by
  unfold shapeF; rw [if_pos ⟨a, b⟩]
theorem shape2 {n : Int} (a : 224 ≤ n) (b : n ≤ 239) : shapeF n = some (2, 2048, Builtin.bitAnd n 15) := by
  unfold shapeF; rw [if_neg (by omega), if_pos ⟨a, b⟩]
theorem shape3 {n : Int} (a : 240 ≤ n) (b : n ≤ 244) : shapeF n = some (3, 65536, Builtin.bitAnd n 7) := by
  unfold shapeF; rw [if_neg (by omega), if_neg (by omega), if_pos ⟨a, b⟩]
theorem shape0 {n : Int} (a : n < 194 ∨ 244 < n) : shapeF n = none := by
  unfold shapeF; rw [if_neg (by omega), if_neg (by omega), if_neg (by omega)]
noncomputable def RShape (n : Int) (news : List (Addr × Obj)) (r : Value) (nw : List (Addr × Obj)) : Prop :=
  (shapeF n = none ∧ r = .none ∧ nw = news) ∨ ∃ d k mn pt t1 t2 t3, shapeF n = some (k, mn, pt) ∧ r = .ref d ∧ nw = (d, tupO [.int k t1, .int mn t2, .int pt t3]) :: news

theorem fin {P : Value → List (Addr × Obj) → Prop} {h₀ h' : Heap} {L : Addr} {m : Str → Option Value} {s : Shared} {Q : Value → Shared → Prop} {r : Value} {news' : List (Addr × Obj)} {tk' : Nat}
    (hret : ∀ r news' h' tk', P r news' → Fr h₀ L h' m → News h₀ L h' news' → Q r { s with heap := h', toks := tk' }) (F : Fr h₀ L h' m) (N : News h₀ L h' news') (R : P r news') : Q r { s with heap := h', toks := tk' } := hret _ _ _ _ R F N

theorem rm0 {d N R : Nat} (h : d + N < R) : d < R := Nat.lt_of_le_of_lt (Nat.le_add_right d N) h
theorem rm1 {d N R a : Nat} (h : d + N < R) (e : a ≤ N) : d + a < R := Nat.lt_of_le_of_lt (Nat.add_le_add_left e d) h
theorem rm2 {d N R a b : Nat} (h : d + N < R) (e : a + b ≤ N) : d + a + b < R := Nat.add_assoc d a b ▸ rm1 h e
theorem rm3 {d N R a b c : Nat} (h : d + N < R) (e : a + b + c ≤ N) : d + a + b + c < R := Nat.add_assoc d a b ▸ rm2 (a := a + b) h e
theorem rm4 {d N R a b c f : Nat} (h : d + N < R) (e : a + b + c + f ≤ N) : d + a + b + c + f < R := Nat.add_assoc d a b ▸ rm3 (a := a + b) h e
theorem rows_1 : True := by
  (k_with "pyIter ref!" => ((with_reducible show wpAny _ _ (pyIter (Value.ref _)) (fun it s₂ => LoopAtV _ _ _ _ _ _ _ _ _ it s₂) _ _); refine Stop.out ?_))
  (k_with "InvEndN!" => refine Stop.out ?_)
  (k_with "KswEnd!" => refine Stop.out ?_)
  (k_with "exec While Compare cons nil!" => refine Stop.out ?_)
  (k_with "my_room!" => first | ((try simp only [depth_under_make, depth_under_kw, depth_in1, depth_deeper, depth_caller]); (try dsimp only [ktrTop]); first | walk_at "my_rm" | omega) | ((try simp only [depth_under_make, depth_under_kw, depth_in1, depth_deeper, depth_caller]); decide) | decide)
  (k_with "my_rm!" => first | (with_reducible exact rm0 hd) | ((with_reducible refine rm1 hd ?_); exact Nat.le_of_ble_eq_true rfl) | ((with_reducible refine rm2 hd ?_); exact Nat.le_of_ble_eq_true rfl) | ((with_reducible refine rm2 hu ?_); exact Nat.le_of_ble_eq_true rfl) | ((with_reducible refine rm3 hd ?_); exact Nat.le_of_ble_eq_true rfl) | ((with_reducible refine rm3 hu ?_); exact Nat.le_of_ble_eq_true rfl) | ((with_reducible refine rm4 hd ?_); exact Nat.le_of_ble_eq_true rfl) | ((with_reducible refine rm4 hu ?_); exact Nat.le_of_ble_eq_true rfl))
  (k_with "my_units!" => ((try simp only [units_in1, units_deeper, Around.mark_units, units_caller]); (try dsimp only [ktrTop]); first | walk_at "my_rm" | ((have hcL9 := cLine_is); omega)))
  (k_with "my_ec!" => ((case kA | kF => exact rfl); (case kK => first | exact rfl | assumption); (case k1 | k2 | k3 | k4 | k5 => k_asm); (case k6 | k7 => k_is); (case k8 => first | (dsimp only [ktrTop]; first | walk_at "my_rm" | omega) | walk_at "my_room")))
  (k_with "my_e1!" => (refine' code_def ?k1 ?k2 ?k3 ?k4 ?k5 ?kA ?kF ?kK ?k6 ?k7 ?k8 ?k9 ?kB ?_ ?c2 ?c3 ?c4 ?c5; walk_at "my_ec"; (case k9 => first | exact BindsTo.of_eq rfl | exact binds_K (by k_in) rfl (by k_is) rfl rfl rfl); (case c5 => decide); (case kB => exact locs rfl); (case c2 | c3 | c4 => exact rfl); k_whole))
  (k_with "my_e2!" => (refine' code_defC ?k1 ?k2 ?k3 ?k4 ?k5 ?kA ?kF ?kK ?k6 ?k7 ?k8 ?k9 ?kB ?kD ?_ ?c2 ?c3 ?c4; walk_at "my_ec"; (case k9 => exact BindsTo.of_eq rfl); (case kB => exact rfl); (case kD => decide +kernel); (case c2 | c3 | c4 => exact rfl); k_whole))
  (k_with "my_enter!" => ((first | (walk_at "my_e1"; intro g' L' h' FG' F' N' B' X' T') | (walk_at "my_e2"; intro g' L' h' tk' cells' FG' F' N' Y' B' X' T' l1; (try k_lt l1); k_cells Y'; (try simp only [List.cons_append, List.nil_append] at N'))); (try dsimp only); (try k_lift B'); (try k_fold)))
  (k_with "my_start!" => (w_top off; unfold Con; k_fill; intro w p loose mean mg mb dp un gd cn cs a ccd cl outer A₀ base h₀ L m s Q E B F X N T hk hd hu hret; refine wpAny_call ?_; k_dflt walk_at "my_enter"))
  (k_with "call builtin:str.join!" => first | (k_here; refine join_listW (by is_list) (by assumption) (by decide) (by assumption) ?_; intro tj kj) | refine Stop.out ?_)
  (k_with "eval BinOp!" => (dsimp only; walk1))
  (k_with "binaryOp BitOr int int!" => (dsimp only; walk1))
  (k_with "newTuple!" => (dsimp only; walk1))
  (k_with "InvEndG!" => refine Stop.out ?_)
  (k_with "exec For Name Tuple cons nil!" => (k_here; (rename Fr _ _ _ _ => lF'); (with_unfolding_all refine' For_invVF lF' ?k1z9 ?k2z9 ?_; (case k1z9 | k2z9 => exact rfl); k_whole)))
  (k_with "my_mem!" => first | assumption | exact List.Mem.head _ | (refine List.mem_cons_of_mem _ ?_; walk_at "my_mem") | (with_reducible refine List.mem_append.mpr (.inl ?_); walk_at "my_mem") | (with_reducible refine List.mem_append.mpr (.inr ?_); walk_at "my_mem"))
  (k_with "call builtin:len!" => (k_here; (with_reducible show wpAny _ _ (call (Value.builtin "len") [Value.ref _]) _ _ _); k_dflt (refine' kst_len ?k1 ?k2 ?k3 ?k4 ?_; (case k1 => k_asm); (case k2 => walk_at "my_mem"); (case k3 => first | exact IntsAre.length (by assumption) | exact RngsAre.length (by assumption)); (case k4 => omega))))
  (k_with "subscriptTail!" => (k_here; (with_reducible show wpAny _ _ (subscriptTail _ _ (Value.ref _) (Value.int _ _)) _ _ _); k_dflt (refine' item_led ?k1 ?k2 ?k3 ?k4 ?k5 ?k6 ?_; (case k1 => k_asm); (case k2 => walk_at "my_mem"); (case k3 => assumption); (case k4 | k5 | k6 => omega); k_whole); intro _))
  (k_with "subscriptTail Name Name ref int!" => (k_here; k_dflt (refine' ref_led ?k1 ?k2 ?k4 ?k5 ?k6 ?_; (case k1 => k_asm); (case k2 => walk_at "my_mem"); (case k6 => assumption); (case k4 | k5 => omega); k_whole)))
  (k_with "CompSrc!" => refine Stop.out ?_)
  (k_with "CompEnd!" => refine Stop.out ?_)
  (k_with "my_slen!" => (rw [sizeLine_eq]; (try simp only [Str.length_append, tx_len, List.length_cons, List.length_nil, List.length_append]); omega))
  (k_with "inplaceOp Add str str!" => ((refine SBL.iadd (hsz := ?hszz9) ?_); (case hszz9 => walk_at "my_slen"); intro _ _ _))
  (k_with "binaryOp Add str str!" => ((refine SBL.add (hsz := ?hszz9) ?_); (case hszz9 => walk_at "my_slen"); intro _ _ _))
  (k_with "my_lt!" => first | assumption | exact kst_ltOf (by assumption) | exact kst_ltOf (And.right (by assumption)) | exact kst_ltOf (And.right (And.right (by assumption))) | exact kst_ltOf (And.right (And.right (And.right (by assumption)))) | exact kst_ltOf (And.right (And.right (And.right (And.right (by assumption))))) | exact kst_ltOf (And.right (And.right (And.right (And.right (And.right (by assumption)))))) | exact kst_ltOf (And.right (And.right (And.right (And.right (And.right (And.right (by assumption))))))) | exact kst_ltOf (And.right (And.right (And.right (And.right (And.right (And.right (And.right (by assumption)))))))) | exact kst_ltOf (And.right (And.right (And.right (And.right (And.right (And.right (And.right (And.right (by assumption))))))))) | exact kst_ltOf (And.right (And.right (And.right (And.right (And.right (And.right (And.right (And.right (And.right (by assumption)))))))))) | exact kst_ltOf (And.right (And.right (And.right (And.right (And.right (And.right (And.right (And.right (And.right (And.right (by assumption))))))))))) | exact kst_ltOf (And.right (And.right (And.right (And.right (And.right (And.right (And.right (And.right (And.right (And.right (And.right (by assumption)))))))))))) | exact kst_ltOf (And.right (And.right (And.right (And.right (And.right (And.right (And.right (And.right (And.right (And.right (And.right (And.right (by assumption))))))))))))) | exact kst_ltOf (And.right (And.right (And.right (And.right (And.right (And.right (And.right (And.right (And.right (And.right (And.right (And.right (And.right (by assumption)))))))))))))))
  (k_with "call ref!" => (k_here; k_dflt (refine' call_cls ?k1z9 ?k2z9 ?k3z9 ?k4z9 ?k5z9 ?k6z9 ?_; (case k1z9 | k2z9 | k3z9 => k_asm); (case k4z9 | k5z9 | k6z9 => k_is); k_whole; intro x' d' h' F' N' l1 l2; (try k_lt l1); (try k_lt2 l2); (try k_sweep); walk_at "my_enter")))
  (k_with "my_startW!" => (w_top off; unfold ConW; k_fill; intro p loose mean mg mb dp un gd cn cs a ccd cl outer A₀ base h₀ L m s Q E B F X N T hk hd hu hret; refine wpAny_call ?_; k_dflt walk_at "my_enter"))
  (k_with "my_ints!" => first | assumption | exact .nil | exact .cons _ _ .nil | exact .cons _ _ (.cons _ _ .nil))
  (k_with "my_rng!" => first | assumption | (intro n hn; simp only [List.mem_singleton] at hn; omega))
  (k_with "my_om!" => first | assumption | omega | exact Nat.le_of_ble_eq_true rfl)
  (k_with "my_u16!" => first | omega | with_reducible exact (sur_hi (by omega) (by omega)).2.1 | with_reducible exact (sur_hi (by omega) (by omega)).2.2 | with_reducible exact (sur_lo (by omega) (by omega)).2.1 | with_reducible exact (sur_lo (by omega) (by omega)).2.2)
  (k_with "my_lu!" => first | omega | (kmn_bounds; omega) | (simp only [Int.fdiv_eq_ediv_of_nonneg _ (show (0:Int) ≤ 1024 by decide), Int.fmod_eq_emod_of_nonneg _ (show (0:Int) ≤ 1024 by decide)]; omega))
  (k_with "my_con!" => ((case k4 | k1 => k_asm); (case k2 | k3 | k5 => k_asm); (case kK => first | exact rfl | assumption); (case kd => walk_at "my_room"); (case ku => walk_at "my_units")))
  (k_with "i_str!" => (intro r9 nw9 h9 tk9 R9 F9 N9; obtain ⟨e8, t9, e7⟩ := R9; subst e8 e7; (try dsimp only); (try k_fold)))
  (k_with "i_strx!" => (intro r9 nw9 h9 tk9 R9 F9 N9; obtain ⟨e8, t9, e7⟩ := R9; subst e8 e7; (try walk_at "my_text"); (try dsimp only); (try k_fold)))
  (k_with "i_two!" => (intro r9 nw9 h9 tk9 R9 F9 N9; obtain ⟨e8, e7⟩ := R9; subst e8 e7; (try dsimp only); (try k_fold)))
  (k_with "i_rj!" => (intro r9 nw9 h9 tk9 R9 F9 N9; obtain ⟨d9, t91, t92, e8, e7, l9⟩ := R9; subst e8 e7; (try k_lt l9); (try dsimp only); (try k_fold)))
  (k_with "i_pts!" => (intro r9 nw9 h9 tk9 R9 F9 N9; obtain ⟨e9, e8, e7⟩ | ⟨l9, vs9, nn9, pts9, e9, e8, e7, i9, m9⟩ := R9; (all_goals subst e8 e7); (all_goals (try walk_at "my_same")); (all_goals (try k_lt m9)); (all_goals ((try dsimp only); (try k_fold)))))
  trivial
set_option maxHeartbeats 8000000 in
theorem shape_t (news : List (Addr × Obj)) (n : Int) (t : Tok) : Con 389 3 news [.int n t] (RShape n news) := by
  walk_at "my_start"
  k_steps
  all_goals first
    | exact hret _ _ _ _ (.inr ⟨_, _, _, _, _, _, _, shape1 (by assumption) (by assumption), rfl, rfl⟩) (by assumption) (by assumption)
    | exact hret _ _ _ _ (.inr ⟨_, _, _, _, _, _, _, shape2 (by omega) (by omega), rfl, rfl⟩) (by assumption) (by assumption)
    | exact hret _ _ _ _ (.inr ⟨_, _, _, _, _, _, _, shape3 (by omega) (by omega), rfl, rfl⟩) (by assumption) (by assumption)
    | exact hret _ _ _ _ (.inl ⟨shape0 (by omega), rfl, rfl⟩) (by assumption) (by assumption)
theorem rows_2 : True := by
  (k_with "call ref!" => (k_here; k_dflt (refine' Con.use (shape_t _ _ _) ?k1 ?k2 ?k3 ?k4 ?k5 ?kK ?kd ?ku ?_; walk_at "my_con"; walk_at "i_shape")))
  (k_with "i_shape!" => (intro r9 nw9 h9 tk9 R9 F9 N9; obtain ⟨e9, e8, e7⟩ | ⟨d9, k9, mn9, pt9, t91, t92, t93, e9, e8, e7⟩ := R9; (all_goals subst e8 e7); (all_goals ((try dsimp only); (try k_fold)))))
  trivial
noncomputable def osOf (x : Str) : List Int := x.cps.toList.map fun (n : Nat) => (n : Int)
theorem osOf_length (x : Str) : (osOf x).length = x.length := by simp [osOf, Str.length]
theorem item_os {x : Str} {i : Int} (h0 : 0 ≤ i) (h1 : i < x.length) : (((Txt.item x i).cps.getD 0 0 : Nat) : Int) = (osOf x).getD i.toNat 0 := by
  have h : i.toNat < x.cps.size := by have : x.length = x.cps.size := rfl; omega
  have e : Txt.charAt x i = some (x.cps.getD i.toNat 0) := by
    unfold Txt.charAt seqIndex?
    have : x.length = x.cps.size := rfl
    have hn : ¬ i < 0 := by lia
    simp only [hn, if_false]
    have h2 : (decide (0 ≤ i) && decide (i < (x.length : Int))) = true := by simp [h0, h1]
    simp only [h2, if_true, Option.bind_some]
    simp [h]
  unfold Txt.item
  rw [e]
  simp [osOf, h]

/-- the octets behind: k of them from place j on -/
theorem sub_up {k p : Nat} (h : p < k) : k - p = k - p - 1 + 1 := (Nat.sub_add_cancel (Nat.sub_pos_of_lt h)).symm
theorem sub_up1 {n i : Nat} (h : i ≤ n) : n + 1 - i = n - i + 1 := Nat.succ_sub h
theorem toNat_up {k i : Int} {p : Nat} (h0 : 0 ≤ i) (h : k = i + 1 + p) : k.toNat = i.toNat + 1 + p := by
  obtain ⟨n, rfl⟩ := Int.eq_ofNat_of_zero_le h0; subst h; rfl
theorem toNat_back {i k : Int} (h0 : 0 ≤ i) (h1 : 0 ≤ k) : i + 1 + k = ((i.toNat + 1 + k.toNat : Nat) : Int) := by
  obtain ⟨n, rfl⟩ := Int.eq_ofNat_of_zero_le h0; obtain ⟨m, rfl⟩ := Int.eq_ofNat_of_zero_le h1; rfl
theorem toNat_one {i : Int} (h0 : 0 ≤ i) : i + 1 = ((i.toNat + 1 : Nat) : Int) := by
  obtain ⟨n, rfl⟩ := Int.eq_ofNat_of_zero_le h0; rfl
noncomputable def contF (os : List Int) : Nat → Nat → Int → Option Int
  | 0, _, p => some p
  | k + 1, j, p => if Builtin.bitAnd (os.getD j 0) 192 = 128 then contF os k (j + 1) (p * 64 + Builtin.bitAnd (os.getD j 0) 63) else none

noncomputable def okF (mn p : Int) : Bool := !(decide (p < mn) || (decide (55296 ≤ p) && decide (p ≤ 57343)) || decide (1114111 < p))

/-- what utf8_at gives: the point, the place behind -/
noncomputable def atF (os : List Int) (i : Nat) : Option (Int × Nat) :=
  if os.getD i 0 < 128 then some (os.getD i 0, i + 1)
  else match shapeF (os.getD i 0) with
    | none => none
    | some (k, mn, pt) => if (os.length : Int) ≤ i + k then none else match contF os k.toNat (i + 1) pt with
      | none => none
      | some p => if okF mn p then some (p, i + 1 + k.toNat) else none

noncomputable def RAt (os : List Int) (i : Int) (news : List (Addr × Obj)) (r : Value) (nw : List (Addr × Obj)) : Prop :=
  (atF os i.toNat = none ∧ r = .none ∧ nw = news) ∨ ∃ d q j t1 t2, atF os i.toNat = some (q, j) ∧ r = .ref d ∧ nw = (d, tupO [.int q t1, .int (j : Nat) t2]) :: news ∧ (∀ p ∈ news, p.1 < d)

theorem rat_some {os : List Int} {i : Int} {news : List (Addr × Obj)} {d : Addr} {v1 v2 q : Int} {j : Nat} {t1 t2 : Tok} (e : atF os i.toNat = some (q, j)) (hq : v1 = q) (hj : v2 = (j : Int)) (hl : ∀ p ∈ news, p.1 < d) :
    RAt os i news (.ref d) ((d, tupO [.int v1 t1, .int v2 t2]) :: news) := by
  subst hq hj
  exact .inr ⟨_, _, _, _, _, e, rfl, rfl, hl⟩
theorem rat_none {os : List Int} {i : Int} {news : List (Addr × Obj)} (e : atF os i.toNat = none) : RAt os i news .none news := .inl ⟨e, rfl, rfl⟩

/-- what holds between two turns of utf8_at's loop -/
noncomputable def PAt (os : List Int) (k j : Nat) (p₀ : Int) (pre : List Int) (c : Int × Tok) : Prop :=
  pre.length ≤ k ∧ contF os k j p₀ = contF os (k - pre.length) (j + pre.length) c.1

theorem pat_stop {os : List Int} {k j : Nat} {p₀ : Int} {pre : List Int} {c : Int × Tok} {i : Int} (h : PAt os k j p₀ pre c) (hlt : pre.length < k) (hi : i.toNat = j + pre.length) (hc : Builtin.bitAnd (os.getD i.toNat 0) 192 ≠ 128) : contF os k j p₀ = none := by
  rw [h.2, sub_up hlt, contF, ← hi, if_neg hc]
theorem pat_step {os : List Int} {k j : Nat} {p₀ : Int} {pre : List Int} {c : Int × Tok} {i : Int} {t : Tok} (h : PAt os k j p₀ pre c) (hlt : pre.length < k) (hi : i.toNat = j + pre.length) (hc : Builtin.bitAnd (os.getD i.toNat 0) 192 = 128) :
    PAt os k j p₀ (pre ++ [i]) (c.1 * 64 + Builtin.bitAnd (os.getD i.toNat 0) 63, t) := by
  refine ⟨by simp; omega, ?_⟩
  rw [h.2, sub_up hlt, contF, ← hi, if_pos hc, List.length_append, List.length_singleton, hi]
  rfl
theorem pat_done {os : List Int} {k j : Nat} {p₀ : Int} {pre : List Int} {c : Int × Tok} (h : PAt os k j p₀ pre c) (e : pre.length = k) : contF os k j p₀ = some c.1 := by
  rw [h.2, show k - pre.length = 0 by rw [e, Nat.sub_self], contF]
theorem News.drop2 {h₀ h : Heap} {L : Addr} {p q : Addr × Obj} {l : List (Addr × Obj)} (N : News h₀ L h (p :: q :: l)) : News h₀ L h (p :: l) := fun r hr => N r ((List.mem_cons.mp hr).elim (fun e => e ▸ .head _) fun h => .tail _ (.tail _ h))
theorem okF_f {mn p : Int} (h : p < mn ∨ (55296 ≤ p ∧ p ≤ 57343) ∨ 1114111 < p) : okF mn p = false := by
  unfold okF; simp only [Bool.not_eq_false', Bool.or_eq_true, Bool.and_eq_true, decide_eq_true_eq]; omega
theorem okF_t {mn p : Int} (h : ¬ (p < mn ∨ (55296 ≤ p ∧ p ≤ 57343) ∨ 1114111 < p)) : okF mn p = true := by
  unfold okF; simp only [Bool.not_eq_true', Bool.or_eq_false_iff, Bool.and_eq_false_iff, decide_eq_false_iff_not]; omega
theorem at_bad {os : List Int} {i : Nat} {k mn pt p : Int} (hge : ¬ os.getD i 0 < 128) (e : shapeF (os.getD i 0) = some (k, mn, pt)) (hl : ¬ (os.length : Int) ≤ i + k) (hp : contF os k.toNat (i + 1) pt = some p) (hk : okF mn p = false) : atF os i = none := by
  unfold atF; rw [if_neg hge, e]; dsimp only; rw [if_neg hl, hp]; dsimp only; rw [if_neg (by simp [hk])]
theorem at_good {os : List Int} {i : Nat} {k mn pt p : Int} (hge : ¬ os.getD i 0 < 128) (e : shapeF (os.getD i 0) = some (k, mn, pt)) (hl : ¬ (os.length : Int) ≤ i + k) (hp : contF os k.toNat (i + 1) pt = some p) (hk : okF mn p = true) : atF os i = some (p, i + 1 + k.toNat) := by
  unfold atF; rw [if_neg hge, e]; dsimp only; rw [if_neg hl, hp]; dsimp only; rw [if_pos hk]
theorem News.less {h₀ h : Heap} {L : Addr} {l l' : List (Addr × Obj)} (hs : ∀ p ∈ l', p ∈ l) (N : News h₀ L h l) : News h₀ L h l' := fun p hp => N p (hs p hp)
theorem shape_k {n k mn pt : Int} (e : shapeF n = some (k, mn, pt)) : (k = 1 ∨ k = 2 ∨ k = 3) := by
  unfold shapeF at e
  split at e
  · simp only [Option.some.injEq, Prod.mk.injEq] at e; omega
  · split at e
    · simp only [Option.some.injEq, Prod.mk.injEq] at e; omega
    · split at e
      · simp only [Option.some.injEq, Prod.mk.injEq] at e; omega
      · cases e


set_option maxHeartbeats 8000000 in
theorem at_t (news : List (Addr × Obj)) (x : Str) (t : Tok) (i : Int) (ti : Tok) (h0 : 0 ≤ i) (h1 : i < x.length) (hx : x.length ≤ 200) : Con 396 6 news [.str x t, .int i ti] (RAt (osOf x) i news) := by
  walk_at "my_start"
  k_steps
  · have hlt : (osOf x).getD i.toNat 0 < 128 := by rw [← item_os h0 h1]; assumption
    have hf : atF (osOf x) i.toNat = some ((osOf x).getD i.toNat 0, i.toNat + 1) := by unfold atF; rw [if_pos hlt]
    refine' hret _ _ _ _ ?a1 ?b1 ?c1
    case c1 => assumption
    case b1 => assumption
    exact rat_some hf (item_os h0 h1) (toNat_one h0) (by assumption)
  · have hge : ¬ (osOf x).getD i.toNat 0 < 128 := by rw [← item_os h0 h1]; assumption
    rw [item_os h0 h1] at e9
    have hf : atF (osOf x) i.toNat = none := by unfold atF; rw [if_neg hge, e9]
    refine' hret _ _ _ _ (rat_none hf) ?b2 ?c2
    case c2 => assumption
    case b2 => assumption
  · have hge : ¬ (osOf x).getD i.toNat 0 < 128 := by rw [← item_os h0 h1]; assumption
    rw [item_os h0 h1] at e9
    have hf : atF (osOf x) i.toNat = none := by
      unfold atF; rw [if_neg hge, e9]; dsimp only; rw [if_pos (by rw [osOf_length]; omega)]
    refine' hret _ news _ _ (rat_none hf) ?b3 (News.less ?d3 ?c3)
    case c3 => assumption
    case b3 => assumption
    exact fun _ h => .tail _ h
  · unfold Stop
    have hge : ¬ (osOf x).getD i.toNat 0 < 128 := by rw [← item_os h0 h1]; assumption
    rw [item_os h0 h1] at e9
    have hk9 : (k9 = 1 ∨ k9 = 2 ∨ k9 = 3) := shape_k e9
    have hkn : (i + 1 + k9 - (i + 1)).toNat = k9.toNat := by congr 1; omega
    (rename Fr _ _ _ _ => lF'); (rename News _ _ _ _ => lN'); (rename IsRange _ _ _ _ _ _ _ _ => rgX)
    with_unfolding_all refine' kst_range (σ := Int × Tok) (fun _ => _) (fun c => [(Str.ofString "point", .int c.1 c.2)]) (fun _ => True) [Str.ofString "octet"] (PAt (osOf x) k9.toNat (i.toNat + 1) pt9) (pt9, t93) (by rfl) rgX (small_one (by lia) (by lia) (by lia) (by lia)) (rangeSize_nat _ _) lF' lN' True.intro ?kk ?kp ?_ ?_
    case kk => intro p hp; rw [List.mem_singleton.mp hp]; rfl
    case kp => exact ⟨Nat.zero_le _, rfl⟩
    · intro c pre k tk1 u h1' tk own hk hlt off _ P1 F1 N1
      clear lF' lN'
      rw [hkn] at hlt
      (try dsimp only)
      k_fold
      k_steps
      · have hc : Builtin.bitAnd ((osOf x).getD k.toNat 0) 192 ≠ 128 := by rw [← item_os (by lia) (by lia)]; assumption
        have hf : atF (osOf x) i.toNat = none := by
          unfold atF; rw [if_neg hge, e9]; dsimp only; rw [if_neg (by rw [osOf_length]; omega), pat_stop P1 hlt (toNat_up h0 hk) hc]
        refine' hret _ news _ _ (rat_none hf) ?b4 (News.less ?d4 ?c4)
        case c4 => assumption
        case b4 => assumption
        exact fun _ h => List.mem_append.mpr (.inl (.tail _ h))
      · have hc : Builtin.bitAnd ((osOf x).getD k.toNat 0) 192 = 128 := by rw [← item_os (by lia) (by lia)]; assumption
        (rename Fr _ _ _ _ => lF'); (rename News _ _ _ _ => lN')
        unfold Stop
        refine' kst_end (c.1 * 64 + Builtin.bitAnd ((osOf x).getD k.toNat 0) 63, _) lF' lN' ?e0 ?e3 rfl True.intro ?e1 ?e2 ?e4
        case e0 => exact fun _ h => List.mem_append.mpr (.inl h)
        case e3 => exact fun _ h => List.mem_append.mpr (.inr h)
        case e1 => intro p hp; rw [List.mem_singleton.mp hp, ← item_os (by lia) (by lia)]; rfl
        case e2 =>
          intro z hz hp hs
          have hz2 : z ≠ Str.ofString "point" := hp _ (List.mem_singleton.mpr rfl)
          have hz3 : z ≠ Str.ofString "octet" := fun e => by rw [e] at hs; exact absurd hs (by decide)
          simp only [hz, hz2, hz3, if_false, kstB, hs]
          rfl
        case e4 => exact pat_step P1 hlt (toNat_up h0 hk) hc
    · intro c u h1' tk _ P1 F1 N1
      clear lF' lN'
      rw [hkn] at P1
      have hp9 := pat_done P1 (rangeKs_length _ _)
      (try dsimp only)
      try k_fold
      k_steps
      · have hf : atF (osOf x) i.toNat = none := at_bad hge e9 (by rw [osOf_length]; omega) hp9 (okF_f (by lia))
        refine' hret _ news _ _ (rat_none hf) ?b5 (News.less ?d5 ?c5)
        case c5 => assumption
        case b5 => assumption
        exact fun _ h => .tail _ h
      · have hf : atF (osOf x) i.toNat = none := at_bad hge e9 (by rw [osOf_length]; omega) hp9 (okF_f (by lia))
        refine' hret _ news _ _ (rat_none hf) ?b6 (News.less ?d6 ?c6)
        case c6 => assumption
        case b6 => assumption
        exact fun _ h => .tail _ h
      · have hf : atF (osOf x) i.toNat = none := at_bad hge e9 (by rw [osOf_length]; omega) hp9 (okF_f (by lia))
        refine' hret _ news _ _ (rat_none hf) ?b7 (News.less ?d7 ?c7)
        case c7 => assumption
        case b7 => assumption
        exact fun _ h => .tail _ h
      all_goals
        have hf := at_good hge e9 (by rw [osOf_length]; omega) hp9 (okF_t (by lia))
        exact fin hret (by assumption) (News.drop2 (by assumption)) (rat_some hf rfl (toNat_back h0 (by lia)) (kst_ltOf (And.right (by assumption))))
/-- a value and what stands when it is made: the cut of one expression -/
noncomputable def CutV {α : Type} (h₀ : Heap) (L : Addr) (m : Str → Option Value) (s : Shared) (P : α → List (Addr × Obj) → Prop) (v : α) (s' : Shared) : Prop :=
  ∃ led h tk, s' = { s with heap := h, toks := tk } ∧ Fr h₀ L h m ∧ News h₀ L h led ∧ P v led
theorem CutV.intro {α : Type} {h₀ h : Heap} {L : Addr} {m : Str → Option Value} {s : Shared} {P : α → List (Addr × Obj) → Prop} {v : α} {tk : Nat} {news led : List (Addr × Obj)} (F : Fr h₀ L h m) (N : News h₀ L h news) (sub : ∀ p ∈ led, p ∈ news) (r : P v led) :
    CutV h₀ L m s P v { s with heap := h, toks := tk } := ⟨led, h, tk, rfl, F, News.less sub N, r⟩
theorem cutV {α : Type} {M : Model} {A : Around} {x : Sem α} {Q : α → Shared → Prop} {E : Value → Shared → Prop} {s : Shared} {h₀ : Heap} {L : Addr} {m : Str → Option Value} (P : α → List (Addr × Obj) → Prop) (_F : Fr h₀ L s.heap m)
    (h1 : wpAny M A x (CutV h₀ L m s P) E s) (h2 : ∀ v led h tk, P v led → Fr h₀ L h m → News h₀ L h led → Q v { s with heap := h, toks := tk }) : wpAny M A x Q E s :=
  wpAny_mono h1 (fun v s' q => by obtain ⟨led, h, tk, rfl, F, N, p⟩ := q; exact h2 v led h tk p F N) fun _ _ x => x
theorem News.dup {h₀ h : Heap} {L : Addr} {p : Addr × Obj} {l : List (Addr × Obj)} (N : News h₀ L h l) (hm : p ∈ l) : News h₀ L h (p :: l) := fun q hq => (List.mem_cons.mp hq).elim (fun e => e ▸ N p hm) fun k => N q k
theorem cutV1 {α : Type} {M : Model} {A : Around} {x : Sem α} {Q : α → Shared → Prop} {E : Value → Shared → Prop} {s : Shared} {h₀ : Heap} {L : Addr} {m : Str → Option Value} {led : List (Addr × Obj)} (P : α → Prop) (_F : Fr h₀ L s.heap m) (_N : News h₀ L s.heap led)
    (h1 : wpAny M A x (CutV h₀ L m s (fun v led' => led' = led ∧ P v)) E s) (h2 : ∀ v h tk, P v → Fr h₀ L h m → News h₀ L h led → Q v { s with heap := h, toks := tk }) : wpAny M A x Q E s :=
  wpAny_mono h1 (fun v s' q => by obtain ⟨led', h, tk, rfl, F, N, rfl, p⟩ := q; exact h2 v h tk p F N) fun _ _ x => x
section
variable {prog : Program} {w : World} {A : Around} {E : Value → Shared → Prop} {s : Shared} {env : Env} {h₀ : Heap} {x : Str} {body : List Stmt} {Q : Flow → Shared → Prop}

/-- a loop over a sequence that the ledger holds at l: the iterator stands apart in own -/
theorem loop_led {I l : Addr} {o : Obj} {n : Nat} {P : Nat → Value → Prop} {St : Nat → Heap → Prop} {m₀ : Str → Option Value} {news : List (Addr × Obj)} (J : Nat → (Str → Option Value) → List (Addr × Obj) → Prop)
    (W : Walks prog w A I [I, l] [I] n P St) (hI : ∀ i h, St i h → ∃ oI, h.get? I = some oI) (hLI : env.locals ≠ I) (hI0 : h₀.get? I = none) (hoff : ∀ p ∈ news, p.1 ≠ I) (hst : St 0 s.heap)
    (F : Fr h₀ env.locals s.heap m₀) (N : News h₀ env.locals s.heap news) (hj : J 0 m₀ news) (hsrc : ∀ i m nx, J i m nx → (l, o) ∈ nx)
    (turn : ∀ i v m₁ nx h tk own, i < n → P i v → J i m₁ nx → OwnOff own (nx.map (·.1)) → Fr h₀ env.locals h (fun y => if y = x then some v else m₁ y) → News h₀ env.locals h (nx ++ own) →
      wpAny (model prog w) A (execs body env) (InvPostG h₀ env.locals (J (i + 1)) own { s with heap := h, toks := tk } Q) E { s with heap := h, toks := tk })
    (done : ∀ m₁ nx h tk, J n m₁ nx → Fr h₀ env.locals h m₁ → News h₀ env.locals h nx → Q .next { s with heap := h, toks := tk }) :
    LoopAtV prog w A h₀ env x body Q E (.ref I) s := by
  have hlL : env.locals ≠ l := fun e => (N _ (hsrc _ _ _ hj)).2.1 e.symm
  refine ⟨I, [I, l], [I], n, P, St, m₀, news, J, rfl, W, by simp [hLI, hlL], by simpa using hI0, by simpa using hoff, hst, F, N, hj, ?_, ?_⟩
  · rintro i v m₁ nx s₁ own ⟨hh', tk', rfl⟩ hin hP hJ hnx hown hget hall hst₁ F₁ N₁
    obtain ⟨oI, hoI⟩ := hI _ _ hst₁
    have hmI : (I, oI) ∈ own := hall I (by simp) hI0 _ hoI
    have sep : OwnOff [(I, oI)] (nx.map (·.1)) := by
      intro p hp b hb e
      obtain ⟨q, hq, rfl⟩ := List.mem_map.mp hb
      rw [List.mem_singleton.mp hp] at e
      exact hnx q hq (by simpa using e.symm)
    have N₂ : News h₀ env.locals hh' (nx ++ [(I, oI)]) := fun p hp => (List.mem_append.mp hp).elim (fun h => N₁ p (List.mem_append.mpr (.inr h))) fun h => by
      rw [List.mem_singleton.mp h]; exact N₁ _ (List.mem_append.mpr (.inl hmI))
    refine wpAny_mono (turn i v m₁ nx hh' tk' [(I, oI)] hin hP hJ sep F₁ N₂) (fun f s₂ p => ?_) fun _ _ e => e
    have hlo : hh'.get? l = some o := (N₂ _ (List.mem_append.mpr (.inl (hsrc _ _ _ hJ)))).1
    have fin : InvEndG h₀ env.locals (J (i + 1)) [(I, oI)] { s with heap := hh', toks := tk' } s₂ → LoopStepU h₀ env.locals [I] own (J (i + 1)) { s with heap := hh', toks := tk' } .next s₂ := by
      rintro ⟨h', tk, m', news', nx', e, F', N', hn, ho, ha, hm⟩
      refine ⟨rfl, h', tk, m', nx', e, F', fun p hp => ?_, fun p hp hq => ?_, hm⟩
      · rcases List.mem_append.mp hp with h | h
        · have hv : hh'.get? p.1 = some p.2 := hget p h
          rcases List.mem_cons.mp (hown p h) with h1 | h1
          · rw [h1, hoI] at hv
            have : p = (I, oI) := Prod.ext h1 (Option.some.inj hv).symm
            rw [this]; exact N' _ (ho _ (.head _))
          · have h1 := List.mem_singleton.mp h1
            rw [h1, hlo] at hv
            have : p = (l, o) := Prod.ext h1 (Option.some.inj hv).symm
            rw [this]; exact N' _ (hn _ (hsrc _ _ _ hm))
        · exact N' p (hn p h)
      · exact ha (I, oI) (.head _) p.1 (List.mem_map.mpr ⟨p, hp, rfl⟩) (List.mem_singleton.mp hq).symm
    cases f with
    | ret v => exact .ret p
    | brk => exact .brk p
    | next => exact .next (fin p)
    | cont => exact .cont (fin p)
  · exact fun h' tk m' news' F' N' _ hJ => done m' news' h' tk hJ F' N'

/-- the state of a loop: a ledger, names, facts, a word about the turns done -/
noncomputable def LedS {σ : Type} (Led : σ → List (Addr × Obj)) (ps : σ → List (Str × Value)) (x : Str) (stored : List Str) (m₀ : Str → Option Value) (P : Nat → σ → Prop) (i : Nat) (m : Str → Option Value) (nx : List (Addr × Obj)) : Prop :=
  ∃ c : σ, nx = Led c ∧ (∀ p ∈ ps c, m p.1 = some p.2) ∧ (∀ z, z ≠ x → (∀ p ∈ ps c, z ≠ p.1) → stored.contains z = false → m z = m₀ z) ∧ P i c
theorem led_end {σ : Type} {Led : σ → List (Addr × Obj)} {ps : σ → List (Str × Value)} {stored : List Str} {m₀ : Str → Option Value} {P : Nat → σ → Prop} {i : Nat} (c : σ) {L : Addr} {m' : Str → Option Value} {own news' : List (Addr × Obj)} {s₁ : Shared} {h' : Heap} {tk : Nat}
    (F : Fr h₀ L h' m') (N : News h₀ L h' news') (hn : ∀ p ∈ Led c, p ∈ news') (ho : ∀ p ∈ own, p ∈ news') (ha : OwnOff own ((Led c).map (·.1))) (hk : ∀ p ∈ ps c, m' p.1 = some p.2) (hr : ∀ z, z ≠ x → (∀ p ∈ ps c, z ≠ p.1) → stored.contains z = false → m' z = m₀ z) (hp : P i c) :
    InvEndG h₀ L (LedS Led ps x stored m₀ P i) own s₁ { s₁ with heap := h', toks := tk } := InvEndG.intro F N ⟨c, rfl, hk, hr, hp⟩ ha hn ho

theorem led_loop {σ : Type} {I l : Addr} {o : Obj} {n : Nat} {R : Nat → Value → Prop} {St : Nat → Heap → Prop} {m₀ : Str → Option Value} {news : List (Addr × Obj)} (Led : σ → List (Addr × Obj)) (ps : σ → List (Str × Value)) (stored : List Str) (P : Nat → σ → Prop) (c₀ : σ)
    (W : Walks prog w A I [I, l] [I] n R St) (hI : ∀ i h, St i h → ∃ oI, h.get? I = some oI) (hLI : env.locals ≠ I) (hI0 : h₀.get? I = none) (hoff : ∀ p ∈ news, p.1 ≠ I) (hst : St 0 s.heap)
    (F : Fr h₀ env.locals s.heap m₀) (N : News h₀ env.locals s.heap news) (hn : ∀ p ∈ Led c₀, p ∈ news) (hsrc : ∀ c, (l, o) ∈ Led c) (hk : ∀ p ∈ ps c₀, m₀ p.1 = some p.2) (hp : P 0 c₀)
    (turn : ∀ (c : σ) i v (u : Str → Option Value) h tk own, i < n → R i v → P i c → OwnOff own ((Led c).map (·.1)) →
      Fr h₀ env.locals h (fun y => if y = x then some v else kstB (fun z => if stored.contains z then u z else m₀ z) (ps c) y) → News h₀ env.locals h (Led c ++ own) →
      wpAny (model prog w) A (execs body env) (InvPostG h₀ env.locals (LedS Led ps x stored m₀ P (i + 1)) own { s with heap := h, toks := tk } Q) E { s with heap := h, toks := tk })
    (done : ∀ (c : σ) (u : Str → Option Value) h tk, P n c → Fr h₀ env.locals h (fun y => if y = x then u y else kstB (fun z => if stored.contains z then u z else m₀ z) (ps c) y) → News h₀ env.locals h (Led c) → Q .next { s with heap := h, toks := tk }) :
    LoopAtV prog w A h₀ env x body Q E (.ref I) s := by
  refine loop_led (o := o) (fun i m nx => LedS Led ps x stored m₀ P i m nx) W hI hLI hI0 (fun p hp => hoff p (hn p hp)) hst F (News.less hn N) ⟨c₀, rfl, hk, fun _ _ _ _ => rfl, hp⟩ (fun _ _ _ ⟨c, e, _⟩ => e ▸ hsrc c) ?_ ?_
  · rintro i v m₁ nx h tk own hi hv ⟨c, rfl, h1, h2, h3⟩ ho F₁ N₁
    exact turn c i v m₁ h tk own hi hv h3 ho (kst_fr h1 h2 F₁) N₁
  · rintro m₁ nx h tk ⟨c, rfl, h1, h2, h3⟩ F₁ N₁
    exact done c m₁ h tk h3 (kst_frOut h1 h2 F₁) N₁

theorem led_tup {σ : Type} {l : Addr} {vs : List Value} {k : Nat} {m₀ : Str → Option Value} {news : List (Addr × Obj)} (Led : σ → List (Addr × Obj)) (ps : σ → List (Str × Value)) (stored : List Str) (P : Nat → σ → Prop) (c₀ : σ)
    (hh : A.handled = none) (F : Fr h₀ env.locals s.heap m₀) (N : News h₀ env.locals s.heap news) (hn : ∀ p ∈ Led c₀, p ∈ news) (hsrc : ∀ c, (l, ({ cls := .type "tuple", data := .seq vs.toArray k } : Obj)) ∈ Led c) (hk : ∀ p ∈ ps c₀, m₀ p.1 = some p.2) (hp : P 0 c₀)
    (turn : ∀ (c : σ) i v (u : Str → Option Value) h tk own, vs[i]? = some v → P i c → OwnOff own ((Led c).map (·.1)) →
      Fr h₀ env.locals h (fun y => if y = x then some v else kstB (fun z => if stored.contains z then u z else m₀ z) (ps c) y) → News h₀ env.locals h (Led c ++ own) →
      wpAny (model prog w) A (execs body env) (InvPostG h₀ env.locals (LedS Led ps x stored m₀ P (i + 1)) own { s with heap := h, toks := tk } Q) E { s with heap := h, toks := tk })
    (done : ∀ (c : σ) (u : Str → Option Value) h tk, P vs.length c → Fr h₀ env.locals h (fun y => if y = x then u y else kstB (fun z => if stored.contains z then u z else m₀ z) (ps c) y) → News h₀ env.locals h (Led c) → Q .next { s with heap := h, toks := tk }) :
    wpAny (model prog w) A (pyIter (.ref l)) (fun it s₂ => LoopAtV prog w A h₀ env x body Q E it s₂) E s := by
  have hml := hn _ (hsrc c₀)
  have hol := (N _ hml).1
  have htl : s.heap.IsTuple l vs.toArray := ⟨_, hol, rfl, k, rfl⟩
  have hne : l ≠ s.heap.objs.size := Nat.ne_of_lt (Heap.lt_size hol)
  refine wpAny_pyIter_tuple htl ?_
  have W := Walks.tuple (prog := prog) (w := w) hh s.heap.objs.size l hne vs.toArray
  have up : ∀ b o, s.heap.get? b = some o → (s.heap.push { cls := .type "tuple_iterator", data := .fields #[.ref l, .int 0 0] }).get? b = some o := fun b o e => Heap.get?_push_of_some _ e
  refine led_loop (o := { cls := .type "tuple", data := .seq vs.toArray k }) Led ps stored P c₀ W (fun i h st => by obtain ⟨⟨o, e, _⟩, _⟩ := st; exact ⟨o, e⟩) (Nat.ne_of_lt F.ns.lt) (next_is_new F)
    (fun p hp => Nat.ne_of_lt (Heap.lt_size (N p hp).1)) ⟨⟨_, Heap.get?_push_size _ rfl, rfl, rfl⟩, htl.at fun o e => up _ _ e⟩ (F.push _) (fun p hp => ⟨up _ _ (N p hp).1, (N p hp).2⟩) hn hsrc hk hp ?_ ?_
  · intro c i v u h tk own hi hv hP ho F₁ N₁
    exact turn c i v u h tk own (by simpa using hv) hP ho F₁ N₁
  · intro c u h tk hP F₁ N₁
    exact done c u h tk (by simpa using hP) F₁ N₁

theorem led_list {σ : Type} {l : Addr} {vs : List Value} {k : Nat} {m₀ : Str → Option Value} {news : List (Addr × Obj)} (Led : σ → List (Addr × Obj)) (ps : σ → List (Str × Value)) (stored : List Str) (P : Nat → σ → Prop) (c₀ : σ)
    (hh : A.handled = none) (F : Fr h₀ env.locals s.heap m₀) (N : News h₀ env.locals s.heap news) (hn : ∀ p ∈ Led c₀, p ∈ news) (hsrc : ∀ c, (l, W.listOf vs.toArray k) ∈ Led c) (hk : ∀ p ∈ ps c₀, m₀ p.1 = some p.2) (hp : P 0 c₀)
    (turn : ∀ (c : σ) i v (u : Str → Option Value) h tk own, vs[i]? = some v → P i c → OwnOff own ((Led c).map (·.1)) →
      Fr h₀ env.locals h (fun y => if y = x then some v else kstB (fun z => if stored.contains z then u z else m₀ z) (ps c) y) → News h₀ env.locals h (Led c ++ own) →
      wpAny (model prog w) A (execs body env) (InvPostG h₀ env.locals (LedS Led ps x stored m₀ P (i + 1)) own { s with heap := h, toks := tk } Q) E { s with heap := h, toks := tk })
    (done : ∀ (c : σ) (u : Str → Option Value) h tk, P vs.length c → Fr h₀ env.locals h (fun y => if y = x then u y else kstB (fun z => if stored.contains z then u z else m₀ z) (ps c) y) → News h₀ env.locals h (Led c) → Q .next { s with heap := h, toks := tk }) :
    wpAny (model prog w) A (pyIter (.ref l)) (fun it s₂ => LoopAtV prog w A h₀ env x body Q E it s₂) E s := by
  have hml := hn _ (hsrc c₀)
  have hol := (N _ hml).1
  have hls : s.heap.IsList l vs.toArray := ⟨_, hol, rfl, k, rfl⟩
  have hne : l ≠ s.heap.objs.size := Nat.ne_of_lt (Heap.lt_size hol)
  refine wpAny_pyIter_list hls ?_
  have Wk := Walks.list (prog := prog) (w := w) hh s.heap.objs.size l hne vs.toArray
  have up : ∀ b o, s.heap.get? b = some o → (s.heap.push { cls := .type "list_iterator", data := .fields #[.ref l, .int 0 0] }).get? b = some o := fun b o e => Heap.get?_push_of_some _ e
  refine led_loop (o := W.listOf vs.toArray k) Led ps stored P c₀ Wk (fun i h st => by obtain ⟨⟨o, e, _⟩, _⟩ := st; exact ⟨o, e⟩) (Nat.ne_of_lt F.ns.lt) (next_is_new F)
    (fun p hp => Nat.ne_of_lt (Heap.lt_size (N p hp).1)) ⟨⟨_, Heap.get?_push_size _ rfl, rfl, rfl⟩, hls.at fun o e => up _ _ e⟩ (F.push _) (fun p hp => ⟨up _ _ (N p hp).1, (N p hp).2⟩) hn hsrc hk hp ?_ ?_
  · intro c i v u h tk own hi hv hP ho F₁ N₁
    exact turn c i v u h tk own (by simpa using hv) hP ho F₁ N₁
  · intro c u h tk hP F₁ N₁
    exact done c u h tk (by simpa using hP) F₁ N₁

/-- led_tup where the tuple heads the ledger -/
theorem led_tupH {σ : Type} {l : Addr} {vs : List Value} {k : Nat} {m₀ : Str → Option Value} (Led : σ → List (Addr × Obj)) (ps : σ → List (Str × Value)) (stored : List Str) (P : Nat → σ → Prop) (c₀ : σ)
    (hh : A.handled = none) (F : Fr h₀ env.locals s.heap m₀) (N : News h₀ env.locals s.heap ((l, ({ cls := .type "tuple", data := .seq vs.toArray k } : Obj)) :: Led c₀)) (hk : ∀ p ∈ ps c₀, m₀ p.1 = some p.2) (hp : P 0 c₀)
    (turn : ∀ (c : σ) i v (u : Str → Option Value) h tk own, vs[i]? = some v → P i c → OwnOff own (l :: (Led c).map (·.1)) →
      Fr h₀ env.locals h (fun y => if y = x then some v else kstB (fun z => if stored.contains z then u z else m₀ z) (ps c) y) → News h₀ env.locals h (((l, ({ cls := .type "tuple", data := .seq vs.toArray k } : Obj)) :: Led c) ++ own) →
      wpAny (model prog w) A (execs body env) (InvPostG h₀ env.locals (LedS (fun c => (l, ({ cls := .type "tuple", data := .seq vs.toArray k } : Obj)) :: Led c) ps x stored m₀ P (i + 1)) own { s with heap := h, toks := tk } Q) E { s with heap := h, toks := tk })
    (done : ∀ (c : σ) (u : Str → Option Value) h tk, P vs.length c → Fr h₀ env.locals h (fun y => if y = x then u y else kstB (fun z => if stored.contains z then u z else m₀ z) (ps c) y) → News h₀ env.locals h (Led c) → Q .next { s with heap := h, toks := tk }) :
    wpAny (model prog w) A (pyIter (.ref l)) (fun it s₂ => LoopAtV prog w A h₀ env x body Q E it s₂) E s :=
  led_tup (fun c => (l, { cls := .type "tuple", data := .seq vs.toArray k }) :: Led c) ps stored P c₀ hh F N (fun _ h => h) (fun _ => .head _) hk hp turn fun c u h tk hP F₁ N₁ => done c u h tk hP F₁ (News.less (fun _ h => .tail _ h) N₁)

theorem item_led {l : Addr} {vs : List Value} {nn : Nat} {os : List Int} {k : Int} {u : Tok} {L : Addr} {news : List (Addr × Obj)} {value slice : Expr} {Q : Value → Shared → Prop} (N : News h₀ L s.heap news) (hm : (l, PySem.W.listOf vs.toArray nn) ∈ news) (hi : IntsAre vs os) (hn : os.length ≤ 400)
    (h0 : 0 ≤ k) (h1 : k < os.length) (h : ∀ t, Q (.int (os.getD k.toNat 0) t) s)
    (hs : subscripted slice false (.ref l) (.int k u) = operate [.ref l, .int k u] (getItem (.ref l) (.int k u)) := by with_unfolding_all rfl) :
    wpAny (model prog w) A (subscriptTail value slice (.ref l) (.int k u)) Q E s := by
  have hL : s.heap.IsList l vs.toArray := ⟨_, (N _ hm).1, rfl, nn, rfl⟩
  have hlt : k.toNat < os.length := by lia
  obtain ⟨t, hx⟩ := hi.get k.toNat (os.getD k.toNat 0) (by simp [hlt])
  exact tail_any hL.typeIs slot_list_getitem.lookup (wpAny_getItem_list hL h0 (by lia) (by simpa using hx) (h t)) hs
theorem ref_led {l : Addr} {vs : List Value} {nn : Nat} {k : Int} {u : Tok} {L : Addr} {v : Value} {news : List (Addr × Obj)} {value slice : Expr} {Q : Value → Shared → Prop} (N : News h₀ L s.heap news) (hm : (l, PySem.W.listOf vs.toArray nn) ∈ news)
    (h0 : 0 ≤ k) (h1 : k < 400) (hv : vs[k.toNat]? = some v) (h : Q v s)
    (hs : subscripted slice false (.ref l) (.int k u) = operate [.ref l, .int k u] (getItem (.ref l) (.int k u)) := by with_unfolding_all rfl) :
    wpAny (model prog w) A (subscriptTail value slice (.ref l) (.int k u)) Q E s := by
  have hL : s.heap.IsList l vs.toArray := ⟨_, (N _ hm).1, rfl, nn, rfl⟩
  exact tail_any hL.typeIs slot_list_getitem.lookup (wpAny_getItem_list hL h0 (by lia) (by simpa using hv) h) hs
end
section
variable {prog : Program} {w : World} {A : Around} {E : Value → Shared → Prop} {s : Shared} {env : Env} {h₀ : Heap} {x : Str} {target : PySem.Expr} {body : List Stmt} {Q : Flow → Shared → Prop}
/-- loop_led where the target is no name -/
theorem loop_ledT {I l : Addr} {o : Obj} {n : Nat} {P : Nat → Value → Prop} {Md : Nat → Value → Heap → Prop} {St : Nat → Heap → Prop} {m₀ : Str → Option Value} {news : List (Addr × Obj)} (J : Nat → (Str → Option Value) → List (Addr × Obj) → Prop)
    (W : KTurns prog w A target I [I, l] [I] n (fun i v _ => P i v) Md St) (hI : ∀ i h, St i h → ∃ oI, h.get? I = some oI) (hLI : env.locals ≠ I) (hI0 : h₀.get? I = none) (hoff : ∀ p ∈ news, p.1 ≠ I) (hst : St 0 s.heap)
    (F : Fr h₀ env.locals s.heap m₀) (N : News h₀ env.locals s.heap news) (hj : J 0 m₀ news) (hsrc : ∀ i m nx, J i m nx → (l, o) ∈ nx)
    (turn : ∀ i v m₁ nx h tk own, i < n → P i v → J i m₁ nx → OwnOff own (nx.map (·.1)) → Fr h₀ env.locals h m₁ → News h₀ env.locals h (nx ++ own) →
      wpAny (model prog w) A (assign target env v) (fun _ s₃ => wpAny (model prog w) A (execs body env) (InvPostG h₀ env.locals (J (i + 1)) own { s with heap := h, toks := tk } Q) E s₃) E { s with heap := h, toks := tk })
    (done : ∀ m₁ nx h tk, J n m₁ nx → Fr h₀ env.locals h m₁ → News h₀ env.locals h nx → Q .next { s with heap := h, toks := tk }) :
    TurnsAt prog w A h₀ env target body Q E (.ref I) s := by
  have hlL : env.locals ≠ l := fun e => (N _ (hsrc _ _ _ hj)).2.1 e.symm
  refine ⟨I, [I, l], [I], n, fun i v _ => P i v, Md, St, m₀, news, J, rfl, W, by simp [hLI, hlL], by simpa using hI0, by simpa using hoff, hst, F, N, hj, ?_, ?_⟩
  · intro i v m₁ nx hh' tk' own hin hP hJ hnx hown hget hall hst₁ F₁ N₁
    obtain ⟨oI, hoI⟩ := hI _ _ hst₁
    have hmI : (I, oI) ∈ own := hall I (by simp) hI0 _ hoI
    have sep : OwnOff [(I, oI)] (nx.map (·.1)) := by
      intro p hp b hb e
      obtain ⟨q, hq, rfl⟩ := List.mem_map.mp hb
      rw [List.mem_singleton.mp hp] at e
      exact hnx q hq (by simpa using e.symm)
    have N₂ : News h₀ env.locals hh' (nx ++ [(I, oI)]) := fun p hp => (List.mem_append.mp hp).elim (fun h => N₁ p (List.mem_append.mpr (.inr h))) fun h => by
      rw [List.mem_singleton.mp h]; exact N₁ _ (List.mem_append.mpr (.inl hmI))
    refine wpAny_mono (turn i v m₁ nx hh' tk' [(I, oI)] hin hP hJ sep F₁ N₂) (fun _ s₃ q => wpAny_mono q (fun f s₂ p => ?_) fun _ _ e => e) fun _ _ e => e
    have hlo : hh'.get? l = some o := (N₂ _ (List.mem_append.mpr (.inl (hsrc _ _ _ hJ)))).1
    have fin : InvEndG h₀ env.locals (J (i + 1)) [(I, oI)] { s with heap := hh', toks := tk' } s₂ → LoopStepU h₀ env.locals [I] own (J (i + 1)) { s with heap := hh', toks := tk' } .next s₂ := by
      rintro ⟨h', tk, m', news', nx', e, F', N', hn, ho, ha, hm⟩
      refine ⟨rfl, h', tk, m', nx', e, F', fun p hp => ?_, fun p hp hq => ?_, hm⟩
      · rcases List.mem_append.mp hp with h | h
        · have hv : hh'.get? p.1 = some p.2 := hget p h
          rcases List.mem_cons.mp (hown p h) with h1 | h1
          · rw [h1, hoI] at hv
            have : p = (I, oI) := Prod.ext h1 (Option.some.inj hv).symm
            rw [this]; exact N' _ (ho _ (.head _))
          · have h1 := List.mem_singleton.mp h1
            rw [h1, hlo] at hv
            have : p = (l, o) := Prod.ext h1 (Option.some.inj hv).symm
            rw [this]; exact N' _ (hn _ (hsrc _ _ _ hm))
        · exact N' p (hn p h)
      · exact ha (I, oI) (.head _) p.1 (List.mem_map.mpr ⟨p, hp, rfl⟩) (List.mem_singleton.mp hq).symm
    cases f with
    | ret v => exact .ret p
    | brk => exact .brk p
    | next => exact .next (fin p)
    | cont => exact .cont (fin p)
  · exact fun h' tk m' news' F' N' _ hJ => done m' news' h' tk hJ F' N'

theorem ledT_tup {σ : Type} {l : Addr} {vs : List Value} {k : Nat} {m₀ : Str → Option Value} {news : List (Addr × Obj)} (Led : σ → List (Addr × Obj)) (ps : σ → List (Str × Value)) (x : Str) (stored : List Str) (P : Nat → σ → Prop) (c₀ : σ)
    (hh : A.handled = none) (F : Fr h₀ env.locals s.heap m₀) (N : News h₀ env.locals s.heap news) (hn : ∀ p ∈ Led c₀, p ∈ news) (hsrc : ∀ c, (l, ({ cls := .type "tuple", data := .seq vs.toArray k } : Obj)) ∈ Led c) (hk : ∀ p ∈ ps c₀, m₀ p.1 = some p.2) (hp : P 0 c₀)
    (turn : ∀ (c : σ) i v (u : Str → Option Value) h tk own, vs[i]? = some v → P i c → OwnOff own ((Led c).map (·.1)) →
      Fr h₀ env.locals h (fun y => if y = x then u y else kstB (fun z => if stored.contains z then u z else m₀ z) (ps c) y) → News h₀ env.locals h (Led c ++ own) →
      wpAny (model prog w) A (assign target env v) (fun _ s₃ => wpAny (model prog w) A (execs body env) (InvPostG h₀ env.locals (LedS Led ps x stored m₀ P (i + 1)) own { s with heap := h, toks := tk } Q) E s₃) E { s with heap := h, toks := tk })
    (done : ∀ (c : σ) (u : Str → Option Value) h tk, P vs.length c → Fr h₀ env.locals h (fun y => if y = x then u y else kstB (fun z => if stored.contains z then u z else m₀ z) (ps c) y) → News h₀ env.locals h (Led c) → Q .next { s with heap := h, toks := tk }) :
    wpAny (model prog w) A (pyIter (.ref l)) (fun it s₂ => TurnsAt prog w A h₀ env target body Q E it s₂) E s := by
  have hml := hn _ (hsrc c₀)
  have hol := (N _ hml).1
  have htl : s.heap.IsTuple l vs.toArray := ⟨_, hol, rfl, k, rfl⟩
  have hne : l ≠ s.heap.objs.size := Nat.ne_of_lt (Heap.lt_size hol)
  refine wpAny_pyIter_tuple htl ?_
  have W := KTurns.ofWalks (target := target) (Walks.tuple (prog := prog) (w := w) hh s.heap.objs.size l hne vs.toArray) fun i v s Q E st q => letGo_tupleiter st.1 q
  have up : ∀ b o, s.heap.get? b = some o → (s.heap.push { cls := .type "tuple_iterator", data := .fields #[.ref l, .int 0 0] }).get? b = some o := fun b o e => Heap.get?_push_of_some _ e
  refine loop_ledT (o := { cls := .type "tuple", data := .seq vs.toArray k }) (fun i m nx => LedS Led ps x stored m₀ P i m nx) W (fun i h st => by obtain ⟨⟨o, e, _⟩, _⟩ := st; exact ⟨o, e⟩) (Nat.ne_of_lt F.ns.lt) (next_is_new F)
    (fun p hp' => Nat.ne_of_lt (Heap.lt_size (N p (hn p hp')).1)) ⟨⟨_, Heap.get?_push_size _ rfl, rfl, rfl⟩, htl.at fun o e => up _ _ e⟩ (F.push _) (fun p hp' => ⟨up _ _ (N p (hn p hp')).1, (N p (hn p hp')).2⟩) ⟨c₀, rfl, hk, fun _ _ _ _ => rfl, hp⟩ (fun _ _ _ ⟨c, e, _⟩ => e ▸ hsrc c) ?_ ?_
  · rintro i v m₁ nx h tk own hi hv ⟨c, rfl, h1, h2, h3⟩ ho F₁ N₁
    exact turn c i v m₁ h tk own (by simpa using hv) h3 ho (kst_frOut h1 h2 F₁) N₁
  · rintro m₁ nx h tk ⟨c, rfl, h1, h2, h3⟩ F₁ N₁
    exact done c m₁ h tk (by simpa using h3) (kst_frOut h1 h2 F₁) N₁
end
theorem rows_3 : True := by
  (k_with "call ref!" => (k_here; k_dflt (refine' Con.use (at_t _ _ _ _ _ ?m1 ?m2 ?m3) ?k1 ?k2 ?k3 ?k4 ?k5 ?kK ?kd ?ku ?_; walk_at "my_con"; (case m1 | m2 | m3 => walk_at "my_om"); walk_at "i_at")))
  (k_with "i_at!" => (intro r9 nw9 h9 tk9 R9 F9 N9; obtain ⟨e9, e8, e7⟩ | ⟨d9, q9, j9, t91, t92, e9, e8, e7, l9⟩ := R9; (all_goals subst e8 e7); (all_goals (try k_lt l9)); (all_goals ((try dsimp only); (try k_fold)))))
  trivial
/-- a reading from place i on: the step, the length, fuel, place -/
noncomputable def ptsG (f : Nat → Option (Int × Nat)) (len : Nat) : Nat → Nat → Option (List Int)
  | 0, _ => some []
  | n + 1, i => if i < len then match f i with | none => none | some (q, j) => (ptsG f len n j).map (q :: ·) else some []
noncomputable def allG (f : Nat → Option (Int × Nat)) (len : Nat) : Option (List Int) := ptsG f len (len + 1) 0
noncomputable def StepsOn (f : Nat → Option (Int × Nat)) (len : Nat) : Prop := ∀ i q j, i < len → f i = some (q, j) → i < j ∧ j ≤ len
noncomputable def pointsF (os : List Int) : Option (List Int) := allG (atF os) os.length

noncomputable def RPts (ps : Option (List Int)) (news : List (Addr × Obj)) (r : Value) (nw : List (Addr × Obj)) : Prop :=
  (ps = none ∧ r = .none ∧ nw = news) ∨ ∃ l vs nn pts, ps = some pts ∧ r = .ref l ∧ nw = (l, listOf vs.toArray nn) :: news ∧ IntsAre vs pts ∧ (∀ p ∈ news, p.1 < l)
theorem rpts_none {ps : Option (List Int)} {news : List (Addr × Obj)} (e : ps = none) : RPts ps news .none news := .inl ⟨e, rfl, rfl⟩
theorem rpts_some {ps : Option (List Int)} {news : List (Addr × Obj)} {l : Addr} {its : Array Value} {nn : Nat} {pts : List Int} (e : ps = some pts) (hi : IntsAre its.toList pts) (hl : ∀ p ∈ news, p.1 < l) :
    RPts ps news (.ref l) ((l, listOf its nn) :: news) := .inr ⟨l, its.toList, nn, pts, e, rfl, by rw [Array.toArray_toList], hi, hl⟩

structure PtsSt where
  its : Array Value
  nn : Nat
  i : Nat
  k : Int
  tk : Tok
  pts : List Int
noncomputable def PPts (f : Nat → Option (Int × Nat)) (len : Nat) (c : PtsSt) : Prop := c.k = (c.i : Int) ∧ c.i ≤ len ∧ c.pts.length ≤ c.i ∧ allG f len = (ptsG f len (len + 1 - c.i) c.i).map (c.pts ++ ·)

theorem atF_gt (os : List Int) : StepsOn (atF os) os.length := by
  intro i q j hi h
  unfold atF at h
  split at h
  · cases h; omega
  · split at h
    · cases h
    · rename_i k mn pt e
      have := shape_k e
      split at h
      · cases h
      · split at h
        · cases h
        · split at h
          · cases h; omega
          · cases h
section
variable {f : Nat → Option (Int × Nat)} {len : Nat}
theorem ppts_none {c : PtsSt} (h : PPts f len c) (hi : c.k < len) (e : f c.k.toNat = none) : allG f len = none := by
  obtain ⟨h0, h1, h2, h3⟩ := h
  rw [h0] at hi e
  rw [h3, sub_up1 h1, ptsG, if_pos (Int.ofNat_lt.mp hi)]
  simp only [Int.toNat_natCast] at e
  rw [e]; rfl
/-- fuel beyond what is left changes nothing -/
theorem ptsG_fuel (hf : StepsOn f len) : ∀ (n m i : Nat), len - i < n → len - i < m → ptsG f len n i = ptsG f len m i
  | 0, _, _, h, _ => absurd h (Nat.not_lt_zero _)
  | _, 0, _, _, h => absurd h (Nat.not_lt_zero _)
  | n + 1, m + 1, i, hn, hm => by
    rw [ptsG, ptsG]
    by_cases hi : i < len
    · rw [if_pos hi, if_pos hi]
      cases e : f i with
      | none => rfl
      | some r =>
        obtain ⟨q, j⟩ := r
        have := hf i q j hi e
        dsimp only
        rw [ptsG_fuel hf n m j (by lia) (by lia)]
    · rw [if_neg hi, if_neg hi]
theorem ppts_step (hf : StepsOn f len) {c : PtsSt} {q : Int} {j : Nat} {its : Array Value} {nn : Nat} {tk : Tok} (h : PPts f len c) (hi : c.k < len) (e : f c.k.toNat = some (q, j)) :
    PPts f len ⟨its, nn, j, j, tk, c.pts ++ [q]⟩ ∧ len - j < len - c.i := by
  obtain ⟨h0, h1, h2, h3⟩ := h
  rw [h0] at hi e
  simp only [Int.toNat_natCast] at e
  have hi := Int.ofNat_lt.mp hi
  have hj := hf _ _ _ hi e
  refine ⟨⟨rfl, hj.2, by simp; omega, ?_⟩, Nat.sub_lt_sub_left hi hj.1⟩
  rw [h3, sub_up1 h1, ptsG, if_pos hi, e]
  dsimp only
  rw [ptsG_fuel hf (len - c.i) (len + 1 - j) j (by lia) (by lia), Option.map_map]
  congr 1
  funext l
  simp
theorem ppts_next (hf : StepsOn f len) {c : PtsSt} {q q' k' : Int} {j : Nat} {its : Array Value} {nn : Nat} {tk : Tok} (h : PPts f len c) (hi : c.k < len) (e : f c.k.toNat = some (q, j)) (hk : k' = (j : Int)) (hq : q' = q) :
    PPts f len ⟨its, nn, j, k', tk, c.pts ++ [q']⟩ ∧ len - j < len - c.i := by
  subst hk hq
  exact ppts_step hf h hi e
theorem ppts_done {c : PtsSt} (h : PPts f len c) (hi : ¬ c.k < len) : allG f len = some c.pts := by
  obtain ⟨h0, h1, h2, h3⟩ := h
  rw [h3, sub_up1 h1, ptsG, if_neg (fun z => hi (by rw [h0]; exact Int.ofNat_lt.mpr z))]
  simp
theorem ppts_start (its : Array Value) (nn : Nat) (tk : Tok) : PPts f len ⟨its, nn, 0, 0, tk, []⟩ := ⟨rfl, Nat.zero_le _, Nat.le_refl _, by show allG f len = (ptsG f len _ _).map _; simp [allG]⟩
end
theorem ints_push {its : Array Value} {pts : List Int} {q : Int} {t : Tok} (h : IntsAre its.toList pts) : IntsAre (its.push (.int q t)).toList (pts ++ [q]) := by
  rw [Array.toList_push]; exact h.append (.cons _ _ .nil)

set_option maxHeartbeats 8000000 in
theorem points_t (news : List (Addr × Obj)) (x : Str) (t : Tok) (hx : x.length ≤ 200) : Con 403 9 news [.str x t] (RPts (pointsF (osOf x)) news) := by
  walk_at "my_start"
  k_steps
  rename_i l _ l1 _ _ lF lN
  unfold Stop
  have hMk : KstMark := kstMark
  have hxl := osOf_length x
  with_unfolding_all refine' ksw_while (σ := PtsSt) (fun c => (l, W.listOf c.its c.nn) :: news) (fun c => [(Str.ofString "at", .int c.k c.tk)]) (fun c => IntsAre c.its.toList c.pts) [Str.ofString "found"] (PPts (atF (osOf x)) (osOf x).length) (fun c => (osOf x).length - c.i) ⟨#[], 0, 0, 0, _, []⟩ lF lN .nil ?w1 ?w2 ?_
  case w1 => intro p hp; rw [List.mem_singleton.mp hp]; rfl
  case w2 => exact ppts_start _ _ _
  intro c u h9 tk9 hI hP F9 N9
  clear lF lN
  have hk : 0 ≤ c.k ∧ c.k ≤ (osOf x).length := by have := hP.1; have := hP.2.1; omega
  have hsz : c.its.size ≤ 200 := by have h7 := hI.length; have h8 := hP.2.2.1; have := hP.2.1; rw [Array.length_toList] at h7; omega
  (try dsimp only)
  try k_fold
  k_steps
  · exact fin hret (by assumption) (News.less (fun _ h => .tail _ h) (by assumption)) (rpts_none (ppts_none hP (by lia) e9))
  · unfold Stop
    obtain ⟨p1, p2⟩ := ppts_step (atF_gt _) (its := c.its.push (.int q9 t91)) (nn := c.nn + 1) (tk := t92) hP (by lia) e9
    (rename Fr _ _ _ _ => lF'); (rename News _ _ _ _ => lN')
    refine' ksw_end (⟨c.its.push (.int q9 t91), c.nn + 1, j9, j9, t92, c.pts ++ [q9]⟩ : PtsSt) lF' lN' ?w3 (ints_push hI) ?w4 ?w5 p1 p2
    case w3 => exact fun p hp => .tail _ hp
    case w4 => intro p hp; rw [List.mem_singleton.mp hp]; rfl
    case w5 =>
      intro z hp hs
      have hz2 : z ≠ Str.ofString "at" := hp _ (List.mem_singleton.mpr rfl)
      have hz3 : z ≠ Str.ofString "found" := fun e => by rw [e] at hs; exact absurd hs (by decide)
      simp only [hz2, hz3, if_false, kstB, hs]
      rfl
  · exact fin hret (by assumption) (by assumption) (rpts_some (ppts_done hP (by lia)) hI l1)
section
variable {prog : Program} {w : World} {A : Around} {E : Value → Shared → Prop} {s : Shared} {h₀ : Heap} {L : Addr} {m : Str → Option Value} {env : Env}
theorem compEnd_mono {s₁ s₂ : Shared} {I C D : Addr} {oI oC oD : Obj} {S : List (Addr × Obj) → Prop} {rest rest' : Value → List (Addr × Obj) → Prop} {y : Value} (h : LCg.CompEnd h₀ L m s₁ I oI C oC D oD S rest y s₂) (k : ∀ y nx, rest y nx → rest' y nx) :
    LCg.CompEnd h₀ L m s₁ I oI C oC D oD S rest' y s₂ := by
  obtain ⟨h', tk, nx, e, F, N, o, hS, r⟩ := h
  exact ⟨h', tk, nx, e, F, N, o, hS, k _ _ r⟩
/-- a comprehension by what holds after i items -/
theorem comp_rest {elt : Expr} {x : Str} {scope : Scope} {cl : List (Str × Addr)} {S : List (Addr × Obj) → Prop} {P : Nat → Value → Prop} {Fin : List Value → List (Addr × Obj) → Prop} (n : Nat) (Inv : Nat → List Value → List (Addr × Obj) → Prop)
    (step : ∀ i ys nx, i < n → Inv i ys nx → ∀ v I oI C oC D m₂ h tk (E' : Value → Shared → Prop), P i v → LCg.NsObj oC m₂ → m₂ x = some v → Fr h₀ L h m → News h₀ L h ((I, oI) :: (C, oC) :: (D, LCg.lst ys) :: nx) → LCg.Off3 I C D nx → ((@Ne Nat I C) ∧ (@Ne Nat I D) ∧ (@Ne Nat C D)) →
      wpAny (model prog w) A (eval elt (compEnvC scope cl C env)) (LCg.CompEnd h₀ L m { s with heap := h, toks := tk } I oI C oC D (LCg.lst ys) S (fun y nx' => Inv (i + 1) (ys ++ [y]) nx')) E' { s with heap := h, toks := tk })
    (fin : ∀ ys nx, Inv n ys nx → Fin ys nx) : ∀ k i ys nx, i + k = n → Inv i ys nx → LCg.CompRest prog w A h₀ L m env elt x scope cl s S P Fin k i ys nx
  | 0, i, ys, nx, e, hI => LCg.CompRest.zero (fin ys nx (by rw [← e]; exact hI))
  | k + 1, i, ys, nx, e, hI => LCg.CompRest.succ fun v I oI C oC D m₂ h tk E' hv hC hx F N o ne =>
      wpAny_mono (step i ys nx (by lia) hI v I oI C oC D m₂ h tk E' hv hC hx F N o ne) (fun y s₂ q => compEnd_mono q fun y nx' r => comp_rest n Inv step fin k (i + 1) (ys ++ [y]) nx' (by lia) r) fun _ _ x => x

/-- a comprehension over a tuple of the ledger -/
noncomputable def SrcT (prog : Program) (w : World) (A : Around) (h₀ : Heap) (L : Addr) (m : Str → Option Value) (env : Env) (elt : Expr) (x : Str) (scope : Scope) (cl : List (Str × Addr)) (Q : Value → Shared → Prop) (xv : Value) (s₁ : Shared) : Prop :=
  ∃ ax vs k news, xv = .ref ax ∧ A.handled = none ∧ Fr h₀ L s₁.heap m ∧ News h₀ L s₁.heap news ∧ (ax, ({ cls := .type "tuple", data := .seq (vs : List Value).toArray k } : Obj)) ∈ news ∧ vs.length ≤ 400 ∧
    ∀ g, LCg.CompRest prog w A h₀ L m env elt x scope cl { s₁ with heap := g } (fun nx => (ax, ({ cls := .type "tuple", data := .seq vs.toArray k } : Obj)) ∈ nx) (fun i v => vs[i]? = some v) (LCg.FinE h₀ L m { s₁ with heap := g } Q) vs.length 0 [] news
theorem comp_tup {elt iter : Expr} {x : Str} {px : Pos} {scope : Scope} {cl : List (Str × Addr)} {pos : Pos} {Q : Value → Shared → Prop} (F₀ : Fr h₀ L s.heap m)
    (hclos : closureFor scope env = pure cl) (hcell : ∀ y ∈ scope.names, y.2 ≠ .cell) (hkind : scope.kind = .function)
    (hnames : ∀ y ∈ scope.names, y.2 = .local → scope.names.lookup y.1 = some .local) (hx : scope.names.lookup x = some .local)
    (h : wpAny (model prog w) A (eval iter env) (SrcT prog w A h₀ L m env elt x scope cl Q) E s)
    (hs : ∀ x, foldedSetIterable iter env x = pure x := by intro _; rfl) :
    wpAny (model prog w) A (eval (.ListComp elt [⟨.Name x px, iter, [], 0⟩] scope pos) env) Q E s := by
  rw [eval_ListComp]
  refine wpAny_comprehension_free (use := none) rfl hs hclos hkind hnames (wpAny_mono h ?_ fun _ _ e => e)
  rintro _ s₁ ⟨ax, vs, k, nx, rfl, hh, F, N, hm, hz, go⟩
  have eT := (N _ hm).1
  refine wpAny_pyIter_tuple ⟨_, eT, rfl, k, rfl⟩ ?_
  have W := Walks.tuple (prog := prog) (w := w) hh s₁.heap.objs.size ax (Nat.ne_of_lt (Heap.lt_size eT)) vs.toArray
  rw [show vs.toArray.size = vs.length from List.size_toArray] at W
  simp only [List.getElem?_toArray] at W
  have go := go (s₁.heap.push { cls := .type "tuple_iterator", data := .fields #[.ref ax, .int 0 0] })
  have sz := Heap.size_push s₁.heap (o := { cls := .type "tuple_iterator", data := .fields #[.ref ax, .int 0 0] })
  have itI := Heap.get?_push_size (o := { cls := .type "tuple_iterator", data := .fields #[.ref ax, .int 0 0] }) s₁.heap rfl
  have grow : ∀ b o, s₁.heap.get? b = some o → (s₁.heap.push { cls := .type "tuple_iterator", data := .fields #[.ref ax, .int 0 0] }).get? b = some o := fun _ _ => Heap.get?_push_of_some _
  have low : ∀ b o, s₁.heap.get? b = some o → b < s₁.heap.objs.size := fun _ _ => Heap.lt_size
  have i0 := next_is_new F
  have li := Nat.ne_of_lt F.ns.lt
  generalize s₁.heap.push { cls := .type "tuple_iterator", data := .fields #[.ref ax, .int 0 0] } = g at go sz itI grow ⊢
  generalize s₁.heap.objs.size = I at W sz itI low i0 li ⊢
  refine LCg.block_U (S := fun nx => (ax, ({ cls := .type "tuple", data := .seq vs.toArray k } : Obj)) ∈ nx) W (Nat.le_trans hz (by decide)) (fun _ _ st => st.1.imp fun _ e => e.1) ?_ hcell hkind hx ⟨⟨_, itI, rfl, rfl⟩, _, grow _ _ eT, rfl, k, rfl⟩ ?_
    (F.keeps grow) (N.grown grow) li i0 (fun p hp => Nat.ne_of_lt (low _ _ (N p hp).1)) hm go ?_
  · rintro i h h' o nw ⟨⟨o', e', r⟩, _⟩ e q _ Nw S
    rw [e] at e'
    obtain rfl := Option.some.inj e'
    exact ⟨⟨o, q, r⟩, _, (Nw _ S).1, rfl, k, rfl⟩
  · intro b hb
    show b < g.objs.size
    rw [sz]
    cases hb with
    | head => exact Nat.lt_succ_self _
    | tail _ hb => rw [List.mem_singleton.mp hb]; exact Nat.lt_succ_of_lt (low _ _ eT)
  · exact fun D C h tk m' ys nx' F' N' o1 hn c0 _ cl _ cd offC fin => ⟨m', hn, fun g' sb => fin D g' tk (F'.change sb cl c0) (fun p hp => ⟨sb.extBut _ _ (by cases hp with | head => exact cd.symm | tail _ hp => exact offC p hp) (N' p hp).1, (N' p hp).2⟩) o1⟩
end
noncomputable def hexd (k : Int) : Nat := (Str.ofString "0123456789abcdef").cps.getD k.toNat 0
noncomputable def tx (l : List Nat) : Str := ⟨l.toArray⟩
theorem tx_append (a b : List Nat) : tx a ++ tx b = tx (a ++ b) := by
  show (⟨a.toArray ++ b.toArray⟩ : Str) = ⟨(a ++ b).toArray⟩
  simp
theorem tx_len (l : List Nat) : (tx l).length = l.length := by show l.toArray.size = _; simp
theorem hex_is {i : Int} (h0 : 0 ≤ i) (h1 : i < 16) : Txt.item (Str.ofString "0123456789abcdef") i = tx [hexd i] := by
  have h : ∀ k : Fin 16, Txt.item (Str.ofString "0123456789abcdef") ((k.val : Nat) : Int) = tx [hexd ((k.val : Nat) : Int)] := by decide +kernel
  have := h ⟨i.toNat, by omega⟩
  simpa [Int.toNat_of_nonneg h0] using this
section
variable {prog : Program} {w : World} {A : Around} {E : Value → Shared → Prop} {s : Shared} {value slice : PySem.Expr} {t u : Tok} {i : Int} {Q : Value → Shared → Prop}
theorem hex_item (h0 : 0 ≤ i) (h1 : i < 16) (h : Q (.str (tx [hexd i]) s.toks) { s with toks := s.toks + 1 })
    (hs : subscripted slice false (.str (Str.ofString "0123456789abcdef") t) (.int i u) = operate [.str (Str.ofString "0123456789abcdef") t, .int i u] (getItem (.str (Str.ofString "0123456789abcdef") t) (.int i u)) := by with_unfolding_all rfl)
    (ht : ∀ r, letTemporaryGo value (.str (Str.ofString "0123456789abcdef") t) r = pure () := by intro _; with_unfolding_all rfl) :
    wpAny (model prog w) A (subscriptTail value slice (.str (Str.ofString "0123456789abcdef") t) (.int i u)) Q E s :=
  KXi.item (n := 16) (by decide +kernel) (by omega) (by omega) (by decide) (fun _ => by rw [hex_is h0 h1]; exact h) hs ht
end
/-- the four figures of 16 bits -/
noncomputable def digs (n : Int) : List Nat := [hexd (n / 4096 % 16), hexd (n / 256 % 16), hexd (n / 16 % 16), hexd (n % 16)]
noncomputable def unitL (n : Int) : List Nat := [92, 117] ++ digs n
noncomputable def RStr (l : List Nat) (news : List (Addr × Obj)) (r : Value) (nw : List (Addr × Obj)) : Prop := nw = news ∧ ∃ t, r = .str (tx l) t
/-- the same in one world: a call of the def at f with these arguments, over this ledger, hands back what Ret says -/
noncomputable def ConW (w : World) (f : Addr) (room : Nat) (news : List (Addr × Obj)) (args : List Value) (Ret : Value → List (Addr × Obj) → Prop) : Prop :=
  ∀ (p : Program) (loose : List Str) (mean : ExcName → Option Value) (mg mb : Str → Option Value)
    (dp un : Nat) (gd : Option (List Code)) (cn : Str) (cs : Scope) (a : Addr) (ccd : Value) (cl : List (Str × Addr)) (outer : List Env) (A₀ : Around) (base h₀ : Heap) (L : Addr) (m : Str → Option Value) (s : Shared) (Q E : Value → Shared → Prop),
    Below A₀ base outer h₀ → Fr h₀ L s.heap m → (fr.heap_1 w.params).In h₀ → News h₀ L s.heap news → Top p loose mean mg mb h₀ → cs.kind = .function →
    dp + room < recursionLimit → un + 8 * room < cLine →
    (∀ r news' h' tk', Ret r news' → Fr h₀ L h' m → News h₀ L h' news' → Q r { s with heap := h', toks := tk' }) →
    wpAny (model PySem.Challenge.rw_ov0010_01.row.prog w) (ktrTop dp un gd cn cs L a ccd cl outer) (call (.ref f) args) Q E s

theorem ConW.use {w : World} {f : Addr} {room : Nat} {news : List (Addr × Obj)} {args : List Value} {Ret : Value → List (Addr × Obj) → Prop} (C : ConW w f room news args Ret)
    {p : Program} {loose : List Str} {mean : ExcName → Option Value} {mg mb : Str → Option Value}
    {dp un : Nat} {gd : Option (List Code)} {cn : Str} {cs : Scope} {a : Addr} {ccd : Value} {cl : List (Str × Addr)} {outer : List Env} {A₀ : Around} {base h₀ : Heap} {L : Addr} {m : Str → Option Value} {s : Shared} {Q E : Value → Shared → Prop}
    (B : Below A₀ base outer h₀) (F : Fr h₀ L s.heap m) (X : (fr.heap_1 w.params).In h₀) (N : News h₀ L s.heap news) (T : Top p loose mean mg mb h₀) (hk : cs.kind = .function)
    (hd : dp + room < recursionLimit) (hu : un + 8 * room < cLine)
    (ret : ∀ r news' h' tk', Ret r news' → Fr h₀ L h' m → News h₀ L h' news' → Q r { s with heap := h', toks := tk' }) :
    wpAny (model PySem.Challenge.rw_ov0010_01.row.prog w) (ktrTop dp un gd cn cs L a ccd cl outer) (call (.ref f) args) Q E s :=
  C p loose mean mg mb dp un gd cn cs a ccd cl outer A₀ base h₀ L m s Q E B F X N T hk hd hu ret
noncomputable def sgn (o : Int) : Str := ⟨#[o.toNat]⟩
noncomputable def strOf (os : List Int) : Str := ⟨(os.map Int.toNat).toArray⟩
/-- utf8_text's octets of a point -/
noncomputable def octF (n : Int) : List Int :=
  if n < 128 then [n]
  else if n < 2048 then [Builtin.bitOr 192 (n.fdiv (2 ^ Int.toNat 6)), Builtin.bitOr 128 (Builtin.bitAnd n 63)]
  else if n < 65536 then [Builtin.bitOr 224 (n.fdiv (2 ^ Int.toNat 12)), Builtin.bitOr 128 (Builtin.bitAnd (n.fdiv (2 ^ Int.toNat 6)) 63), Builtin.bitOr 128 (Builtin.bitAnd n 63)]
  else [Builtin.bitOr 240 (n.fdiv (2 ^ Int.toNat 18)), Builtin.bitOr 128 (Builtin.bitAnd (n.fdiv (2 ^ Int.toNat 12)) 63), Builtin.bitOr 128 (Builtin.bitAnd (n.fdiv (2 ^ Int.toNat 6)) 63), Builtin.bitOr 128 (Builtin.bitAnd n 63)]
noncomputable def textF (ns : List Int) : List Int := ns.flatMap octF
theorem oct1 {n : Int} (h : n < 128) : octF n = [n] := by unfold octF; rw [if_pos h]
theorem oct2 {n : Int} (h : 128 ≤ n) (h1 : n < 2048) : octF n = [Builtin.bitOr 192 (n.fdiv (2 ^ Int.toNat 6)), Builtin.bitOr 128 (Builtin.bitAnd n 63)] := by unfold octF; rw [if_neg (by lia), if_pos h1]
theorem oct3 {n : Int} (h : 2048 ≤ n) (h1 : n < 65536) : octF n = [Builtin.bitOr 224 (n.fdiv (2 ^ Int.toNat 12)), Builtin.bitOr 128 (Builtin.bitAnd (n.fdiv (2 ^ Int.toNat 6)) 63), Builtin.bitOr 128 (Builtin.bitAnd n 63)] := by unfold octF; rw [if_neg (by lia), if_neg (by lia), if_pos h1]
theorem oct4 {n : Int} (h : 65536 ≤ n) : octF n = [Builtin.bitOr 240 (n.fdiv (2 ^ Int.toNat 18)), Builtin.bitOr 128 (Builtin.bitAnd (n.fdiv (2 ^ Int.toNat 12)) 63), Builtin.bitOr 128 (Builtin.bitAnd (n.fdiv (2 ^ Int.toNat 6)) 63), Builtin.bitOr 128 (Builtin.bitAnd n 63)] := by unfold octF; rw [if_neg (by lia), if_neg (by lia), if_neg (by lia)]
theorem textF_snoc (ns : List Int) (n : Int) : textF (ns ++ [n]) = textF ns ++ octF n := by simp [textF]

theorem sum_ones : ∀ os : List Int, (os.map ((fun x : Str => x.length) ∘ sgn)).sum = os.length
  | [] => rfl
  | _ :: r => by rw [List.map_cons, List.sum_cons, sum_ones r, List.length_cons]; show 1 + _ = _; omega
theorem join_nil : ∀ ys : List Str, Str.join (Str.ofString "") ys = ⟨(ys.flatMap (·.cps.toList)).toArray⟩
  | [] => rfl
  | [x] => by show x = _; simp
  | x :: y :: r => by
    show (⟨(x.cps ++ (Str.ofString "").cps) ++ (Str.join (Str.ofString "") (y :: r)).cps⟩ : Str) = _
    rw [join_nil (y :: r), show (Str.ofString "").cps = #[] by decide +kernel]
    simp
theorem txt_join_nil (ys : List Str) : Txt.join (Str.ofString "") ys = ⟨(ys.flatMap (·.cps.toList)).toArray⟩ := (StrLaws.glued_eq_join _ _).trans (join_nil ys)
theorem glued_nil (os : List Int) : (Txt.join (Str.ofString "") (os.map sgn)) = strOf os := by
  rw [txt_join_nil]
  unfold strOf
  congr 1
  rw [List.flatMap_map]
  congr 1
  induction os with
  | nil => rfl
  | cons a r ih => rw [List.flatMap_cons, List.map_cons, ih]; rfl
theorem or_192 (x : Int) (h0 : 0 ≤ x) (h1 : x < 32) : Builtin.bitOr 192 x = 192 + x := by
  have h : ∀ k : Fin 32, Builtin.bitOr 192 ((k.val : Nat) : Int) = 192 + ((k.val : Nat) : Int) := by decide +kernel
  have := h ⟨x.toNat, by lia⟩
  simpa [Int.toNat_of_nonneg h0] using this
theorem or_224 (x : Int) (h0 : 0 ≤ x) (h1 : x < 16) : Builtin.bitOr 224 x = 224 + x := by
  have h : ∀ k : Fin 16, Builtin.bitOr 224 ((k.val : Nat) : Int) = 224 + ((k.val : Nat) : Int) := by decide +kernel
  have := h ⟨x.toNat, by lia⟩
  simpa [Int.toNat_of_nonneg h0] using this
theorem or_240 (x : Int) (h0 : 0 ≤ x) (h1 : x < 8) : Builtin.bitOr 240 x = 240 + x := by
  have h : ∀ k : Fin 8, Builtin.bitOr 240 ((k.val : Nat) : Int) = 240 + ((k.val : Nat) : Int) := by decide +kernel
  have := h ⟨x.toNat, by lia⟩
  simpa [Int.toNat_of_nonneg h0] using this
theorem or_128 (x : Int) (h0 : 0 ≤ x) (h1 : x < 64) : Builtin.bitOr 128 x = 128 + x := by
  have h : ∀ k : Fin 64, Builtin.bitOr 128 ((k.val : Nat) : Int) = 128 + ((k.val : Nat) : Int) := by decide +kernel
  have := h ⟨x.toNat, by lia⟩
  simpa [Int.toNat_of_nonneg h0] using this
theorem sh_6 (n : Int) : n.fdiv (2 ^ Int.toNat 6) = n / 64 := by rw [Int.fdiv_eq_ediv_of_nonneg _ (by decide)]; rfl
theorem sh_12 (n : Int) : n.fdiv (2 ^ Int.toNat 12) = n / 4096 := by rw [Int.fdiv_eq_ediv_of_nonneg _ (by decide)]; rfl
theorem sh_18 (n : Int) : n.fdiv (2 ^ Int.toNat 18) = n / 262144 := by rw [Int.fdiv_eq_ediv_of_nonneg _ (by decide)]; rfl
/-- the octets in figures of base 64 -/
theorem octF_eq {n : Int} (h0 : 0 ≤ n) (h1 : n < 2097152) : octF n =
    if n < 128 then [n] else if n < 2048 then [192 + n / 64, 128 + n % 64] else if n < 65536 then [224 + n / 4096, 128 + n / 64 % 64, 128 + n % 64] else [240 + n / 262144, 128 + n / 4096 % 64, 128 + n / 64 % 64, 128 + n % 64] := by
  unfold octF
  simp only [sh_6, sh_12, sh_18, bitAnd_m6]
  split
  · rfl
  · split
    · rw [or_192 _ (by lia) (by lia), or_128 _ (by lia) (by lia)]
    · split
      · rw [or_224 _ (by lia) (by lia), or_128 _ (by lia) (by lia), or_128 _ (by lia) (by lia)]
      · rw [or_240 _ (by lia) (by lia), or_128 _ (by lia) (by lia), or_128 _ (by lia) (by lia), or_128 _ (by lia) (by lia)]
theorem oct_b (x : Int) : 0 ≤ 128 + x % 64 ∧ 128 + x % 64 ≤ 255 := by lia
theorem oct_l {c m n : Int} (h0 : 0 ≤ n) (hm : 0 < m) (hc : 0 ≤ c) (h : n < m * (256 - c)) : 0 ≤ c + n / m ∧ c + n / m ≤ 255 :=
  ⟨Int.add_nonneg hc (Int.ediv_nonneg h0 (Int.le_of_lt hm)), by
    have := (Int.ediv_lt_iff_lt_mul hm).mpr (Int.mul_comm _ _ ▸ h); omega⟩
theorem octF_range {n : Int} (h0 : 0 ≤ n) (h1 : n < 2097152) : ∀ o ∈ octF n, 0 ≤ o ∧ o ≤ 255 := by
  rw [octF_eq h0 h1]
  split
  · exact List.forall_mem_singleton.mpr ⟨h0, by omega⟩
  · split
    · exact List.forall_mem_cons.mpr ⟨oct_l h0 (by decide) (by decide) (Int.lt_trans (by assumption) (by decide)), List.forall_mem_singleton.mpr (oct_b _)⟩
    · split
      · exact List.forall_mem_cons.mpr ⟨oct_l h0 (by decide) (by decide) (Int.lt_trans (by assumption) (by decide)), List.forall_mem_cons.mpr ⟨oct_b _, List.forall_mem_singleton.mpr (oct_b _)⟩⟩
      · exact List.forall_mem_cons.mpr ⟨oct_l h0 (by decide) (by decide) (Int.lt_trans h1 (by decide)), List.forall_mem_cons.mpr ⟨oct_b _, List.forall_mem_cons.mpr ⟨oct_b _, List.forall_mem_singleton.mpr (oct_b _)⟩⟩⟩
theorem octF_len (n : Int) : (octF n).length ≤ 4 := by
  unfold octF; repeat' split
  all_goals simp

structure SgSt where
  its : Array Value
  nn : Nat
  os : List Int
theorem strs_push {its : Array Value} {os : List Int} {o : Int} {t : Tok} (h : StrsAre its.toList (os.map sgn)) : StrsAre (its.push (.str ⟨#[o.toNat]⟩ t)).toList ((os ++ [o]).map sgn) := by
  rw [Array.toList_push, List.map_append]
  exact h.append' (.cons _ _ .nil)
/-- what holds in the inner loop -/
noncomputable def PIn (os₀ os' : List Int) (sz : Nat) (i : Nat) (c : SgSt) : Prop := StrsAre c.its.toList (c.os.map sgn) ∧ c.os = os₀ ++ os'.take i ∧ c.its.size = sz + i
theorem pin_step {os₀ os' : List Int} {sz i : Nat} {c : SgSt} {o : Int} {t : Tok} (h : PIn os₀ os' sz i c) (e : os'[i]? = some o) : PIn os₀ os' sz (i + 1) ⟨c.its.push (.str ⟨#[o.toNat]⟩ t), c.nn + 1, c.os ++ [o]⟩ := by
  obtain ⟨h1, h2, h3⟩ := h
  refine ⟨strs_push h1, ?_, by simp [h3]; omega⟩
  show c.os ++ [o] = _
  rw [h2, List.take_add_one, e, List.append_assoc]
  rfl

noncomputable def RText (os : List Int) (news : List (Addr × Obj)) (r : Value) (nw : List (Addr × Obj)) : Prop := nw = news ∧ ∃ t, r = .str (strOf os) t

set_option maxHeartbeats 8000000 in
theorem text_t (news : List (Addr × Obj)) (l : Addr) (vs : List Value) (nn : Nat) (ns : List Int) (hl : (l, listOf vs.toArray nn) ∈ news) (hi : IntsAre vs ns) (hn : ns.length ≤ 200) (hr : ∀ n ∈ ns, 0 ≤ n ∧ n < 2097152) :
    Con 410 6 news [.ref l] (RText (textF ns) news) := by
  walk_at "my_start"
  k_steps
  rename_i l0 _ l1 _ lF lN
  unfold Stop
  have hMk : KstMark := kstMark
  with_unfolding_all refine' kst_listL (σ := SgSt) (fun c => (l0, W.listOf c.its c.nn) :: news) (fun c => []) (fun c => StrsAre c.its.toList (c.os.map sgn)) [Str.ofString "octets", Str.ofString "octet"] (fun pre c => c.its.size ≤ 4 * pre.length ∧ c.os = textF pre) ⟨#[], 0, []⟩ (by rfl) (fun c => .tail _ hl) (by assumption) lF lN .nil ?w1 ?w2 ?_ ?_
  case w1 => exact fun _ hp => nomatch hp
  case w2 => exact ⟨Nat.zero_le _, rfl⟩
  · intro c pre post n tn u h9 tk9 own hq hmem hoff hS hP F9 N9
    clear lF lN
    have hsz : c.its.size ≤ 800 := by have h8 := congrArg List.length hq; simp at h8; omega
    have hnr := hr n hmem
    simp only [List.cons_append] at N9
    (try dsimp only)
    try k_fold
    k_steps
    all_goals
      unfold Stop
      (rename Fr _ _ _ _ => lF'); (rename News _ _ _ _ => lN')
      (first | have hoct := oct1 (n := n) (by lia) | have hoct := oct2 (n := n) (by lia) (by lia) | have hoct := oct3 (n := n) (by lia) (by lia) | have hoct := oct4 (n := n) (by lia))
      with_unfolding_all refine' led_tupH (σ := SgSt) (fun c' => (l0, W.listOf c'.its c'.nn) :: (news ++ own)) (fun _ => []) [] (PIn c.os (octF n) c.its.size) c (by rfl) lF' lN' ?_ ?_ ?_ ?_
      · exact fun _ hp => nomatch hp
      · exact ⟨hS, by simp, rfl⟩
      · intro c' i v u h9 tk9 own9 hv hP9 ho9 F9 N9
        clear lF' lN'
        obtain ⟨o, to, rfl, ho⟩ : ∃ o to, v = Value.int o to ∧ (octF n)[i]? = some o := by
          rw [hoct]
          exact IntsAre.at (by first | exact .cons _ _ .nil | exact .cons _ _ (.cons _ _ .nil) | exact .cons _ _ (.cons _ _ (.cons _ _ .nil)) | exact .cons _ _ (.cons _ _ (.cons _ _ (.cons _ _ .nil)))) i v hv
        have hor := octF_range hnr.1 hnr.2 o (List.mem_of_getElem? ho)
        have hc2 : c'.its.size ≤ 1204 := by
          have := hP9.2.2; have := octF_len n; have := (List.getElem?_eq_some_iff.mp ho).1; omega
        simp only [List.cons_append] at N9
        (try dsimp only)
        try k_fold
        k_steps
        unfold Stop
        (rename Fr _ _ _ _ => lF'); (rename News _ _ _ _ => lN')
        refine' led_end (⟨c'.its.push (.str ⟨#[o.toNat]⟩ _), c'.nn + 1, c'.os ++ [o]⟩ : SgSt) lF' lN' ?_ ?_ ?_ ?_ ?_ (pin_step hP9 ho)
        · exact fun p hp => (List.mem_append (t := own9)).mpr (.inl hp)
        · exact fun p hp => (List.mem_append (s := _ :: _ :: (news ++ own))).mpr (.inr hp)
        · exact ho9
        · exact fun _ hp => nomatch hp
        · intro z hz hp hs
          simp only [hz, if_false, kstB, hs]
          rfl
      · intro c' u h9 tk9 hP9 F9 N9
        (try dsimp only)
        try k_fold
        k_steps
        unfold Stop
        (rename Fr _ _ _ _ => lF'); (rename News _ _ _ _ => lN')
        obtain ⟨q1, q2, q3⟩ := hP9
        have q4 := octF_len n
        refine' kst_end c' lF' lN' ?_ ?_ rfl q1 ?_ ?_ ?_
        · intro p hp; rcases List.mem_cons.mp hp with h | h
          · rw [h]; exact .head _
          · exact .tail _ (List.mem_append.mpr (.inl h))
        · exact fun _ h => .tail _ (List.mem_append.mpr (.inr h))
        · exact fun _ hp => nomatch hp
        · intro z hz hp hs
          have hz2 : z ≠ Str.ofString "octets" := fun e => by rw [e] at hs; exact absurd hs (by decide)
          have hz3 : z ≠ Str.ofString "octet" := fun e => by rw [e] at hs; exact absurd hs (by decide)
          simp only [hz, hz2, hz3, if_false, kstB, hs]
          rfl
        · refine ⟨?_, ?_⟩
          · rw [q3, List.length_append]; have := hP.1; have q5 : List.length [n] = 1 := rfl; rw [hoct] at q4; dsimp only [List.length] at q4 ⊢; omega
          · rw [q2, textF_snoc, hP.2, List.take_of_length_le (by rw [hoct]; exact Nat.le_refl _)]
  · intro c u h9 tk9 hS hP F9 N9
    have hW : ((c.os.map sgn).map (·.length)).sum + (c.os.map sgn).length ≤ 1048576 := by
      have h7 := hS.length
      have h8 : ((c.os.map sgn).map (·.length)).sum = c.os.length := by rw [List.map_map]; exact sum_ones _
      simp only [Array.length_toList, List.length_map] at h7
      rw [h8, List.length_map]; omega
    (try dsimp only)
    try k_fold
    k_steps
    unfold Stop
    refine join_listW (items := c.its) (ys := c.os.map sgn) ⟨_, (N9 _ (.head _)).1, rfl, _, rfl⟩ hS (by decide) hW ?_
    intro tj kj
    rw [glued_nil, hP.2]
    (try dsimp only)
    k_steps
    exact fin hret (by assumption) (News.less (fun _ h => .tail _ h) (by assumption)) ⟨rfl, _, rfl⟩
theorem digs_at {n p : Int} {i : Nat} (hp : p = 12 - 4 * (i : Int)) (hi : i < 4) : (digs n)[i]? = some (hexd (Builtin.bitAnd (n.fdiv (2 ^ p.toNat)) 15)) := by
  subst hp
  rw [bitAnd_m4, Int.fdiv_eq_ediv_of_nonneg _ (by exact Int.pow_nonneg (by decide))]
  match i, hi with
  | 0, _ => rfl
  | 1, _ => rfl
  | 2, _ => rfl
  | 3, _ => show some (hexd (n % 16)) = some (hexd (n / 1 % 16)); rw [Int.ediv_one]
theorem rows_4 : True := by
  (k_with "subscriptTail!" => (k_here; (with_reducible show wpAny _ _ (subscriptTail _ _ (Value.str (Str.ofString "0123456789abcdef") _) (Value.int _ _)) _ _ _); refine hex_item ?_ ?_ ?_; (focus first | omega | exact (bitAnd_range _ (by decide)).1 | exact fmod_lo _ (by decide)); (focus first | omega | exact Int.lt_of_le_of_lt (bitAnd_range _ (by decide)).2 (by decide) | exact fmod_hi _ (by decide))))
  trivial

set_option maxHeartbeats 8000000 in
theorem unit_t (news : List (Addr × Obj)) (n : Int) (t : Tok) (h0 : 0 ≤ n) (h1 : n < 65536) : Con 445 3 news [.int n t] (RStr (unitL n) news) := by
  walk_at "my_start"
  k_steps
  unfold Stop
  (rename Fr _ _ _ _ => lF'); (rename News _ _ _ _ => lN')
  with_unfolding_all refine' led_tupH (σ := Str × Tok) (fun _ => news) (fun c => [(Str.ofString "made", .str c.1 c.2)]) [] (fun i c => c.1 = tx ((digs n).take i)) (Str.ofString "", tk) (by rfl) lF' lN' ?_ ?_ ?_ ?_
  · intro p hp; rw [List.mem_singleton.mp hp]; rfl
  · show Str.ofString "" = tx []; decide +kernel
  · intro c i v u h9 tk9 own9 hv hP9 ho9 F9 N9
    clear lF' lN'
    obtain ⟨p, tp, hp, rfl⟩ : ∃ p tp, (p = 12 - 4 * (i : Int) ∧ i < 4) ∧ v = Value.int p tp := by
      have h4 : i < 4 := by have := (List.getElem?_eq_some_iff.mp hv).1; simpa using this
      match i, h4 with
      | 0, _ => cases hv; exact ⟨_, _, ⟨rfl, by decide⟩, rfl⟩
      | 1, _ => cases hv; exact ⟨_, _, ⟨rfl, by decide⟩, rfl⟩
      | 2, _ => cases hv; exact ⟨_, _, ⟨rfl, by decide⟩, rfl⟩
      | 3, _ => cases hv; exact ⟨_, _, ⟨rfl, by decide⟩, rfl⟩
    have hMk : KstMark := kstMark
    have hcl : c.1.length ≤ 4 := by rw [hP9]; show ((digs n).take i).toArray.size ≤ 4; simp [digs]; omega
    (try dsimp only)
    try k_fold
    k_steps
    unfold Stop
    (rename Fr _ _ _ _ => lF'); (rename News _ _ _ _ => lN')
    refine' led_end (?s1, ?s2) lF' lN' ?g1 ?g2 ?g3 ?g4 ?g5 ?g6
    case g4 => intro p hp; rw [List.mem_singleton.mp hp]; rfl
    case g1 => exact fun p hp => (List.mem_append (t := own9)).mpr (.inl hp)
    case g2 => exact fun p hp => (List.mem_append (s := _ :: news)).mpr (.inr hp)
    case g3 => exact ho9
    case g5 =>
      intro z hz hp hs
      have hz2 : z ≠ Str.ofString "made" := hp _ (List.mem_singleton.mpr rfl)
      simp only [hz, hz2, if_false, kstB, hs]
      rfl
    case g6 =>
      show _ ++ _ = _
      rw [hP9, tx_append, List.take_add_one, digs_at hp.1 hp.2]; rfl
  · intro c u h9 tk9 hP9 F9 N9
    have hcl : c.1.length ≤ 4 := by rw [hP9]; show ((digs n).take 4).toArray.size ≤ 4; simp [digs]
    have hsl : (Str.ofString "\\u").length = 2 := by decide +kernel
    (try dsimp only)
    try k_fold
    k_steps
    exact fin hret (by assumption) (by assumption) ⟨rfl, _, by rw [hP9, show Str.ofString "\\u" = tx [92, 117] by decide +kernel, tx_append]; rfl⟩
theorem rows_5 : True := by
  k_with_none
  (k_with "pyIter ref!" => ((with_reducible show wpAny _ _ (pyIter (Value.ref _)) (fun it s₂ => LoopAtV _ _ _ _ _ _ _ _ _ it s₂) _ _); refine Stop.out ?_))
  (k_with "InvEndN!" => refine Stop.out ?_)
  (k_with "KswEnd!" => refine Stop.out ?_)
  (k_with "exec While Compare cons nil!" => refine Stop.out ?_)
  (k_with "my_room!" => first | ((try simp only [depth_under_make, depth_under_kw, depth_in1, depth_deeper, depth_caller]); (try dsimp only [ktrTop]); first | walk_at "my_rm" | omega) | ((try simp only [depth_under_make, depth_under_kw, depth_in1, depth_deeper, depth_caller]); decide) | decide)
  (k_with "my_rm!" => first | (with_reducible exact rm0 hd) | ((with_reducible refine rm1 hd ?_); exact Nat.le_of_ble_eq_true rfl) | ((with_reducible refine rm2 hd ?_); exact Nat.le_of_ble_eq_true rfl) | ((with_reducible refine rm2 hu ?_); exact Nat.le_of_ble_eq_true rfl) | ((with_reducible refine rm3 hd ?_); exact Nat.le_of_ble_eq_true rfl) | ((with_reducible refine rm3 hu ?_); exact Nat.le_of_ble_eq_true rfl) | ((with_reducible refine rm4 hd ?_); exact Nat.le_of_ble_eq_true rfl) | ((with_reducible refine rm4 hu ?_); exact Nat.le_of_ble_eq_true rfl))
  (k_with "my_units!" => ((try simp only [units_in1, units_deeper, Around.mark_units, units_caller]); (try dsimp only [ktrTop]); first | walk_at "my_rm" | ((have hcL9 := cLine_is); omega)))
  (k_with "my_ec!" => ((case kA | kF => exact rfl); (case kK => first | exact rfl | assumption); (case k1 | k2 | k3 | k4 | k5 => k_asm); (case k6 | k7 => k_is); (case k8 => first | (dsimp only [ktrTop]; first | walk_at "my_rm" | omega) | walk_at "my_room")))
  (k_with "my_e1!" => (refine' code_def ?k1 ?k2 ?k3 ?k4 ?k5 ?kA ?kF ?kK ?k6 ?k7 ?k8 ?k9 ?kB ?_ ?c2 ?c3 ?c4 ?c5; walk_at "my_ec"; (case k9 => first | exact BindsTo.of_eq rfl | exact binds_K (by k_in) rfl (by k_is) rfl rfl rfl); (case c5 => decide); (case kB => exact locs rfl); (case c2 | c3 | c4 => exact rfl); k_whole))
  (k_with "my_e2!" => (refine' code_defC ?k1 ?k2 ?k3 ?k4 ?k5 ?kA ?kF ?kK ?k6 ?k7 ?k8 ?k9 ?kB ?kD ?_ ?c2 ?c3 ?c4; walk_at "my_ec"; (case k9 => exact BindsTo.of_eq rfl); (case kB => exact rfl); (case kD => decide +kernel); (case c2 | c3 | c4 => exact rfl); k_whole))
  (k_with "my_enter!" => ((first | (walk_at "my_e1"; intro g' L' h' FG' F' N' B' X' T') | (walk_at "my_e2"; intro g' L' h' tk' cells' FG' F' N' Y' B' X' T' l1; (try k_lt l1); k_cells Y'; (try simp only [List.cons_append, List.nil_append] at N'))); (try dsimp only); (try k_lift B'); (try k_fold)))
  (k_with "my_start!" => (w_top off; unfold Con; k_fill; intro w p loose mean mg mb dp un gd cn cs a ccd cl outer A₀ base h₀ L m s Q E B F X N T hk hd hu hret; refine wpAny_call ?_; k_dflt walk_at "my_enter"))
  (k_with "call builtin:str.join!" => first | (k_here; refine join_listW (by is_list) (by assumption) (by decide) (by assumption) ?_; intro tj kj) | refine Stop.out ?_)
  (k_with "eval BinOp!" => (dsimp only; walk1))
  (k_with "binaryOp BitOr int int!" => (dsimp only; walk1))
  (k_with "newTuple!" => (dsimp only; walk1))
  (k_with "InvEndG!" => refine Stop.out ?_)
  (k_with "exec For Name Tuple cons nil!" => (k_here; (rename Fr _ _ _ _ => lF'); (with_unfolding_all refine' For_invVF lF' ?k1z9 ?k2z9 ?_; (case k1z9 | k2z9 => exact rfl); k_whole)))
  (k_with "my_mem!" => first | assumption | exact List.Mem.head _ | (refine List.mem_cons_of_mem _ ?_; walk_at "my_mem") | (with_reducible refine List.mem_append.mpr (.inl ?_); walk_at "my_mem") | (with_reducible refine List.mem_append.mpr (.inr ?_); walk_at "my_mem"))
  (k_with "call builtin:len!" => (k_here; (with_reducible show wpAny _ _ (call (Value.builtin "len") [Value.ref _]) _ _ _); k_dflt (refine' kst_len ?k1 ?k2 ?k3 ?k4 ?_; (case k1 => k_asm); (case k2 => walk_at "my_mem"); (case k3 => first | exact IntsAre.length (by assumption) | exact RngsAre.length (by assumption)); (case k4 => omega))))
  (k_with "subscriptTail!" => (k_here; (with_reducible show wpAny _ _ (subscriptTail _ _ (Value.ref _) (Value.int _ _)) _ _ _); k_dflt (refine' item_led ?k1 ?k2 ?k3 ?k4 ?k5 ?k6 ?_; (case k1 => k_asm); (case k2 => walk_at "my_mem"); (case k3 => assumption); (case k4 | k5 | k6 => omega); k_whole); intro _))
  (k_with "subscriptTail Name Name ref int!" => (k_here; k_dflt (refine' ref_led ?k1 ?k2 ?k4 ?k5 ?k6 ?_; (case k1 => k_asm); (case k2 => walk_at "my_mem"); (case k6 => assumption); (case k4 | k5 => omega); k_whole)))
  (k_with "CompSrc!" => refine Stop.out ?_)
  (k_with "CompEnd!" => refine Stop.out ?_)
  (k_with "my_slen!" => (rw [sizeLine_eq]; (try simp only [Str.length_append, tx_len, List.length_cons, List.length_nil, List.length_append]); omega))
  (k_with "inplaceOp Add str str!" => ((refine SBL.iadd (hsz := ?hszz9) ?_); (case hszz9 => walk_at "my_slen"); intro _ _ _))
  (k_with "binaryOp Add str str!" => ((refine SBL.add (hsz := ?hszz9) ?_); (case hszz9 => walk_at "my_slen"); intro _ _ _))
  (k_with "my_lt!" => first | assumption | exact kst_ltOf (by assumption) | exact kst_ltOf (And.right (by assumption)) | exact kst_ltOf (And.right (And.right (by assumption))) | exact kst_ltOf (And.right (And.right (And.right (by assumption)))) | exact kst_ltOf (And.right (And.right (And.right (And.right (by assumption))))) | exact kst_ltOf (And.right (And.right (And.right (And.right (And.right (by assumption)))))) | exact kst_ltOf (And.right (And.right (And.right (And.right (And.right (And.right (by assumption))))))) | exact kst_ltOf (And.right (And.right (And.right (And.right (And.right (And.right (And.right (by assumption)))))))) | exact kst_ltOf (And.right (And.right (And.right (And.right (And.right (And.right (And.right (And.right (by assumption))))))))) | exact kst_ltOf (And.right (And.right (And.right (And.right (And.right (And.right (And.right (And.right (And.right (by assumption)))))))))) | exact kst_ltOf (And.right (And.right (And.right (And.right (And.right (And.right (And.right (And.right (And.right (And.right (by assumption))))))))))) | exact kst_ltOf (And.right (And.right (And.right (And.right (And.right (And.right (And.right (And.right (And.right (And.right (And.right (by assumption)))))))))))) | exact kst_ltOf (And.right (And.right (And.right (And.right (And.right (And.right (And.right (And.right (And.right (And.right (And.right (And.right (by assumption))))))))))))) | exact kst_ltOf (And.right (And.right (And.right (And.right (And.right (And.right (And.right (And.right (And.right (And.right (And.right (And.right (And.right (by assumption)))))))))))))))
  (k_with "call ref!" => (k_here; k_dflt (refine' call_cls ?k1z9 ?k2z9 ?k3z9 ?k4z9 ?k5z9 ?k6z9 ?_; (case k1z9 | k2z9 | k3z9 => k_asm); (case k4z9 | k5z9 | k6z9 => k_is); k_whole; intro x' d' h' F' N' l1 l2; (try k_lt l1); (try k_lt2 l2); (try k_sweep); walk_at "my_enter")))
  (k_with "my_startW!" => (w_top off; unfold ConW; k_fill; intro p loose mean mg mb dp un gd cn cs a ccd cl outer A₀ base h₀ L m s Q E B F X N T hk hd hu hret; refine wpAny_call ?_; k_dflt walk_at "my_enter"))
  (k_with "my_ints!" => first | assumption | exact .nil | exact .cons _ _ .nil | exact .cons _ _ (.cons _ _ .nil))
  (k_with "my_rng!" => first | assumption | (intro n hn; simp only [List.mem_singleton] at hn; omega))
  (k_with "my_om!" => first | assumption | omega | exact Nat.le_of_ble_eq_true rfl)
  (k_with "my_u16!" => first | omega | with_reducible exact (sur_hi (by omega) (by omega)).2.1 | with_reducible exact (sur_hi (by omega) (by omega)).2.2 | with_reducible exact (sur_lo (by omega) (by omega)).2.1 | with_reducible exact (sur_lo (by omega) (by omega)).2.2)
  (k_with "my_lu!" => first | omega | (kmn_bounds; omega) | (simp only [Int.fdiv_eq_ediv_of_nonneg _ (show (0:Int) ≤ 1024 by decide), Int.fmod_eq_emod_of_nonneg _ (show (0:Int) ≤ 1024 by decide)]; omega))
  (k_with "my_con!" => ((case k4 | k1 => k_asm); (case k2 | k3 | k5 => k_asm); (case kK => first | exact rfl | assumption); (case kd => walk_at "my_room"); (case ku => walk_at "my_units")))
  (k_with "i_str!" => (intro r9 nw9 h9 tk9 R9 F9 N9; obtain ⟨e8, t9, e7⟩ := R9; subst e8 e7; (try dsimp only); (try k_fold)))
  (k_with "i_strx!" => (intro r9 nw9 h9 tk9 R9 F9 N9; obtain ⟨e8, t9, e7⟩ := R9; subst e8 e7; (try walk_at "my_text"); (try dsimp only); (try k_fold)))
  (k_with "i_two!" => (intro r9 nw9 h9 tk9 R9 F9 N9; obtain ⟨e8, e7⟩ := R9; subst e8 e7; (try dsimp only); (try k_fold)))
  (k_with "i_rj!" => (intro r9 nw9 h9 tk9 R9 F9 N9; obtain ⟨d9, t91, t92, e8, e7, l9⟩ := R9; subst e8 e7; (try k_lt l9); (try dsimp only); (try k_fold)))
  (k_with "i_pts!" => (intro r9 nw9 h9 tk9 R9 F9 N9; obtain ⟨e9, e8, e7⟩ | ⟨l9, vs9, nn9, pts9, e9, e8, e7, i9, m9⟩ := R9; (all_goals subst e8 e7); (all_goals (try walk_at "my_same")); (all_goals (try k_lt m9)); (all_goals ((try dsimp only); (try k_fold)))))
  (k_with "call ref!" => (k_here; k_dflt (refine' Con.use (shape_t _ _ _) ?k1 ?k2 ?k3 ?k4 ?k5 ?kK ?kd ?ku ?_; walk_at "my_con"; walk_at "i_shape")))
  (k_with "i_shape!" => (intro r9 nw9 h9 tk9 R9 F9 N9; obtain ⟨e9, e8, e7⟩ | ⟨d9, k9, mn9, pt9, t91, t92, t93, e9, e8, e7⟩ := R9; (all_goals subst e8 e7); (all_goals ((try dsimp only); (try k_fold)))))
  (k_with "call ref!" => (k_here; k_dflt (refine' Con.use (at_t _ _ _ _ _ ?m1 ?m2 ?m3) ?k1 ?k2 ?k3 ?k4 ?k5 ?kK ?kd ?ku ?_; walk_at "my_con"; (case m1 | m2 | m3 => walk_at "my_om"); walk_at "i_at")))
  (k_with "i_at!" => (intro r9 nw9 h9 tk9 R9 F9 N9; obtain ⟨e9, e8, e7⟩ | ⟨d9, q9, j9, t91, t92, e9, e8, e7, l9⟩ := R9; (all_goals subst e8 e7); (all_goals (try k_lt l9)); (all_goals ((try dsimp only); (try k_fold)))))
  trivial
set_option maxHeartbeats 8000000 in
theorem kind_t (news : List (Addr × Obj)) (x : Str) (t : Tok) : Con 368 3 news [.str x t] (fun r nw => nw = news ∧ ∃ t, r = .str (Str.ofString "string") t) := by
  walk_at "my_start"
  k_steps
  exact fin hret (by assumption) (by assumption) ⟨rfl, _, rfl⟩
/-- the entries of a Writer -/
noncomputable abbrev wDict (P : Params) (f ft : Int) (k1 k2 k3 k4 t1 t2 t3 t4 : Tok) : Obj := dictOf [⟨PyData.keyHash P (Str.ofString "flags"), .str (Str.ofString "flags") k1, .int f t1⟩, ⟨PyData.keyHash P (Str.ofString "limit"), .str (Str.ofString "limit") k2, .int 4 t2⟩,
  ⟨PyData.keyHash P (Str.ofString "depth"), .str (Str.ofString "depth") k3, .int 0 t3⟩, ⟨PyData.keyHash P (Str.ofString "fault"), .str (Str.ofString "fault") k4, .int ft t4⟩] 4
set_option maxHeartbeats 8000000 in
theorem flag_t (w : World) (news : List (Addr × Obj)) (o d : Addr) (f ft k : Int) (k1 k2 k3 k4 t1 t2 t3 t4 tk : Tok) (ho : (o, instObj 427 d) ∈ news) (hdd : (d, wDict w.params f ft k1 k2 k3 k4 t1 t2 t3 t4) ∈ news) : ConW w 438 3 news [.ref o, .int k tk] (fun r nw => nw = news ∧ r = .bool (Builtin.bitAnd f k != 0)) := by
  walk_at "my_startW"
  k_steps
  exact fin hret (by assumption) (by assumption) ⟨rfl, rfl⟩
noncomputable def scalarF (n : Int) : Bool := decide (n < 55296) || (decide (57343 < n) && decide (n < 1114112))
theorem scalarF_1 {n : Int} (h : n < 55296) : decide (n < 55296) = scalarF n := by unfold scalarF; simp [h]
theorem scalarF_2 {n : Int} (h : ¬ n < 55296) (h2 : 57343 < n) : decide (n < 1114112) = scalarF n := by unfold scalarF; simp [h, h2]
theorem scalarF_3 {n : Int} (h : ¬ n < 55296) (h2 : ¬ 57343 < n) : decide (57343 < n) = scalarF n := by unfold scalarF; simp [h, h2]
set_option maxHeartbeats 8000000 in
theorem scalar_t (news : List (Addr × Obj)) (n : Int) (t : Tok) : Con 689 3 news [.int n t] (fun r nw => nw = news ∧ r = .bool (scalarF n)) := by
  walk_at "my_start"
  k_steps
  · exact fin hret (by assumption) (by assumption) ⟨rfl, by rw [scalarF_1 (by assumption)]⟩
  · exact fin hret (by assumption) (by assumption) ⟨rfl, by rw [scalarF_2 (by assumption) (by assumption)]⟩
  · exact fin hret (by assumption) (by assumption) ⟨rfl, by rw [scalarF_3 (by assumption) (by assumption)]⟩
/-- the ranges behind a first octet, as the law says them -/
noncomputable def behF (n : Int) : Option (List (Int × Int)) :=
  if 194 ≤ n ∧ n ≤ 223 then some [(128, 191)]
  else if n = 224 then some [(160, 191), (128, 191)]
  else if n = 237 then some [(128, 159), (128, 191)]
  else if 225 ≤ n ∧ n ≤ 239 then some [(128, 191), (128, 191)]
  else if n = 240 then some [(144, 191), (128, 191), (128, 191)]
  else if n = 244 then some [(128, 143), (128, 191), (128, 191)]
  else if 241 ≤ n ∧ n ≤ 243 then some [(128, 191), (128, 191), (128, 191)] else none

/-- each value is a pair: the top's own (128, 191), or the ledger's -/
noncomputable def RngsAre (ext : List (Addr × Obj)) : List Value → List (Int × Int) → Prop
  | [], [] => True
  | v :: vs, r :: rs => ((v = .ref 649 ∧ r = (128, 191)) ∨ ∃ d t1 t2, v = .ref d ∧ (d, tupO [.int r.1 t1, .int r.2 t2]) ∈ ext) ∧ RngsAre ext vs rs
  | _, _ => False
theorem RngsAre.length {ext : List (Addr × Obj)} : ∀ {vs : List Value} {rs : List (Int × Int)}, RngsAre ext vs rs → vs.length = rs.length
  | [], [], _ => rfl
  | _ :: _, _ :: _, h => by rw [List.length_cons, List.length_cons, RngsAre.length h.2]
  | [], _ :: _, h => h.elim
  | _ :: _, [], h => h.elim
theorem RngsAre.get {ext : List (Addr × Obj)} : ∀ {vs : List Value} {rs : List (Int × Int)}, RngsAre ext vs rs → ∀ (i : Nat) (r : Int × Int), rs[i]? = some r → ∃ v, vs[i]? = some v ∧ ((v = .ref 649 ∧ r = (128, 191)) ∨ ∃ d t1 t2, v = .ref d ∧ (d, tupO [.int r.1 t1, .int r.2 t2]) ∈ ext)
  | [], [], _, _, _, e => by simp at e
  | v :: _, r :: _, h, 0, r', e => by cases e; exact ⟨v, rfl, h.1⟩
  | _ :: _, _ :: _, h, i + 1, r', e => RngsAre.get h.2 i r' (by simpa using e)
  | [], _ :: _, h, _, _, _ => h.elim
  | _ :: _, [], h, _, _, _ => h.elim
noncomputable def RBeh (n : Int) (news : List (Addr × Obj)) (r : Value) (nw : List (Addr × Obj)) : Prop :=
  (behF n = none ∧ r = .none ∧ nw = news) ∨ (∃ l vs rs nn, behF n = some rs ∧ r = .ref l ∧ nw = (l, listOf vs.toArray nn) :: news ∧ RngsAre [] vs rs ∧ (∀ p ∈ news, p.1 < l)) ∨
  ∃ l vs rs nn d lo hi t1 t2, behF n = some rs ∧ r = .ref l ∧ nw = (l, listOf vs.toArray nn) :: (d, tupO [.int lo t1, .int hi t2]) :: news ∧ RngsAre [(d, tupO [.int lo t1, .int hi t2])] vs rs ∧ d < l ∧ (∀ p ∈ news, p.1 < l) ∧ (∀ p ∈ news, p.1 < d)
theorem rbeh_none {n : Int} {news : List (Addr × Obj)} (e : behF n = none) : RBeh n news .none news := .inl ⟨e, rfl, rfl⟩
theorem rbeh_0 {n : Int} {news : List (Addr × Obj)} {l : Addr} {vs : List Value} {nn : Nat} {rs : List (Int × Int)} (e : behF n = some rs) (h : RngsAre [] vs rs) (hl : ∀ p ∈ news, p.1 < l) : RBeh n news (.ref l) ((l, listOf vs.toArray nn) :: news) := .inr (.inl ⟨l, vs, rs, nn, e, rfl, rfl, h, hl⟩)
theorem rbeh_1 {n : Int} {news : List (Addr × Obj)} {l d : Addr} {lo hi : Int} {t1 t2 : Tok} {vs : List Value} {nn : Nat} {rs : List (Int × Int)} (e : behF n = some rs) (h : RngsAre [(d, tupO [.int lo t1, .int hi t2])] vs rs) (hl : d < l ∧ AllLt l news) (hd : ∀ p ∈ news, p.1 < d) : RBeh n news (.ref l) ((l, listOf vs.toArray nn) :: (d, tupO [.int lo t1, .int hi t2]) :: news) :=
  .inr (.inr ⟨l, vs, rs, nn, d, lo, hi, t1, t2, e, rfl, rfl, h, hl.1, kst_ltOf hl.2, hd⟩)
theorem beh_len {n : Int} {rs : List (Int × Int)} (e : behF n = some rs) : 1 ≤ rs.length ∧ rs.length ≤ 3 := by
  unfold behF at e
  split at e
  · cases e; decide
  · split at e
    · cases e; decide
    · split at e
      · cases e; decide
      · split at e
        · cases e; decide
        · split at e
          · cases e; decide
          · split at e
            · cases e; decide
            · split at e
              · cases e; decide
              · cases e
theorem any_is (ext : List (Addr × Obj)) : ((Value.ref 649 = .ref 649 ∧ ((128, 191) : Int × Int) = (128, 191)) ∨ ∃ d t1 t2, Value.ref 649 = .ref d ∧ (d, tupO [.int ((128, 191) : Int × Int).1 t1, .int ((128, 191) : Int × Int).2 t2]) ∈ ext) := .inl ⟨rfl, rfl⟩

set_option maxHeartbeats 8000000 in
theorem behind_t (news : List (Addr × Obj)) (n : Int) (t : Tok) : Con 665 3 news [.int n t] (RBeh n news) := by
  walk_at "my_start"
  k_steps
  all_goals first
    | exact fin hret (by assumption) (by assumption) (rbeh_none (by unfold behF; rw [if_neg (by omega), if_neg (by omega), if_neg (by omega), if_neg (by omega), if_neg (by omega), if_neg (by omega), if_neg (by omega)]))
    | exact fin hret (by assumption) (by assumption) (rbeh_0 (rs := [(128, 191)]) (by unfold behF; rw [if_pos (by omega)]) (by exact ⟨any_is _, trivial⟩) (by assumption))
    | exact fin hret (by assumption) (by assumption) (rbeh_1 (rs := [(160, 191), (128, 191)]) (by unfold behF; rw [if_neg (by omega), if_pos (by omega)]) (by exact ⟨.inr ⟨_, _, _, rfl, .head _⟩, any_is _, trivial⟩) (by assumption) (by assumption))
    | exact fin hret (by assumption) (by assumption) (rbeh_1 (rs := [(128, 159), (128, 191)]) (by unfold behF; rw [if_neg (by omega), if_neg (by omega), if_pos (by omega)]) (by exact ⟨.inr ⟨_, _, _, rfl, .head _⟩, any_is _, trivial⟩) (by assumption) (by assumption))
    | exact fin hret (by assumption) (by assumption) (rbeh_0 (rs := [(128, 191), (128, 191)]) (by unfold behF; rw [if_neg (by omega), if_neg (by omega), if_neg (by omega), if_pos (by omega)]) (by exact ⟨any_is _, any_is _, trivial⟩) (by assumption))
    | exact fin hret (by assumption) (by assumption) (rbeh_1 (rs := [(144, 191), (128, 191), (128, 191)]) (by unfold behF; rw [if_neg (by omega), if_neg (by omega), if_neg (by omega), if_neg (by omega), if_pos (by omega)]) (by exact ⟨.inr ⟨_, _, _, rfl, .head _⟩, any_is _, any_is _, trivial⟩) (by assumption) (by assumption))
    | exact fin hret (by assumption) (by assumption) (rbeh_1 (rs := [(128, 143), (128, 191), (128, 191)]) (by unfold behF; rw [if_neg (by omega), if_neg (by omega), if_neg (by omega), if_neg (by omega), if_neg (by omega), if_pos (by omega)]) (by exact ⟨.inr ⟨_, _, _, rfl, .head _⟩, any_is _, any_is _, trivial⟩) (by assumption) (by assumption))
    | exact fin hret (by assumption) (by assumption) (rbeh_0 (rs := [(128, 191), (128, 191), (128, 191)]) (by unfold behF; rw [if_neg (by omega), if_neg (by omega), if_neg (by omega), if_neg (by omega), if_neg (by omega), if_neg (by omega), if_pos (by omega)]) (by exact ⟨any_is _, any_is _, any_is _, trivial⟩) (by assumption))
theorem rows_6 : True := by
  (k_with "call ref!" => (k_here; k_dflt (refine' Con.use (behind_t _ _ _) ?k1 ?k2 ?k3 ?k4 ?k5 ?kK ?kd ?ku ?_; walk_at "my_con"; walk_at "i_behind")))
  (k_with "i_behind!" => (intro r9 nw9 h9 tk9 R9 F9 N9; obtain ⟨e9, e8, e7⟩ | ⟨l9, vs9, rs9, nn9, e9, e8, e7, g9, m9⟩ | ⟨l9, vs9, rs9, nn9, d9, lo9, hi9, t91, t92, e9, e8, e7, g9, m8, m9, m7⟩ := R9; (all_goals subst e8 e7); (all_goals (try (have q9 := beh_len e9))); (all_goals (try k_lt m9)); (all_goals (try k_lt m7)); (all_goals ((try dsimp only); (try k_fold)))))
  trivial
/-- the law's octets behind, one range each -/
noncomputable def contR (os : List Int) : List (Int × Int) → Nat → Int → Option Int
  | [], _, p => some p
  | r :: rs, j, p => if r.1 ≤ os.getD j 0 ∧ os.getD j 0 ≤ r.2 then contR os rs (j + 1) (p * 64 + os.getD j 0) else none
noncomputable def subF (k : Nat) : Int := [0, 12416, 925824, 63447168].getD k 0
noncomputable def rngF (n : Int) : Option (List (Int × Int)) := if n < 128 then some [] else behF n
noncomputable def rdF (os : List Int) (i : Nat) : Option (Int × Nat) :=
  match rngF (os.getD i 0) with
  | none => none
  | some rs => if os.length ≤ i + rs.length then none else match contR os rs (i + 1) (os.getD i 0) with | none => none | some p => some (p - subF rs.length, i + 1 + rs.length)
noncomputable def readF (os : List Int) : Option (List Int) := allG (rdF os) os.length
theorem rdF_gt (os : List Int) : StepsOn (rdF os) os.length := by
  intro i q j hi h
  unfold rdF at h
  split at h
  · cases h
  · split at h
    · cases h
    · split at h
      · cases h
      · cases h; omega

noncomputable def PRd (os : List Int) (rs : List (Int × Int)) (j : Nat) (p₀ : Int) (pre : List Int) (c : Int × Tok) : Prop := pre.length ≤ rs.length ∧ contR os rs j p₀ = contR os (rs.drop pre.length) (j + pre.length) c.1
theorem prd_stop {os : List Int} {rs : List (Int × Int)} {j : Nat} {p₀ : Int} {pre : List Int} {c : Int × Tok} {r : Int × Int} {i : Int} (h : PRd os rs j p₀ pre c) (e : rs[pre.length]? = some r) (hi : i.toNat = j + pre.length) (hc : ¬ (r.1 ≤ os.getD i.toNat 0 ∧ os.getD i.toNat 0 ≤ r.2)) : contR os rs j p₀ = none := by
  obtain ⟨hl, he⟩ := List.getElem?_eq_some_iff.mp e
  rw [h.2, List.drop_eq_getElem_cons hl, contR, he, ← hi, if_neg hc]
theorem prd_step {os : List Int} {rs : List (Int × Int)} {j : Nat} {p₀ : Int} {pre : List Int} {c : Int × Tok} {r : Int × Int} {i k : Int} {t : Tok} (h : PRd os rs j p₀ pre c) (e : rs[pre.length]? = some r) (hi : i.toNat = j + pre.length) (hc : r.1 ≤ os.getD i.toNat 0 ∧ os.getD i.toNat 0 ≤ r.2) :
    PRd os rs j p₀ (pre ++ [k]) (c.1 * 64 + os.getD i.toNat 0, t) := by
  obtain ⟨hl, he⟩ := List.getElem?_eq_some_iff.mp e
  refine ⟨by simp; omega, ?_⟩
  rw [h.2, List.drop_eq_getElem_cons hl, contR, he, ← hi, if_pos hc, List.length_append, List.length_singleton, hi]
  rfl
theorem prd_done {os : List Int} {rs : List (Int × Int)} {j : Nat} {p₀ : Int} {pre : List Int} {c : Int × Tok} (h : PRd os rs j p₀ pre c) (e : pre.length = rs.length) : contR os rs j p₀ = some c.1 := by
  rw [h.2, e, List.drop_length, contR]
theorem rd_bad {os : List Int} {i : Nat} {rs : List (Int × Int)} (e : rngF (os.getD i 0) = some rs) (hl : ¬ os.length ≤ i + rs.length) (hp : contR os rs (i + 1) (os.getD i 0) = none) : rdF os i = none := by
  unfold rdF; rw [e]; dsimp only; rw [if_neg hl, hp]
theorem rd_short {os : List Int} {i : Nat} {rs : List (Int × Int)} (e : rngF (os.getD i 0) = some rs) (hl : os.length ≤ i + rs.length) : rdF os i = none := by
  unfold rdF; rw [e]; dsimp only; rw [if_pos hl]
theorem rd_good {os : List Int} {i : Nat} {rs : List (Int × Int)} {p : Int} (e : rngF (os.getD i 0) = some rs) (hl : ¬ os.length ≤ i + rs.length) (hp : contR os rs (i + 1) (os.getD i 0) = some p) : rdF os i = some (p - subF rs.length, i + 1 + rs.length) := by
  unfold rdF; rw [e]; dsimp only; rw [if_neg hl, hp]
theorem rng_low {n : Int} (h : n < 128) : rngF n = some [] := by unfold rngF; rw [if_pos h]
theorem rng_beh {n : Int} (h : ¬ n < 128) : rngF n = behF n := by unfold rngF; rw [if_neg h]

theorem rows_7 : True := by
  (k_with "eval IfExp!" => (k_here; (fail_if_success (with_reducible show wpAny _ _ _ (CutV _ _ _ _ _) _ _)); refine Stop.out ?_))
  (k_with "CutV!" => refine Stop.out ?_)
  trivial

set_option maxHeartbeats 8000000 in
theorem read_t (news : List (Addr × Obj)) (l : Addr) (vs : List Value) (nn : Nat) (os : List Int) (hl : (l, listOf vs.toArray nn) ∈ news) (hi : IntsAre vs os) (hn : os.length ≤ 200) : Con 672 6 news [.ref l] (RPts (readF os) news) := by
  walk_at "my_start"
  k_steps
  rename_i l0 _ l1 _ _ _ _ _ _ lF lN
  unfold Stop
  have hMk : KstMark := kstMark
  with_unfolding_all refine' ksw_while (σ := PtsSt) (fun c => (l0, W.listOf c.its c.nn) :: news) (fun c => [(Str.ofString "at", .int c.k c.tk)]) (fun c => IntsAre c.its.toList c.pts) [Str.ofString "ranges", Str.ofString "number", Str.ofString "place", Str.ofString "low", Str.ofString "high", Str.ofString "octet"] (PPts (rdF os) os.length) (fun c => os.length - c.i) ⟨#[], 0, 0, 0, _, []⟩ lF (News.less (fun _ h => .tail _ h) lN) .nil ?w1 ?w2 ?_
  case w1 => intro p hp; rw [List.mem_singleton.mp hp]; rfl
  case w2 => exact ppts_start _ _ _
  intro c u h9 tk9 hI hP F9 N9
  clear lF lN
  have hk : 0 ≤ c.k ∧ c.k ≤ os.length := by have := hP.1; have := hP.2.1; omega
  have hsz : c.its.size ≤ 200 := by have h7 := hI.length; have h8 := hP.2.2.1; have := hP.2.1; rw [Array.length_toList] at h7; omega
  (try dsimp only)
  try k_fold
  k_steps
  · unfold Stop
    have hkl : c.k.toNat < os.length := by omega
    (rename Fr _ _ _ _ => lF'); (rename News _ _ _ _ => lN')
    refine cutV (fun v led => (v = .none ∧ rngF (os.getD c.k.toNat 0) = none ∧ led = (l0, W.listOf c.its c.nn) :: news) ∨ ∃ l9 vs9 rs9 nn9 ext, v = .ref l9 ∧ rngF (os.getD c.k.toNat 0) = some rs9 ∧ led = (l9, listOf vs9.toArray nn9) :: (ext ++ (l0, W.listOf c.its c.nn) :: news) ∧ RngsAre ext vs9 rs9 ∧ rs9.length ≤ 3 ∧ ∀ p ∈ (l0, W.listOf c.its c.nn) :: news, p.1 < l9) lF' ?_ ?_
    · k_steps
      · unfold Stop
        exact CutV.intro (by assumption) (by assumption) (by exact fun p hp => by walk_at "my_mem") (.inr ⟨_, [], [], 0, [], rfl, rng_low (by assumption), rfl, trivial, Nat.zero_le _, by walk_at "my_lt"⟩)
      · unfold Stop
        exact CutV.intro (by assumption) (by assumption) (by exact fun p hp => by walk_at "my_mem") (.inl ⟨rfl, (rng_beh (by assumption)).trans e9, rfl⟩)
      · unfold Stop
        exact CutV.intro (by assumption) (by assumption) (by exact fun p hp => by walk_at "my_mem") (.inr ⟨_, vs9, rs9, nn9, [], rfl, (rng_beh (by assumption)).trans e9, rfl, g9, q9.2, by walk_at "my_lt"⟩)
      · unfold Stop
        exact CutV.intro (by assumption) (by assumption) (by exact fun p hp => by walk_at "my_mem") (.inr ⟨_, vs9, rs9, nn9, [_], rfl, (rng_beh (by assumption)).trans e9, rfl, g9, q9.2, by walk_at "my_lt"⟩)
    clear lF' lN'
    rintro rv led h8 tk8 hC F8 N8
    rcases hC with ⟨rfl, hR, rfl⟩ | ⟨l9, vs9, rs9, nn9, ext, rfl, hR, rfl, g9, q9, m9⟩
    · have hf : rdF os c.k.toNat = none := by unfold rdF; rw [hR]
      (try dsimp only)
      try k_fold
      k_steps
      exact fin hret (by assumption) (News.less (fun _ h => .tail _ h) (by assumption)) (rpts_none (ppts_none hP (by omega) hf))
    · k_lt m9
      have hv9 := g9.length
      (try dsimp only)
      try k_fold
      k_steps
      · exact fin hret (by assumption) (News.less (fun _ h => .tail _ (List.mem_append.mpr (.inr (.tail _ h)))) (by assumption)) (rpts_none (ppts_none hP (by omega) (rd_short hR (by omega))))
      · unfold Stop
        (rename Fr _ _ _ _ => lF'); (rename News _ _ _ _ => lN'); (rename IsRange _ _ _ _ _ _ _ _ => rgX)
        have hls : ¬ os.length ≤ c.k.toNat + rs9.length := by omega
        with_unfolding_all refine' kst_range (σ := Int × Tok) (fun _ => _) (fun c' => [(Str.ofString "number", .int c'.1 c'.2)]) (fun _ => True) [Str.ofString "low", Str.ofString "high", Str.ofString "octet"] (PRd os rs9 (c.k.toNat + 1) (os.getD c.k.toNat 0)) (os.getD c.k.toNat 0, _) (by rfl) rgX (small_one (by omega) (by omega) (by omega) (by omega)) (rangeSize_nat _ _) lF' lN' True.intro ?xkk ?xkp ?_ ?_
        case xkk => intro p hp; rw [List.mem_singleton.mp hp]; rfl
        case xkp => exact ⟨Nat.zero_le _, rfl⟩
        · intro c' pre k tk1 u h1' tk own hk2 hlt off _ P1 F1 N1
          clear lF' lN'
          have hlt' : pre.length < rs9.length := by omega
          have hk3 : k = pre.length := by rw [hk2, Int.zero_add]
          have hget := List.getElem?_eq_getElem hlt'
          obtain ⟨v, hv, hvv⟩ := g9.get pre.length _ hget
          have hv2 : vs9[k.toNat]? = some v := by rw [hk3, Int.toNat_natCast]; exact hv
          have hkk : (c.k + 1 + k).toNat = c.k.toNat + 1 + pre.length := toNat_up hk.1 (by rw [hk3])
          simp only [List.cons_append] at N1
          rcases hvv with ⟨rfl, hr⟩ | ⟨d, t1, t2, rfl, hm⟩
          · (try dsimp only)
            try k_fold
            k_steps
            · unfold Stop
              (rename Fr _ _ _ _ => lF'); (rename News _ _ _ _ => lN')
              refine' kst_end (c'.1 * 64 + os.getD (c.k + 1 + k).toNat 0, _) lF' lN' ?_ ?_ rfl True.intro ?_ ?_ (prd_step P1 hget hkk ⟨by rw [hr]; assumption, by rw [hr]; assumption⟩)
              · exact fun p hp => (List.mem_append (t := own)).mpr (.inl hp)
              · exact fun p hp => (List.mem_append (s := _ :: (ext ++ _))).mpr (.inr hp)
              · intro p hp; rw [List.mem_singleton.mp hp]; rfl
              · intro z hz hp hs
                have hz2 : z ≠ Str.ofString "number" := hp _ (List.mem_singleton.mpr rfl)
                have hs2 := hs
                simp only [List.contains_cons, List.contains_nil, Bool.or_false, Bool.or_eq_false_iff, beq_eq_false_iff_ne, ne_eq] at hs2
                simp only [hz, hz2, hs2, hs, if_false, kstB]
                rfl
            all_goals
              have hf : rdF os c.k.toNat = none := rd_bad hR hls (prd_stop P1 hget (i := c.k + 1 + k) hkk (by rw [hr]; dsimp only; omega))
              exact fin hret (by assumption) (News.less (fun _ h => .tail _ (List.mem_append.mpr (.inl (List.mem_append.mpr (.inr (.tail _ h)))))) (by assumption)) (rpts_none (ppts_none hP (by omega) hf))
          · replace N1 := News.dup N1 (.tail _ (List.mem_append.mpr (.inl (List.mem_append.mpr (.inl hm)))))
            have hr : rs9[pre.length] = ((rs9[pre.length]).1, (rs9[pre.length]).2) := rfl
            (try dsimp only)
            try k_fold
            k_steps
            · unfold Stop
              (rename Fr _ _ _ _ => lF'); (rename News _ _ _ _ => lN')
              refine' kst_end (c'.1 * 64 + os.getD (c.k + 1 + k).toNat 0, _) lF' lN' ?_ ?_ rfl True.intro ?_ ?_ (prd_step P1 hget hkk ⟨by rw [hr]; assumption, by rw [hr]; assumption⟩)
              · exact fun p hp => .tail _ ((List.mem_append (t := own)).mpr (.inl hp))
              · exact fun p hp => .tail _ ((List.mem_append (s := _ :: (ext ++ _))).mpr (.inr hp))
              · intro p hp; rw [List.mem_singleton.mp hp]; rfl
              · intro z hz hp hs
                have hz2 : z ≠ Str.ofString "number" := hp _ (List.mem_singleton.mpr rfl)
                have hs2 := hs
                simp only [List.contains_cons, List.contains_nil, Bool.or_false, Bool.or_eq_false_iff, beq_eq_false_iff_ne, ne_eq] at hs2
                simp only [hz, hz2, hs2, hs, if_false, kstB]
                rfl
            all_goals
              have hf : rdF os c.k.toNat = none := rd_bad hR hls (prd_stop P1 hget (i := c.k + 1 + k) hkk (by rw [hr]; dsimp only; omega))
              exact fin hret (by assumption) (News.less (fun _ h => .tail _ (.tail _ (List.mem_append.mpr (.inl (List.mem_append.mpr (.inr (.tail _ h))))))) (by assumption)) (rpts_none (ppts_none hP (by omega) hf))
        · intro c' u h1' tk _ P1 F1 N1
          clear lF' lN'
          have hp9 := prd_done P1 (by rw [rangeKs_length]; omega)
          have hf := rd_good hR hls hp9
          replace N1 := News.less (l' := (l9, listOf vs9.toArray nn9) :: (l0, W.listOf c.its c.nn) :: news) (by exact fun p hp => (List.mem_cons.mp hp).elim (fun e => e ▸ .head _) fun h => .tail _ (List.mem_append.mpr (.inr h))) N1
          (try dsimp only)
          try k_fold
          k_steps
          unfold Stop
          (rename Fr _ _ _ _ => lF'); (rename News _ _ _ _ => lN')
          refine' ksw_end (⟨_, _, c.k.toNat + 1 + rs9.length, _, _, _⟩ : PtsSt) lF' lN' ?xw3 ?xwI ?xw4 ?xw5 ?xp1 ?xp2
          case xw3 =>
            intro p hp
            rcases List.mem_cons.mp hp with hp | hp
            · rw [hp]; walk_at "my_mem"
            · walk_at "my_mem"
          case xwI => exact ints_push hI
          case xw4 => intro p hp; rw [List.mem_singleton.mp hp]; rfl
          case xp1 =>
            refine (ppts_next (rdF_gt os) hP (by omega) hf ?_ ?_).1
            · omega
            · rfl
          case xp2 => exact (ppts_next (its := #[]) (nn := 0) (tk := 0) (rdF_gt os) hP (by omega) hf rfl rfl).2
          case xw5 =>
            intro z hp hs
            have hs2 := hs
            simp only [List.contains_cons, List.contains_nil, Bool.or_false, Bool.or_eq_false_iff, beq_eq_false_iff_ne, ne_eq] at hs2
            have hz2 : z ≠ Str.ofString "at" := hp _ (List.mem_singleton.mpr rfl)
            have hin : [Str.ofString "low", Str.ofString "high", Str.ofString "octet"].contains z = false := by
              simp only [List.contains_cons, List.contains_nil, Bool.or_false, Bool.or_eq_false_iff, beq_eq_false_iff_ne, ne_eq]; exact ⟨hs2.2.2.2.1, hs2.2.2.2.2.1, hs2.2.2.2.2.2⟩
            simp only [hz2, hs2, hin, hs, if_false, kstB]
            rfl
  · exact fin hret (by assumption) (by assumption) (rpts_some (ppts_done hP (by omega)) hI l1)
theorem rows_8 : True := by
  k_with_none
  (k_with "pyIter ref!" => ((with_reducible show wpAny _ _ (pyIter (Value.ref _)) (fun it s₂ => LoopAtV _ _ _ _ _ _ _ _ _ it s₂) _ _); refine Stop.out ?_))
  (k_with "InvEndN!" => refine Stop.out ?_)
  (k_with "KswEnd!" => refine Stop.out ?_)
  (k_with "exec While Compare cons nil!" => refine Stop.out ?_)
  (k_with "my_room!" => first | ((try simp only [depth_under_make, depth_under_kw, depth_in1, depth_deeper, depth_caller]); (try dsimp only [ktrTop]); first | walk_at "my_rm" | omega) | ((try simp only [depth_under_make, depth_under_kw, depth_in1, depth_deeper, depth_caller]); decide) | decide)
  (k_with "my_rm!" => first | (with_reducible exact rm0 hd) | ((with_reducible refine rm1 hd ?_); exact Nat.le_of_ble_eq_true rfl) | ((with_reducible refine rm2 hd ?_); exact Nat.le_of_ble_eq_true rfl) | ((with_reducible refine rm2 hu ?_); exact Nat.le_of_ble_eq_true rfl) | ((with_reducible refine rm3 hd ?_); exact Nat.le_of_ble_eq_true rfl) | ((with_reducible refine rm3 hu ?_); exact Nat.le_of_ble_eq_true rfl) | ((with_reducible refine rm4 hd ?_); exact Nat.le_of_ble_eq_true rfl) | ((with_reducible refine rm4 hu ?_); exact Nat.le_of_ble_eq_true rfl))
  (k_with "my_units!" => ((try simp only [units_in1, units_deeper, Around.mark_units, units_caller]); (try dsimp only [ktrTop]); first | walk_at "my_rm" | ((have hcL9 := cLine_is); omega)))
  (k_with "my_ec!" => ((case kA | kF => exact rfl); (case kK => first | exact rfl | assumption); (case k1 | k2 | k3 | k4 | k5 => k_asm); (case k6 | k7 => k_is); (case k8 => first | (dsimp only [ktrTop]; first | walk_at "my_rm" | omega) | walk_at "my_room")))
  (k_with "my_e1!" => (refine' code_def ?k1 ?k2 ?k3 ?k4 ?k5 ?kA ?kF ?kK ?k6 ?k7 ?k8 ?k9 ?kB ?_ ?c2 ?c3 ?c4 ?c5; walk_at "my_ec"; (case k9 => first | exact BindsTo.of_eq rfl | exact binds_K (by k_in) rfl (by k_is) rfl rfl rfl); (case c5 => decide); (case kB => exact locs rfl); (case c2 | c3 | c4 => exact rfl); k_whole))
  (k_with "my_e2!" => (refine' code_defC ?k1 ?k2 ?k3 ?k4 ?k5 ?kA ?kF ?kK ?k6 ?k7 ?k8 ?k9 ?kB ?kD ?_ ?c2 ?c3 ?c4; walk_at "my_ec"; (case k9 => exact BindsTo.of_eq rfl); (case kB => exact rfl); (case kD => decide +kernel); (case c2 | c3 | c4 => exact rfl); k_whole))
  (k_with "my_enter!" => ((first | (walk_at "my_e1"; intro g' L' h' FG' F' N' B' X' T') | (walk_at "my_e2"; intro g' L' h' tk' cells' FG' F' N' Y' B' X' T' l1; (try k_lt l1); k_cells Y'; (try simp only [List.cons_append, List.nil_append] at N'))); (try dsimp only); (try k_lift B'); (try k_fold)))
  (k_with "my_start!" => (w_top off; unfold Con; k_fill; intro w p loose mean mg mb dp un gd cn cs a ccd cl outer A₀ base h₀ L m s Q E B F X N T hk hd hu hret; refine wpAny_call ?_; k_dflt walk_at "my_enter"))
  (k_with "call builtin:str.join!" => first | (k_here; refine join_listW (by is_list) (by assumption) (by decide) (by assumption) ?_; intro tj kj) | refine Stop.out ?_)
  (k_with "eval BinOp!" => (dsimp only; walk1))
  (k_with "binaryOp BitOr int int!" => (dsimp only; walk1))
  (k_with "newTuple!" => (dsimp only; walk1))
  (k_with "InvEndG!" => refine Stop.out ?_)
  (k_with "exec For Name Tuple cons nil!" => (k_here; (rename Fr _ _ _ _ => lF'); (with_unfolding_all refine' For_invVF lF' ?k1z9 ?k2z9 ?_; (case k1z9 | k2z9 => exact rfl); k_whole)))
  (k_with "my_mem!" => first | assumption | exact List.Mem.head _ | (refine List.mem_cons_of_mem _ ?_; walk_at "my_mem") | (with_reducible refine List.mem_append.mpr (.inl ?_); walk_at "my_mem") | (with_reducible refine List.mem_append.mpr (.inr ?_); walk_at "my_mem"))
  (k_with "call builtin:len!" => (k_here; (with_reducible show wpAny _ _ (call (Value.builtin "len") [Value.ref _]) _ _ _); k_dflt (refine' kst_len ?k1 ?k2 ?k3 ?k4 ?_; (case k1 => k_asm); (case k2 => walk_at "my_mem"); (case k3 => first | exact IntsAre.length (by assumption) | exact RngsAre.length (by assumption)); (case k4 => omega))))
  (k_with "subscriptTail!" => (k_here; (with_reducible show wpAny _ _ (subscriptTail _ _ (Value.ref _) (Value.int _ _)) _ _ _); k_dflt (refine' item_led ?k1 ?k2 ?k3 ?k4 ?k5 ?k6 ?_; (case k1 => k_asm); (case k2 => walk_at "my_mem"); (case k3 => assumption); (case k4 | k5 | k6 => omega); k_whole); intro _))
  (k_with "subscriptTail Name Name ref int!" => (k_here; k_dflt (refine' ref_led ?k1 ?k2 ?k4 ?k5 ?k6 ?_; (case k1 => k_asm); (case k2 => walk_at "my_mem"); (case k6 => assumption); (case k4 | k5 => omega); k_whole)))
  (k_with "CompSrc!" => refine Stop.out ?_)
  (k_with "CompEnd!" => refine Stop.out ?_)
  (k_with "my_slen!" => (rw [sizeLine_eq]; (try simp only [Str.length_append, tx_len, List.length_cons, List.length_nil, List.length_append]); omega))
  (k_with "inplaceOp Add str str!" => ((refine SBL.iadd (hsz := ?hszz9) ?_); (case hszz9 => walk_at "my_slen"); intro _ _ _))
  (k_with "binaryOp Add str str!" => ((refine SBL.add (hsz := ?hszz9) ?_); (case hszz9 => walk_at "my_slen"); intro _ _ _))
  (k_with "my_lt!" => first | assumption | exact kst_ltOf (by assumption) | exact kst_ltOf (And.right (by assumption)) | exact kst_ltOf (And.right (And.right (by assumption))) | exact kst_ltOf (And.right (And.right (And.right (by assumption)))) | exact kst_ltOf (And.right (And.right (And.right (And.right (by assumption))))) | exact kst_ltOf (And.right (And.right (And.right (And.right (And.right (by assumption)))))) | exact kst_ltOf (And.right (And.right (And.right (And.right (And.right (And.right (by assumption))))))) | exact kst_ltOf (And.right (And.right (And.right (And.right (And.right (And.right (And.right (by assumption)))))))) | exact kst_ltOf (And.right (And.right (And.right (And.right (And.right (And.right (And.right (And.right (by assumption))))))))) | exact kst_ltOf (And.right (And.right (And.right (And.right (And.right (And.right (And.right (And.right (And.right (by assumption)))))))))) | exact kst_ltOf (And.right (And.right (And.right (And.right (And.right (And.right (And.right (And.right (And.right (And.right (by assumption))))))))))) | exact kst_ltOf (And.right (And.right (And.right (And.right (And.right (And.right (And.right (And.right (And.right (And.right (And.right (by assumption)))))))))))) | exact kst_ltOf (And.right (And.right (And.right (And.right (And.right (And.right (And.right (And.right (And.right (And.right (And.right (And.right (by assumption))))))))))))) | exact kst_ltOf (And.right (And.right (And.right (And.right (And.right (And.right (And.right (And.right (And.right (And.right (And.right (And.right (And.right (by assumption)))))))))))))))
  (k_with "call ref!" => (k_here; k_dflt (refine' call_cls ?k1z9 ?k2z9 ?k3z9 ?k4z9 ?k5z9 ?k6z9 ?_; (case k1z9 | k2z9 | k3z9 => k_asm); (case k4z9 | k5z9 | k6z9 => k_is); k_whole; intro x' d' h' F' N' l1 l2; (try k_lt l1); (try k_lt2 l2); (try k_sweep); walk_at "my_enter")))
  (k_with "my_startW!" => (w_top off; unfold ConW; k_fill; intro p loose mean mg mb dp un gd cn cs a ccd cl outer A₀ base h₀ L m s Q E B F X N T hk hd hu hret; refine wpAny_call ?_; k_dflt walk_at "my_enter"))
  (k_with "my_ints!" => first | assumption | exact .nil | exact .cons _ _ .nil | exact .cons _ _ (.cons _ _ .nil))
  (k_with "my_rng!" => first | assumption | (intro n hn; simp only [List.mem_singleton] at hn; omega))
  (k_with "my_om!" => first | assumption | omega | exact Nat.le_of_ble_eq_true rfl)
  (k_with "my_u16!" => first | omega | with_reducible exact (sur_hi (by omega) (by omega)).2.1 | with_reducible exact (sur_hi (by omega) (by omega)).2.2 | with_reducible exact (sur_lo (by omega) (by omega)).2.1 | with_reducible exact (sur_lo (by omega) (by omega)).2.2)
  (k_with "my_lu!" => first | omega | (kmn_bounds; omega) | (simp only [Int.fdiv_eq_ediv_of_nonneg _ (show (0:Int) ≤ 1024 by decide), Int.fmod_eq_emod_of_nonneg _ (show (0:Int) ≤ 1024 by decide)]; omega))
  (k_with "my_con!" => ((case k4 | k1 => k_asm); (case k2 | k3 | k5 => k_asm); (case kK => first | exact rfl | assumption); (case kd => walk_at "my_room"); (case ku => walk_at "my_units")))
  (k_with "i_str!" => (intro r9 nw9 h9 tk9 R9 F9 N9; obtain ⟨e8, t9, e7⟩ := R9; subst e8 e7; (try dsimp only); (try k_fold)))
  (k_with "i_strx!" => (intro r9 nw9 h9 tk9 R9 F9 N9; obtain ⟨e8, t9, e7⟩ := R9; subst e8 e7; (try walk_at "my_text"); (try dsimp only); (try k_fold)))
  (k_with "i_two!" => (intro r9 nw9 h9 tk9 R9 F9 N9; obtain ⟨e8, e7⟩ := R9; subst e8 e7; (try dsimp only); (try k_fold)))
  (k_with "i_rj!" => (intro r9 nw9 h9 tk9 R9 F9 N9; obtain ⟨d9, t91, t92, e8, e7, l9⟩ := R9; subst e8 e7; (try k_lt l9); (try dsimp only); (try k_fold)))
  (k_with "i_pts!" => (intro r9 nw9 h9 tk9 R9 F9 N9; obtain ⟨e9, e8, e7⟩ | ⟨l9, vs9, nn9, pts9, e9, e8, e7, i9, m9⟩ := R9; (all_goals subst e8 e7); (all_goals (try walk_at "my_same")); (all_goals (try k_lt m9)); (all_goals ((try dsimp only); (try k_fold)))))
  (k_with "call ref!" => (k_here; k_dflt (refine' Con.use (shape_t _ _ _) ?k1 ?k2 ?k3 ?k4 ?k5 ?kK ?kd ?ku ?_; walk_at "my_con"; walk_at "i_shape")))
  (k_with "i_shape!" => (intro r9 nw9 h9 tk9 R9 F9 N9; obtain ⟨e9, e8, e7⟩ | ⟨d9, k9, mn9, pt9, t91, t92, t93, e9, e8, e7⟩ := R9; (all_goals subst e8 e7); (all_goals ((try dsimp only); (try k_fold)))))
  (k_with "call ref!" => (k_here; k_dflt (refine' Con.use (at_t _ _ _ _ _ ?m1 ?m2 ?m3) ?k1 ?k2 ?k3 ?k4 ?k5 ?kK ?kd ?ku ?_; walk_at "my_con"; (case m1 | m2 | m3 => walk_at "my_om"); walk_at "i_at")))
  (k_with "i_at!" => (intro r9 nw9 h9 tk9 R9 F9 N9; obtain ⟨e9, e8, e7⟩ | ⟨d9, q9, j9, t91, t92, e9, e8, e7, l9⟩ := R9; (all_goals subst e8 e7); (all_goals (try k_lt l9)); (all_goals ((try dsimp only); (try k_fold)))))
  (k_with "call ref!" => (k_here; k_dflt (refine' Con.use (behind_t _ _ _) ?k1 ?k2 ?k3 ?k4 ?k5 ?kK ?kd ?ku ?_; walk_at "my_con"; walk_at "i_behind")))
  (k_with "i_behind!" => (intro r9 nw9 h9 tk9 R9 F9 N9; obtain ⟨e9, e8, e7⟩ | ⟨l9, vs9, rs9, nn9, e9, e8, e7, g9, m9⟩ | ⟨l9, vs9, rs9, nn9, d9, lo9, hi9, t91, t92, e9, e8, e7, g9, m8, m9, m7⟩ := R9; (all_goals subst e8 e7); (all_goals (try (have q9 := beh_len e9))); (all_goals (try k_lt m9)); (all_goals (try k_lt m7)); (all_goals ((try dsimp only); (try k_fold)))))
  (k_with "eval ListComp!" => (k_here; k_dflt (refine LCg.ListComp_U (F₀ := by k_asm) (by with_unfolding_all rfl) (by decide) (by rfl) (by decide) (by rfl) ?_)))
  (k_with "exec Assign cons ListComp!" => (k_here; k_dflt (refine LCg.Assign_ListComp_U (F₀ := by k_asm) (by rfl) (by with_unfolding_all rfl) (by with_unfolding_all rfl) (by decide) (by rfl) (by decide) (by rfl) (by rfl) (by rfl) ?_)))
  trivial
noncomputable def octL (n : Int) : List Int :=
  if n < 128 then [n] else if n < 2048 then [192 + n / 64, 128 + n % 64] else if n < 65536 then [224 + n / 4096, 128 + n / 64 % 64, 128 + n % 64] else [240 + n / 262144, 128 + n / 4096 % 64, 128 + n / 64 % 64, 128 + n % 64]
theorem pow_small {i : Nat} (h : i < 3) : (1 : Int) ≤ 64 ^ (0 + (i : Int)).toNat ∧ (64 : Int) ^ (0 + (i : Int)).toNat ≤ 4096 := by
  match i, h with
  | 0, _ => decide
  | 1, _ => decide
  | 2, _ => decide
/-- one figure of base 64 in the law's own words -/
theorem fig_eq (n : Int) (k : Nat) : 128 + (n.fdiv (64 ^ k)).fmod 64 = 128 + n / 64 ^ k % 64 := by
  rw [Int.fdiv_eq_ediv_of_nonneg _ (by exact Int.pow_nonneg (by decide)), Int.fmod_eq_emod_of_nonneg _ (by decide)]
noncomputable def RInts (os : List Int) (news : List (Addr × Obj)) (r : Value) (nw : List (Addr × Obj)) : Prop := ∃ l vs nn, r = .ref l ∧ nw = (l, listOf vs.toArray nn) :: news ∧ IntsAre vs os ∧ ∀ p ∈ news, p.1 < l
theorem fig_ints {n : Int} {i : Nat} {ys : List Value} {t : Tok} (h : IntsAre ys ((List.range i).map fun k => 128 + n / 64 ^ k % 64)) :
    IntsAre (ys ++ [.int (128 + (n.fdiv (64 ^ (0 + (i : Int)).toNat)).fmod 64) t]) ((List.range (i + 1)).map fun k => 128 + n / 64 ^ k % 64) := by
  rw [List.range_succ, List.map_append, show (0 + (i : Int)).toNat = i by lia, fig_eq]
  exact h.append (.cons _ _ .nil)
theorem octL_1 {n : Int} (h : n < 128) : octL n = [n] := by unfold octL; rw [if_pos h]
theorem octL_2 {n : Int} (h : ¬ n < 128) (h2 : n < 2048) : octL n = [192 + n.fdiv (64 ^ Int.toNat 1)] ++ (((List.range 1).map fun k => 128 + n / 64 ^ k % 64)).reverse := by
  unfold octL; rw [if_neg h, if_pos h2, Int.fdiv_eq_ediv_of_nonneg _ (by decide)]
  show _ = [192 + n / 64, 128 + n / 1 % 64]; rw [Int.ediv_one]
theorem octL_3 {n : Int} (h : ¬ n < 2048) (h2 : n < 65536) : octL n = [224 + n.fdiv (64 ^ Int.toNat 2)] ++ (((List.range 2).map fun k => 128 + n / 64 ^ k % 64)).reverse := by
  unfold octL; rw [if_neg (by lia), if_neg h, if_pos h2, Int.fdiv_eq_ediv_of_nonneg _ (by decide)]
  show _ = [224 + n / 4096, 128 + n / 64 % 64, 128 + n / 1 % 64]; rw [Int.ediv_one]
theorem octL_4 {n : Int} (h : ¬ n < 65536) : octL n = [240 + n.fdiv (64 ^ Int.toNat 3)] ++ (((List.range 3).map fun k => 128 + n / 64 ^ k % 64)).reverse := by
  unfold octL; rw [if_neg (by lia), if_neg (by lia), if_neg h, Int.fdiv_eq_ediv_of_nonneg _ (by decide)]
  show _ = [240 + n / 262144, 128 + n / 4096 % 64, 128 + n / 64 % 64, 128 + n / 1 % 64]; rw [Int.ediv_one]

set_option maxHeartbeats 8000000 in
theorem octets_t (news : List (Addr × Obj)) (n : Int) (t : Tok) (h0 : 0 ≤ n) (h1 : n < 2097152) : Con 677 3 news [.int n t] (RInts (octL n) news) := by
  walk_at "my_start"
  have hMk : KstMark := kstMark
  have p11 : (2 : Int) ^ Int.toNat 11 = 2048 := rfl
  have p16 : (2 : Int) ^ Int.toNat 16 = 65536 := rfl
  k_steps
  · refine fin hret (by assumption) (News.drop2 (by assumption)) ⟨_, [_], _, rfl, rfl, by rw [octL_1 (by assumption)]; exact .cons _ _ .nil, ?_⟩
    exact kst_ltOf (And.right (by assumption))
  · unfold Stop
    (rename IsRange _ _ _ _ _ _ _ _ => rgX)
    have hoct := octL_2 (n := n) (by lia) (by lia)
    refine LCg.CompSrc.range (by rfl) (by k_asm) (by k_asm) rgX (by first | decide | rfl) (rangeSize_nat _ _) (by decide) ?_
    intro g9
    refine comp_rest 1 (fun i ys nx => nx = _ ∧ IntsAre ys ((List.range i).map fun k => 128 + n / 64 ^ k % 64)) ?_ ?_ _ _ _ _ (Nat.zero_add _) ⟨rfl, .nil⟩
    · rintro i ys nx hlt ⟨rfl, hS⟩ v I oI C oC D m₂ h tk E' hv hC hx F9 N9 o9 ne9
      obtain ⟨tv, rfl⟩ := hv
      have hpow : (1 : Int) ≤ 64 ^ (0 + (i : Int)).toNat ∧ (64 : Int) ^ (0 + (i : Int)).toNat ≤ 4096 := pow_small (by lia)
      (try dsimp only)
      try k_fold
      k_steps
      unfold Stop
      exact LCg.CompEnd.intro (by assumption) (by assumption) _ (fun _ h => h) o9 trivial ⟨rfl, fig_ints hS⟩
    · rintro ys nx ⟨rfl, hS⟩
      unfold LCg.FinA
      intro D' h' tk' F' N' o1'
      (try simp only [LCg.Off1, and_true] at o1')
      (try dsimp only)
      try k_fold
      k_steps
      refine fin hret (by assumption) (News.less (l' := _ :: news) ?_ (by assumption)) ⟨_, _, 0, rfl, rfl, by rw [hoct]; assumption, by walk_at "my_lt"⟩
      intro p hp
      rcases List.mem_cons.mp hp with hp | hp
      · rw [hp]; exact .head _
      · walk_at "my_mem"
  · unfold Stop
    (rename IsRange _ _ _ _ _ _ _ _ => rgX)
    have hoct := octL_3 (n := n) (by lia) (by lia)
    refine LCg.CompSrc.range (by rfl) (by k_asm) (by k_asm) rgX (by first | decide | rfl) (rangeSize_nat _ _) (by decide) ?_
    intro g9
    refine comp_rest 2 (fun i ys nx => nx = _ ∧ IntsAre ys ((List.range i).map fun k => 128 + n / 64 ^ k % 64)) ?_ ?_ _ _ _ _ (Nat.zero_add _) ⟨rfl, .nil⟩
    · rintro i ys nx hlt ⟨rfl, hS⟩ v I oI C oC D m₂ h tk E' hv hC hx F9 N9 o9 ne9
      obtain ⟨tv, rfl⟩ := hv
      have hpow : (1 : Int) ≤ 64 ^ (0 + (i : Int)).toNat ∧ (64 : Int) ^ (0 + (i : Int)).toNat ≤ 4096 := pow_small (by lia)
      (try dsimp only)
      try k_fold
      k_steps
      unfold Stop
      exact LCg.CompEnd.intro (by assumption) (by assumption) _ (fun _ h => h) o9 trivial ⟨rfl, fig_ints hS⟩
    · rintro ys nx ⟨rfl, hS⟩
      unfold LCg.FinA
      intro D' h' tk' F' N' o1'
      (try simp only [LCg.Off1, and_true] at o1')
      (try dsimp only)
      try k_fold
      k_steps
      refine fin hret (by assumption) (News.less (l' := _ :: news) ?_ (by assumption)) ⟨_, _, 0, rfl, rfl, by rw [hoct]; assumption, by walk_at "my_lt"⟩
      intro p hp
      rcases List.mem_cons.mp hp with hp | hp
      · rw [hp]; exact .head _
      · walk_at "my_mem"
  · unfold Stop
    (rename IsRange _ _ _ _ _ _ _ _ => rgX)
    have hoct := octL_4 (n := n) (by lia)
    refine LCg.CompSrc.range (by rfl) (by k_asm) (by k_asm) rgX (by first | decide | rfl) (rangeSize_nat _ _) (by decide) ?_
    intro g9
    refine comp_rest 3 (fun i ys nx => nx = _ ∧ IntsAre ys ((List.range i).map fun k => 128 + n / 64 ^ k % 64)) ?_ ?_ _ _ _ _ (Nat.zero_add _) ⟨rfl, .nil⟩
    · rintro i ys nx hlt ⟨rfl, hS⟩ v I oI C oC D m₂ h tk E' hv hC hx F9 N9 o9 ne9
      obtain ⟨tv, rfl⟩ := hv
      have hpow : (1 : Int) ≤ 64 ^ (0 + (i : Int)).toNat ∧ (64 : Int) ^ (0 + (i : Int)).toNat ≤ 4096 := pow_small (by lia)
      (try dsimp only)
      try k_fold
      k_steps
      unfold Stop
      exact LCg.CompEnd.intro (by assumption) (by assumption) _ (fun _ h => h) o9 trivial ⟨rfl, fig_ints hS⟩
    · rintro ys nx ⟨rfl, hS⟩
      unfold LCg.FinA
      intro D' h' tk' F' N' o1'
      (try simp only [LCg.Off1, and_true] at o1')
      (try dsimp only)
      try k_fold
      k_steps
      refine fin hret (by assumption) (News.less (l' := _ :: news) ?_ (by assumption)) ⟨_, _, 0, rfl, rfl, by rw [hoct]; assumption, by walk_at "my_lt"⟩
      intro p hp
      rcases List.mem_cons.mp hp with hp | hp
      · rw [hp]; exact .head _
      · walk_at "my_mem"
theorem strs_snoc {ys : List Value} {os : List Int} {o : Int} {t : Tok} (h : StrsAre ys (os.map sgn)) : StrsAre (ys ++ [.str ⟨#[o.toNat]⟩ t]) ((os ++ [o]).map sgn) := by
  rw [List.map_append]; exact h.append' (.cons _ _ .nil)
set_option maxHeartbeats 8000000 in
theorem ltext_t (news : List (Addr × Obj)) (l : Addr) (vs : List Value) (nn : Nat) (os : List Int) (hl : (l, listOf vs.toArray nn) ∈ news) (hi : IntsAre vs os) (hn : os.length ≤ 400) (hr : ∀ o ∈ os, 0 ≤ o ∧ o ≤ 255) : Con 682 3 news [.ref l] (RText os news) := by
  walk_at "my_start"
  have hMk : KstMark := kstMark
  k_steps
  unfold Stop
  have hlen := hi.length
  have hsz : vs.length ≤ 400 := by omega
  refine LCg.CompSrc.ledger (by rfl) (by k_asm) (by k_asm) hl (by rw [List.size_toArray]; exact Nat.le_trans hsz (by decide)) ?_
  intro g9
  refine comp_rest vs.toArray.size (fun i ys nx => nx = news ∧ StrsAre ys ((os.take i).map sgn)) ?_ ?_ _ _ _ _ (Nat.zero_add _) ⟨rfl, .nil⟩
  · rintro i ys nx hlt ⟨rfl, hS⟩ v I oI C oC D m₂ h tk E' hv hC hx F9 N9 o9 ne9
    obtain ⟨o, to, rfl, ho⟩ := hi.at i v (by simpa using hv)
    have hor := hr o (List.mem_of_getElem? ho)
    (try dsimp only)
    try k_fold
    k_steps
    unfold Stop
    refine LCg.CompEnd.intro (by assumption) N9 _ (fun _ h => h) o9 (.inr ⟨_, hl, rfl, _, rfl⟩) ⟨rfl, ?_⟩
    rw [List.take_add_one, ho]
    exact strs_snoc hS
  · rintro ys nx ⟨rfl, hS⟩
    unfold LCg.FinE
    intro D' h' tk' F' N' o1'
    rw [show os.take vs.toArray.size = os by rw [List.size_toArray, hlen]; exact List.take_length] at hS
    have hW : ((os.map sgn).map (·.length)).sum + (os.map sgn).length ≤ 1048576 := by
      have h8 : ((os.map sgn).map (·.length)).sum = os.length := by rw [List.map_map]; exact sum_ones _
      rw [h8, List.length_map]; omega
    (try dsimp only)
    try k_fold
    k_steps
    unfold Stop
    refine join_listW (items := ys.toArray) (ys := os.map sgn) ⟨_, (N' _ (.head _)).1, rfl, _, rfl⟩ hS (by decide) hW ?_
    intro tj kj
    rw [glued_nil]
    (try dsimp only)
    k_steps
    exact fin hret (by assumption) (News.less (fun _ h => .tail _ h) (by assumption)) ⟨rfl, _, rfl⟩
theorem rows_9 : True := by
  (k_with "subscriptTail!" => (k_here; (with_reducible show wpAny _ _ (subscriptTail _ _ (Value.str (Str.ofString "0123456789abcdef") _) (Value.int _ _)) _ _ _); refine hex_item ?_ ?_ ?_; (focus first | omega | exact (bitAnd_range _ (by decide)).1 | exact fmod_lo _ (by decide)); (focus first | omega | exact Int.lt_of_le_of_lt (bitAnd_range _ (by decide)).2 (by decide) | exact fmod_hi _ (by decide))))
  (k_with "eval ListComp!" => (k_here; k_dflt (refine comp_tup (F₀ := by k_asm) (by with_unfolding_all rfl) (by decide) (by rfl) (by decide) (by rfl) ?_)))
  (k_with "SrcT!" => refine Stop.out ?_)
  trivial

theorem ldig_at {n p : Int} {i : Nat} (hp : p = 3 - (i : Int)) (hi : i < 4) : (digs n)[i]? = some (hexd ((n.fdiv (16 ^ p.toNat)).fmod 16)) := by
  subst hp
  rw [Int.fmod_eq_emod_of_nonneg _ (by decide), Int.fdiv_eq_ediv_of_nonneg _ (by exact Int.pow_nonneg (by decide))]
  match i, hi with
  | 0, _ => rfl
  | 1, _ => rfl
  | 2, _ => show some (hexd (n / 16 % 16)) = some (hexd (n / 16 % 16)); rfl
  | 3, _ => show some (hexd (n % 16)) = some (hexd (n / 1 % 16)); rw [Int.ediv_one]
set_option maxHeartbeats 8000000 in
theorem lunit_t (news : List (Addr × Obj)) (n : Int) (t : Tok) (h0 : 0 ≤ n) (h1 : n < 65536) : Con 694 3 news [.int n t] (RStr (unitL n) news) := by
  walk_at "my_start"
  have hMk : KstMark := kstMark
  k_steps
  unfold Stop
  have hk : ∀ (i : Nat) (v : Value) (t0 t1 t2 t3 : Tok), [Value.int 3 t0, Value.int 2 t1, Value.int 1 t2, Value.int 0 t3][i]? = some v → ∃ p tp, (p = 3 - (i : Int) ∧ i < 4) ∧ v = Value.int p tp := by
    intro i v t0 t1 t2 t3 hv
    have h4 : i < 4 := by have := (List.getElem?_eq_some_iff.mp hv).1; simpa using this
    match i, h4 with
    | 0, _ => cases hv; exact ⟨_, _, ⟨rfl, by decide⟩, rfl⟩
    | 1, _ => cases hv; exact ⟨_, _, ⟨rfl, by decide⟩, rfl⟩
    | 2, _ => cases hv; exact ⟨_, _, ⟨rfl, by decide⟩, rfl⟩
    | 3, _ => cases hv; exact ⟨_, _, ⟨rfl, by decide⟩, rfl⟩
  refine ⟨_, _, _, _, rfl, by rfl, by k_asm, by k_asm, .head _, by exact Nat.le_of_ble_eq_true rfl, fun g9 => comp_rest 4 (fun i ys nx => nx = _ ∧ StrsAre ys (((digs n).take i).map fun d => tx [d])) ?_ ?_ _ _ _ _ rfl ⟨rfl, .nil⟩⟩
  · rintro i ys nx hlt ⟨rfl, hS⟩ v I oI C oC D m₂ h tk E' hv hC hx F9 N9 o9 ne9
    obtain ⟨p, tp, hp, rfl⟩ := hk _ _ _ _ _ _ hv
    have hpow : (1 : Int) ≤ 16 ^ p.toNat ∧ (16 : Int) ^ p.toNat ≤ 4096 := by
      obtain ⟨rfl, h4⟩ := hp
      match i, h4 with
      | 0, _ => decide
      | 1, _ => decide
      | 2, _ => decide
      | 3, _ => decide
    (try dsimp only)
    try k_fold
    k_steps
    unfold Stop
    refine LCg.CompEnd.intro (by assumption) (by assumption) _ (fun _ h => h) o9 (.head _) ⟨rfl, ?_⟩
    rw [List.take_add_one, ldig_at hp.1 hp.2, List.map_append]
    exact hS.append' (.cons _ _ .nil)
  · rintro ys nx ⟨rfl, hS⟩
    unfold LCg.FinE
    intro D' h' tk' F' N' o1'
    (try simp only [LCg.Off1, and_true] at o1')
    have hW : ((((digs n).take 4).map fun d => tx [d]).map (·.length)).sum + (((digs n).take 4).map fun d => tx [d]).length ≤ 1048576 := by
      show (1 + (1 + (1 + (1 + 0)))) + 4 ≤ 1048576; decide
    have hsl : (Str.ofString "\\u").length = 2 := by decide +kernel
    (try dsimp only)
    try k_fold
    k_steps
    unfold Stop
    refine join_listW (items := ys.toArray) (ys := ((digs n).take 4).map fun d => tx [d]) ⟨_, (N' _ (.head _)).1, rfl, _, rfl⟩ hS (by decide) hW ?_
    intro tj kj
    rw [txt_join_nil, show (⟨((((digs n).take 4).map fun d => tx [d]).flatMap (·.cps.toList)).toArray⟩ : Str) = tx (digs n) from rfl]
    have hdl : (digs n).length = 4 := rfl
    (try dsimp only)
    k_steps
    exact fin hret (by assumption) (News.less (fun _ h => .tail _ (.tail _ (.tail _ h))) (by assumption)) ⟨rfl, _, by rw [show Str.ofString "\\u" = tx [92, 117] by decide +kernel, tx_append]; rfl⟩
theorem rows_10 : True := by
  k_with_none
  (k_with "pyIter ref!" => ((with_reducible show wpAny _ _ (pyIter (Value.ref _)) (fun it s₂ => LoopAtV _ _ _ _ _ _ _ _ _ it s₂) _ _); refine Stop.out ?_))
  (k_with "InvEndN!" => refine Stop.out ?_)
  (k_with "KswEnd!" => refine Stop.out ?_)
  (k_with "exec While Compare cons nil!" => refine Stop.out ?_)
  (k_with "my_room!" => first | ((try simp only [depth_under_make, depth_under_kw, depth_in1, depth_deeper, depth_caller]); (try dsimp only [ktrTop]); first | walk_at "my_rm" | omega) | ((try simp only [depth_under_make, depth_under_kw, depth_in1, depth_deeper, depth_caller]); decide) | decide)
  (k_with "my_rm!" => first | (with_reducible exact rm0 hd) | ((with_reducible refine rm1 hd ?_); exact Nat.le_of_ble_eq_true rfl) | ((with_reducible refine rm2 hd ?_); exact Nat.le_of_ble_eq_true rfl) | ((with_reducible refine rm2 hu ?_); exact Nat.le_of_ble_eq_true rfl) | ((with_reducible refine rm3 hd ?_); exact Nat.le_of_ble_eq_true rfl) | ((with_reducible refine rm3 hu ?_); exact Nat.le_of_ble_eq_true rfl) | ((with_reducible refine rm4 hd ?_); exact Nat.le_of_ble_eq_true rfl) | ((with_reducible refine rm4 hu ?_); exact Nat.le_of_ble_eq_true rfl))
  (k_with "my_units!" => ((try simp only [units_in1, units_deeper, Around.mark_units, units_caller]); (try dsimp only [ktrTop]); first | walk_at "my_rm" | ((have hcL9 := cLine_is); omega)))
  (k_with "my_ec!" => ((case kA | kF => exact rfl); (case kK => first | exact rfl | assumption); (case k1 | k2 | k3 | k4 | k5 => k_asm); (case k6 | k7 => k_is); (case k8 => first | (dsimp only [ktrTop]; first | walk_at "my_rm" | omega) | walk_at "my_room")))
  (k_with "my_e1!" => (refine' code_def ?k1 ?k2 ?k3 ?k4 ?k5 ?kA ?kF ?kK ?k6 ?k7 ?k8 ?k9 ?kB ?_ ?c2 ?c3 ?c4 ?c5; walk_at "my_ec"; (case k9 => first | exact BindsTo.of_eq rfl | exact binds_K (by k_in) rfl (by k_is) rfl rfl rfl); (case c5 => decide); (case kB => exact locs rfl); (case c2 | c3 | c4 => exact rfl); k_whole))
  (k_with "my_e2!" => (refine' code_defC ?k1 ?k2 ?k3 ?k4 ?k5 ?kA ?kF ?kK ?k6 ?k7 ?k8 ?k9 ?kB ?kD ?_ ?c2 ?c3 ?c4; walk_at "my_ec"; (case k9 => exact BindsTo.of_eq rfl); (case kB => exact rfl); (case kD => decide +kernel); (case c2 | c3 | c4 => exact rfl); k_whole))
  (k_with "my_enter!" => ((first | (walk_at "my_e1"; intro g' L' h' FG' F' N' B' X' T') | (walk_at "my_e2"; intro g' L' h' tk' cells' FG' F' N' Y' B' X' T' l1; (try k_lt l1); k_cells Y'; (try simp only [List.cons_append, List.nil_append] at N'))); (try dsimp only); (try k_lift B'); (try k_fold)))
  (k_with "my_start!" => (w_top off; unfold Con; k_fill; intro w p loose mean mg mb dp un gd cn cs a ccd cl outer A₀ base h₀ L m s Q E B F X N T hk hd hu hret; refine wpAny_call ?_; k_dflt walk_at "my_enter"))
  (k_with "call builtin:str.join!" => first | (k_here; refine join_listW (by is_list) (by assumption) (by decide) (by assumption) ?_; intro tj kj) | refine Stop.out ?_)
  (k_with "eval BinOp!" => (dsimp only; walk1))
  (k_with "binaryOp BitOr int int!" => (dsimp only; walk1))
  (k_with "newTuple!" => (dsimp only; walk1))
  (k_with "InvEndG!" => refine Stop.out ?_)
  (k_with "exec For Name Tuple cons nil!" => (k_here; (rename Fr _ _ _ _ => lF'); (with_unfolding_all refine' For_invVF lF' ?k1z9 ?k2z9 ?_; (case k1z9 | k2z9 => exact rfl); k_whole)))
  (k_with "my_mem!" => first | assumption | exact List.Mem.head _ | (refine List.mem_cons_of_mem _ ?_; walk_at "my_mem") | (with_reducible refine List.mem_append.mpr (.inl ?_); walk_at "my_mem") | (with_reducible refine List.mem_append.mpr (.inr ?_); walk_at "my_mem"))
  (k_with "call builtin:len!" => (k_here; (with_reducible show wpAny _ _ (call (Value.builtin "len") [Value.ref _]) _ _ _); k_dflt (refine' kst_len ?k1 ?k2 ?k3 ?k4 ?_; (case k1 => k_asm); (case k2 => walk_at "my_mem"); (case k3 => first | exact IntsAre.length (by assumption) | exact RngsAre.length (by assumption)); (case k4 => omega))))
  (k_with "subscriptTail!" => (k_here; (with_reducible show wpAny _ _ (subscriptTail _ _ (Value.ref _) (Value.int _ _)) _ _ _); k_dflt (refine' item_led ?k1 ?k2 ?k3 ?k4 ?k5 ?k6 ?_; (case k1 => k_asm); (case k2 => walk_at "my_mem"); (case k3 => assumption); (case k4 | k5 | k6 => omega); k_whole); intro _))
  (k_with "subscriptTail Name Name ref int!" => (k_here; k_dflt (refine' ref_led ?k1 ?k2 ?k4 ?k5 ?k6 ?_; (case k1 => k_asm); (case k2 => walk_at "my_mem"); (case k6 => assumption); (case k4 | k5 => omega); k_whole)))
  (k_with "CompSrc!" => refine Stop.out ?_)
  (k_with "CompEnd!" => refine Stop.out ?_)
  (k_with "my_slen!" => (rw [sizeLine_eq]; (try simp only [Str.length_append, tx_len, List.length_cons, List.length_nil, List.length_append]); omega))
  (k_with "inplaceOp Add str str!" => ((refine SBL.iadd (hsz := ?hszz9) ?_); (case hszz9 => walk_at "my_slen"); intro _ _ _))
  (k_with "binaryOp Add str str!" => ((refine SBL.add (hsz := ?hszz9) ?_); (case hszz9 => walk_at "my_slen"); intro _ _ _))
  (k_with "my_lt!" => first | assumption | exact kst_ltOf (by assumption) | exact kst_ltOf (And.right (by assumption)) | exact kst_ltOf (And.right (And.right (by assumption))) | exact kst_ltOf (And.right (And.right (And.right (by assumption)))) | exact kst_ltOf (And.right (And.right (And.right (And.right (by assumption))))) | exact kst_ltOf (And.right (And.right (And.right (And.right (And.right (by assumption)))))) | exact kst_ltOf (And.right (And.right (And.right (And.right (And.right (And.right (by assumption))))))) | exact kst_ltOf (And.right (And.right (And.right (And.right (And.right (And.right (And.right (by assumption)))))))) | exact kst_ltOf (And.right (And.right (And.right (And.right (And.right (And.right (And.right (And.right (by assumption))))))))) | exact kst_ltOf (And.right (And.right (And.right (And.right (And.right (And.right (And.right (And.right (And.right (by assumption)))))))))) | exact kst_ltOf (And.right (And.right (And.right (And.right (And.right (And.right (And.right (And.right (And.right (And.right (by assumption))))))))))) | exact kst_ltOf (And.right (And.right (And.right (And.right (And.right (And.right (And.right (And.right (And.right (And.right (And.right (by assumption)))))))))))) | exact kst_ltOf (And.right (And.right (And.right (And.right (And.right (And.right (And.right (And.right (And.right (And.right (And.right (And.right (by assumption))))))))))))) | exact kst_ltOf (And.right (And.right (And.right (And.right (And.right (And.right (And.right (And.right (And.right (And.right (And.right (And.right (And.right (by assumption)))))))))))))))
  (k_with "call ref!" => (k_here; k_dflt (refine' call_cls ?k1z9 ?k2z9 ?k3z9 ?k4z9 ?k5z9 ?k6z9 ?_; (case k1z9 | k2z9 | k3z9 => k_asm); (case k4z9 | k5z9 | k6z9 => k_is); k_whole; intro x' d' h' F' N' l1 l2; (try k_lt l1); (try k_lt2 l2); (try k_sweep); walk_at "my_enter")))
  (k_with "my_startW!" => (w_top off; unfold ConW; k_fill; intro p loose mean mg mb dp un gd cn cs a ccd cl outer A₀ base h₀ L m s Q E B F X N T hk hd hu hret; refine wpAny_call ?_; k_dflt walk_at "my_enter"))
  (k_with "my_ints!" => first | assumption | exact .nil | exact .cons _ _ .nil | exact .cons _ _ (.cons _ _ .nil))
  (k_with "my_rng!" => first | assumption | (intro n hn; simp only [List.mem_singleton] at hn; omega))
  (k_with "my_om!" => first | assumption | omega | exact Nat.le_of_ble_eq_true rfl)
  (k_with "my_u16!" => first | omega | with_reducible exact (sur_hi (by omega) (by omega)).2.1 | with_reducible exact (sur_hi (by omega) (by omega)).2.2 | with_reducible exact (sur_lo (by omega) (by omega)).2.1 | with_reducible exact (sur_lo (by omega) (by omega)).2.2)
  (k_with "my_lu!" => first | omega | (kmn_bounds; omega) | (simp only [Int.fdiv_eq_ediv_of_nonneg _ (show (0:Int) ≤ 1024 by decide), Int.fmod_eq_emod_of_nonneg _ (show (0:Int) ≤ 1024 by decide)]; omega))
  (k_with "my_con!" => ((case k4 | k1 => k_asm); (case k2 | k3 | k5 => k_asm); (case kK => first | exact rfl | assumption); (case kd => walk_at "my_room"); (case ku => walk_at "my_units")))
  (k_with "i_str!" => (intro r9 nw9 h9 tk9 R9 F9 N9; obtain ⟨e8, t9, e7⟩ := R9; subst e8 e7; (try dsimp only); (try k_fold)))
  (k_with "i_strx!" => (intro r9 nw9 h9 tk9 R9 F9 N9; obtain ⟨e8, t9, e7⟩ := R9; subst e8 e7; (try walk_at "my_text"); (try dsimp only); (try k_fold)))
  (k_with "i_two!" => (intro r9 nw9 h9 tk9 R9 F9 N9; obtain ⟨e8, e7⟩ := R9; subst e8 e7; (try dsimp only); (try k_fold)))
  (k_with "i_rj!" => (intro r9 nw9 h9 tk9 R9 F9 N9; obtain ⟨d9, t91, t92, e8, e7, l9⟩ := R9; subst e8 e7; (try k_lt l9); (try dsimp only); (try k_fold)))
  (k_with "i_pts!" => (intro r9 nw9 h9 tk9 R9 F9 N9; obtain ⟨e9, e8, e7⟩ | ⟨l9, vs9, nn9, pts9, e9, e8, e7, i9, m9⟩ := R9; (all_goals subst e8 e7); (all_goals (try walk_at "my_same")); (all_goals (try k_lt m9)); (all_goals ((try dsimp only); (try k_fold)))))
  (k_with "call ref!" => (k_here; k_dflt (refine' Con.use (shape_t _ _ _) ?k1 ?k2 ?k3 ?k4 ?k5 ?kK ?kd ?ku ?_; walk_at "my_con"; walk_at "i_shape")))
  (k_with "i_shape!" => (intro r9 nw9 h9 tk9 R9 F9 N9; obtain ⟨e9, e8, e7⟩ | ⟨d9, k9, mn9, pt9, t91, t92, t93, e9, e8, e7⟩ := R9; (all_goals subst e8 e7); (all_goals ((try dsimp only); (try k_fold)))))
  (k_with "call ref!" => (k_here; k_dflt (refine' Con.use (at_t _ _ _ _ _ ?m1 ?m2 ?m3) ?k1 ?k2 ?k3 ?k4 ?k5 ?kK ?kd ?ku ?_; walk_at "my_con"; (case m1 | m2 | m3 => walk_at "my_om"); walk_at "i_at")))
  (k_with "i_at!" => (intro r9 nw9 h9 tk9 R9 F9 N9; obtain ⟨e9, e8, e7⟩ | ⟨d9, q9, j9, t91, t92, e9, e8, e7, l9⟩ := R9; (all_goals subst e8 e7); (all_goals (try k_lt l9)); (all_goals ((try dsimp only); (try k_fold)))))
  (k_with "call ref!" => (k_here; k_dflt (refine' Con.use (behind_t _ _ _) ?k1 ?k2 ?k3 ?k4 ?k5 ?kK ?kd ?ku ?_; walk_at "my_con"; walk_at "i_behind")))
  (k_with "i_behind!" => (intro r9 nw9 h9 tk9 R9 F9 N9; obtain ⟨e9, e8, e7⟩ | ⟨l9, vs9, rs9, nn9, e9, e8, e7, g9, m9⟩ | ⟨l9, vs9, rs9, nn9, d9, lo9, hi9, t91, t92, e9, e8, e7, g9, m8, m9, m7⟩ := R9; (all_goals subst e8 e7); (all_goals (try (have q9 := beh_len e9))); (all_goals (try k_lt m9)); (all_goals (try k_lt m7)); (all_goals ((try dsimp only); (try k_fold)))))
  (k_with "eval ListComp!" => (k_here; k_dflt (refine LCg.ListComp_U (F₀ := by k_asm) (by with_unfolding_all rfl) (by decide) (by rfl) (by decide) (by rfl) ?_)))
  (k_with "exec Assign cons ListComp!" => (k_here; k_dflt (refine LCg.Assign_ListComp_U (F₀ := by k_asm) (by rfl) (by with_unfolding_all rfl) (by with_unfolding_all rfl) (by decide) (by rfl) (by decide) (by rfl) (by rfl) (by rfl) ?_)))
  trivial
noncomputable def shortD : List (PyData × PyData) := [(.int 8, .str (Str.ofString "b")), (.int 9, .str (Str.ofString "t")), (.int 10, .str (Str.ofString "n")), (.int 12, .str (Str.ofString "f")), (.int 13, .str (Str.ofString "r")), (.int 34, .str (Str.ofString "\"")), (.int 92, .str (Str.ofString "\\")), (.int 47, .str (Str.ofString "/"))]
@[irreducible] noncomputable def isShort (p : Int) : Bool := (PySem.Spec.lookup (.int p) shortD).isSome
noncomputable def shortN (p : Int) : Nat := if p = 8 then 98 else if p = 9 then 116 else if p = 10 then 110 else if p = 12 then 102 else if p = 13 then 114 else p.toNat
theorem lk_iff {p k : Int} {v : PyData} {l : List (PyData × PyData)} : (PySem.Spec.lookup (.int p) ((.int k, v) :: l)).isSome = true ↔ p = k ∨ (PySem.Spec.lookup (.int p) l).isSome = true := by
  simp only [PySem.Spec.lookup, PyProof.V.same_int, decide_eq_true_eq]
  split
  · rename_i h; exact ⟨fun _ => .inl h.symm, fun _ => rfl⟩
  · rename_i h; exact ⟨.inr, fun x => x.elim (fun e => absurd e.symm h) id⟩
theorem isShort_iff (p : Int) : isShort p = true ↔ p = 8 ∨ p = 9 ∨ p = 10 ∨ p = 12 ∨ p = 13 ∨ p = 34 ∨ p = 92 ∨ p = 47 := by
  unfold isShort shortD
  simp only [lk_iff]
  simp only [PySem.Spec.lookup, Option.isSome_none, Bool.false_eq_true, or_false]
theorem short_at {p : Int} (h : isShort p = true) : PySem.Spec.lookup (.int p) shortD = some (.str (tx [shortN p])) := by
  rcases (isShort_iff p).mp h with rfl | rfl | rfl | rfl | rfl | rfl | rfl | rfl
  · exact congrArg (fun x => some (PyData.str x)) (show Str.ofString "b" = tx [98] by decide +kernel)
  · exact congrArg (fun x => some (PyData.str x)) (show Str.ofString "t" = tx [116] by decide +kernel)
  · exact congrArg (fun x => some (PyData.str x)) (show Str.ofString "n" = tx [110] by decide +kernel)
  · exact congrArg (fun x => some (PyData.str x)) (show Str.ofString "f" = tx [102] by decide +kernel)
  · exact congrArg (fun x => some (PyData.str x)) (show Str.ofString "r" = tx [114] by decide +kernel)
  · exact congrArg (fun x => some (PyData.str x)) (show Str.ofString "\"" = tx [34] by decide +kernel)
  · exact congrArg (fun x => some (PyData.str x)) (show Str.ofString "\\" = tx [92] by decide +kernel)
  · exact congrArg (fun x => some (PyData.str x)) (show Str.ofString "/" = tx [47] by decide +kernel)
theorem intData_short (a0 b0 a1 b1 a2 b2 a3 b3 a4 b4 a5 b5 a6 b6 a7 b7 : Tok) : PyProof.Rows.intData [(.int 8 a0, .str (Str.ofString "b") b0), (.int 9 a1, .str (Str.ofString "t") b1), (.int 10 a2, .str (Str.ofString "n") b2), (.int 12 a3, .str (Str.ofString "f") b3), (.int 13 a4, .str (Str.ofString "r") b4), (.int 34 a5, .str (Str.ofString "\"") b5), (.int 92 a6, .str (Str.ofString "\\") b6), (.int 47 a7, .str (Str.ofString "/") b7)] = shortD := by
  simp only [PyProof.Rows.intData, PyProof.Rows.datumOf, Option.getD_some, shortD]
section
variable {prog : Program} {w : World} {A : Around} {E : Value → Shared → Prop} {s : Shared} {d : Addr} {D : List (PyData × PyData)} {i : Int} {t : Tok}
theorem in_short {Q : Value → Shared → Prop} (T : PyProof.Rows.IntTab prog w s.heap d D) (hD : D = shortD) (h : Q (.bool (isShort i)) { s with toks := s.toks + 1 }) :
    wpAny (model prog w) A (compareOp .In (.int i t) (.ref d)) Q E s := in_intTab T (by unfold isShort at h; exact hD ▸ h)
theorem item_short {value slice : PySem.Expr} {Q : Value → Shared → Prop} (T : PyProof.Rows.IntTab prog w s.heap d D) (hD : D = shortD) (hi : isShort i = true) (h : ∀ t, Q (.str (tx [shortN i]) t) { s with toks := s.toks + 1 })
    (hs : subscripted slice false (.ref d) (.int i t) = operate [.ref d, .int i t] (getItem (.ref d) (.int i t)) := by with_unfolding_all rfl) (hg : ∀ r, letTemporaryGo value (.ref d) r = pure () := by intro _; with_unfolding_all rfl) :
    wpAny (model prog w) A (subscriptTail value slice (.ref d) (.int i t)) Q E s :=
  item_intTab T (hD ▸ short_at hi) (fun v hv => by obtain ⟨t, rfl⟩ := hv.str_inv; exact h t) hs hg
end
theorem bitAnd_1023 {x : Int} (h : 0 ≤ x) : Builtin.bitAnd x 1023 = x % 1024 := by
  rw [bitAnd_pp h (by decide)]
  have h2 : x.toNat &&& (1023 : Int).toNat = x.toNat % 1024 := Nat.and_two_pow_sub_one_eq_mod x.toNat 10
  rw [h2, Int.natCast_emod, Int.toNat_of_nonneg h]; rfl
theorem or_hi {x : Int} (h0 : 0 ≤ x) (h1 : x < 1024) : Builtin.bitOr 55296 x = 55296 + x := by
  have h : ∀ k : Fin 1024, Builtin.bitOr 55296 ((k.val : Nat) : Int) = 55296 + ((k.val : Nat) : Int) := by decide +kernel
  have := h ⟨x.toNat, by lia⟩
  simpa [Int.toNat_of_nonneg h0] using this
theorem or_lo {x : Int} (h0 : 0 ≤ x) (h1 : x < 1024) : Builtin.bitOr 56320 x = 56320 + x := by
  have h : ∀ k : Fin 1024, Builtin.bitOr 56320 ((k.val : Nat) : Int) = 56320 + ((k.val : Nat) : Int) := by decide +kernel
  have := h ⟨x.toNat, by lia⟩
  simpa [Int.toNat_of_nonneg h0] using this
theorem sh_10 (n : Int) : n.fdiv (2 ^ Int.toNat 10) = n / 1024 := by rw [Int.fdiv_eq_ediv_of_nonneg _ (by decide)]; rfl
theorem sur_hi {p : Int} (h0 : 65536 ≤ p) (h1 : p < 1114112) : Builtin.bitOr 55296 ((p - 65536).fdiv (2 ^ Int.toNat 10)) = 55296 + (p - 65536) / 1024 ∧ 0 ≤ Builtin.bitOr 55296 ((p - 65536).fdiv (2 ^ Int.toNat 10)) ∧ Builtin.bitOr 55296 ((p - 65536).fdiv (2 ^ Int.toNat 10)) < 65536 := by
  have a : 0 ≤ p - 65536 := Int.sub_nonneg_of_le h0
  have b : 0 ≤ (p - 65536) / 1024 := Int.ediv_nonneg a (by decide)
  have c : (p - 65536) / 1024 < 1024 := Int.ediv_lt_of_lt_mul (by decide) (by lia)
  rw [sh_10, or_hi b c]
  exact ⟨rfl, Int.add_nonneg (by decide) b, Int.lt_trans (Int.add_lt_add_left c _) (by decide)⟩
theorem em_rng (x : Int) {m : Int} (h : 0 < m) : 0 ≤ x % m ∧ x % m < m := ⟨Int.emod_nonneg _ (Int.ne_of_gt h), Int.emod_lt_of_pos _ h⟩
theorem sur_lo {p : Int} (h0 : 65536 ≤ p) (h1 : p < 1114112) : Builtin.bitOr 56320 (Builtin.bitAnd (p - 65536) 1023) = 56320 + p % 1024 ∧ 0 ≤ Builtin.bitOr 56320 (Builtin.bitAnd (p - 65536) 1023) ∧ Builtin.bitOr 56320 (Builtin.bitAnd (p - 65536) 1023) < 65536 := by
  have b := em_rng p (m := 1024) (by decide)
  have e : (p - 65536) % 1024 = p % 1024 := Int.sub_mul_emod_self_right p 64 1024
  rw [bitAnd_1023 (Int.sub_nonneg_of_le h0), e, or_lo b.1 b.2]
  exact ⟨rfl, Int.add_nonneg (by decide) b.1, Int.lt_trans (Int.add_lt_add_left b.2 _) (by decide)⟩
/-- what escape_point writes -/
noncomputable def escF (f p : Int) : List Nat :=
  if isShort p = true ∧ ¬ (p = 47 ∧ Builtin.bitAnd f 64 ≠ 0) then [92, shortN p]
  else if 32 ≤ p ∧ p < 128 then [p.toNat]
  else if 128 ≤ p ∧ Builtin.bitAnd f 256 ≠ 0 ∧ p ≠ 8232 ∧ p ≠ 8233 then (octF p).map Int.toNat
  else if p < 65536 then unitL p
  else unitL (Builtin.bitOr 55296 ((p - 65536).fdiv (2 ^ Int.toNat 10))) ++ unitL (Builtin.bitOr 56320 (Builtin.bitAnd (p - 65536) 1023))
theorem esc_1 {f p : Int} (h : isShort p = true) (h2 : p ≠ 47 ∨ Builtin.bitAnd f 64 = 0) : escF f p = [92, shortN p] := by
  unfold escF; rw [if_pos ⟨h, by lia⟩]
theorem esc_2 {f p : Int} (h : isShort p = false ∨ (p = 47 ∧ Builtin.bitAnd f 64 ≠ 0)) (h2 : 32 ≤ p) (h3 : p < 128) : escF f p = [p.toNat] := by
  unfold escF; rw [if_neg (fun q => h.elim (fun e => by rw [e] at q; exact absurd q.1 (by decide)) q.2), if_pos ⟨h2, h3⟩]
theorem short_lt {p : Int} (h : 93 ≤ p) : isShort p = false := by
  cases e : isShort p with
  | false => rfl
  | true => have := (isShort_iff p).mp e; omega
theorem esc_3 {f p : Int} (h : 128 ≤ p) (h2 : Builtin.bitAnd f 256 ≠ 0) (h3 : p ≠ 8232) (h4 : p ≠ 8233) : escF f p = (octF p).map Int.toNat := by
  unfold escF; rw [if_neg (by rw [short_lt (by lia)]; simp), if_neg (by lia), if_pos ⟨h, h2, h3, h4⟩]
theorem esc_4 {f p : Int} (h : isShort p = false) (h1 : p < 32 ∨ 128 ≤ p) (h2 : p < 128 ∨ Builtin.bitAnd f 256 = 0 ∨ p = 8232 ∨ p = 8233) (h3 : p < 65536) : escF f p = unitL p := by
  unfold escF; rw [if_neg (by rw [h]; simp), if_neg (by lia), if_neg (by lia), if_pos h3]
theorem esc_5 {f p : Int} (h3 : 65536 ≤ p) (h2 : Builtin.bitAnd f 256 = 0) : escF f p = unitL (Builtin.bitOr 55296 ((p - 65536).fdiv (2 ^ Int.toNat 10))) ++ unitL (Builtin.bitOr 56320 (Builtin.bitAnd (p - 65536) 1023)) := by
  unfold escF; rw [if_neg (by rw [short_lt (by lia)]; simp), if_neg (by lia), if_neg (by lia), if_neg (by lia)]
theorem any_two {p : Int} (h : ([8232, 8233].any fun x => x == p) = true) : p = 8232 ∨ p = 8233 := by
  simp only [List.any_cons, List.any_nil, Bool.or_false, Bool.or_eq_true, beq_iff_eq] at h; omega
theorem any_two' {p : Int} (h : ([8232, 8233].any fun x => x == p) = false) : p ≠ 8232 ∧ p ≠ 8233 := by
  simp only [List.any_cons, List.any_nil, Bool.or_false, Bool.or_eq_false_iff, beq_eq_false_iff_ne] at h; omega
theorem fin_less {l' : List (Addr × Obj)} {P : Value → List (Addr × Obj) → Prop} {h₀ h' : Heap} {L : Addr} {m : Str → Option Value} {s : Shared} {Q : Value → Shared → Prop} {r : Value} {news' : List (Addr × Obj)} {tk' : Nat}
    (hret : ∀ r news' h' tk', P r news' → Fr h₀ L h' m → News h₀ L h' news' → Q r { s with heap := h', toks := tk' }) (F : Fr h₀ L h' m) (N : News h₀ L h' news') (hs : ∀ p ∈ l', p ∈ news') (R : P r l') : Q r { s with heap := h', toks := tk' } := hret _ _ _ _ R F (News.less hs N)
theorem bs_tx : Str.ofString "\\" = tx [92] := by decide +kernel
theorem textF_one (p : Int) : strOf (textF [p]) = tx ((octF p).map Int.toNat) := by
  unfold textF strOf tx; rw [List.flatMap_cons, List.flatMap_nil, List.append_nil]
theorem rows_11 : True := by
  (k_with "call ref!" => (k_here; k_dflt (refine' Con.use (text_t _ _ _ _ _ ?m1 ?m2 ?m3 ?m4) ?k1 ?k2 ?k3 ?k4 ?k5 ?kK ?kd ?ku ?_; walk_at "my_con"; (case m1 => walk_at "my_mem"); (case m2 => walk_at "my_ints"); (case m3 => first | walk_at "my_om" | walk_at "my_len"); (case m4 => walk_at "my_rng"); walk_at "i_strx")))
  (k_with "call ref!" => (k_here; k_dflt (refine' Con.use (unit_t _ _ _ ?m1 ?m2) ?k1 ?k2 ?k3 ?k4 ?k5 ?kK ?kd ?ku ?_; walk_at "my_con"; (case m1 | m2 => walk_at "my_u16"); walk_at "i_str")))
  (k_with "call ref!" => (k_here; k_dflt (refine' ConW.use (flag_t _ _ _ _ _ _ _ _ _ _ _ _ _ _ _ _ ?m1 ?m2) ?k1 ?k2 ?k3 ?k4 ?k5 ?kK ?kd ?ku ?_; walk_at "my_con"; (case m1 | m2 => walk_at "my_mem"); walk_at "i_two")))
  (k_with "compareOp In int ref!" => (k_here; k_dflt (refine in_short (by k_tabat) (by exact intData_short _ _ _ _ _ _ _ _ _ _ _ _ _ _ _ _) ?_)))
  (k_with "subscriptTail!" => (k_here; k_dflt (refine item_short (by k_tabat) (by exact intData_short _ _ _ _ _ _ _ _ _ _ _ _ _ _ _ _) (by assumption) ?_); intro ts))
  trivial

set_option maxHeartbeats 2000000 in
theorem esc_t (w : World) (news : List (Addr × Obj)) (o d : Addr) (f ft p : Int) (k1 k2 k3 k4 t1 t2 t3 t4 tp : Tok) (ho : (o, instObj 427 d) ∈ news) (hdd : (d, wDict w.params f ft k1 k2 k3 k4 t1 t2 t3 t4) ∈ news) (hp0 : 0 ≤ p) (hp1 : p < 1114112) : ConW w 452 12 news [.ref o, .int p tp] (RStr (escF f p) news) := by
  walk_at "my_startW"
  k_steps
  · exact fin_less (l' := news) hret (by assumption) (by assumption) (fun _ hp => by walk_at "my_mem") ⟨rfl, _, by rw [esc_2 (.inr ⟨by assumption, by assumption⟩) (by lia) (by lia)]; rfl⟩
  · exact fin_less (l' := news) hret (by assumption) (by assumption) (fun _ hp => by walk_at "my_mem") ⟨rfl, _, by rw [esc_1 (by assumption) (.inr (by assumption)), bs_tx, tx_append]; rfl⟩
  · exact fin_less (l' := news) hret (by assumption) (by assumption) (fun _ hp => by walk_at "my_mem") ⟨rfl, _, by rw [esc_1 (by assumption) (.inl (by assumption)), bs_tx, tx_append]; rfl⟩
  · exact fin_less (l' := news) hret (by assumption) (by assumption) (fun _ hp => by walk_at "my_mem") ⟨rfl, _, by rw [esc_2 (.inl (by assumption)) (by assumption) (by assumption)]; rfl⟩
  · have h2 := any_two (by assumption)
    exact fin_less (l' := news) hret (by assumption) (by assumption) (fun _ hp => by walk_at "my_mem") ⟨rfl, _, by rw [esc_4 (by assumption) (by lia) (by lia) (by lia)]⟩
  · have h2 := any_two (by assumption)
    exfalso; omega
  · have h2 := any_two' (by assumption)
    exact fin_less (l' := news) hret (by assumption) (by assumption) (fun _ hp => by walk_at "my_mem") ⟨rfl, _, by rw [esc_3 (by lia) (by assumption) h2.1 h2.2, textF_one]⟩
  · exact fin_less (l' := news) hret (by assumption) (by assumption) (fun _ hp => by walk_at "my_mem") ⟨rfl, _, by rw [esc_4 (by assumption) (by lia) (.inr (.inl (by assumption))) (by lia)]⟩
  · exact fin_less (l' := news) hret (by assumption) (by assumption) (fun _ hp => by walk_at "my_mem") ⟨rfl, _, by rw [esc_5 (by lia) (by assumption), tx_append]⟩
  · exact fin_less (l' := news) hret (by assumption) (by assumption) (fun _ hp => by walk_at "my_mem") ⟨rfl, _, by rw [esc_4 (by assumption) (by lia) (.inl (by lia)) (by lia)]⟩
theorem rows_12 : True := by
  k_with_none
  (k_with "pyIter ref!" => ((with_reducible show wpAny _ _ (pyIter (Value.ref _)) (fun it s₂ => LoopAtV _ _ _ _ _ _ _ _ _ it s₂) _ _); refine Stop.out ?_))
  (k_with "InvEndN!" => refine Stop.out ?_)
  (k_with "KswEnd!" => refine Stop.out ?_)
  (k_with "exec While Compare cons nil!" => refine Stop.out ?_)
  (k_with "my_room!" => first | ((try simp only [depth_under_make, depth_under_kw, depth_in1, depth_deeper, depth_caller]); (try dsimp only [ktrTop]); first | walk_at "my_rm" | omega) | ((try simp only [depth_under_make, depth_under_kw, depth_in1, depth_deeper, depth_caller]); decide) | decide)
  (k_with "my_rm!" => first | (with_reducible exact rm0 hd) | ((with_reducible refine rm1 hd ?_); exact Nat.le_of_ble_eq_true rfl) | ((with_reducible refine rm2 hd ?_); exact Nat.le_of_ble_eq_true rfl) | ((with_reducible refine rm2 hu ?_); exact Nat.le_of_ble_eq_true rfl) | ((with_reducible refine rm3 hd ?_); exact Nat.le_of_ble_eq_true rfl) | ((with_reducible refine rm3 hu ?_); exact Nat.le_of_ble_eq_true rfl) | ((with_reducible refine rm4 hd ?_); exact Nat.le_of_ble_eq_true rfl) | ((with_reducible refine rm4 hu ?_); exact Nat.le_of_ble_eq_true rfl))
  (k_with "my_units!" => ((try simp only [units_in1, units_deeper, Around.mark_units, units_caller]); (try dsimp only [ktrTop]); first | walk_at "my_rm" | ((have hcL9 := cLine_is); omega)))
  (k_with "my_ec!" => ((case kA | kF => exact rfl); (case kK => first | exact rfl | assumption); (case k1 | k2 | k3 | k4 | k5 => k_asm); (case k6 | k7 => k_is); (case k8 => first | (dsimp only [ktrTop]; first | walk_at "my_rm" | omega) | walk_at "my_room")))
  (k_with "my_e1!" => (refine' code_def ?k1 ?k2 ?k3 ?k4 ?k5 ?kA ?kF ?kK ?k6 ?k7 ?k8 ?k9 ?kB ?_ ?c2 ?c3 ?c4 ?c5; walk_at "my_ec"; (case k9 => first | exact BindsTo.of_eq rfl | exact binds_K (by k_in) rfl (by k_is) rfl rfl rfl); (case c5 => decide); (case kB => exact locs rfl); (case c2 | c3 | c4 => exact rfl); k_whole))
  (k_with "my_e2!" => (refine' code_defC ?k1 ?k2 ?k3 ?k4 ?k5 ?kA ?kF ?kK ?k6 ?k7 ?k8 ?k9 ?kB ?kD ?_ ?c2 ?c3 ?c4; walk_at "my_ec"; (case k9 => exact BindsTo.of_eq rfl); (case kB => exact rfl); (case kD => decide +kernel); (case c2 | c3 | c4 => exact rfl); k_whole))
  (k_with "my_enter!" => ((first | (walk_at "my_e1"; intro g' L' h' FG' F' N' B' X' T') | (walk_at "my_e2"; intro g' L' h' tk' cells' FG' F' N' Y' B' X' T' l1; (try k_lt l1); k_cells Y'; (try simp only [List.cons_append, List.nil_append] at N'))); (try dsimp only); (try k_lift B'); (try k_fold)))
  (k_with "my_start!" => (w_top off; unfold Con; k_fill; intro w p loose mean mg mb dp un gd cn cs a ccd cl outer A₀ base h₀ L m s Q E B F X N T hk hd hu hret; refine wpAny_call ?_; k_dflt walk_at "my_enter"))
  (k_with "call builtin:str.join!" => first | (k_here; refine join_listW (by is_list) (by assumption) (by decide) (by assumption) ?_; intro tj kj) | refine Stop.out ?_)
  (k_with "eval BinOp!" => (dsimp only; walk1))
  (k_with "binaryOp BitOr int int!" => (dsimp only; walk1))
  (k_with "newTuple!" => (dsimp only; walk1))
  (k_with "InvEndG!" => refine Stop.out ?_)
  (k_with "exec For Name Tuple cons nil!" => (k_here; (rename Fr _ _ _ _ => lF'); (with_unfolding_all refine' For_invVF lF' ?k1z9 ?k2z9 ?_; (case k1z9 | k2z9 => exact rfl); k_whole)))
  (k_with "my_mem!" => first | assumption | exact List.Mem.head _ | (refine List.mem_cons_of_mem _ ?_; walk_at "my_mem") | (with_reducible refine List.mem_append.mpr (.inl ?_); walk_at "my_mem") | (with_reducible refine List.mem_append.mpr (.inr ?_); walk_at "my_mem"))
  (k_with "call builtin:len!" => (k_here; (with_reducible show wpAny _ _ (call (Value.builtin "len") [Value.ref _]) _ _ _); k_dflt (refine' kst_len ?k1 ?k2 ?k3 ?k4 ?_; (case k1 => k_asm); (case k2 => walk_at "my_mem"); (case k3 => first | exact IntsAre.length (by assumption) | exact RngsAre.length (by assumption)); (case k4 => omega))))
  (k_with "subscriptTail!" => (k_here; (with_reducible show wpAny _ _ (subscriptTail _ _ (Value.ref _) (Value.int _ _)) _ _ _); k_dflt (refine' item_led ?k1 ?k2 ?k3 ?k4 ?k5 ?k6 ?_; (case k1 => k_asm); (case k2 => walk_at "my_mem"); (case k3 => assumption); (case k4 | k5 | k6 => omega); k_whole); intro _))
  (k_with "subscriptTail Name Name ref int!" => (k_here; k_dflt (refine' ref_led ?k1 ?k2 ?k4 ?k5 ?k6 ?_; (case k1 => k_asm); (case k2 => walk_at "my_mem"); (case k6 => assumption); (case k4 | k5 => omega); k_whole)))
  (k_with "CompSrc!" => refine Stop.out ?_)
  (k_with "CompEnd!" => refine Stop.out ?_)
  (k_with "my_slen!" => (rw [sizeLine_eq]; (try simp only [Str.length_append, tx_len, List.length_cons, List.length_nil, List.length_append]); omega))
  (k_with "inplaceOp Add str str!" => ((refine SBL.iadd (hsz := ?hszz9) ?_); (case hszz9 => walk_at "my_slen"); intro _ _ _))
  (k_with "binaryOp Add str str!" => ((refine SBL.add (hsz := ?hszz9) ?_); (case hszz9 => walk_at "my_slen"); intro _ _ _))
  (k_with "my_lt!" => first | assumption | exact kst_ltOf (by assumption) | exact kst_ltOf (And.right (by assumption)) | exact kst_ltOf (And.right (And.right (by assumption))) | exact kst_ltOf (And.right (And.right (And.right (by assumption)))) | exact kst_ltOf (And.right (And.right (And.right (And.right (by assumption))))) | exact kst_ltOf (And.right (And.right (And.right (And.right (And.right (by assumption)))))) | exact kst_ltOf (And.right (And.right (And.right (And.right (And.right (And.right (by assumption))))))) | exact kst_ltOf (And.right (And.right (And.right (And.right (And.right (And.right (And.right (by assumption)))))))) | exact kst_ltOf (And.right (And.right (And.right (And.right (And.right (And.right (And.right (And.right (by assumption))))))))) | exact kst_ltOf (And.right (And.right (And.right (And.right (And.right (And.right (And.right (And.right (And.right (by assumption)))))))))) | exact kst_ltOf (And.right (And.right (And.right (And.right (And.right (And.right (And.right (And.right (And.right (And.right (by assumption))))))))))) | exact kst_ltOf (And.right (And.right (And.right (And.right (And.right (And.right (And.right (And.right (And.right (And.right (And.right (by assumption)))))))))))) | exact kst_ltOf (And.right (And.right (And.right (And.right (And.right (And.right (And.right (And.right (And.right (And.right (And.right (And.right (by assumption))))))))))))) | exact kst_ltOf (And.right (And.right (And.right (And.right (And.right (And.right (And.right (And.right (And.right (And.right (And.right (And.right (And.right (by assumption)))))))))))))))
  (k_with "call ref!" => (k_here; k_dflt (refine' call_cls ?k1z9 ?k2z9 ?k3z9 ?k4z9 ?k5z9 ?k6z9 ?_; (case k1z9 | k2z9 | k3z9 => k_asm); (case k4z9 | k5z9 | k6z9 => k_is); k_whole; intro x' d' h' F' N' l1 l2; (try k_lt l1); (try k_lt2 l2); (try k_sweep); walk_at "my_enter")))
  (k_with "my_startW!" => (w_top off; unfold ConW; k_fill; intro p loose mean mg mb dp un gd cn cs a ccd cl outer A₀ base h₀ L m s Q E B F X N T hk hd hu hret; refine wpAny_call ?_; k_dflt walk_at "my_enter"))
  (k_with "my_ints!" => first | assumption | exact .nil | exact .cons _ _ .nil | exact .cons _ _ (.cons _ _ .nil))
  (k_with "my_rng!" => first | assumption | (intro n hn; simp only [List.mem_singleton] at hn; omega))
  (k_with "my_om!" => first | assumption | omega | exact Nat.le_of_ble_eq_true rfl)
  (k_with "my_u16!" => first | omega | with_reducible exact (sur_hi (by omega) (by omega)).2.1 | with_reducible exact (sur_hi (by omega) (by omega)).2.2 | with_reducible exact (sur_lo (by omega) (by omega)).2.1 | with_reducible exact (sur_lo (by omega) (by omega)).2.2)
  (k_with "my_lu!" => first | omega | (kmn_bounds; omega) | (simp only [Int.fdiv_eq_ediv_of_nonneg _ (show (0:Int) ≤ 1024 by decide), Int.fmod_eq_emod_of_nonneg _ (show (0:Int) ≤ 1024 by decide)]; omega))
  (k_with "my_con!" => ((case k4 | k1 => k_asm); (case k2 | k3 | k5 => k_asm); (case kK => first | exact rfl | assumption); (case kd => walk_at "my_room"); (case ku => walk_at "my_units")))
  (k_with "i_str!" => (intro r9 nw9 h9 tk9 R9 F9 N9; obtain ⟨e8, t9, e7⟩ := R9; subst e8 e7; (try dsimp only); (try k_fold)))
  (k_with "i_strx!" => (intro r9 nw9 h9 tk9 R9 F9 N9; obtain ⟨e8, t9, e7⟩ := R9; subst e8 e7; (try walk_at "my_text"); (try dsimp only); (try k_fold)))
  (k_with "i_two!" => (intro r9 nw9 h9 tk9 R9 F9 N9; obtain ⟨e8, e7⟩ := R9; subst e8 e7; (try dsimp only); (try k_fold)))
  (k_with "i_rj!" => (intro r9 nw9 h9 tk9 R9 F9 N9; obtain ⟨d9, t91, t92, e8, e7, l9⟩ := R9; subst e8 e7; (try k_lt l9); (try dsimp only); (try k_fold)))
  (k_with "i_pts!" => (intro r9 nw9 h9 tk9 R9 F9 N9; obtain ⟨e9, e8, e7⟩ | ⟨l9, vs9, nn9, pts9, e9, e8, e7, i9, m9⟩ := R9; (all_goals subst e8 e7); (all_goals (try walk_at "my_same")); (all_goals (try k_lt m9)); (all_goals ((try dsimp only); (try k_fold)))))
  (k_with "call ref!" => (k_here; k_dflt (refine' Con.use (shape_t _ _ _) ?k1 ?k2 ?k3 ?k4 ?k5 ?kK ?kd ?ku ?_; walk_at "my_con"; walk_at "i_shape")))
  (k_with "i_shape!" => (intro r9 nw9 h9 tk9 R9 F9 N9; obtain ⟨e9, e8, e7⟩ | ⟨d9, k9, mn9, pt9, t91, t92, t93, e9, e8, e7⟩ := R9; (all_goals subst e8 e7); (all_goals ((try dsimp only); (try k_fold)))))
  (k_with "call ref!" => (k_here; k_dflt (refine' Con.use (at_t _ _ _ _ _ ?m1 ?m2 ?m3) ?k1 ?k2 ?k3 ?k4 ?k5 ?kK ?kd ?ku ?_; walk_at "my_con"; (case m1 | m2 | m3 => walk_at "my_om"); walk_at "i_at")))
  (k_with "i_at!" => (intro r9 nw9 h9 tk9 R9 F9 N9; obtain ⟨e9, e8, e7⟩ | ⟨d9, q9, j9, t91, t92, e9, e8, e7, l9⟩ := R9; (all_goals subst e8 e7); (all_goals (try k_lt l9)); (all_goals ((try dsimp only); (try k_fold)))))
  (k_with "call ref!" => (k_here; k_dflt (refine' Con.use (behind_t _ _ _) ?k1 ?k2 ?k3 ?k4 ?k5 ?kK ?kd ?ku ?_; walk_at "my_con"; walk_at "i_behind")))
  (k_with "i_behind!" => (intro r9 nw9 h9 tk9 R9 F9 N9; obtain ⟨e9, e8, e7⟩ | ⟨l9, vs9, rs9, nn9, e9, e8, e7, g9, m9⟩ | ⟨l9, vs9, rs9, nn9, d9, lo9, hi9, t91, t92, e9, e8, e7, g9, m8, m9, m7⟩ := R9; (all_goals subst e8 e7); (all_goals (try (have q9 := beh_len e9))); (all_goals (try k_lt m9)); (all_goals (try k_lt m7)); (all_goals ((try dsimp only); (try k_fold)))))
  (k_with "eval ListComp!" => (k_here; k_dflt (refine LCg.ListComp_U (F₀ := by k_asm) (by with_unfolding_all rfl) (by decide) (by rfl) (by decide) (by rfl) ?_)))
  (k_with "exec Assign cons ListComp!" => (k_here; k_dflt (refine LCg.Assign_ListComp_U (F₀ := by k_asm) (by rfl) (by with_unfolding_all rfl) (by with_unfolding_all rfl) (by decide) (by rfl) (by decide) (by rfl) (by rfl) (by rfl) ?_)))
  (k_with "call ref!" => (k_here; k_dflt (refine' Con.use (text_t _ _ _ _ _ ?m1 ?m2 ?m3 ?m4) ?k1 ?k2 ?k3 ?k4 ?k5 ?kK ?kd ?ku ?_; walk_at "my_con"; (case m1 => walk_at "my_mem"); (case m2 => walk_at "my_ints"); (case m3 => first | walk_at "my_om" | walk_at "my_len"); (case m4 => walk_at "my_rng"); walk_at "i_strx")))
  (k_with "call ref!" => (k_here; k_dflt (refine' Con.use (unit_t _ _ _ ?m1 ?m2) ?k1 ?k2 ?k3 ?k4 ?k5 ?kK ?kd ?ku ?_; walk_at "my_con"; (case m1 | m2 => walk_at "my_u16"); walk_at "i_str")))
  (k_with "call ref!" => (k_here; k_dflt (refine' ConW.use (flag_t _ _ _ _ _ _ _ _ _ _ _ _ _ _ _ _ ?m1 ?m2) ?k1 ?k2 ?k3 ?k4 ?k5 ?kK ?kd ?ku ?_; walk_at "my_con"; (case m1 | m2 => walk_at "my_mem"); walk_at "i_two")))
  trivial
theorem os_nonneg (x : Str) : ∀ o ∈ osOf x, 0 ≤ o := by
  intro o ho
  unfold osOf at ho
  obtain ⟨n, _, rfl⟩ := List.mem_map.mp ho
  exact Int.natCast_nonneg n
theorem getD_mem {os : List Int} {i : Nat} (h : i < os.length) : os.getD i 0 ∈ os := by
  rw [List.getD_eq_getElem?_getD, List.getElem?_eq_getElem h]; exact List.getElem_mem h
theorem shape_mn {n k mn pt : Int} (e : shapeF n = some (k, mn, pt)) : 128 ≤ mn := by
  unfold shapeF at e
  split at e
  · simp only [Option.some.injEq, Prod.mk.injEq] at e; omega
  · split at e
    · simp only [Option.some.injEq, Prod.mk.injEq] at e; omega
    · split at e
      · simp only [Option.some.injEq, Prod.mk.injEq] at e; omega
      · cases e
theorem okF_is {mn p : Int} (h : okF mn p = true) : mn ≤ p ∧ p ≤ 1114111 ∧ (p < 55296 ∨ 57343 < p) := by
  unfold okF at h; simp only [Bool.not_eq_true', Bool.or_eq_false_iff, Bool.and_eq_false_iff, decide_eq_false_iff_not] at h; omega
noncomputable def Scal (q : Int) : Prop := 0 ≤ q ∧ q < 1114112 ∧ (q < 55296 ∨ 57343 < q)
theorem atF_scal {os : List Int} (hos : ∀ o ∈ os, 0 ≤ o) {i : Nat} {q : Int} {j : Nat} (hi : i < os.length) (e : atF os i = some (q, j)) : Scal q := by
  have h0 := hos _ (getD_mem hi)
  unfold atF at e
  split at e
  · cases e; unfold Scal; omega
  · split at e
    · cases e
    · rename_i k mn pt es
      have := shape_mn es
      split at e
      · cases e
      · split at e
        · cases e
        · split at e
          · rename_i hk
            cases e
            have := okF_is hk
            unfold Scal; omega
          · cases e
theorem ptsG_all {f : Nat → Option (Int × Nat)} {len : Nat} {P : Int → Prop} (hP : ∀ i q j, i < len → f i = some (q, j) → P q) : ∀ (n i : Nat) (pts : List Int), ptsG f len n i = some pts → ∀ p ∈ pts, P p
  | 0, _, _, h => by cases h; exact fun _ hp => nomatch hp
  | n + 1, i, pts, h => by
    rw [ptsG] at h
    split at h
    · rename_i hi
      split at h
      · cases h
      · rename_i q j e
        obtain ⟨r, hr, rfl⟩ := Option.map_eq_some_iff.mp h
        intro p hp
        rcases List.mem_cons.mp hp with rfl | hp
        · exact hP _ _ _ hi e
        · exact ptsG_all hP n j r hr p hp
    · cases h; exact fun _ hp => nomatch hp
theorem ptsG_len {f : Nat → Option (Int × Nat)} {len : Nat} (hf : StepsOn f len) : ∀ (n i : Nat) (pts : List Int), ptsG f len n i = some pts → pts.length ≤ len - i
  | 0, _, _, h => by cases h; exact Nat.zero_le _
  | n + 1, i, pts, h => by
    rw [ptsG] at h
    split at h
    · rename_i hi
      split at h
      · cases h
      · rename_i q j e
        obtain ⟨r, hr, rfl⟩ := Option.map_eq_some_iff.mp h
        have := hf i q j hi e
        have := ptsG_len hf n j r hr
        rw [List.length_cons]; omega
    · cases h; exact Nat.zero_le _
theorem pts_scal {x : Str} {pts : List Int} (e : pointsF (osOf x) = some pts) : ∀ p ∈ pts, Scal p :=
  ptsG_all (fun _ _ _ hi he => atF_scal (os_nonneg x) hi he) _ _ _ e
theorem pts_len {x : Str} {pts : List Int} (e : pointsF (osOf x) = some pts) : pts.length ≤ x.length := by
  have := ptsG_len (atF_gt _) _ _ _ e; rw [osOf_length] at this; omega
theorem unitL_len (n : Int) : (unitL n).length = 6 := rfl
theorem escF_len (f p : Int) : (escF f p).length ≤ 12 := by
  unfold escF
  split
  · exact Nat.le_of_ble_eq_true rfl
  · split
    · exact Nat.le_of_ble_eq_true rfl
    · split
      · rw [List.length_map]; exact Nat.le_trans (octF_len p) (by decide)
      · split
        · rw [unitL_len]; decide
        · rw [List.length_append, unitL_len, unitL_len]; decide
theorem escs_len (f : Int) : ∀ ps : List Int, (ps.flatMap (escF f)).length ≤ 12 * ps.length
  | [] => Nat.zero_le _
  | p :: r => by rw [List.flatMap_cons, List.length_append, List.length_cons]; have := escs_len f r; have := escF_len f p; omega
theorem txs_sum (g : Int → List Nat) : ∀ ps : List Int, ((ps.map fun p => tx (g p)).map (·.length)).sum = (ps.flatMap g).length
  | [] => rfl
  | p :: r => by rw [List.map_cons, List.map_cons, List.sum_cons, txs_sum g r, List.flatMap_cons, List.length_append, tx_len]
theorem txs_join (g : Int → List Nat) (ps : List Int) : Txt.join (Str.ofString "") (ps.map fun p => tx (g p)) = tx (ps.flatMap g) := by
  rw [txt_join_nil]; unfold tx; congr 2
  rw [List.flatMap_map]
noncomputable def jsonF (f : Int) : Option (List Int) → Int × List Nat
  | none => (5, if Builtin.bitAnd f 512 = 0 then [] else [110, 117, 108, 108])
  | some ps => (0, 34 :: ps.flatMap (escF f) ++ [34])
noncomputable def RJ (v : Int × List Nat) (news : List (Addr × Obj)) (r : Value) (nw : List (Addr × Obj)) : Prop := ∃ d t1 t2, r = .ref d ∧ nw = (d, tupO [.int v.1 t1, .str (tx v.2) t2]) :: news ∧ ∀ p ∈ news, p.1 < d
theorem rj_i {v : Int × List Nat} {news : List (Addr × Obj)} {d : Addr} {c : Int} {x : Str} {t1 t2 : Tok} (h1 : c = v.1) (h2 : x = tx v.2) (h3 : ∀ p ∈ news, p.1 < d) : RJ v news (.ref d) ((d, tupO [.int c t1, .str x t2]) :: news) := by
  subst h1 h2; exact ⟨_, _, _, rfl, rfl, h3⟩
theorem sub_cons {α : Type} {p : α} {l l' : List α} (h : ∀ q ∈ l, q ∈ l') (hp : p ∈ l') : ∀ q ∈ p :: l, q ∈ l' := fun q hq => (List.mem_cons.mp hq).elim (fun e => e ▸ hp) fun k => h q k
theorem rows_13 : True := by
  (k_with "call ref!" => (k_here; k_dflt (refine' Con.use (points_t _ _ _ ?m1) ?k1 ?k2 ?k3 ?k4 ?k5 ?kK ?kd ?ku ?_; walk_at "my_con"; (case m1 => walk_at "my_om"); walk_at "i_pts")))
  (k_with "call ref!" => (k_here; k_dflt (refine' Con.use (kind_t _ _ _) ?k1 ?k2 ?k3 ?k4 ?k5 ?kK ?kd ?ku ?_; walk_at "my_con"; walk_at "i_str")))
  (k_with "call ref!" => (k_here; k_dflt (refine' ConW.use (esc_t _ _ _ _ _ _ _ _ _ _ _ _ _ _ _ _ ?m1 ?m2 ?m3 ?m4) ?k1 ?k2 ?k3 ?k4 ?k5 ?kK ?kd ?ku ?_; walk_at "my_con"; (case m1 | m2 => walk_at "my_mem"); (case m3 | m4 => first | omega | walk_at "my_pt"); walk_at "i_str")))
  (k_with "call ref!" => (k_here; (first | (with_reducible show wpAny _ _ (call (Value.ref 520) _) _ _ _) | (with_reducible show wpAny _ _ (call (Value.ref 457) _) _ _ _)); refine wpAny_call ?_; k_dflt walk_at "my_enter"))
  trivial

set_option maxHeartbeats 4000000 in
theorem jtext_t (w : World) (news : List (Addr × Obj)) (v : Value) (x : Str) (f : Int) (t tf td : Tok) (hx : x.length ≤ 200) : ConW w 527 24 news [v, .str x t, .int f tf, .int 4 td] (RJ (jsonF f (pointsF (osOf x))) news) := by
  walk_at "my_startW"
  have hMk : KstMark := kstMark
  k_steps
  · exact fin_less (l' := _ :: news) hret (by assumption) (by assumption) (sub_cons (fun _ hp => by walk_at "my_mem") (by walk_at "my_mem")) (rj_i (by rw [e9]; rfl) (by rw [e9]; show _ = tx (if _ then _ else _); rw [if_neg (by assumption)]; decide +kernel) (by walk_at "my_lt"))
  · exact fin_less (l' := _ :: news) hret (by assumption) (by assumption) (sub_cons (fun _ hp => by walk_at "my_mem") (by walk_at "my_mem")) (rj_i (by rw [e9]; rfl) (by rw [e9]; show _ = tx (if _ then _ else _); rw [if_pos (by assumption)]; decide +kernel) (by walk_at "my_lt"))
  · unfold Stop
    have hr := pts_scal e9
    have hlen := i9.length
    have hpl := pts_len e9
    have hsz : vs9.length ≤ 200 := by omega
    refine LCg.CompSrc.ledger (by rfl) (by k_asm) (by k_asm) (.head _) (by rw [List.size_toArray]; exact Nat.le_trans hsz (by decide)) ?_
    intro g9
    refine comp_rest vs9.toArray.size (fun i ys nx => nx = _ ∧ StrsAre ys ((pts9.take i).map fun p => tx (escF f p))) ?_ ?_ _ _ _ _ (Nat.zero_add _) ⟨rfl, .nil⟩
    · rintro i ys nx hlt ⟨rfl, hS⟩ v I oI C oC D m₂ h tk E' hv hC hx F9 N9 o9 ne9
      obtain ⟨o, to, rfl, ho⟩ := i9.at i v (by simpa using hv)
      have hor := hr o (List.mem_of_getElem? ho)
      unfold Scal at hor
      (try dsimp only)
      try k_fold
      k_steps
      unfold Stop
      refine LCg.CompEnd.intro (by assumption) (by assumption) _ (fun _ h => h) o9 (.inr ⟨_, .head _, rfl, _, rfl⟩) ⟨rfl, ?_⟩
      rw [List.take_add_one, ho, List.map_append]
      exact hS.append' (.cons _ _ .nil)
    · rintro ys nx ⟨rfl, hS⟩
      unfold LCg.FinE
      intro D' h' tk' F' N' o1'
      rw [show pts9.take vs9.toArray.size = pts9 by rw [List.size_toArray, hlen]; exact List.take_length] at hS
      have hfl := escs_len f pts9
      have hW : ((pts9.map fun p => tx (escF f p)).map (·.length)).sum + (pts9.map fun p => tx (escF f p)).length ≤ 1048576 := by
        rw [txs_sum, List.length_map]; omega
      have hq : (Str.ofString "\"").length = 1 := by decide +kernel
      (try dsimp only)
      try k_fold
      k_steps
      unfold Stop
      refine join_listW (items := ys.toArray) (ys := pts9.map fun p => tx (escF f p)) ⟨_, (N' _ (.head _)).1, rfl, _, rfl⟩ hS (by decide) hW ?_
      intro tj kj
      rw [txs_join]
      (try dsimp only)
      k_steps
      exact fin_less (l' := _ :: news) hret (by assumption) (by assumption) (sub_cons (fun _ hp => by walk_at "my_mem") (by walk_at "my_mem")) (rj_i (by rw [e9]; rfl) (by rw [e9, show Str.ofString "\"" = tx [34] by decide +kernel, tx_append, tx_append]; rfl) (by walk_at "my_lt"))
theorem rows_14 : True := by
  k_with_none
  (k_with "pyIter ref!" => ((with_reducible show wpAny _ _ (pyIter (Value.ref _)) (fun it s₂ => LoopAtV _ _ _ _ _ _ _ _ _ it s₂) _ _); refine Stop.out ?_))
  (k_with "InvEndN!" => refine Stop.out ?_)
  (k_with "KswEnd!" => refine Stop.out ?_)
  (k_with "exec While Compare cons nil!" => refine Stop.out ?_)
  (k_with "my_room!" => first | ((try simp only [depth_under_make, depth_under_kw, depth_in1, depth_deeper, depth_caller]); (try dsimp only [ktrTop]); first | walk_at "my_rm" | omega) | ((try simp only [depth_under_make, depth_under_kw, depth_in1, depth_deeper, depth_caller]); decide) | decide)
  (k_with "my_rm!" => first | (with_reducible exact rm0 hd) | ((with_reducible refine rm1 hd ?_); exact Nat.le_of_ble_eq_true rfl) | ((with_reducible refine rm2 hd ?_); exact Nat.le_of_ble_eq_true rfl) | ((with_reducible refine rm2 hu ?_); exact Nat.le_of_ble_eq_true rfl) | ((with_reducible refine rm3 hd ?_); exact Nat.le_of_ble_eq_true rfl) | ((with_reducible refine rm3 hu ?_); exact Nat.le_of_ble_eq_true rfl) | ((with_reducible refine rm4 hd ?_); exact Nat.le_of_ble_eq_true rfl) | ((with_reducible refine rm4 hu ?_); exact Nat.le_of_ble_eq_true rfl))
  (k_with "my_units!" => ((try simp only [units_in1, units_deeper, Around.mark_units, units_caller]); (try dsimp only [ktrTop]); first | walk_at "my_rm" | ((have hcL9 := cLine_is); omega)))
  (k_with "my_ec!" => ((case kA | kF => exact rfl); (case kK => first | exact rfl | assumption); (case k1 | k2 | k3 | k4 | k5 => k_asm); (case k6 | k7 => k_is); (case k8 => first | (dsimp only [ktrTop]; first | walk_at "my_rm" | omega) | walk_at "my_room")))
  (k_with "my_e1!" => (refine' code_def ?k1 ?k2 ?k3 ?k4 ?k5 ?kA ?kF ?kK ?k6 ?k7 ?k8 ?k9 ?kB ?_ ?c2 ?c3 ?c4 ?c5; walk_at "my_ec"; (case k9 => first | exact BindsTo.of_eq rfl | exact binds_K (by k_in) rfl (by k_is) rfl rfl rfl); (case c5 => decide); (case kB => exact locs rfl); (case c2 | c3 | c4 => exact rfl); k_whole))
  (k_with "my_e2!" => (refine' code_defC ?k1 ?k2 ?k3 ?k4 ?k5 ?kA ?kF ?kK ?k6 ?k7 ?k8 ?k9 ?kB ?kD ?_ ?c2 ?c3 ?c4; walk_at "my_ec"; (case k9 => exact BindsTo.of_eq rfl); (case kB => exact rfl); (case kD => decide +kernel); (case c2 | c3 | c4 => exact rfl); k_whole))
  (k_with "my_enter!" => ((first | (walk_at "my_e1"; intro g' L' h' FG' F' N' B' X' T') | (walk_at "my_e2"; intro g' L' h' tk' cells' FG' F' N' Y' B' X' T' l1; (try k_lt l1); k_cells Y'; (try simp only [List.cons_append, List.nil_append] at N'))); (try dsimp only); (try k_lift B'); (try k_fold)))
  (k_with "my_start!" => (w_top off; unfold Con; k_fill; intro w p loose mean mg mb dp un gd cn cs a ccd cl outer A₀ base h₀ L m s Q E B F X N T hk hd hu hret; refine wpAny_call ?_; k_dflt walk_at "my_enter"))
  (k_with "call builtin:str.join!" => first | (k_here; refine join_listW (by is_list) (by assumption) (by decide) (by assumption) ?_; intro tj kj) | refine Stop.out ?_)
  (k_with "eval BinOp!" => (dsimp only; walk1))
  (k_with "binaryOp BitOr int int!" => (dsimp only; walk1))
  (k_with "newTuple!" => (dsimp only; walk1))
  (k_with "InvEndG!" => refine Stop.out ?_)
  (k_with "exec For Name Tuple cons nil!" => (k_here; (rename Fr _ _ _ _ => lF'); (with_unfolding_all refine' For_invVF lF' ?k1z9 ?k2z9 ?_; (case k1z9 | k2z9 => exact rfl); k_whole)))
  (k_with "my_mem!" => first | assumption | exact List.Mem.head _ | (refine List.mem_cons_of_mem _ ?_; walk_at "my_mem") | (with_reducible refine List.mem_append.mpr (.inl ?_); walk_at "my_mem") | (with_reducible refine List.mem_append.mpr (.inr ?_); walk_at "my_mem"))
  (k_with "call builtin:len!" => (k_here; (with_reducible show wpAny _ _ (call (Value.builtin "len") [Value.ref _]) _ _ _); k_dflt (refine' kst_len ?k1 ?k2 ?k3 ?k4 ?_; (case k1 => k_asm); (case k2 => walk_at "my_mem"); (case k3 => first | exact IntsAre.length (by assumption) | exact RngsAre.length (by assumption)); (case k4 => omega))))
  (k_with "subscriptTail!" => (k_here; (with_reducible show wpAny _ _ (subscriptTail _ _ (Value.ref _) (Value.int _ _)) _ _ _); k_dflt (refine' item_led ?k1 ?k2 ?k3 ?k4 ?k5 ?k6 ?_; (case k1 => k_asm); (case k2 => walk_at "my_mem"); (case k3 => assumption); (case k4 | k5 | k6 => omega); k_whole); intro _))
  (k_with "subscriptTail Name Name ref int!" => (k_here; k_dflt (refine' ref_led ?k1 ?k2 ?k4 ?k5 ?k6 ?_; (case k1 => k_asm); (case k2 => walk_at "my_mem"); (case k6 => assumption); (case k4 | k5 => omega); k_whole)))
  (k_with "CompSrc!" => refine Stop.out ?_)
  (k_with "CompEnd!" => refine Stop.out ?_)
  (k_with "my_slen!" => (rw [sizeLine_eq]; (try simp only [Str.length_append, tx_len, List.length_cons, List.length_nil, List.length_append]); omega))
  (k_with "inplaceOp Add str str!" => ((refine SBL.iadd (hsz := ?hszz9) ?_); (case hszz9 => walk_at "my_slen"); intro _ _ _))
  (k_with "binaryOp Add str str!" => ((refine SBL.add (hsz := ?hszz9) ?_); (case hszz9 => walk_at "my_slen"); intro _ _ _))
  (k_with "my_lt!" => first | assumption | exact kst_ltOf (by assumption) | exact kst_ltOf (And.right (by assumption)) | exact kst_ltOf (And.right (And.right (by assumption))) | exact kst_ltOf (And.right (And.right (And.right (by assumption)))) | exact kst_ltOf (And.right (And.right (And.right (And.right (by assumption))))) | exact kst_ltOf (And.right (And.right (And.right (And.right (And.right (by assumption)))))) | exact kst_ltOf (And.right (And.right (And.right (And.right (And.right (And.right (by assumption))))))) | exact kst_ltOf (And.right (And.right (And.right (And.right (And.right (And.right (And.right (by assumption)))))))) | exact kst_ltOf (And.right (And.right (And.right (And.right (And.right (And.right (And.right (And.right (by assumption))))))))) | exact kst_ltOf (And.right (And.right (And.right (And.right (And.right (And.right (And.right (And.right (And.right (by assumption)))))))))) | exact kst_ltOf (And.right (And.right (And.right (And.right (And.right (And.right (And.right (And.right (And.right (And.right (by assumption))))))))))) | exact kst_ltOf (And.right (And.right (And.right (And.right (And.right (And.right (And.right (And.right (And.right (And.right (And.right (by assumption)))))))))))) | exact kst_ltOf (And.right (And.right (And.right (And.right (And.right (And.right (And.right (And.right (And.right (And.right (And.right (And.right (by assumption))))))))))))) | exact kst_ltOf (And.right (And.right (And.right (And.right (And.right (And.right (And.right (And.right (And.right (And.right (And.right (And.right (And.right (by assumption)))))))))))))))
  (k_with "call ref!" => (k_here; k_dflt (refine' call_cls ?k1z9 ?k2z9 ?k3z9 ?k4z9 ?k5z9 ?k6z9 ?_; (case k1z9 | k2z9 | k3z9 => k_asm); (case k4z9 | k5z9 | k6z9 => k_is); k_whole; intro x' d' h' F' N' l1 l2; (try k_lt l1); (try k_lt2 l2); (try k_sweep); walk_at "my_enter")))
  (k_with "my_startW!" => (w_top off; unfold ConW; k_fill; intro p loose mean mg mb dp un gd cn cs a ccd cl outer A₀ base h₀ L m s Q E B F X N T hk hd hu hret; refine wpAny_call ?_; k_dflt walk_at "my_enter"))
  (k_with "my_ints!" => first | assumption | exact .nil | exact .cons _ _ .nil | exact .cons _ _ (.cons _ _ .nil))
  (k_with "my_rng!" => first | assumption | (intro n hn; simp only [List.mem_singleton] at hn; omega))
  (k_with "my_om!" => first | assumption | omega | exact Nat.le_of_ble_eq_true rfl)
  (k_with "my_u16!" => first | omega | with_reducible exact (sur_hi (by omega) (by omega)).2.1 | with_reducible exact (sur_hi (by omega) (by omega)).2.2 | with_reducible exact (sur_lo (by omega) (by omega)).2.1 | with_reducible exact (sur_lo (by omega) (by omega)).2.2)
  (k_with "my_lu!" => first | omega | (kmn_bounds; omega) | (simp only [Int.fdiv_eq_ediv_of_nonneg _ (show (0:Int) ≤ 1024 by decide), Int.fmod_eq_emod_of_nonneg _ (show (0:Int) ≤ 1024 by decide)]; omega))
  (k_with "my_con!" => ((case k4 | k1 => k_asm); (case k2 | k3 | k5 => k_asm); (case kK => first | exact rfl | assumption); (case kd => walk_at "my_room"); (case ku => walk_at "my_units")))
  (k_with "i_str!" => (intro r9 nw9 h9 tk9 R9 F9 N9; obtain ⟨e8, t9, e7⟩ := R9; subst e8 e7; (try dsimp only); (try k_fold)))
  (k_with "i_strx!" => (intro r9 nw9 h9 tk9 R9 F9 N9; obtain ⟨e8, t9, e7⟩ := R9; subst e8 e7; (try walk_at "my_text"); (try dsimp only); (try k_fold)))
  (k_with "i_two!" => (intro r9 nw9 h9 tk9 R9 F9 N9; obtain ⟨e8, e7⟩ := R9; subst e8 e7; (try dsimp only); (try k_fold)))
  (k_with "i_rj!" => (intro r9 nw9 h9 tk9 R9 F9 N9; obtain ⟨d9, t91, t92, e8, e7, l9⟩ := R9; subst e8 e7; (try k_lt l9); (try dsimp only); (try k_fold)))
  (k_with "i_pts!" => (intro r9 nw9 h9 tk9 R9 F9 N9; obtain ⟨e9, e8, e7⟩ | ⟨l9, vs9, nn9, pts9, e9, e8, e7, i9, m9⟩ := R9; (all_goals subst e8 e7); (all_goals (try walk_at "my_same")); (all_goals (try k_lt m9)); (all_goals ((try dsimp only); (try k_fold)))))
  (k_with "call ref!" => (k_here; k_dflt (refine' Con.use (shape_t _ _ _) ?k1 ?k2 ?k3 ?k4 ?k5 ?kK ?kd ?ku ?_; walk_at "my_con"; walk_at "i_shape")))
  (k_with "i_shape!" => (intro r9 nw9 h9 tk9 R9 F9 N9; obtain ⟨e9, e8, e7⟩ | ⟨d9, k9, mn9, pt9, t91, t92, t93, e9, e8, e7⟩ := R9; (all_goals subst e8 e7); (all_goals ((try dsimp only); (try k_fold)))))
  (k_with "call ref!" => (k_here; k_dflt (refine' Con.use (at_t _ _ _ _ _ ?m1 ?m2 ?m3) ?k1 ?k2 ?k3 ?k4 ?k5 ?kK ?kd ?ku ?_; walk_at "my_con"; (case m1 | m2 | m3 => walk_at "my_om"); walk_at "i_at")))
  (k_with "i_at!" => (intro r9 nw9 h9 tk9 R9 F9 N9; obtain ⟨e9, e8, e7⟩ | ⟨d9, q9, j9, t91, t92, e9, e8, e7, l9⟩ := R9; (all_goals subst e8 e7); (all_goals (try k_lt l9)); (all_goals ((try dsimp only); (try k_fold)))))
  (k_with "call ref!" => (k_here; k_dflt (refine' Con.use (behind_t _ _ _) ?k1 ?k2 ?k3 ?k4 ?k5 ?kK ?kd ?ku ?_; walk_at "my_con"; walk_at "i_behind")))
  (k_with "i_behind!" => (intro r9 nw9 h9 tk9 R9 F9 N9; obtain ⟨e9, e8, e7⟩ | ⟨l9, vs9, rs9, nn9, e9, e8, e7, g9, m9⟩ | ⟨l9, vs9, rs9, nn9, d9, lo9, hi9, t91, t92, e9, e8, e7, g9, m8, m9, m7⟩ := R9; (all_goals subst e8 e7); (all_goals (try (have q9 := beh_len e9))); (all_goals (try k_lt m9)); (all_goals (try k_lt m7)); (all_goals ((try dsimp only); (try k_fold)))))
  (k_with "eval ListComp!" => (k_here; k_dflt (refine LCg.ListComp_U (F₀ := by k_asm) (by with_unfolding_all rfl) (by decide) (by rfl) (by decide) (by rfl) ?_)))
  (k_with "exec Assign cons ListComp!" => (k_here; k_dflt (refine LCg.Assign_ListComp_U (F₀ := by k_asm) (by rfl) (by with_unfolding_all rfl) (by with_unfolding_all rfl) (by decide) (by rfl) (by decide) (by rfl) (by rfl) (by rfl) ?_)))
  (k_with "call ref!" => (k_here; k_dflt (refine' Con.use (text_t _ _ _ _ _ ?m1 ?m2 ?m3 ?m4) ?k1 ?k2 ?k3 ?k4 ?k5 ?kK ?kd ?ku ?_; walk_at "my_con"; (case m1 => walk_at "my_mem"); (case m2 => walk_at "my_ints"); (case m3 => first | walk_at "my_om" | walk_at "my_len"); (case m4 => walk_at "my_rng"); walk_at "i_strx")))
  (k_with "call ref!" => (k_here; k_dflt (refine' Con.use (unit_t _ _ _ ?m1 ?m2) ?k1 ?k2 ?k3 ?k4 ?k5 ?kK ?kd ?ku ?_; walk_at "my_con"; (case m1 | m2 => walk_at "my_u16"); walk_at "i_str")))
  (k_with "call ref!" => (k_here; k_dflt (refine' ConW.use (flag_t _ _ _ _ _ _ _ _ _ _ _ _ _ _ _ _ ?m1 ?m2) ?k1 ?k2 ?k3 ?k4 ?k5 ?kK ?kd ?ku ?_; walk_at "my_con"; (case m1 | m2 => walk_at "my_mem"); walk_at "i_two")))
  (k_with "call ref!" => (k_here; k_dflt (refine' Con.use (points_t _ _ _ ?m1) ?k1 ?k2 ?k3 ?k4 ?k5 ?kK ?kd ?ku ?_; walk_at "my_con"; (case m1 => walk_at "my_om"); walk_at "i_pts")))
  (k_with "call ref!" => (k_here; k_dflt (refine' Con.use (kind_t _ _ _) ?k1 ?k2 ?k3 ?k4 ?k5 ?kK ?kd ?ku ?_; walk_at "my_con"; walk_at "i_str")))
  (k_with "call ref!" => (k_here; k_dflt (refine' ConW.use (esc_t _ _ _ _ _ _ _ _ _ _ _ _ _ _ _ _ ?m1 ?m2 ?m3 ?m4) ?k1 ?k2 ?k3 ?k4 ?k5 ?kK ?kd ?ku ?_; walk_at "my_con"; (case m1 | m2 => walk_at "my_mem"); (case m3 | m4 => first | omega | walk_at "my_pt"); walk_at "i_str")))
  (k_with "call ref!" => (k_here; k_dflt (refine' Con.use (octets_t _ _ _ ?m1 ?m2) ?k1 ?k2 ?k3 ?k4 ?k5 ?kK ?kd ?ku ?_; walk_at "my_con"; (case m1 | m2 => walk_at "my_lu"); walk_at "i_octets")))
  (k_with "i_octets!" => (intro r9 nw9 h9 tk9 R9 F9 N9; obtain ⟨l9, vs9, nn9, e8, e7, i9, m9⟩ := R9; subst e8 e7; (try k_lt m9); (all_goals ((try dsimp only); (try k_fold)))))
  (k_with "call ref!" => (k_here; k_dflt (refine' Con.use (ltext_t _ _ _ _ _ ?m1 ?m2 ?m3 ?m4) ?k1 ?k2 ?k3 ?k4 ?k5 ?kK ?kd ?ku ?_; walk_at "my_con"; (case m1 => walk_at "my_mem"); (case m2 => walk_at "my_ints"); (case m3 => walk_at "my_om"); (case m4 => walk_at "my_rng"); walk_at "i_str")))
  (k_with "call ref!" => (k_here; k_dflt (refine' Con.use (lunit_t _ _ _ ?m1 ?m2) ?k1 ?k2 ?k3 ?k4 ?k5 ?kK ?kd ?ku ?_; walk_at "my_con"; (case m1 | m2 => walk_at "my_lu"); walk_at "i_str")))
  trivial
theorem folded_tuple {elts : List PySem.Expr} {k : Nat} {pos : Pos} {env : Env} {x : Value} : foldedSetIterable (.Tuple elts k pos) env x = pure x := rfl
noncomputable def lshort : List (Int × Nat) := [(8, 98), (9, 116), (10, 110), (12, 102), (13, 114), (34, 34), (92, 92)]
noncomputable def lescF (f p : Int) : List Nat :=
  if isShort p = true ∧ p ≠ 47 then [92, shortN p]
  else if p = 47 then (if f / 64 % 2 = 1 then [47] else [92, 47])
  else if 31 < p ∧ p < 128 then [p.toNat]
  else if 127 < p ∧ f / 256 % 2 = 1 ∧ p ≠ 8232 ∧ p ≠ 8233 then (octL p).map Int.toNat
  else if p < 65536 then unitL p
  else unitL (55296 + (p - 65536) / 1024) ++ unitL (56320 + p % 1024)
theorem lsh_all {n : Int} (h : ∀ j, j < 7 → ∀ q, lshort[j]? = some q → n ≠ q.1) : isShort n = false ∨ n = 47 := by
  have h0 := h 0 (by decide) _ rfl
  have h1 := h 1 (by decide) _ rfl
  have h2 := h 2 (by decide) _ rfl
  have h3 := h 3 (by decide) _ rfl
  have h4 := h 4 (by decide) _ rfl
  have h5 := h 5 (by decide) _ rfl
  have h6 := h 6 (by decide) _ rfl
  cases e : isShort n with
  | false => exact .inl rfl
  | true =>
    rcases (isShort_iff n).mp e with e | e | e | e | e | e | e | e
    · exact absurd e h0
    · exact absurd e h1
    · exact absurd e h2
    · exact absurd e h3
    · exact absurd e h4
    · exact absurd e h5
    · exact absurd e h6
    · exact .inr e
theorem lsh_at {j : Nat} {q : Int × Nat} (h : lshort[j]? = some q) : isShort q.1 = true ∧ q.1 ≠ 47 ∧ shortN q.1 = q.2 := by
  have h7 : j < 7 := by have := (List.getElem?_eq_some_iff.mp h).1; simpa [lshort] using this
  have hs : ∀ p : Int, (p = 8 ∨ p = 9 ∨ p = 10 ∨ p = 12 ∨ p = 13 ∨ p = 34 ∨ p = 92 ∨ p = 47) → isShort p = true := fun p hp => (isShort_iff p).mpr hp
  match j, h7 with
  | 0, _ => cases h; exact ⟨hs _ (by decide), by decide, rfl⟩
  | 1, _ => cases h; exact ⟨hs _ (by decide), by decide, rfl⟩
  | 2, _ => cases h; exact ⟨hs _ (by decide), by decide, rfl⟩
  | 3, _ => cases h; exact ⟨hs _ (by decide), by decide, rfl⟩
  | 4, _ => cases h; exact ⟨hs _ (by decide), by decide, rfl⟩
  | 5, _ => cases h; exact ⟨hs _ (by decide), by decide, rfl⟩
  | 6, _ => cases h; exact ⟨hs _ (by decide), by decide, rfl⟩
theorem News.mem9 {h₀ h : Heap} {L : Addr} {l own : List (Addr × Obj)} {p : Addr × Obj} (_ : News h₀ L h (l ++ own)) (hp : p ∈ l) : p ∈ l ++ own := List.mem_append.mpr (.inl hp)
theorem rows_15 : True := by
  (k_with "exec For Tuple Tuple cons nil!" => (k_here; (rename Fr _ _ _ _ => lF'); (with_reducible refine' For_turns lF' ?_ ?hsz9 ?hEz9); (case hsz9 => exact fun _ => folded_tuple); (case hEz9 => passes_own)))
  (k_with "pyIter ref!" => (k_here; (with_reducible show wpAny _ _ (pyIter (Value.ref _)) (fun it s₂ => TurnsAt _ _ _ _ _ _ _ _ _ it s₂) _ _); refine Stop.out ?_))
  (k_with "assign Tuple!" => (k_here; (with_reducible show wpAny _ _ (assign (Expr.Tuple _ _ _) _ (Value.ref _)) _ _ _); k_dflt (refine' unpackN_ ?Fz9 ?Nz9 ?Tz9 ?k1z9 ?k2z9 ?k3z9 ?_; (case Fz9 | Nz9 => k_asm); (case Tz9 => with_reducible assumption); (case k1z9 | k2z9 | k3z9 => exact rfl); k_whole); intro h' F' N'))
  trivial

theorem octL_rng {n : Int} (h0 : 0 ≤ n) (h1 : n < 2097152) : ∀ o ∈ octL n, 0 ≤ o ∧ o ≤ 255 := by
  intro o ho
  unfold octL at ho
  split at ho
  · rw [List.mem_singleton.mp ho]; omega
  · split at ho
    · simp only [List.mem_cons, List.not_mem_nil, or_false] at ho; omega
    · split at ho
      · simp only [List.mem_cons, List.not_mem_nil, or_false] at ho; omega
      · simp only [List.mem_cons, List.not_mem_nil, or_false] at ho; omega
theorem octL_len (n : Int) : 1 ≤ (octL n).length ∧ (octL n).length ≤ 4 := by
  unfold octL
  split
  · exact ⟨Nat.le_refl _, by show 1 ≤ 4; decide⟩
  · split
    · exact ⟨by show 1 ≤ 2; decide, by show 2 ≤ 4; decide⟩
    · split
      · exact ⟨by show 1 ≤ 3; decide, by show 3 ≤ 4; decide⟩
      · exact ⟨by show 1 ≤ 4; decide, Nat.le_refl _⟩
theorem lesc_1 {f p : Int} (h : isShort p = true) (h2 : p ≠ 47) : lescF f p = [92, shortN p] := by unfold lescF; rw [if_pos ⟨h, h2⟩]
theorem lesc_2 {f p : Int} (h : p = 47) (h2 : (f.fdiv 64).fmod 2 = 1) : lescF f p = [47] := by
  rw [Int.fdiv_eq_ediv_of_nonneg _ (by decide), Int.fmod_eq_emod_of_nonneg _ (by decide)] at h2
  unfold lescF; rw [if_neg (fun q => q.2 h), if_pos h, if_pos h2]
theorem lesc_3 {f p : Int} (h : p = 47) (h2 : (f.fdiv 64).fmod 2 ≠ 1) : lescF f p = [92, 47] := by
  rw [Int.fdiv_eq_ediv_of_nonneg _ (by decide), Int.fmod_eq_emod_of_nonneg _ (by decide)] at h2
  unfold lescF; rw [if_neg (fun q => q.2 h), if_pos h, if_neg h2]
theorem lesc_n {p : Int} (h : isShort p = false ∨ p = 47) : ¬ (isShort p = true ∧ p ≠ 47) := fun q => h.elim (fun e => by rw [e] at q; exact absurd q.1 (by decide)) q.2
theorem lesc_4 {f p : Int} (h : isShort p = false ∨ p = 47) (h2 : p ≠ 47) (h3 : 31 < p) (h4 : p < 128) : lescF f p = [p.toNat] := by
  unfold lescF; rw [if_neg (lesc_n h), if_neg h2, if_pos ⟨h3, h4⟩]
theorem lesc_5 {f p : Int} (h : isShort p = false ∨ p = 47) (h4 : ¬ p < 128) (h5 : (f.fdiv 256).fmod 2 = 1) (h6 : p ≠ 8232) (h7 : p ≠ 8233) : lescF f p = (octL p).map Int.toNat := by
  rw [Int.fdiv_eq_ediv_of_nonneg _ (by decide), Int.fmod_eq_emod_of_nonneg _ (by decide)] at h5
  unfold lescF; rw [if_neg (lesc_n h), if_neg (by lia), if_neg (by lia), if_pos ⟨by lia, h5, h6, h7⟩]
theorem lesc_6 {f p : Int} (h : isShort p = false ∨ p = 47) (h1 : p ≠ 47) (h4 : ¬ (31 < p ∧ p < 128)) (h5 : p < 128 ∨ (f.fdiv 256).fmod 2 ≠ 1 ∨ p = 8232 ∨ p = 8233) (h6 : p < 65536) : lescF f p = unitL p := by
  rw [Int.fdiv_eq_ediv_of_nonneg _ (by decide), Int.fmod_eq_emod_of_nonneg _ (by decide)] at h5
  unfold lescF; rw [if_neg (lesc_n h), if_neg h1, if_neg h4, if_neg (by lia), if_pos h6]
theorem lesc_7 {f p : Int} (h : isShort p = false ∨ p = 47) (h5 : (f.fdiv 256).fmod 2 ≠ 1) (h6 : ¬ p < 65536) : lescF f p = unitL (55296 + (p - 65536).fdiv 1024) ++ unitL (56320 + p.fmod 1024) := by
  rw [Int.fdiv_eq_ediv_of_nonneg _ (by decide), Int.fmod_eq_emod_of_nonneg _ (by decide)] at h5
  rw [Int.fdiv_eq_ediv_of_nonneg _ (by decide), Int.fmod_eq_emod_of_nonneg _ (by decide)]
  unfold lescF; rw [if_neg (lesc_n h), if_neg (by lia), if_neg (by lia), if_neg (by lia), if_neg h6]
set_option maxHeartbeats 1000000 in
theorem lesc_t (news : List (Addr × Obj)) (n f : Int) (t tf : Tok) (h0 : 0 ≤ n) (h1 : n < 1114112) (hf : 0 ≤ f) (hf2 : f < 1024) : Con 701 6 news [.int n t, .int f tf] (RStr (lescF f n) news) := by
  walk_at "my_start"
  generalize s.toks + _ = tk0
  have hMk : KstMark := kstMark
  k_steps
  unfold Stop
  (rename Fr _ _ _ _ => lF'); (rename News _ _ _ _ => lN')
  refine ledT_tup (σ := Unit) (fun _ => _) (fun _ => []) (Str.ofString "number") [Str.ofString "sign"] (fun i _ => ∀ j, j < i → ∀ q, lshort[j]? = some q → n ≠ q.1) () (by rfl) lF' lN' (fun _ h => h) (fun _ => .head _) (fun _ h => nomatch h) (fun _ h => absurd h (Nat.not_lt_zero _)) ?_ ?_
  · intro c i v u h9 tk9 own9 hv hP9 ho9 F9 N9
    clear lF' lN'
    obtain ⟨d, q, tq, x, tx', rfl, hm, hq, hx⟩ : ∃ d q tq x tx', v = Value.ref d ∧ IsTup h9 d #[.int q.1 tq, .str x tx'] ∧ lshort[i]? = some q ∧ x = tx [q.2] := by
      have h7 : i < 7 := by have := (List.getElem?_eq_some_iff.mp hv).1; simpa using this
      match i, h7 with
      | 0, _ => cases hv; exact ⟨_, (8, 98), _, _, _, rfl, News.isTup N9 (by walk_at "my_mem"), rfl, by decide +kernel⟩
      | 1, _ => cases hv; exact ⟨_, (9, 116), _, _, _, rfl, News.isTup N9 (by walk_at "my_mem"), rfl, by decide +kernel⟩
      | 2, _ => cases hv; exact ⟨_, (10, 110), _, _, _, rfl, News.isTup N9 (by walk_at "my_mem"), rfl, by decide +kernel⟩
      | 3, _ => cases hv; exact ⟨_, (12, 102), _, _, _, rfl, News.isTup N9 (by walk_at "my_mem"), rfl, by decide +kernel⟩
      | 4, _ => cases hv; exact ⟨_, (13, 114), _, _, _, rfl, News.isTup N9 (by walk_at "my_mem"), rfl, by decide +kernel⟩
      | 5, _ => cases hv; exact ⟨_, (34, 34), _, _, _, rfl, News.isTup N9 (by walk_at "my_mem"), rfl, by decide +kernel⟩
      | 6, _ => cases hv; exact ⟨_, (92, 92), _, _, _, rfl, News.isTup N9 (by walk_at "my_mem"), rfl, by decide +kernel⟩
    subst hx
    have hqs := lsh_at hq
    (try dsimp only)
    try k_fold
    k_steps
    · exact fin_less (l' := news) hret (by assumption) (by assumption) (fun _ hp => by walk_at "my_mem") ⟨rfl, _, by
        have hnq : n = q.1 := by assumption
        rw [hnq, lesc_1 hqs.1 hqs.2.1, hqs.2.2, bs_tx, tx_append]; rfl⟩
    · unfold Stop
      (rename Fr _ _ _ _ => lF'); (rename News _ _ _ _ => lN')
      refine' led_end (x := Str.ofString "number") () lF' lN' ?g1 ?g2 ?g3 ?g4 ?g5 ?g6
      case g4 => exact fun p hp => nomatch hp
      case g1 => exact fun p hp => List.mem_append.mpr (.inl hp)
      case g2 => exact fun p hp => List.mem_append.mpr (.inr hp)
      case g3 => exact ho9
      case g5 =>
        intro z hz hp hs
        have hz2 : z ≠ Str.ofString "sign" := fun e => by rw [e] at hs; exact absurd hs (by decide)
        simp only [hz, hz2, if_false, kstB, hs]
        rfl
      case g6 =>
        intro j hj q' hq'
        have hnq : n ≠ q.1 := by assumption
        rcases Nat.lt_succ_iff_lt_or_eq.mp hj with hj | hj
        · exact hP9 j hj q' hq'
        · rw [hj, hq] at hq'; cases hq'; exact hnq
  · intro c u h9 tk9 hP9 F9 N9
    clear lF' lN'
    have hsh := lsh_all hP9
    have hor := octL_rng (n := n) h0 (by lia)
    have hol : (octL n).length ≤ 400 := Nat.le_trans (octL_len n).2 (by decide)
    (try dsimp only)
    try k_fold
    k_steps
    · exact fin_less (l' := news) hret (by assumption) (by assumption) (fun _ hp => by walk_at "my_mem") ⟨rfl, _, by rw [lesc_2 (by assumption) (by assumption), show Str.ofString "/" = tx [47] by decide +kernel]⟩
    · exact fin_less (l' := news) hret (by assumption) (by assumption) (fun _ hp => by walk_at "my_mem") ⟨rfl, _, by rw [lesc_3 (by assumption) (by assumption), show Str.ofString "\\/" = tx [92, 47] by decide +kernel]⟩
    · exact fin_less (l' := news) hret (by assumption) (by assumption) (fun _ hp => by walk_at "my_mem") ⟨rfl, _, by rw [lesc_4 hsh (by assumption) (by assumption) (by assumption)]; rfl⟩
    · exact fin_less (l' := news) hret (by assumption) (by assumption) (fun _ hp => by walk_at "my_mem") ⟨rfl, _, by rw [lesc_5 hsh (by assumption) (by assumption) (by assumption) (by assumption)]; rfl⟩
    · exact fin_less (l' := news) hret (by assumption) (by assumption) (fun _ hp => by walk_at "my_mem") ⟨rfl, _, by rw [lesc_6 hsh (by lia) (by lia) (by lia) (by lia)]⟩
    · exact fin_less (l' := news) hret (by assumption) (by assumption) (fun _ hp => by walk_at "my_mem") ⟨rfl, _, by rw [lesc_6 hsh (by lia) (by lia) (by lia) (by lia)]⟩
    · exact fin_less (l' := news) hret (by assumption) (by assumption) (fun _ hp => by walk_at "my_mem") ⟨rfl, _, by rw [lesc_6 hsh (by lia) (by lia) (.inr (.inl (by assumption))) (by lia)]⟩
    · exact fin_less (l' := news) hret (by assumption) (by assumption) (fun _ hp => by walk_at "my_mem") ⟨rfl, _, by rw [lesc_7 hsh (by assumption) (by assumption), tx_append]⟩
    · exact fin_less (l' := news) hret (by assumption) (by assumption) (fun _ hp => by walk_at "my_mem") ⟨rfl, _, by rw [lesc_6 hsh (by lia) (by lia) (by lia) (by lia)]⟩
theorem rows_16 : True := by
  k_with_none
  (k_with "pyIter ref!" => ((with_reducible show wpAny _ _ (pyIter (Value.ref _)) (fun it s₂ => LoopAtV _ _ _ _ _ _ _ _ _ it s₂) _ _); refine Stop.out ?_))
  (k_with "InvEndN!" => refine Stop.out ?_)
  (k_with "KswEnd!" => refine Stop.out ?_)
  (k_with "exec While Compare cons nil!" => refine Stop.out ?_)
  (k_with "my_room!" => first | ((try simp only [depth_under_make, depth_under_kw, depth_in1, depth_deeper, depth_caller]); (try dsimp only [ktrTop]); first | walk_at "my_rm" | omega) | ((try simp only [depth_under_make, depth_under_kw, depth_in1, depth_deeper, depth_caller]); decide) | decide)
  (k_with "my_rm!" => first | (with_reducible exact rm0 hd) | ((with_reducible refine rm1 hd ?_); exact Nat.le_of_ble_eq_true rfl) | ((with_reducible refine rm2 hd ?_); exact Nat.le_of_ble_eq_true rfl) | ((with_reducible refine rm2 hu ?_); exact Nat.le_of_ble_eq_true rfl) | ((with_reducible refine rm3 hd ?_); exact Nat.le_of_ble_eq_true rfl) | ((with_reducible refine rm3 hu ?_); exact Nat.le_of_ble_eq_true rfl) | ((with_reducible refine rm4 hd ?_); exact Nat.le_of_ble_eq_true rfl) | ((with_reducible refine rm4 hu ?_); exact Nat.le_of_ble_eq_true rfl))
  (k_with "my_units!" => ((try simp only [units_in1, units_deeper, Around.mark_units, units_caller]); (try dsimp only [ktrTop]); first | walk_at "my_rm" | ((have hcL9 := cLine_is); omega)))
  (k_with "my_ec!" => ((case kA | kF => exact rfl); (case kK => first | exact rfl | assumption); (case k1 | k2 | k3 | k4 | k5 => k_asm); (case k6 | k7 => k_is); (case k8 => first | (dsimp only [ktrTop]; first | walk_at "my_rm" | omega) | walk_at "my_room")))
  (k_with "my_e1!" => (refine' code_def ?k1 ?k2 ?k3 ?k4 ?k5 ?kA ?kF ?kK ?k6 ?k7 ?k8 ?k9 ?kB ?_ ?c2 ?c3 ?c4 ?c5; walk_at "my_ec"; (case k9 => first | exact BindsTo.of_eq rfl | exact binds_K (by k_in) rfl (by k_is) rfl rfl rfl); (case c5 => decide); (case kB => exact locs rfl); (case c2 | c3 | c4 => exact rfl); k_whole))
  (k_with "my_e2!" => (refine' code_defC ?k1 ?k2 ?k3 ?k4 ?k5 ?kA ?kF ?kK ?k6 ?k7 ?k8 ?k9 ?kB ?kD ?_ ?c2 ?c3 ?c4; walk_at "my_ec"; (case k9 => exact BindsTo.of_eq rfl); (case kB => exact rfl); (case kD => decide +kernel); (case c2 | c3 | c4 => exact rfl); k_whole))
  (k_with "my_enter!" => ((first | (walk_at "my_e1"; intro g' L' h' FG' F' N' B' X' T') | (walk_at "my_e2"; intro g' L' h' tk' cells' FG' F' N' Y' B' X' T' l1; (try k_lt l1); k_cells Y'; (try simp only [List.cons_append, List.nil_append] at N'))); (try dsimp only); (try k_lift B'); (try k_fold)))
  (k_with "my_start!" => (w_top off; unfold Con; k_fill; intro w p loose mean mg mb dp un gd cn cs a ccd cl outer A₀ base h₀ L m s Q E B F X N T hk hd hu hret; refine wpAny_call ?_; k_dflt walk_at "my_enter"))
  (k_with "call builtin:str.join!" => first | (k_here; refine join_listW (by is_list) (by assumption) (by decide) (by assumption) ?_; intro tj kj) | refine Stop.out ?_)
  (k_with "eval BinOp!" => (dsimp only; walk1))
  (k_with "binaryOp BitOr int int!" => (dsimp only; walk1))
  (k_with "newTuple!" => (dsimp only; walk1))
  (k_with "InvEndG!" => refine Stop.out ?_)
  (k_with "exec For Name Tuple cons nil!" => (k_here; (rename Fr _ _ _ _ => lF'); (with_unfolding_all refine' For_invVF lF' ?k1z9 ?k2z9 ?_; (case k1z9 | k2z9 => exact rfl); k_whole)))
  (k_with "my_mem!" => first | assumption | exact List.Mem.head _ | (refine List.mem_cons_of_mem _ ?_; walk_at "my_mem") | (with_reducible refine List.mem_append.mpr (.inl ?_); walk_at "my_mem") | (with_reducible refine List.mem_append.mpr (.inr ?_); walk_at "my_mem"))
  (k_with "call builtin:len!" => (k_here; (with_reducible show wpAny _ _ (call (Value.builtin "len") [Value.ref _]) _ _ _); k_dflt (refine' kst_len ?k1 ?k2 ?k3 ?k4 ?_; (case k1 => k_asm); (case k2 => walk_at "my_mem"); (case k3 => first | exact IntsAre.length (by assumption) | exact RngsAre.length (by assumption)); (case k4 => omega))))
  (k_with "subscriptTail!" => (k_here; (with_reducible show wpAny _ _ (subscriptTail _ _ (Value.ref _) (Value.int _ _)) _ _ _); k_dflt (refine' item_led ?k1 ?k2 ?k3 ?k4 ?k5 ?k6 ?_; (case k1 => k_asm); (case k2 => walk_at "my_mem"); (case k3 => assumption); (case k4 | k5 | k6 => omega); k_whole); intro _))
  (k_with "subscriptTail Name Name ref int!" => (k_here; k_dflt (refine' ref_led ?k1 ?k2 ?k4 ?k5 ?k6 ?_; (case k1 => k_asm); (case k2 => walk_at "my_mem"); (case k6 => assumption); (case k4 | k5 => omega); k_whole)))
  (k_with "CompSrc!" => refine Stop.out ?_)
  (k_with "CompEnd!" => refine Stop.out ?_)
  (k_with "my_slen!" => (rw [sizeLine_eq]; (try simp only [Str.length_append, tx_len, List.length_cons, List.length_nil, List.length_append]); omega))
  (k_with "inplaceOp Add str str!" => ((refine SBL.iadd (hsz := ?hszz9) ?_); (case hszz9 => walk_at "my_slen"); intro _ _ _))
  (k_with "binaryOp Add str str!" => ((refine SBL.add (hsz := ?hszz9) ?_); (case hszz9 => walk_at "my_slen"); intro _ _ _))
  (k_with "my_lt!" => first | assumption | exact kst_ltOf (by assumption) | exact kst_ltOf (And.right (by assumption)) | exact kst_ltOf (And.right (And.right (by assumption))) | exact kst_ltOf (And.right (And.right (And.right (by assumption)))) | exact kst_ltOf (And.right (And.right (And.right (And.right (by assumption))))) | exact kst_ltOf (And.right (And.right (And.right (And.right (And.right (by assumption)))))) | exact kst_ltOf (And.right (And.right (And.right (And.right (And.right (And.right (by assumption))))))) | exact kst_ltOf (And.right (And.right (And.right (And.right (And.right (And.right (And.right (by assumption)))))))) | exact kst_ltOf (And.right (And.right (And.right (And.right (And.right (And.right (And.right (And.right (by assumption))))))))) | exact kst_ltOf (And.right (And.right (And.right (And.right (And.right (And.right (And.right (And.right (And.right (by assumption)))))))))) | exact kst_ltOf (And.right (And.right (And.right (And.right (And.right (And.right (And.right (And.right (And.right (And.right (by assumption))))))))))) | exact kst_ltOf (And.right (And.right (And.right (And.right (And.right (And.right (And.right (And.right (And.right (And.right (And.right (by assumption)))))))))))) | exact kst_ltOf (And.right (And.right (And.right (And.right (And.right (And.right (And.right (And.right (And.right (And.right (And.right (And.right (by assumption))))))))))))) | exact kst_ltOf (And.right (And.right (And.right (And.right (And.right (And.right (And.right (And.right (And.right (And.right (And.right (And.right (And.right (by assumption)))))))))))))))
  (k_with "call ref!" => (k_here; k_dflt (refine' call_cls ?k1z9 ?k2z9 ?k3z9 ?k4z9 ?k5z9 ?k6z9 ?_; (case k1z9 | k2z9 | k3z9 => k_asm); (case k4z9 | k5z9 | k6z9 => k_is); k_whole; intro x' d' h' F' N' l1 l2; (try k_lt l1); (try k_lt2 l2); (try k_sweep); walk_at "my_enter")))
  (k_with "my_startW!" => (w_top off; unfold ConW; k_fill; intro p loose mean mg mb dp un gd cn cs a ccd cl outer A₀ base h₀ L m s Q E B F X N T hk hd hu hret; refine wpAny_call ?_; k_dflt walk_at "my_enter"))
  (k_with "my_ints!" => first | assumption | exact .nil | exact .cons _ _ .nil | exact .cons _ _ (.cons _ _ .nil))
  (k_with "my_rng!" => first | assumption | (intro n hn; simp only [List.mem_singleton] at hn; omega))
  (k_with "my_om!" => first | assumption | omega | exact Nat.le_of_ble_eq_true rfl)
  (k_with "my_u16!" => first | omega | with_reducible exact (sur_hi (by omega) (by omega)).2.1 | with_reducible exact (sur_hi (by omega) (by omega)).2.2 | with_reducible exact (sur_lo (by omega) (by omega)).2.1 | with_reducible exact (sur_lo (by omega) (by omega)).2.2)
  (k_with "my_lu!" => first | omega | (kmn_bounds; omega) | (simp only [Int.fdiv_eq_ediv_of_nonneg _ (show (0:Int) ≤ 1024 by decide), Int.fmod_eq_emod_of_nonneg _ (show (0:Int) ≤ 1024 by decide)]; omega))
  (k_with "my_con!" => ((case k4 | k1 => k_asm); (case k2 | k3 | k5 => k_asm); (case kK => first | exact rfl | assumption); (case kd => walk_at "my_room"); (case ku => walk_at "my_units")))
  (k_with "i_str!" => (intro r9 nw9 h9 tk9 R9 F9 N9; obtain ⟨e8, t9, e7⟩ := R9; subst e8 e7; (try dsimp only); (try k_fold)))
  (k_with "i_strx!" => (intro r9 nw9 h9 tk9 R9 F9 N9; obtain ⟨e8, t9, e7⟩ := R9; subst e8 e7; (try walk_at "my_text"); (try dsimp only); (try k_fold)))
  (k_with "i_two!" => (intro r9 nw9 h9 tk9 R9 F9 N9; obtain ⟨e8, e7⟩ := R9; subst e8 e7; (try dsimp only); (try k_fold)))
  (k_with "i_rj!" => (intro r9 nw9 h9 tk9 R9 F9 N9; obtain ⟨d9, t91, t92, e8, e7, l9⟩ := R9; subst e8 e7; (try k_lt l9); (try dsimp only); (try k_fold)))
  (k_with "i_pts!" => (intro r9 nw9 h9 tk9 R9 F9 N9; obtain ⟨e9, e8, e7⟩ | ⟨l9, vs9, nn9, pts9, e9, e8, e7, i9, m9⟩ := R9; (all_goals subst e8 e7); (all_goals (try walk_at "my_same")); (all_goals (try k_lt m9)); (all_goals ((try dsimp only); (try k_fold)))))
  (k_with "call ref!" => (k_here; k_dflt (refine' Con.use (shape_t _ _ _) ?k1 ?k2 ?k3 ?k4 ?k5 ?kK ?kd ?ku ?_; walk_at "my_con"; walk_at "i_shape")))
  (k_with "i_shape!" => (intro r9 nw9 h9 tk9 R9 F9 N9; obtain ⟨e9, e8, e7⟩ | ⟨d9, k9, mn9, pt9, t91, t92, t93, e9, e8, e7⟩ := R9; (all_goals subst e8 e7); (all_goals ((try dsimp only); (try k_fold)))))
  (k_with "call ref!" => (k_here; k_dflt (refine' Con.use (at_t _ _ _ _ _ ?m1 ?m2 ?m3) ?k1 ?k2 ?k3 ?k4 ?k5 ?kK ?kd ?ku ?_; walk_at "my_con"; (case m1 | m2 | m3 => walk_at "my_om"); walk_at "i_at")))
  (k_with "i_at!" => (intro r9 nw9 h9 tk9 R9 F9 N9; obtain ⟨e9, e8, e7⟩ | ⟨d9, q9, j9, t91, t92, e9, e8, e7, l9⟩ := R9; (all_goals subst e8 e7); (all_goals (try k_lt l9)); (all_goals ((try dsimp only); (try k_fold)))))
  (k_with "call ref!" => (k_here; k_dflt (refine' Con.use (behind_t _ _ _) ?k1 ?k2 ?k3 ?k4 ?k5 ?kK ?kd ?ku ?_; walk_at "my_con"; walk_at "i_behind")))
  (k_with "i_behind!" => (intro r9 nw9 h9 tk9 R9 F9 N9; obtain ⟨e9, e8, e7⟩ | ⟨l9, vs9, rs9, nn9, e9, e8, e7, g9, m9⟩ | ⟨l9, vs9, rs9, nn9, d9, lo9, hi9, t91, t92, e9, e8, e7, g9, m8, m9, m7⟩ := R9; (all_goals subst e8 e7); (all_goals (try (have q9 := beh_len e9))); (all_goals (try k_lt m9)); (all_goals (try k_lt m7)); (all_goals ((try dsimp only); (try k_fold)))))
  (k_with "eval ListComp!" => (k_here; k_dflt (refine LCg.ListComp_U (F₀ := by k_asm) (by with_unfolding_all rfl) (by decide) (by rfl) (by decide) (by rfl) ?_)))
  (k_with "exec Assign cons ListComp!" => (k_here; k_dflt (refine LCg.Assign_ListComp_U (F₀ := by k_asm) (by rfl) (by with_unfolding_all rfl) (by with_unfolding_all rfl) (by decide) (by rfl) (by decide) (by rfl) (by rfl) (by rfl) ?_)))
  (k_with "call ref!" => (k_here; k_dflt (refine' Con.use (text_t _ _ _ _ _ ?m1 ?m2 ?m3 ?m4) ?k1 ?k2 ?k3 ?k4 ?k5 ?kK ?kd ?ku ?_; walk_at "my_con"; (case m1 => walk_at "my_mem"); (case m2 => walk_at "my_ints"); (case m3 => first | walk_at "my_om" | walk_at "my_len"); (case m4 => walk_at "my_rng"); walk_at "i_strx")))
  (k_with "call ref!" => (k_here; k_dflt (refine' Con.use (unit_t _ _ _ ?m1 ?m2) ?k1 ?k2 ?k3 ?k4 ?k5 ?kK ?kd ?ku ?_; walk_at "my_con"; (case m1 | m2 => walk_at "my_u16"); walk_at "i_str")))
  (k_with "call ref!" => (k_here; k_dflt (refine' ConW.use (flag_t _ _ _ _ _ _ _ _ _ _ _ _ _ _ _ _ ?m1 ?m2) ?k1 ?k2 ?k3 ?k4 ?k5 ?kK ?kd ?ku ?_; walk_at "my_con"; (case m1 | m2 => walk_at "my_mem"); walk_at "i_two")))
  (k_with "call ref!" => (k_here; k_dflt (refine' Con.use (points_t _ _ _ ?m1) ?k1 ?k2 ?k3 ?k4 ?k5 ?kK ?kd ?ku ?_; walk_at "my_con"; (case m1 => walk_at "my_om"); walk_at "i_pts")))
  (k_with "call ref!" => (k_here; k_dflt (refine' Con.use (kind_t _ _ _) ?k1 ?k2 ?k3 ?k4 ?k5 ?kK ?kd ?ku ?_; walk_at "my_con"; walk_at "i_str")))
  (k_with "call ref!" => (k_here; k_dflt (refine' ConW.use (esc_t _ _ _ _ _ _ _ _ _ _ _ _ _ _ _ _ ?m1 ?m2 ?m3 ?m4) ?k1 ?k2 ?k3 ?k4 ?k5 ?kK ?kd ?ku ?_; walk_at "my_con"; (case m1 | m2 => walk_at "my_mem"); (case m3 | m4 => first | omega | walk_at "my_pt"); walk_at "i_str")))
  (k_with "call ref!" => (k_here; k_dflt (refine' Con.use (octets_t _ _ _ ?m1 ?m2) ?k1 ?k2 ?k3 ?k4 ?k5 ?kK ?kd ?ku ?_; walk_at "my_con"; (case m1 | m2 => walk_at "my_lu"); walk_at "i_octets")))
  (k_with "i_octets!" => (intro r9 nw9 h9 tk9 R9 F9 N9; obtain ⟨l9, vs9, nn9, e8, e7, i9, m9⟩ := R9; subst e8 e7; (try k_lt m9); (all_goals ((try dsimp only); (try k_fold)))))
  (k_with "call ref!" => (k_here; k_dflt (refine' Con.use (ltext_t _ _ _ _ _ ?m1 ?m2 ?m3 ?m4) ?k1 ?k2 ?k3 ?k4 ?k5 ?kK ?kd ?ku ?_; walk_at "my_con"; (case m1 => walk_at "my_mem"); (case m2 => walk_at "my_ints"); (case m3 => walk_at "my_om"); (case m4 => walk_at "my_rng"); walk_at "i_str")))
  (k_with "call ref!" => (k_here; k_dflt (refine' Con.use (lunit_t _ _ _ ?m1 ?m2) ?k1 ?k2 ?k3 ?k4 ?k5 ?kK ?kd ?ku ?_; walk_at "my_con"; (case m1 | m2 => walk_at "my_lu"); walk_at "i_str")))
  trivial
/-- a ledger without the address l -/
noncomputable def offL (l : Addr) (news : List (Addr × Obj)) : List (Addr × Obj) := news.filter fun p => !decide (@Eq Nat p.1 l)
theorem offL_ne {l : Addr} {news : List (Addr × Obj)} : ∀ p ∈ offL l news, p.1 ≠ l := by
  intro p hp e
  have := (List.mem_filter.mp hp).2
  simp only [Bool.not_eq_true', decide_eq_false_iff_not] at this
  exact this e
theorem offL_mem {l : Addr} {news : List (Addr × Obj)} {p : Addr × Obj} (hp : p ∈ news) (ne : p.1 ≠ l) : p ∈ offL l news :=
  List.mem_filter.mpr ⟨hp, by simp only [Bool.not_eq_true', decide_eq_false_iff_not]; exact ne⟩
theorem offL_sub {l : Addr} {news : List (Addr × Obj)} {p : Addr × Obj} (hp : p ∈ offL l news) : p ∈ news := (List.mem_filter.mp hp).1
theorem News.front {h₀ h : Heap} {L l : Addr} {o : Obj} {news : List (Addr × Obj)} (N : News h₀ L h news) (hm : (l, o) ∈ news) : News h₀ L h ((l, o) :: offL l news) :=
  News.less (fun p hp => by rcases List.mem_cons.mp hp with e | e; exact e ▸ hm; exact offL_sub e) N
theorem upd_mem {l : Addr} {o o' : Obj} : ∀ {news news' : List (Addr × Obj)}, Upd l o o' news news' → ∀ p ∈ news', p = (l, o') ∨ (p ∈ news ∧ p.1 ≠ l)
  | _, _, .head a, p, hp => (List.mem_cons.mp hp).imp id fun h => ⟨.tail _ h, a p h⟩
  | _, _, .tail ne u, p, hp => (List.mem_cons.mp hp).elim (fun e => .inr (by rw [e]; exact ⟨.head _, ne⟩)) fun h => (upd_mem u p h).imp id fun h => ⟨.tail _ h.1, h.2⟩
theorem News.upd {h₀ h : Heap} {L l : Addr} {o o' : Obj} {news news' : List (Addr × Obj)} (N : News h₀ L h ((l, o') :: offL l news)) (U : Upd l o o' news news') : News h₀ L h news' :=
  News.less (fun p hp => (upd_mem U p hp).elim (fun e => e ▸ .head _) fun h => .tail _ (offL_mem h.1 h.2)) N
noncomputable def RDig (b m : Int) (l : Addr) (k : Nat) (news : List (Addr × Obj)) (r : Value) (nw : List (Addr × Obj)) : Prop := ∃ t t', r = .int (b % m) t ∧ nw = (l, listOf #[.int (b / m) t'] k) :: offL l news
theorem rows_17 : True := by
  (k_with "setItem ref int!" => refine Stop.out ?_)
  trivial

theorem rdig_i {b q r mm : Int} {l : Addr} {k : Nat} {news : List (Addr × Obj)} {t t' : Tok} (hm : 0 < mm) (hr : r = b.fmod mm) (hq : q = b.fdiv mm) : RDig b mm l k news (.int r t) ((l, listOf #[.int q t'] k) :: offL l news) := by
  subst hr hq
  exact ⟨t, t', by rw [Int.fmod_eq_emod_of_nonneg _ (Int.le_of_lt hm)], by rw [Int.fdiv_eq_ediv_of_nonneg _ (Int.le_of_lt hm)]⟩
set_option maxHeartbeats 400000 in
theorem digit_t (news : List (Addr × Obj)) (l : Addr) (k : Nat) (b mm : Int) (tb tm : Tok) (hl : (l, listOf #[.int b tb] k) ∈ news) (hm : 0 < mm) (hm2 : mm ≤ 2097152) : Con 658 3 news [.ref l, .int mm tm] (RDig b mm l k news) := by
  walk_at "my_start"
  generalize s.toks + _ = tk0
  have hMk : KstMark := kstMark
  have hi1 : IntsAre [Value.int b tb] [b] := .cons _ _ .nil
  (rename News _ _ _ _ => lN')
  replace lN' := News.front lN' hl
  k_steps
  unfold Stop
  dsimp only
  refine' ksa_set (vs := [_]) (ns := [b]) ?k1 ?k2 (Upd.head offL_ne) ?k4 ?k5 ?k6 ?k7 ?_
  (case k1 => k_asm); (case k2 => k_asm); (case k4 => exact .cons _ _ .nil); (case k5 => decide); (case k6 => exact Int.ofNat_lt.mpr (Nat.succ_pos _)); (case k7 => decide); k_whole; intro h' F' N' hi' hl' hs'; (try k_sweep)
  k_steps
  exact fin hret (by assumption) (by assumption) (rdig_i hm rfl rfl)
theorem rows_18 : True := by
  k_with_none
  (k_with "pyIter ref!" => ((with_reducible show wpAny _ _ (pyIter (Value.ref _)) (fun it s₂ => LoopAtV _ _ _ _ _ _ _ _ _ it s₂) _ _); refine Stop.out ?_))
  (k_with "InvEndN!" => refine Stop.out ?_)
  (k_with "KswEnd!" => refine Stop.out ?_)
  (k_with "exec While Compare cons nil!" => refine Stop.out ?_)
  (k_with "my_room!" => first | ((try simp only [depth_under_make, depth_under_kw, depth_in1, depth_deeper, depth_caller]); (try dsimp only [ktrTop]); first | walk_at "my_rm" | omega) | ((try simp only [depth_under_make, depth_under_kw, depth_in1, depth_deeper, depth_caller]); decide) | decide)
  (k_with "my_rm!" => first | (with_reducible exact rm0 hd) | ((with_reducible refine rm1 hd ?_); exact Nat.le_of_ble_eq_true rfl) | ((with_reducible refine rm2 hd ?_); exact Nat.le_of_ble_eq_true rfl) | ((with_reducible refine rm2 hu ?_); exact Nat.le_of_ble_eq_true rfl) | ((with_reducible refine rm3 hd ?_); exact Nat.le_of_ble_eq_true rfl) | ((with_reducible refine rm3 hu ?_); exact Nat.le_of_ble_eq_true rfl) | ((with_reducible refine rm4 hd ?_); exact Nat.le_of_ble_eq_true rfl) | ((with_reducible refine rm4 hu ?_); exact Nat.le_of_ble_eq_true rfl))
  (k_with "my_units!" => ((try simp only [units_in1, units_deeper, Around.mark_units, units_caller]); (try dsimp only [ktrTop]); first | walk_at "my_rm" | ((have hcL9 := cLine_is); omega)))
  (k_with "my_ec!" => ((case kA | kF => exact rfl); (case kK => first | exact rfl | assumption); (case k1 | k2 | k3 | k4 | k5 => k_asm); (case k6 | k7 => k_is); (case k8 => first | (dsimp only [ktrTop]; first | walk_at "my_rm" | omega) | walk_at "my_room")))
  (k_with "my_e1!" => (refine' code_def ?k1 ?k2 ?k3 ?k4 ?k5 ?kA ?kF ?kK ?k6 ?k7 ?k8 ?k9 ?kB ?_ ?c2 ?c3 ?c4 ?c5; walk_at "my_ec"; (case k9 => first | exact BindsTo.of_eq rfl | exact binds_K (by k_in) rfl (by k_is) rfl rfl rfl); (case c5 => decide); (case kB => exact locs rfl); (case c2 | c3 | c4 => exact rfl); k_whole))
  (k_with "my_e2!" => (refine' code_defC ?k1 ?k2 ?k3 ?k4 ?k5 ?kA ?kF ?kK ?k6 ?k7 ?k8 ?k9 ?kB ?kD ?_ ?c2 ?c3 ?c4; walk_at "my_ec"; (case k9 => exact BindsTo.of_eq rfl); (case kB => exact rfl); (case kD => decide +kernel); (case c2 | c3 | c4 => exact rfl); k_whole))
  (k_with "my_enter!" => ((first | (walk_at "my_e1"; intro g' L' h' FG' F' N' B' X' T') | (walk_at "my_e2"; intro g' L' h' tk' cells' FG' F' N' Y' B' X' T' l1; (try k_lt l1); k_cells Y'; (try simp only [List.cons_append, List.nil_append] at N'))); (try dsimp only); (try k_lift B'); (try k_fold)))
  (k_with "my_start!" => (w_top off; unfold Con; k_fill; intro w p loose mean mg mb dp un gd cn cs a ccd cl outer A₀ base h₀ L m s Q E B F X N T hk hd hu hret; refine wpAny_call ?_; k_dflt walk_at "my_enter"))
  (k_with "call builtin:str.join!" => first | (k_here; refine join_listW (by is_list) (by assumption) (by decide) (by assumption) ?_; intro tj kj) | refine Stop.out ?_)
  (k_with "eval BinOp!" => (dsimp only; walk1))
  (k_with "binaryOp BitOr int int!" => (dsimp only; walk1))
  (k_with "newTuple!" => (dsimp only; walk1))
  (k_with "InvEndG!" => refine Stop.out ?_)
  (k_with "exec For Name Tuple cons nil!" => (k_here; (rename Fr _ _ _ _ => lF'); (with_unfolding_all refine' For_invVF lF' ?k1z9 ?k2z9 ?_; (case k1z9 | k2z9 => exact rfl); k_whole)))
  (k_with "my_mem!" => first | assumption | exact List.Mem.head _ | (refine List.mem_cons_of_mem _ ?_; walk_at "my_mem") | (with_reducible refine List.mem_append.mpr (.inl ?_); walk_at "my_mem") | (with_reducible refine List.mem_append.mpr (.inr ?_); walk_at "my_mem"))
  (k_with "call builtin:len!" => (k_here; (with_reducible show wpAny _ _ (call (Value.builtin "len") [Value.ref _]) _ _ _); k_dflt (refine' kst_len ?k1 ?k2 ?k3 ?k4 ?_; (case k1 => k_asm); (case k2 => walk_at "my_mem"); (case k3 => first | exact IntsAre.length (by assumption) | exact RngsAre.length (by assumption)); (case k4 => omega))))
  (k_with "subscriptTail!" => (k_here; (with_reducible show wpAny _ _ (subscriptTail _ _ (Value.ref _) (Value.int _ _)) _ _ _); k_dflt (refine' item_led ?k1 ?k2 ?k3 ?k4 ?k5 ?k6 ?_; (case k1 => k_asm); (case k2 => walk_at "my_mem"); (case k3 => assumption); (case k4 | k5 | k6 => omega); k_whole); intro _))
  (k_with "subscriptTail Name Name ref int!" => (k_here; k_dflt (refine' ref_led ?k1 ?k2 ?k4 ?k5 ?k6 ?_; (case k1 => k_asm); (case k2 => walk_at "my_mem"); (case k6 => assumption); (case k4 | k5 => omega); k_whole)))
  (k_with "CompSrc!" => refine Stop.out ?_)
  (k_with "CompEnd!" => refine Stop.out ?_)
  (k_with "my_slen!" => (rw [sizeLine_eq]; (try simp only [Str.length_append, tx_len, List.length_cons, List.length_nil, List.length_append]); omega))
  (k_with "inplaceOp Add str str!" => ((refine SBL.iadd (hsz := ?hszz9) ?_); (case hszz9 => walk_at "my_slen"); intro _ _ _))
  (k_with "binaryOp Add str str!" => ((refine SBL.add (hsz := ?hszz9) ?_); (case hszz9 => walk_at "my_slen"); intro _ _ _))
  (k_with "my_lt!" => first | assumption | exact kst_ltOf (by assumption) | exact kst_ltOf (And.right (by assumption)) | exact kst_ltOf (And.right (And.right (by assumption))) | exact kst_ltOf (And.right (And.right (And.right (by assumption)))) | exact kst_ltOf (And.right (And.right (And.right (And.right (by assumption))))) | exact kst_ltOf (And.right (And.right (And.right (And.right (And.right (by assumption)))))) | exact kst_ltOf (And.right (And.right (And.right (And.right (And.right (And.right (by assumption))))))) | exact kst_ltOf (And.right (And.right (And.right (And.right (And.right (And.right (And.right (by assumption)))))))) | exact kst_ltOf (And.right (And.right (And.right (And.right (And.right (And.right (And.right (And.right (by assumption))))))))) | exact kst_ltOf (And.right (And.right (And.right (And.right (And.right (And.right (And.right (And.right (And.right (by assumption)))))))))) | exact kst_ltOf (And.right (And.right (And.right (And.right (And.right (And.right (And.right (And.right (And.right (And.right (by assumption))))))))))) | exact kst_ltOf (And.right (And.right (And.right (And.right (And.right (And.right (And.right (And.right (And.right (And.right (And.right (by assumption)))))))))))) | exact kst_ltOf (And.right (And.right (And.right (And.right (And.right (And.right (And.right (And.right (And.right (And.right (And.right (And.right (by assumption))))))))))))) | exact kst_ltOf (And.right (And.right (And.right (And.right (And.right (And.right (And.right (And.right (And.right (And.right (And.right (And.right (And.right (by assumption)))))))))))))))
  (k_with "call ref!" => (k_here; k_dflt (refine' call_cls ?k1z9 ?k2z9 ?k3z9 ?k4z9 ?k5z9 ?k6z9 ?_; (case k1z9 | k2z9 | k3z9 => k_asm); (case k4z9 | k5z9 | k6z9 => k_is); k_whole; intro x' d' h' F' N' l1 l2; (try k_lt l1); (try k_lt2 l2); (try k_sweep); walk_at "my_enter")))
  (k_with "my_startW!" => (w_top off; unfold ConW; k_fill; intro p loose mean mg mb dp un gd cn cs a ccd cl outer A₀ base h₀ L m s Q E B F X N T hk hd hu hret; refine wpAny_call ?_; k_dflt walk_at "my_enter"))
  (k_with "my_ints!" => first | assumption | exact .nil | exact .cons _ _ .nil | exact .cons _ _ (.cons _ _ .nil))
  (k_with "my_rng!" => first | assumption | (intro n hn; simp only [List.mem_singleton] at hn; omega))
  (k_with "my_om!" => first | assumption | omega | exact Nat.le_of_ble_eq_true rfl)
  (k_with "my_u16!" => first | omega | with_reducible exact (sur_hi (by omega) (by omega)).2.1 | with_reducible exact (sur_hi (by omega) (by omega)).2.2 | with_reducible exact (sur_lo (by omega) (by omega)).2.1 | with_reducible exact (sur_lo (by omega) (by omega)).2.2)
  (k_with "my_lu!" => first | omega | (kmn_bounds; omega) | (simp only [Int.fdiv_eq_ediv_of_nonneg _ (show (0:Int) ≤ 1024 by decide), Int.fmod_eq_emod_of_nonneg _ (show (0:Int) ≤ 1024 by decide)]; omega))
  (k_with "my_con!" => ((case k4 | k1 => k_asm); (case k2 | k3 | k5 => k_asm); (case kK => first | exact rfl | assumption); (case kd => walk_at "my_room"); (case ku => walk_at "my_units")))
  (k_with "i_str!" => (intro r9 nw9 h9 tk9 R9 F9 N9; obtain ⟨e8, t9, e7⟩ := R9; subst e8 e7; (try dsimp only); (try k_fold)))
  (k_with "i_strx!" => (intro r9 nw9 h9 tk9 R9 F9 N9; obtain ⟨e8, t9, e7⟩ := R9; subst e8 e7; (try walk_at "my_text"); (try dsimp only); (try k_fold)))
  (k_with "i_two!" => (intro r9 nw9 h9 tk9 R9 F9 N9; obtain ⟨e8, e7⟩ := R9; subst e8 e7; (try dsimp only); (try k_fold)))
  (k_with "i_rj!" => (intro r9 nw9 h9 tk9 R9 F9 N9; obtain ⟨d9, t91, t92, e8, e7, l9⟩ := R9; subst e8 e7; (try k_lt l9); (try dsimp only); (try k_fold)))
  (k_with "i_pts!" => (intro r9 nw9 h9 tk9 R9 F9 N9; obtain ⟨e9, e8, e7⟩ | ⟨l9, vs9, nn9, pts9, e9, e8, e7, i9, m9⟩ := R9; (all_goals subst e8 e7); (all_goals (try walk_at "my_same")); (all_goals (try k_lt m9)); (all_goals ((try dsimp only); (try k_fold)))))
  (k_with "call ref!" => (k_here; k_dflt (refine' Con.use (shape_t _ _ _) ?k1 ?k2 ?k3 ?k4 ?k5 ?kK ?kd ?ku ?_; walk_at "my_con"; walk_at "i_shape")))
  (k_with "i_shape!" => (intro r9 nw9 h9 tk9 R9 F9 N9; obtain ⟨e9, e8, e7⟩ | ⟨d9, k9, mn9, pt9, t91, t92, t93, e9, e8, e7⟩ := R9; (all_goals subst e8 e7); (all_goals ((try dsimp only); (try k_fold)))))
  (k_with "call ref!" => (k_here; k_dflt (refine' Con.use (at_t _ _ _ _ _ ?m1 ?m2 ?m3) ?k1 ?k2 ?k3 ?k4 ?k5 ?kK ?kd ?ku ?_; walk_at "my_con"; (case m1 | m2 | m3 => walk_at "my_om"); walk_at "i_at")))
  (k_with "i_at!" => (intro r9 nw9 h9 tk9 R9 F9 N9; obtain ⟨e9, e8, e7⟩ | ⟨d9, q9, j9, t91, t92, e9, e8, e7, l9⟩ := R9; (all_goals subst e8 e7); (all_goals (try k_lt l9)); (all_goals ((try dsimp only); (try k_fold)))))
  (k_with "call ref!" => (k_here; k_dflt (refine' Con.use (behind_t _ _ _) ?k1 ?k2 ?k3 ?k4 ?k5 ?kK ?kd ?ku ?_; walk_at "my_con"; walk_at "i_behind")))
  (k_with "i_behind!" => (intro r9 nw9 h9 tk9 R9 F9 N9; obtain ⟨e9, e8, e7⟩ | ⟨l9, vs9, rs9, nn9, e9, e8, e7, g9, m9⟩ | ⟨l9, vs9, rs9, nn9, d9, lo9, hi9, t91, t92, e9, e8, e7, g9, m8, m9, m7⟩ := R9; (all_goals subst e8 e7); (all_goals (try (have q9 := beh_len e9))); (all_goals (try k_lt m9)); (all_goals (try k_lt m7)); (all_goals ((try dsimp only); (try k_fold)))))
  (k_with "eval ListComp!" => (k_here; k_dflt (refine LCg.ListComp_U (F₀ := by k_asm) (by with_unfolding_all rfl) (by decide) (by rfl) (by decide) (by rfl) ?_)))
  (k_with "exec Assign cons ListComp!" => (k_here; k_dflt (refine LCg.Assign_ListComp_U (F₀ := by k_asm) (by rfl) (by with_unfolding_all rfl) (by with_unfolding_all rfl) (by decide) (by rfl) (by decide) (by rfl) (by rfl) (by rfl) ?_)))
  (k_with "call ref!" => (k_here; k_dflt (refine' Con.use (text_t _ _ _ _ _ ?m1 ?m2 ?m3 ?m4) ?k1 ?k2 ?k3 ?k4 ?k5 ?kK ?kd ?ku ?_; walk_at "my_con"; (case m1 => walk_at "my_mem"); (case m2 => walk_at "my_ints"); (case m3 => first | walk_at "my_om" | walk_at "my_len"); (case m4 => walk_at "my_rng"); walk_at "i_strx")))
  (k_with "call ref!" => (k_here; k_dflt (refine' Con.use (unit_t _ _ _ ?m1 ?m2) ?k1 ?k2 ?k3 ?k4 ?k5 ?kK ?kd ?ku ?_; walk_at "my_con"; (case m1 | m2 => walk_at "my_u16"); walk_at "i_str")))
  (k_with "call ref!" => (k_here; k_dflt (refine' ConW.use (flag_t _ _ _ _ _ _ _ _ _ _ _ _ _ _ _ _ ?m1 ?m2) ?k1 ?k2 ?k3 ?k4 ?k5 ?kK ?kd ?ku ?_; walk_at "my_con"; (case m1 | m2 => walk_at "my_mem"); walk_at "i_two")))
  (k_with "call ref!" => (k_here; k_dflt (refine' Con.use (points_t _ _ _ ?m1) ?k1 ?k2 ?k3 ?k4 ?k5 ?kK ?kd ?ku ?_; walk_at "my_con"; (case m1 => walk_at "my_om"); walk_at "i_pts")))
  (k_with "call ref!" => (k_here; k_dflt (refine' Con.use (kind_t _ _ _) ?k1 ?k2 ?k3 ?k4 ?k5 ?kK ?kd ?ku ?_; walk_at "my_con"; walk_at "i_str")))
  (k_with "call ref!" => (k_here; k_dflt (refine' ConW.use (esc_t _ _ _ _ _ _ _ _ _ _ _ _ _ _ _ _ ?m1 ?m2 ?m3 ?m4) ?k1 ?k2 ?k3 ?k4 ?k5 ?kK ?kd ?ku ?_; walk_at "my_con"; (case m1 | m2 => walk_at "my_mem"); (case m3 | m4 => first | omega | walk_at "my_pt"); walk_at "i_str")))
  (k_with "call ref!" => (k_here; k_dflt (refine' Con.use (octets_t _ _ _ ?m1 ?m2) ?k1 ?k2 ?k3 ?k4 ?k5 ?kK ?kd ?ku ?_; walk_at "my_con"; (case m1 | m2 => walk_at "my_lu"); walk_at "i_octets")))
  (k_with "i_octets!" => (intro r9 nw9 h9 tk9 R9 F9 N9; obtain ⟨l9, vs9, nn9, e8, e7, i9, m9⟩ := R9; subst e8 e7; (try k_lt m9); (all_goals ((try dsimp only); (try k_fold)))))
  (k_with "call ref!" => (k_here; k_dflt (refine' Con.use (ltext_t _ _ _ _ _ ?m1 ?m2 ?m3 ?m4) ?k1 ?k2 ?k3 ?k4 ?k5 ?kK ?kd ?ku ?_; walk_at "my_con"; (case m1 => walk_at "my_mem"); (case m2 => walk_at "my_ints"); (case m3 => walk_at "my_om"); (case m4 => walk_at "my_rng"); walk_at "i_str")))
  (k_with "call ref!" => (k_here; k_dflt (refine' Con.use (lunit_t _ _ _ ?m1 ?m2) ?k1 ?k2 ?k3 ?k4 ?k5 ?kK ?kd ?ku ?_; walk_at "my_con"; (case m1 | m2 => walk_at "my_lu"); walk_at "i_str")))
  (k_with "call ref!" => (k_here; k_dflt (refine' Con.use (lesc_t _ _ _ _ _ ?m1 ?m2 ?m3 ?m4) ?k1 ?k2 ?k3 ?k4 ?k5 ?kK ?kd ?ku ?_; walk_at "my_con"; (case m1 | m2 => first | omega | walk_at "my_pt"); (case m3 | m4 => first | assumption | omega); walk_at "i_str")))
  trivial
noncomputable def ljsonF (f : Int) : Option (List Int) → Int × List Nat
  | none => (5, if f / 512 % 2 = 1 then [110, 117, 108, 108] else [])
  | some ps => (0, 34 :: ps.flatMap (lescF f) ++ [34])
theorem lescF_len (f p : Int) : (lescF f p).length ≤ 12 := by
  unfold lescF
  split
  · exact Nat.le_of_ble_eq_true rfl
  · split
    · split <;> exact Nat.le_of_ble_eq_true rfl
    · split
      · exact Nat.le_of_ble_eq_true rfl
      · split
        · rw [List.length_map]; exact Nat.le_trans (octL_len p).2 (by decide)
        · split
          · rw [unitL_len]; decide
          · rw [List.length_append, unitL_len, unitL_len]; decide
theorem lescs_len (f : Int) : ∀ ps : List Int, (ps.flatMap (lescF f)).length ≤ 12 * ps.length
  | [] => Nat.zero_le _
  | p :: r => by rw [List.flatMap_cons, List.length_append, List.length_cons]; have := lescs_len f r; have := lescF_len f p; omega
theorem ljson_n1 {f : Int} (h : (f.fdiv 512).fmod 2 = 1) : ljsonF f none = (5, [110, 117, 108, 108]) := by
  rw [Int.fdiv_eq_ediv_of_nonneg _ (by decide), Int.fmod_eq_emod_of_nonneg _ (by decide)] at h
  unfold ljsonF; dsimp only; rw [if_pos h]
theorem ljson_n2 {f : Int} (h : (f.fdiv 512).fmod 2 ≠ 1) : ljsonF f none = (5, []) := by
  rw [Int.fdiv_eq_ediv_of_nonneg _ (by decide), Int.fmod_eq_emod_of_nonneg _ (by decide)] at h
  unfold ljsonF; dsimp only; rw [if_neg h]
set_option maxHeartbeats 1000000 in
theorem ljson_n_t (news : List (Addr × Obj)) (f : Int) (tf : Tok) (hf : 0 ≤ f) (hf2 : f < 1024) : Con 706 9 news [.none, .int f tf] (RJ (ljsonF f none) news) := by
  walk_at "my_start"
  generalize s.toks + _ = tk0
  have hMk : KstMark := kstMark
  k_steps
  · exact fin_less (l' := _ :: news) hret (by assumption) (by assumption) (sub_cons (fun _ hp => by walk_at "my_mem") (by walk_at "my_mem")) (rj_i (by rw [ljson_n1 (by assumption)]) (by rw [ljson_n1 (by assumption)]; decide +kernel) (by walk_at "my_lt"))
  · exact fin_less (l' := _ :: news) hret (by assumption) (by assumption) (sub_cons (fun _ hp => by walk_at "my_mem") (by walk_at "my_mem")) (rj_i (by rw [ljson_n2 (by assumption)]) (by rw [ljson_n2 (by assumption)]; decide +kernel) (by walk_at "my_lt"))
set_option maxHeartbeats 1000000 in
theorem ljson_t (news : List (Addr × Obj)) (l : Addr) (vs : List Value) (nn : Nat) (pts : List Int) (f : Int) (tf : Tok) (hl : (l, listOf vs.toArray nn) ∈ news) (hi : IntsAre vs pts) (hn : pts.length ≤ 200) (hr : ∀ p ∈ pts, Scal p) (hf : 0 ≤ f) (hf2 : f < 1024) : Con 706 9 news [.ref l, .int f tf] (RJ (ljsonF f (some pts)) news) := by
  walk_at "my_start"
  generalize s.toks + _ = tk0
  have hMk : KstMark := kstMark
  k_steps
  unfold Stop
  have hlen := hi.length
  have hsz : vs.length ≤ 200 := by omega
  refine LCg.CompSrc.ledger (by rfl) (by k_asm) (by k_asm) (.tail _ hl) (by rw [List.size_toArray]; exact Nat.le_trans hsz (by decide)) ?_
  intro g9
  refine comp_rest vs.toArray.size (fun i ys nx => nx = _ ∧ StrsAre ys ((pts.take i).map fun p => tx (lescF f p))) ?_ ?_ _ _ _ _ (Nat.zero_add _) ⟨rfl, .nil⟩
  · rintro i ys nx hlt ⟨rfl, hS⟩ v I oI C oC D m₂ h tk E' hv hC hx F9 N9 o9 ne9
    obtain ⟨o, to, rfl, ho⟩ := hi.at i v (by simpa using hv)
    have hor := hr o (List.mem_of_getElem? ho)
    unfold Scal at hor
    (try dsimp only)
    try k_fold
    k_steps
    unfold Stop
    refine LCg.CompEnd.intro (by assumption) (by assumption) _ (fun _ h => h) o9 (.inr ⟨_, .tail _ hl, rfl, _, rfl⟩) ⟨rfl, ?_⟩
    rw [List.take_add_one, ho, List.map_append]
    exact hS.append' (.cons _ _ .nil)
  · rintro ys nx ⟨rfl, hS⟩
    unfold LCg.FinE
    intro D' h' tk' F' N' o1'
    rw [show pts.take vs.toArray.size = pts by rw [List.size_toArray, hlen]; exact List.take_length] at hS
    have hfl := lescs_len f pts
    have hW : ((pts.map fun p => tx (lescF f p)).map (·.length)).sum + (pts.map fun p => tx (lescF f p)).length ≤ 1048576 := by
      rw [txs_sum, List.length_map]; omega
    have hq : (Str.ofString "\"").length = 1 := by decide +kernel
    (try dsimp only)
    try k_fold
    k_steps
    unfold Stop
    refine join_listW (items := ys.toArray) (ys := pts.map fun p => tx (lescF f p)) ⟨_, (N' _ (.head _)).1, rfl, _, rfl⟩ hS (by decide) hW ?_
    intro tj kj
    rw [txs_join]
    (try dsimp only)
    k_steps
    exact fin_less (l' := _ :: news) hret (by assumption) (by assumption) (sub_cons (fun _ hp => by walk_at "my_mem") (by walk_at "my_mem")) (rj_i rfl (by rw [show Str.ofString "\"" = tx [34] by decide +kernel, tx_append, tx_append]; rfl) (by walk_at "my_lt"))
section
variable {M : Model} {A : Around} {E : Value → Shared → Prop} {env : Env}
/-- ends by going on, in a state that P tells of -/
noncomputable def Nxt (P : Shared → Prop) (f : Flow) (s : Shared) : Prop := f = .next ∧ P s
/-- a block of statements -/
noncomputable def Blk (M : Model) (A : Around) (env : Env) (E : Value → Shared → Prop) (P : Shared → Prop) : List Stmt → Shared → Prop
  | [], s => P s
  | st :: r, s => wpAny M A (exec st env) (Nxt (Blk M A env E P r)) E s
theorem blk_cut {P : Shared → Prop} {Q : Flow → Shared → Prop} {rest : List Stmt} (h2 : ∀ s', P s' → wpAny M A (execs rest env) Q E s') : ∀ (l : List Stmt) (s : Shared), Blk M A env E P l s → wpAny M A (execs (l ++ rest) env) Q E s
  | [], s, h => h2 s h
  | st :: r, s, h => wpAny_execs_cons (wpAny_mono h (fun f s' q => by obtain ⟨rfl, q⟩ := q; exact blk_cut h2 r s' q) fun _ _ x => x)
end
/-- the names that are known, in order -/
noncomputable def Knows (m : Str → Option Value) : List (Str × Value) → Prop
  | [] => True
  | p :: r => m p.1 = some p.2 ∧ Knows m r
theorem Knows.all {m : Str → Option Value} : ∀ {ps : List (Str × Value)}, Knows m ps → ∀ p ∈ ps, m p.1 = some p.2
  | [], _, _, h => nomatch h
  | _ :: _, k, p, h => (List.mem_cons.mp h).elim (fun e => e ▸ k.1) fun h => Knows.all k.2 p h
theorem fr_knows {h₀ h : Heap} {L : Addr} {m : Str → Option Value} {ps : List (Str × Value)} (F : Fr h₀ L h m) (k : Knows m ps) : Fr h₀ L h (kstB m ps) := by
  have e : kstB m ps = m := by funext z; exact kstB_eq (Knows.all k) fun _ => rfl
  rw [e]; exact F
/-- the state behind a block: names, ledger, as C tells -/
noncomputable def CutS (h₀ : Heap) (L : Addr) (s : Shared) (C : List (Str × Value) → List (Addr × Obj) → Prop) (s' : Shared) : Prop :=
  ∃ ps led u h tk, s' = { s with heap := h, toks := tk } ∧ Fr h₀ L h (kstB u ps) ∧ News h₀ L h led ∧ C ps led
theorem CutS.intro {h₀ h : Heap} {L : Addr} {s : Shared} {C : List (Str × Value) → List (Addr × Obj) → Prop} {m : Str → Option Value} {tk : Nat} {news led : List (Addr × Obj)} {ps : List (Str × Value)}
    (F : Fr h₀ L h m) (N : News h₀ L h news) (k : Knows m ps) (sub : ∀ p ∈ led, p ∈ news) (c : C ps led) : CutS h₀ L s C { s with heap := h, toks := tk } := ⟨ps, led, m, h, tk, rfl, fr_knows F k, News.less sub N, c⟩
theorem cutB {M : Model} {A : Around} {E : Value → Shared → Prop} {env : Env} {Q : Flow → Shared → Prop} {l rest : List Stmt} {s : Shared} {h₀ : Heap} {m₀ : Str → Option Value} (_F : Fr h₀ env.locals s.heap m₀) (C : List (Str × Value) → List (Addr × Obj) → Prop)
    (h1 : Blk M A env E (CutS h₀ env.locals s C) l s)
    (h2 : ∀ ps led u h tk, C ps led → Fr h₀ env.locals h (kstB u ps) → News h₀ env.locals h led → wpAny M A (execs rest env) Q E { s with heap := h, toks := tk }) : wpAny M A (execs (l ++ rest) env) Q E s :=
  blk_cut (fun s' q => by obtain ⟨ps, led, u, h, tk, rfl, F, N, p⟩ := q; exact h2 ps led u h tk p F N) l s h1
section
variable {prog : Program} {w : World} {A : Around} {E : Value → Shared → Prop} {s : Shared} {env : Env} {h₀ : Heap} {x : Str} {body : List Stmt} {Q : Flow → Shared → Prop}
/-- led_list where the list heads the ledger -/
theorem led_listH {σ : Type} {l : Addr} {vs : List Value} {k : Nat} {m₀ : Str → Option Value} (Led : σ → List (Addr × Obj)) (ps : σ → List (Str × Value)) (stored : List Str) (P : Nat → σ → Prop) (c₀ : σ)
    (hh : A.handled = none) (F : Fr h₀ env.locals s.heap m₀) (N : News h₀ env.locals s.heap ((l, W.listOf vs.toArray k) :: Led c₀)) (hk : ∀ p ∈ ps c₀, m₀ p.1 = some p.2) (hp : P 0 c₀)
    (turn : ∀ (c : σ) i v (u : Str → Option Value) h tk own, vs[i]? = some v → P i c → OwnOff own (l :: (Led c).map (·.1)) →
      Fr h₀ env.locals h (fun y => if y = x then some v else kstB (fun z => if stored.contains z then u z else m₀ z) (ps c) y) → News h₀ env.locals h (((l, W.listOf vs.toArray k) :: Led c) ++ own) →
      wpAny (model prog w) A (execs body env) (InvPostG h₀ env.locals (LedS (fun c => (l, W.listOf vs.toArray k) :: Led c) ps x stored m₀ P (i + 1)) own { s with heap := h, toks := tk } Q) E { s with heap := h, toks := tk })
    (done : ∀ (c : σ) (u : Str → Option Value) h tk, P vs.length c → Fr h₀ env.locals h (fun y => if y = x then u y else kstB (fun z => if stored.contains z then u z else m₀ z) (ps c) y) → News h₀ env.locals h (Led c) → Q .next { s with heap := h, toks := tk }) :
    wpAny (model prog w) A (pyIter (.ref l)) (fun it s₂ => LoopAtV prog w A h₀ env x body Q E it s₂) E s :=
  led_list (fun c => (l, W.listOf vs.toArray k) :: Led c) ps stored P c₀ hh F N (fun _ h => h) (fun _ => .head _) hk hp turn fun c u h tk hP F₁ N₁ => done c u h tk hP F₁ (News.less (fun _ h => .tail _ h) N₁)
end
section
variable {prog : Program} {w : World} {A : Around} {E : Value → Shared → Prop} {s : Shared} {h₀ : Heap} {L D b : Addr} {m : Str → Option Value} {news news' : List (Addr × Obj)} {vs : List Value} {v : Value} {n n2 : Nat}
theorem ext_some {Q : Value → Shared → Prop} (F : Fr h₀ L s.heap m) (N : News h₀ L s.heap news) (hb : (b, W.listOf #[v] n2) ∈ news) (U : Upd D (W.listOf vs.toArray n) (W.listOf (vs ++ [v]).toArray (n + 1)) news news') (hz : vs.length ≤ 400)
    (h : ∀ h', Fr h₀ L h' m → News h₀ L h' news' → Q .none { s with heap := h' }) : wpAny (model prog w) A (call (.builtin "list.extend") [.ref D, .ref b]) Q E s := by
  have hs : vs.toArray.size + (#[v] : Array Value).size ≤ sizeLine := by rw [sizeLine_eq, List.size_toArray]; show vs.length + 1 ≤ _; omega
  exact kl_extend (its := vs.toArray) (its2 := #[v]) F N hb (by simp) (by simp) U (extend_door hs) (by rw [sizeLine_eq]; show vs.length ≤ _; omega) (by lia) h
theorem ext_nil {Q : Value → Shared → Prop} (F : Fr h₀ L s.heap m) (N : News h₀ L s.heap news) (hb : (b, W.listOf #[] n2) ∈ news) (U : Upd D (W.listOf vs.toArray n) (W.listOf vs.toArray n) news news') (hz : vs.length ≤ 400)
    (h : ∀ h', Fr h₀ L h' m → News h₀ L h' news' → Q .none { s with heap := h' }) : wpAny (model prog w) A (call (.builtin "list.extend") [.ref D, .ref b]) Q E s := by
  have hs : vs.toArray.size + (#[] : Array Value).size ≤ sizeLine := by rw [sizeLine_eq, List.size_toArray]; show vs.length + 0 ≤ _; omega
  exact kxn_extend (its := vs.toArray) (its2 := #[]) F N hb rfl U (extend_door hs) (by rw [sizeLine_eq]; show vs.length ≤ _; omega) (by lia) h
end
theorem rows_19 : True := by
  (k_with "call ref!" => (k_here; k_dflt (refine' Con.use (scalar_t _ _ _) ?k1 ?k2 ?k3 ?k4 ?k5 ?kK ?kd ?ku ?_; walk_at "my_con"; walk_at "i_two")))
  (k_with "call ref!" => (k_here; k_dflt (refine' Con.use (digit_t _ _ _ _ _ _ _ ?m1 ?m2 ?m3) ?k1 ?k2 ?k3 ?k4 ?k5 ?kK ?kd ?ku ?_; walk_at "my_con"; (case m1 => walk_at "my_mem"); (case m2 | m3 => first | omega | decide); walk_at "i_digit")))
  (k_with "i_digit!" => (intro r9 nw9 h9 tk9 R9 F9 N9; obtain ⟨t8, t9, e8, e7⟩ := R9; subst e8 e7; replace N9 := News.upd N9 (by k_upd); (all_goals ((try dsimp only); (try k_fold)))))
  trivial
theorem lt_up {l : Addr} {news : List (Addr × Obj)} (h : ∀ p ∈ news, p.1 < l) : AllLt (l + 1) news ∧ AllLt (l + 1 + 1) news :=
  ⟨allLt_of fun p hp => Nat.lt_succ_of_lt (h p hp), allLt_of fun p hp => Nat.lt_succ_of_lt (Nat.lt_succ_of_lt (h p hp))⟩
/-- what a piece of the law is: its octets, and the number told or none -/
noncomputable def PieceOk (whole : Bool) (os : List Int) (v : Value) : Prop := (1 ≤ os.length ∧ os.length ≤ 4 ∧ ∀ o ∈ os, 0 ≤ o ∧ o ≤ 255) ∧ ((v = .none ∧ whole = false) ∨ ∃ n t, v = .int n t ∧ os = octL n ∧ 0 ≤ n ∧ n < 2097152 ∧ (whole = true → Scal n))
theorem piece_int {whole : Bool} {n : Int} {t : Tok} (h0 : 0 ≤ n) (h1 : n < 2097152) (hs : whole = true → Scal n) : PieceOk whole (octL n) (.int n t) :=
  ⟨⟨(octL_len n).1, (octL_len n).2, octL_rng h0 h1⟩, .inr ⟨n, t, rfl, rfl, h0, h1, hs⟩⟩
theorem piece_one {whole : Bool} {n : Int} {t : Tok} (h0 : 0 ≤ n) (h1 : n < 128) : PieceOk whole [n] (.int n t) := by
  rw [← octL_1 h1]; exact piece_int h0 (by lia) (fun _ => ⟨h0, by lia, by lia⟩)
theorem piece_none {os : List Int} (h1 : 1 ≤ os.length) (h2 : os.length ≤ 4) (hr : ∀ o ∈ os, 0 ≤ o ∧ o ≤ 255) : PieceOk false os .none := ⟨⟨h1, h2, hr⟩, .inl ⟨rfl, rfl⟩⟩
noncomputable def RPiece (whole : Bool) (news : List (Addr × Obj)) (r : Value) (nw : List (Addr × Obj)) : Prop :=
  ∃ d l vs nn os v, r = .ref d ∧ nw = (d, tupO [.ref l, v]) :: (l, listOf vs.toArray nn) :: news ∧ IntsAre vs os ∧ PieceOk whole os v ∧ @Ne Nat l d ∧ LCg.Off1 l news ∧ LCg.Off1 d news
theorem rpiece_i {whole : Bool} {news : List (Addr × Obj)} {d l : Addr} {vs : List Value} {nn : Nat} {os : List Int} {v : Value} (hi : IntsAre vs os) (ok : PieceOk whole os v) (h1 : @Ne Nat l d) (h2 : LCg.Off1 l news) (h3 : LCg.Off1 d news) :
    RPiece whole news (.ref d) ((d, tupO [.ref l, v]) :: (l, listOf vs.toArray nn) :: news) := ⟨d, l, vs, nn, os, v, rfl, rfl, hi, ok, h1, h2, h3⟩
theorem off1_lt {l : Addr} : ∀ {news : List (Addr × Obj)}, (∀ p ∈ news, p.1 < l) → LCg.Off1 l news
  | [], _ => trivial
  | p :: _, h => ⟨Nat.ne_of_lt (h p (.head _)), off1_lt fun q hq => h q (.tail _ hq)⟩
theorem chars_ok (k : Nat) : 0 ≤ ([0, 8, 9, 10, 12, 13, 31, 34, 47, 92, 65, 127] : List Int).getD k 0 ∧ ([0, 8, 9, 10, 12, 13, 31, 34, 47, 92, 65, 127] : List Int).getD k 0 < 128 := by
  have := kmn_any (l := [0, 8, 9, 10, 12, 13, 31, 34, 47, 92, 65, 127]) (i := k) (d := 0) (lo := 0) (hi := 127) (by decide)
  omega
theorem edges_ok (k : Nat) : Scal (([128, 2047, 2048, 55295, 57344, 65535, 65536, 1114111, 8231, 8232, 8233, 233, 8364, 128512, 65533, 65536] : List Int).getD k 0) := by
  by_cases h : k < 16
  · have h16 : ∀ k : Fin 16, Scal (([128, 2047, 2048, 55295, 57344, 65535, 65536, 1114111, 8231, 8232, 8233, 233, 8364, 128512, 65533, 65536] : List Int).getD k.val 0) := by unfold Scal; decide
    exact h16 ⟨k, h⟩
  · rw [List.getD_eq_getElem?_getD, List.getElem?_eq_none (by simpa using h)]; unfold Scal; decide
theorem firsts_ok {k : Nat} {os : List Int} (h : ∀ o ∈ os, 0 ≤ o ∧ o ≤ 255) : ∀ o ∈ [([192, 193, 194, 223, 224, 225, 236, 237, 238, 239, 240, 241, 243, 244, 245, 247, 248, 255, 128, 191] : List Int).getD k 0] ++ os, 0 ≤ o ∧ o ≤ 255 := by
  intro o ho
  rcases List.mem_append.mp ho with ho | ho
  · rw [List.mem_singleton.mp ho]; exact kmn_any (by decide)
  · exact h o ho
theorem scal_of {n : Int} (h0 : 0 ≤ n) (h : scalarF n = true) : Scal n := by
  unfold scalarF at h; simp only [Bool.or_eq_true, Bool.and_eq_true, decide_eq_true_eq] at h; unfold Scal; omega
section
variable {prog : Program} {w : World} {A : Around} {E : Value → Shared → Prop} {s : Shared} {h₀ : Heap} {L : Addr} {m : Str → Option Value} {env : Env}
/-- a comprehension whose every turn draws from the bag -/
theorem comp_bag {elt : Expr} {x : Str} {scope : Scope} {cl : List (Str × Addr)} {P : Nat → Value → Prop} {Fin : List Value → List (Addr × Obj) → Prop} {n : Nat} {bag : Addr} {b : Int} {t : Tok} (pre : List (Addr × Obj)) {rest : List (Addr × Obj)}
    (step : ∀ ys b t v I oI C oC D m₂ h tk (E' : Value → Shared → Prop), LCg.NsObj oC m₂ → m₂ x = some v → Fr h₀ L h m → News h₀ L h ((I, oI) :: (C, oC) :: (D, LCg.lst ys) :: (pre ++ (bag, listOf #[.int b t] 0) :: rest)) → LCg.Off3 I C D (pre ++ (bag, listOf #[.int b t] 0) :: rest) → ((@Ne Nat I C) ∧ (@Ne Nat I D) ∧ (@Ne Nat C D)) →
      wpAny (model prog w) A (eval elt (compEnvC scope cl C env)) (LCg.CompEnd h₀ L m { s with heap := h, toks := tk } I oI C oC D (LCg.lst ys) (fun _ => True) (fun y nx' => ∃ o t' b' t'', y = .int o t' ∧ (0 ≤ o ∧ o ≤ 255) ∧ nx' = pre ++ (bag, listOf #[.int b' t''] 0) :: rest)) E' { s with heap := h, toks := tk })
    (fin : ∀ ys os b t, IntsAre ys os → os.length = n → (∀ o ∈ os, 0 ≤ o ∧ o ≤ 255) → Fin ys (pre ++ (bag, listOf #[.int b t] 0) :: rest)) :
    LCg.CompRest prog w A h₀ L m env elt x scope cl s (fun _ => True) P Fin n 0 [] (pre ++ (bag, listOf #[.int b t] 0) :: rest) := by
  refine comp_rest n (fun i ys nx => ∃ os b t, nx = pre ++ (bag, listOf #[.int b t] 0) :: rest ∧ IntsAre ys os ∧ os.length = i ∧ ∀ o ∈ os, 0 ≤ o ∧ o ≤ 255) ?_ ?_ _ _ _ _ (Nat.zero_add _) ⟨[], b, t, rfl, .nil, rfl, fun _ h => nomatch h⟩
  · rintro i ys nx hlt ⟨os, b, t, rfl, hi, hl, hr⟩ v I oI C oC D m₂ h tk E' hv hC hx F9 N9 o9 ne9
    refine wpAny_mono (step ys b t v I oI C oC D m₂ h tk E' hC hx F9 N9 o9 ne9) (fun y s₂ q => compEnd_mono q ?_) fun _ _ x => x
    rintro y nx' ⟨o, t', b', t'', rfl, ho, rfl⟩
    refine ⟨os ++ [o], b', t'', rfl, hi.append (.cons _ _ .nil), by rw [List.length_append, hl]; rfl, fun p hp => ?_⟩
    rcases List.mem_append.mp hp with hp | hp
    · exact hr p hp
    · rw [List.mem_singleton.mp hp]; exact ho
  · rintro ys nx ⟨os, b, t, rfl, hi, hl, hr⟩
    exact fin ys os b t hi hl hr
end
theorem rows_20 : True := by
  (k_with "p_off!" => first | exact off1_lt (by walk_at "my_lt") | exact o1'.2.2.2)
  (k_with "p_end!" => (refine' fin_less (l' := _ :: _ :: news) hret (by assumption) (by assumption) (sub_cons (sub_cons (fun _ hp => by walk_at "my_mem") (by walk_at "my_mem")) (by walk_at "my_mem")) (rpiece_i (by first | assumption | exact .cons _ _ .nil) ?_ (by lia) (by walk_at "p_off") (by walk_at "p_off"))))
  (k_with "eval IfExp!" => (k_here; (fail_if_success (with_reducible show wpAny _ _ _ (CutV _ _ _ _ _) _ _)); refine Stop.out ?_))
  (k_with "CutV!" => refine Stop.out ?_)
  trivial

theorem ge3 {w : Int} (h0 : 0 ≤ w) (a : ¬ w = 0) (b : ¬ w = 1) (c : ¬ w = 2) : ¬ w < 3 := by lia
theorem cnt4 (b : Int) : 1 ≤ (1 + b % 4 - 0).toNat ∧ (1 + b % 4 - 0).toNat ≤ 4 := by lia
theorem cnt3 (b : Int) : 1 ≤ (1 + b % 3 - 0).toNat ∧ (1 + b % 3 - 0).toNat ≤ 3 := by lia
set_option maxHeartbeats 1000000 in
theorem piece_t (news : List (Addr × Obj)) (b : Int) (tb : Tok) (whole : Bool) : Con 711 9 news [.int b tb, .bool whole] (RPiece whole news) := by
  walk_at "my_start"
  try generalize s.toks + _ = tk0
  have hMk : KstMark := kstMark
  have p21 : (2 : Int) ^ Int.toNat 21 = 2097152 := rfl
  rename ∀ p ∈ news, p.1 < _ => lZ
  obtain ⟨lZ1, lZ2⟩ := lt_up lZ
  k_steps
  unfold Stop
  (rename Fr _ _ _ _ => lF'); (rename News _ _ _ _ => lN')
  refine cutV1 (fun v => ∃ mm t, v = .int mm t ∧ (mm = 3 ∨ mm = 5) ∧ (whole = true → mm = 3)) lF' lN' ?_ ?_
  · k_steps
    · unfold Stop
      exact CutV.intro (by assumption) (by assumption) (fun _ h => h) ⟨rfl, 3, _, rfl, .inl rfl, fun _ => rfl⟩
    · unfold Stop
      exact CutV.intro (by assumption) (by assumption) (fun _ h => h) ⟨rfl, 5, _, rfl, .inr rfl, fun h => by simp_all⟩
  clear lF' lN'
  rintro v h8 tk8 ⟨mm, tm, rfl, hm, hmw⟩ F8 N8
  have hm0 : 0 < mm := by lia
  have hm1 : mm ≤ 2097152 := by lia
  have hw0 : 0 ≤ b % mm := Int.emod_nonneg _ (by lia)
  have hw1 : b % mm < 5 := Int.lt_of_lt_of_le (Int.emod_lt_of_pos _ hm0) (by lia)
  have hww : whole = true → b % mm < 3 := fun h => by have := Int.emod_lt_of_pos b hm0; have := hmw h; omega
  clear hm hmw
  k_steps
  · walk_at "p_end"; exact piece_one (chars_ok _).1 (chars_ok _).2
  · walk_at "p_end"; exact piece_int (edges_ok _).1 (Int.lt_trans (edges_ok _).2.1 (by decide)) (fun _ => edges_ok _)
  · unfold Stop
    (rename Fr _ _ _ _ => lF'); (rename News _ _ _ _ => lN')
    refine cutV1 (fun v => ∃ q t, v = .int q t ∧ 0 ≤ q ∧ q < 2097152 ∧ (whole = true → Scal q)) lF' lN' ?_ ?_
    · k_steps
      · unfold Stop
        exact CutV.intro (by assumption) (by assumption) (fun _ h => h) ⟨rfl, _, _, rfl, by lia, by lia, fun _ => scal_of (by lia) (by assumption)⟩
      · unfold Stop
        exact CutV.intro (by assumption) (by assumption) (fun _ h => h) ⟨rfl, 8232, _, rfl, by decide, by decide, fun _ => by unfold Scal; decide⟩
      · unfold Stop
        exact CutV.intro (by assumption) (by assumption) (fun _ h => h) ⟨rfl, _, _, rfl, by lia, by lia, fun h => by simp_all⟩
    clear lF' lN'
    rintro v h7 tk7 ⟨q, tq, rfl, hq0, hq1, hq2⟩ F7 N7
    k_steps
    walk_at "p_end"; exact piece_int hq0 hq1 hq2
  · unfold Stop
    (rename IsRange _ _ _ _ _ _ _ _ => rgX)
    refine LCg.CompSrc.range (by rfl) (by k_asm) (by k_asm) rgX (small_one (by lia) (by lia) (by lia) (by lia)) (rangeSize_nat _ _) (by rw [sizeLine_eq]; omega) ?_
    intro g9
    refine comp_bag [] ?_ ?_
    · intro ys b2 t2 v I oI C oC D m₂ h tk E' hC hx F9 N9 o9 ne9
      have o9' := o9
      simp only [List.nil_append] at N9
      simp only [List.nil_append, LCg.Off3, and_true] at o9
      have y1 := o9.1.1.symm; have y2 := o9.1.2.1.symm; have y3 := o9.1.2.2.symm
      (try dsimp only)
      try k_fold
      k_steps
      unfold Stop
      (try k_unfold)
      (try dsimp only)
      exact LCg.CompEnd.intro (by assumption) (by assumption) _ (fun _ h => h) (by exact o9') trivial ⟨_, _, _, _, rfl, by lia, rfl⟩
    · intro ys os b2 t2 hi hl hr
      replace hl : 1 ≤ os.length ∧ os.length ≤ 4 := by rw [hl]; exact cnt4 _
      unfold LCg.FinE
      intro D' h' tk' F' N' o1'
      simp only [List.nil_append] at N' o1'
      (try simp only [LCg.Off1, and_true] at o1')
      (try dsimp only)
      try k_fold
      k_steps
      walk_at "p_end"; (have hwf : whole = false := by cases whole with | false => rfl | true => exact absurd (hww rfl) (ge3 hw0 (by assumption) (by assumption) (by assumption))); rw [hwf]; exact piece_none hl.1 hl.2 hr
  · unfold Stop
    (rename IsRange _ _ _ _ _ _ _ _ => rgX)
    refine LCg.CompSrc.range (by rfl) (by k_asm) (by k_asm) rgX (small_one (by lia) (by lia) (by lia) (by lia)) (rangeSize_nat _ _) (by rw [sizeLine_eq]; omega) ?_
    intro g9
    refine comp_bag [_, _] ?_ ?_
    · intro ys b2 t2 v I oI C oC D m₂ h tk E' hC hx F9 N9 o9 ne9
      have o9' := o9
      simp only [List.nil_append, List.cons_append] at N9
      simp only [List.nil_append, List.cons_append, LCg.Off3, and_true] at o9
      have y1 := o9.2.2.1.1.symm; have y2 := o9.2.2.1.2.1.symm; have y3 := o9.2.2.1.2.2.symm
      (try dsimp only)
      try k_fold
      k_steps
      unfold Stop
      (try k_unfold)
      (try dsimp only)
      exact LCg.CompEnd.intro (by assumption) (by assumption) _ (fun _ h => h) (by exact o9') trivial ⟨_, _, _, _, rfl, by kmn_bounds; omega, rfl⟩
    · intro ys os b2 t2 hi hl hr
      replace hl : 1 ≤ os.length ∧ os.length ≤ 3 := by rw [hl]; exact cnt3 _
      unfold LCg.FinE
      intro D' h' tk' F' N' o1'
      simp only [List.nil_append, List.cons_append] at N' o1'
      (try simp only [LCg.Off1, and_true] at o1')
      (try dsimp only)
      try k_fold
      k_steps
      walk_at "p_end"; (have hwf : whole = false := by cases whole with | false => rfl | true => exact absurd (hww rfl) (ge3 hw0 (by assumption) (by assumption) (by assumption))); rw [hwf]; exact piece_none (by rw [List.length_append]; exact Nat.le_add_right 1 _) (by rw [List.length_append, List.length_singleton]; omega) (firsts_ok hr)
theorem rows_21 : True := by
  k_with_none
  (k_with "pyIter ref!" => ((with_reducible show wpAny _ _ (pyIter (Value.ref _)) (fun it s₂ => LoopAtV _ _ _ _ _ _ _ _ _ it s₂) _ _); refine Stop.out ?_))
  (k_with "InvEndN!" => refine Stop.out ?_)
  (k_with "KswEnd!" => refine Stop.out ?_)
  (k_with "exec While Compare cons nil!" => refine Stop.out ?_)
  (k_with "my_room!" => first | ((try simp only [depth_under_make, depth_under_kw, depth_in1, depth_deeper, depth_caller]); (try dsimp only [ktrTop]); first | walk_at "my_rm" | omega) | ((try simp only [depth_under_make, depth_under_kw, depth_in1, depth_deeper, depth_caller]); decide) | decide)
  (k_with "my_rm!" => first | (with_reducible exact rm0 hd) | ((with_reducible refine rm1 hd ?_); exact Nat.le_of_ble_eq_true rfl) | ((with_reducible refine rm2 hd ?_); exact Nat.le_of_ble_eq_true rfl) | ((with_reducible refine rm2 hu ?_); exact Nat.le_of_ble_eq_true rfl) | ((with_reducible refine rm3 hd ?_); exact Nat.le_of_ble_eq_true rfl) | ((with_reducible refine rm3 hu ?_); exact Nat.le_of_ble_eq_true rfl) | ((with_reducible refine rm4 hd ?_); exact Nat.le_of_ble_eq_true rfl) | ((with_reducible refine rm4 hu ?_); exact Nat.le_of_ble_eq_true rfl))
  (k_with "my_units!" => ((try simp only [units_in1, units_deeper, Around.mark_units, units_caller]); (try dsimp only [ktrTop]); first | walk_at "my_rm" | ((have hcL9 := cLine_is); omega)))
  (k_with "my_ec!" => ((case kA | kF => exact rfl); (case kK => first | exact rfl | assumption); (case k1 | k2 | k3 | k4 | k5 => k_asm); (case k6 | k7 => k_is); (case k8 => first | (dsimp only [ktrTop]; first | walk_at "my_rm" | omega) | walk_at "my_room")))
  (k_with "my_e1!" => (refine' code_def ?k1 ?k2 ?k3 ?k4 ?k5 ?kA ?kF ?kK ?k6 ?k7 ?k8 ?k9 ?kB ?_ ?c2 ?c3 ?c4 ?c5; walk_at "my_ec"; (case k9 => first | exact BindsTo.of_eq rfl | exact binds_K (by k_in) rfl (by k_is) rfl rfl rfl); (case c5 => decide); (case kB => exact locs rfl); (case c2 | c3 | c4 => exact rfl); k_whole))
  (k_with "my_e2!" => (refine' code_defC ?k1 ?k2 ?k3 ?k4 ?k5 ?kA ?kF ?kK ?k6 ?k7 ?k8 ?k9 ?kB ?kD ?_ ?c2 ?c3 ?c4; walk_at "my_ec"; (case k9 => exact BindsTo.of_eq rfl); (case kB => exact rfl); (case kD => decide +kernel); (case c2 | c3 | c4 => exact rfl); k_whole))
  (k_with "my_enter!" => ((first | (walk_at "my_e1"; intro g' L' h' FG' F' N' B' X' T') | (walk_at "my_e2"; intro g' L' h' tk' cells' FG' F' N' Y' B' X' T' l1; (try k_lt l1); k_cells Y'; (try simp only [List.cons_append, List.nil_append] at N'))); (try dsimp only); (try k_lift B'); (try k_fold)))
  (k_with "my_start!" => (w_top off; unfold Con; k_fill; intro w p loose mean mg mb dp un gd cn cs a ccd cl outer A₀ base h₀ L m s Q E B F X N T hk hd hu hret; refine wpAny_call ?_; k_dflt walk_at "my_enter"))
  (k_with "call builtin:str.join!" => first | (k_here; refine join_listW (by is_list) (by assumption) (by decide) (by assumption) ?_; intro tj kj) | refine Stop.out ?_)
  (k_with "eval BinOp!" => (dsimp only; walk1))
  (k_with "binaryOp BitOr int int!" => (dsimp only; walk1))
  (k_with "newTuple!" => (dsimp only; walk1))
  (k_with "InvEndG!" => refine Stop.out ?_)
  (k_with "exec For Name Tuple cons nil!" => (k_here; (rename Fr _ _ _ _ => lF'); (with_unfolding_all refine' For_invVF lF' ?k1z9 ?k2z9 ?_; (case k1z9 | k2z9 => exact rfl); k_whole)))
  (k_with "my_mem!" => first | assumption | exact List.Mem.head _ | (refine List.mem_cons_of_mem _ ?_; walk_at "my_mem") | (with_reducible refine List.mem_append.mpr (.inl ?_); walk_at "my_mem") | (with_reducible refine List.mem_append.mpr (.inr ?_); walk_at "my_mem"))
  (k_with "call builtin:len!" => (k_here; (with_reducible show wpAny _ _ (call (Value.builtin "len") [Value.ref _]) _ _ _); k_dflt (refine' kst_len ?k1 ?k2 ?k3 ?k4 ?_; (case k1 => k_asm); (case k2 => walk_at "my_mem"); (case k3 => first | exact IntsAre.length (by assumption) | exact RngsAre.length (by assumption)); (case k4 => omega))))
  (k_with "subscriptTail!" => (k_here; (with_reducible show wpAny _ _ (subscriptTail _ _ (Value.ref _) (Value.int _ _)) _ _ _); k_dflt (refine' item_led ?k1 ?k2 ?k3 ?k4 ?k5 ?k6 ?_; (case k1 => k_asm); (case k2 => walk_at "my_mem"); (case k3 => assumption); (case k4 | k5 | k6 => omega); k_whole); intro _))
  (k_with "subscriptTail Name Name ref int!" => (k_here; k_dflt (refine' ref_led ?k1 ?k2 ?k4 ?k5 ?k6 ?_; (case k1 => k_asm); (case k2 => walk_at "my_mem"); (case k6 => assumption); (case k4 | k5 => omega); k_whole)))
  (k_with "CompSrc!" => refine Stop.out ?_)
  (k_with "CompEnd!" => refine Stop.out ?_)
  (k_with "my_slen!" => (rw [sizeLine_eq]; (try simp only [Str.length_append, tx_len, List.length_cons, List.length_nil, List.length_append]); omega))
  (k_with "inplaceOp Add str str!" => ((refine SBL.iadd (hsz := ?hszz9) ?_); (case hszz9 => walk_at "my_slen"); intro _ _ _))
  (k_with "binaryOp Add str str!" => ((refine SBL.add (hsz := ?hszz9) ?_); (case hszz9 => walk_at "my_slen"); intro _ _ _))
  (k_with "my_lt!" => first | assumption | exact kst_ltOf (by assumption) | exact kst_ltOf (And.right (by assumption)) | exact kst_ltOf (And.right (And.right (by assumption))) | exact kst_ltOf (And.right (And.right (And.right (by assumption)))) | exact kst_ltOf (And.right (And.right (And.right (And.right (by assumption))))) | exact kst_ltOf (And.right (And.right (And.right (And.right (And.right (by assumption)))))) | exact kst_ltOf (And.right (And.right (And.right (And.right (And.right (And.right (by assumption))))))) | exact kst_ltOf (And.right (And.right (And.right (And.right (And.right (And.right (And.right (by assumption)))))))) | exact kst_ltOf (And.right (And.right (And.right (And.right (And.right (And.right (And.right (And.right (by assumption))))))))) | exact kst_ltOf (And.right (And.right (And.right (And.right (And.right (And.right (And.right (And.right (And.right (by assumption)))))))))) | exact kst_ltOf (And.right (And.right (And.right (And.right (And.right (And.right (And.right (And.right (And.right (And.right (by assumption))))))))))) | exact kst_ltOf (And.right (And.right (And.right (And.right (And.right (And.right (And.right (And.right (And.right (And.right (And.right (by assumption)))))))))))) | exact kst_ltOf (And.right (And.right (And.right (And.right (And.right (And.right (And.right (And.right (And.right (And.right (And.right (And.right (by assumption))))))))))))) | exact kst_ltOf (And.right (And.right (And.right (And.right (And.right (And.right (And.right (And.right (And.right (And.right (And.right (And.right (And.right (by assumption)))))))))))))))
  (k_with "call ref!" => (k_here; k_dflt (refine' call_cls ?k1z9 ?k2z9 ?k3z9 ?k4z9 ?k5z9 ?k6z9 ?_; (case k1z9 | k2z9 | k3z9 => k_asm); (case k4z9 | k5z9 | k6z9 => k_is); k_whole; intro x' d' h' F' N' l1 l2; (try k_lt l1); (try k_lt2 l2); (try k_sweep); walk_at "my_enter")))
  (k_with "my_startW!" => (w_top off; unfold ConW; k_fill; intro p loose mean mg mb dp un gd cn cs a ccd cl outer A₀ base h₀ L m s Q E B F X N T hk hd hu hret; refine wpAny_call ?_; k_dflt walk_at "my_enter"))
  (k_with "my_ints!" => first | assumption | exact .nil | exact .cons _ _ .nil | exact .cons _ _ (.cons _ _ .nil))
  (k_with "my_rng!" => first | assumption | (intro n hn; simp only [List.mem_singleton] at hn; omega))
  (k_with "my_om!" => first | assumption | omega | exact Nat.le_of_ble_eq_true rfl)
  (k_with "my_u16!" => first | omega | with_reducible exact (sur_hi (by omega) (by omega)).2.1 | with_reducible exact (sur_hi (by omega) (by omega)).2.2 | with_reducible exact (sur_lo (by omega) (by omega)).2.1 | with_reducible exact (sur_lo (by omega) (by omega)).2.2)
  (k_with "my_lu!" => first | omega | (kmn_bounds; omega) | (simp only [Int.fdiv_eq_ediv_of_nonneg _ (show (0:Int) ≤ 1024 by decide), Int.fmod_eq_emod_of_nonneg _ (show (0:Int) ≤ 1024 by decide)]; omega))
  (k_with "my_con!" => ((case k4 | k1 => k_asm); (case k2 | k3 | k5 => k_asm); (case kK => first | exact rfl | assumption); (case kd => walk_at "my_room"); (case ku => walk_at "my_units")))
  (k_with "i_str!" => (intro r9 nw9 h9 tk9 R9 F9 N9; obtain ⟨e8, t9, e7⟩ := R9; subst e8 e7; (try dsimp only); (try k_fold)))
  (k_with "i_strx!" => (intro r9 nw9 h9 tk9 R9 F9 N9; obtain ⟨e8, t9, e7⟩ := R9; subst e8 e7; (try walk_at "my_text"); (try dsimp only); (try k_fold)))
  (k_with "i_two!" => (intro r9 nw9 h9 tk9 R9 F9 N9; obtain ⟨e8, e7⟩ := R9; subst e8 e7; (try dsimp only); (try k_fold)))
  (k_with "i_rj!" => (intro r9 nw9 h9 tk9 R9 F9 N9; obtain ⟨d9, t91, t92, e8, e7, l9⟩ := R9; subst e8 e7; (try k_lt l9); (try dsimp only); (try k_fold)))
  (k_with "i_pts!" => (intro r9 nw9 h9 tk9 R9 F9 N9; obtain ⟨e9, e8, e7⟩ | ⟨l9, vs9, nn9, pts9, e9, e8, e7, i9, m9⟩ := R9; (all_goals subst e8 e7); (all_goals (try walk_at "my_same")); (all_goals (try k_lt m9)); (all_goals ((try dsimp only); (try k_fold)))))
  (k_with "call ref!" => (k_here; k_dflt (refine' Con.use (shape_t _ _ _) ?k1 ?k2 ?k3 ?k4 ?k5 ?kK ?kd ?ku ?_; walk_at "my_con"; walk_at "i_shape")))
  (k_with "i_shape!" => (intro r9 nw9 h9 tk9 R9 F9 N9; obtain ⟨e9, e8, e7⟩ | ⟨d9, k9, mn9, pt9, t91, t92, t93, e9, e8, e7⟩ := R9; (all_goals subst e8 e7); (all_goals ((try dsimp only); (try k_fold)))))
  (k_with "call ref!" => (k_here; k_dflt (refine' Con.use (at_t _ _ _ _ _ ?m1 ?m2 ?m3) ?k1 ?k2 ?k3 ?k4 ?k5 ?kK ?kd ?ku ?_; walk_at "my_con"; (case m1 | m2 | m3 => walk_at "my_om"); walk_at "i_at")))
  (k_with "i_at!" => (intro r9 nw9 h9 tk9 R9 F9 N9; obtain ⟨e9, e8, e7⟩ | ⟨d9, q9, j9, t91, t92, e9, e8, e7, l9⟩ := R9; (all_goals subst e8 e7); (all_goals (try k_lt l9)); (all_goals ((try dsimp only); (try k_fold)))))
  (k_with "call ref!" => (k_here; k_dflt (refine' Con.use (behind_t _ _ _) ?k1 ?k2 ?k3 ?k4 ?k5 ?kK ?kd ?ku ?_; walk_at "my_con"; walk_at "i_behind")))
  (k_with "i_behind!" => (intro r9 nw9 h9 tk9 R9 F9 N9; obtain ⟨e9, e8, e7⟩ | ⟨l9, vs9, rs9, nn9, e9, e8, e7, g9, m9⟩ | ⟨l9, vs9, rs9, nn9, d9, lo9, hi9, t91, t92, e9, e8, e7, g9, m8, m9, m7⟩ := R9; (all_goals subst e8 e7); (all_goals (try (have q9 := beh_len e9))); (all_goals (try k_lt m9)); (all_goals (try k_lt m7)); (all_goals ((try dsimp only); (try k_fold)))))
  (k_with "eval ListComp!" => (k_here; k_dflt (refine LCg.ListComp_U (F₀ := by k_asm) (by with_unfolding_all rfl) (by decide) (by rfl) (by decide) (by rfl) ?_)))
  (k_with "exec Assign cons ListComp!" => (k_here; k_dflt (refine LCg.Assign_ListComp_U (F₀ := by k_asm) (by rfl) (by with_unfolding_all rfl) (by with_unfolding_all rfl) (by decide) (by rfl) (by decide) (by rfl) (by rfl) (by rfl) ?_)))
  (k_with "call ref!" => (k_here; k_dflt (refine' Con.use (text_t _ _ _ _ _ ?m1 ?m2 ?m3 ?m4) ?k1 ?k2 ?k3 ?k4 ?k5 ?kK ?kd ?ku ?_; walk_at "my_con"; (case m1 => walk_at "my_mem"); (case m2 => walk_at "my_ints"); (case m3 => first | walk_at "my_om" | walk_at "my_len"); (case m4 => walk_at "my_rng"); walk_at "i_strx")))
  (k_with "call ref!" => (k_here; k_dflt (refine' Con.use (unit_t _ _ _ ?m1 ?m2) ?k1 ?k2 ?k3 ?k4 ?k5 ?kK ?kd ?ku ?_; walk_at "my_con"; (case m1 | m2 => walk_at "my_u16"); walk_at "i_str")))
  (k_with "call ref!" => (k_here; k_dflt (refine' ConW.use (flag_t _ _ _ _ _ _ _ _ _ _ _ _ _ _ _ _ ?m1 ?m2) ?k1 ?k2 ?k3 ?k4 ?k5 ?kK ?kd ?ku ?_; walk_at "my_con"; (case m1 | m2 => walk_at "my_mem"); walk_at "i_two")))
  (k_with "call ref!" => (k_here; k_dflt (refine' Con.use (points_t _ _ _ ?m1) ?k1 ?k2 ?k3 ?k4 ?k5 ?kK ?kd ?ku ?_; walk_at "my_con"; (case m1 => walk_at "my_om"); walk_at "i_pts")))
  (k_with "call ref!" => (k_here; k_dflt (refine' Con.use (kind_t _ _ _) ?k1 ?k2 ?k3 ?k4 ?k5 ?kK ?kd ?ku ?_; walk_at "my_con"; walk_at "i_str")))
  (k_with "call ref!" => (k_here; k_dflt (refine' ConW.use (esc_t _ _ _ _ _ _ _ _ _ _ _ _ _ _ _ _ ?m1 ?m2 ?m3 ?m4) ?k1 ?k2 ?k3 ?k4 ?k5 ?kK ?kd ?ku ?_; walk_at "my_con"; (case m1 | m2 => walk_at "my_mem"); (case m3 | m4 => first | omega | walk_at "my_pt"); walk_at "i_str")))
  (k_with "call ref!" => (k_here; k_dflt (refine' Con.use (octets_t _ _ _ ?m1 ?m2) ?k1 ?k2 ?k3 ?k4 ?k5 ?kK ?kd ?ku ?_; walk_at "my_con"; (case m1 | m2 => walk_at "my_lu"); walk_at "i_octets")))
  (k_with "i_octets!" => (intro r9 nw9 h9 tk9 R9 F9 N9; obtain ⟨l9, vs9, nn9, e8, e7, i9, m9⟩ := R9; subst e8 e7; (try k_lt m9); (all_goals ((try dsimp only); (try k_fold)))))
  (k_with "call ref!" => (k_here; k_dflt (refine' Con.use (ltext_t _ _ _ _ _ ?m1 ?m2 ?m3 ?m4) ?k1 ?k2 ?k3 ?k4 ?k5 ?kK ?kd ?ku ?_; walk_at "my_con"; (case m1 => walk_at "my_mem"); (case m2 => walk_at "my_ints"); (case m3 => walk_at "my_om"); (case m4 => walk_at "my_rng"); walk_at "i_str")))
  (k_with "call ref!" => (k_here; k_dflt (refine' Con.use (lunit_t _ _ _ ?m1 ?m2) ?k1 ?k2 ?k3 ?k4 ?k5 ?kK ?kd ?ku ?_; walk_at "my_con"; (case m1 | m2 => walk_at "my_lu"); walk_at "i_str")))
  (k_with "call ref!" => (k_here; k_dflt (refine' Con.use (lesc_t _ _ _ _ _ ?m1 ?m2 ?m3 ?m4) ?k1 ?k2 ?k3 ?k4 ?k5 ?kK ?kd ?ku ?_; walk_at "my_con"; (case m1 | m2 => first | omega | walk_at "my_pt"); (case m3 | m4 => first | assumption | omega); walk_at "i_str")))
  (k_with "call ref!" => (k_here; k_dflt (refine' Con.use (scalar_t _ _ _) ?k1 ?k2 ?k3 ?k4 ?k5 ?kK ?kd ?ku ?_; walk_at "my_con"; walk_at "i_two")))
  (k_with "call ref!" => (k_here; k_dflt (refine' Con.use (digit_t _ _ _ _ _ _ _ ?m1 ?m2 ?m3) ?k1 ?k2 ?k3 ?k4 ?k5 ?kK ?kd ?ku ?_; walk_at "my_con"; (case m1 => walk_at "my_mem"); (case m2 | m3 => first | omega | decide); walk_at "i_digit")))
  (k_with "i_digit!" => (intro r9 nw9 h9 tk9 R9 F9 N9; obtain ⟨t8, t9, e8, e7⟩ := R9; subst e8 e7; replace N9 := News.upd N9 (by k_upd); (all_goals ((try dsimp only); (try k_fold)))))
  trivial
/-- no key of the entries is an object, and these are few -/
noncomputable def GoodD (k : Nat) (es : List DictEntry) : Prop := es.any (·.refKey) = false ∧ es.length ≤ k
theorem getL_good {k : Nat} {es : List DictEntry} (h : GoodD k es) (name : Str) : (getL name es).isSome = true := by
  unfold getL
  split
  · rfl
  · rw [h.1]; rfl
theorem putL_good {name : Str} {hsh : Int} {t : Tok} {v : Value} : ∀ {k : Nat} {es : List DictEntry}, GoodD k es → GoodD (k + 1) (putL name hsh (.str name t) v es)
  | k, [], _ => ⟨rfl, by show 1 ≤ _; omega⟩
  | k, e :: r, h => by
    have h1 := h.1
    rw [List.any_cons, Bool.or_eq_false_iff] at h1
    have h2 : r.length + 1 ≤ k := h.2
    rw [putL]
    split
    · exact ⟨by rw [List.any_cons, h1.2, Bool.or_false]; exact h1.1, by show r.length + 1 ≤ _; omega⟩
    · have ih := putL_good (name := name) (hsh := hsh) (t := t) (v := v) (k := k - 1) (es := r) ⟨h1.2, by omega⟩
      exact ⟨by rw [List.any_cons, h1.1, Bool.false_or]; exact ih.1, by have := ih.2; rw [List.length_cons]; omega⟩
theorem UpdF.upd {d : Addr} {o o' : Obj} : ∀ {l : List (Addr × Obj)} {g : Obj → List (Addr × Obj)}, UpdF d o l g → Upd d o o' l (g o')
  | _, _, .head h => .head h
  | _, _, .tail h r => .tail h (UpdF.upd r)
section
variable {K : Frag} {w : World} {p : Program} {A : Around} {s : Shared} {h₀ : Heap} {L x C dx : Addr} {ox : Obj} {m : Str → Option Value} {name : Str} {v : Value} {es : List DictEntry} {n k : Nat} {news : List (Addr × Obj)} {g : Obj → List (Addr × Obj)} {E : Value → Shared → Prop}
theorem set_any {Q : Unit → Shared → Prop} (F : Fr h₀ L s.heap m) (X₀ : K.In h₀) (N : News h₀ L s.heap news) (I : InstAt s.heap x ox C (some (dictOf es n))) (hd : ox.dict = some dx)
    (hs : findIn K (.ref C) "__setattr__" = some (some (.builtin "object.__setattr__"))) (hp : plainOver K C = true) (ht : takerIn K C name = some none) (hh : hasDictIn K C = true) (hG : GoodD k es) (hk : k ≤ 900)
    (U : UpdF dx (dictOf es n) news g)
    (h : ∀ h' es' n' tk', GoodD (k + 1) es' → Fr h₀ L h' m → News h₀ L h' (g (dictOf es' n')) → Q () { s with heap := h', toks := tk' }) :
    wpAny (model p w) A (setAttr (.ref x) name v) Q E s :=
  set_dict F X₀ N I hd hs hp ht hh (getL_good hG name) rfl (UpdF.upd U) (Nat.le_trans (putL_good hG).2 (by omega)) fun h' F' N' => h h' _ _ _ (putL_good hG) F' N'
end
theorem rows_22 : True := by
  (k_with "setAttr ref!" => (k_here; (fail_if_success (first | (with_reducible show wpAny _ _ (setAttr _ (Str.ofString "tools") _) _ _ _) | (with_reducible show wpAny _ _ (setAttr _ (Str.ofString "evals") _) _ _ _) | (with_reducible show wpAny _ _ (setAttr _ (Str.ofString "execs") _) _ _ _) | (with_reducible show wpAny _ _ (setAttr _ (Str.ofString "top") _) _ _ _))); k_dflt (refine' set_any ?k1 ?k2 ?k3 ?k4 ?k5 ?k6 ?k7 ?k8 ?k9 ?kA ?kB ?k12 ?_; (case k1 | k2 | k3 => k_asm); (case k4 => k_inst); (case k5 => exact rfl); (case k6 | k7 => k_is); (case k8 | k9 => k_is); (case kA => first | assumption | exact ⟨rfl, Nat.le_refl _⟩); (case kB => exact Nat.le_of_ble_eq_true rfl); (case k12 => k_updF); k_whole; intro h' es9 n9 tk9 G9 F' N'; (try dsimp only at N'); (try k_sweep))))
  trivial

theorem newDict_X {prog : Program} {w : World} {A : Around} {E : Value → Shared → Prop} {s : Shared} {h₀ : Heap} {L : Addr} {m : Str → Option Value} {news : List (Addr × Obj)} {env : Env} {pos : Pos} {Q : Value → Shared → Prop} (F : Fr h₀ L s.heap m) (N : News h₀ L s.heap news) (hbig : h₀.NoLimit)
    (k : ∀ d h', Fr h₀ L h' m → News h₀ L h' news → Q (.ref d) { s with heap := h' }) : wpAny (model prog w) A (eval (.Dict [] [] pos) env) Q E s :=
  newDict_K F N hbig fun d h' _ F' N' _ _ _ _ _ _ => k d h' F' (News.less (fun _ h => .tail _ h) N')
theorem newList_X {prog : Program} {w : World} {A : Around} {E : Value → Shared → Prop} {s : Shared} {h₀ : Heap} {L : Addr} {m : Str → Option Value} {news : List (Addr × Obj)} {Q : Value → Shared → Prop} (F : Fr h₀ L s.heap m) (N : News h₀ L s.heap news)
    (k : ∀ d h', Fr h₀ L h' m → News h₀ L h' news → Q (.ref d) { s with heap := h' }) : wpAny (model prog w) A (newList []) Q E s :=
  newList_K F N fun d h' F' N' _ => k d h' F' (News.less (fun _ h => .tail _ h) N')
theorem rows_23 : True := by
  (k_with "eval Dict nil nil!" => (k_here; k_dflt (refine' newDict_X ?k1z9 ?k2z9 ?k3z9 ?_; (case k1z9 | k2z9 => k_asm); (case k3z9 => exact TopRead.nolimit (by k_asm)); k_whole); intro d' h' F' N'))
  (k_with "newList!" => (k_here; k_dflt (refine' newList_X ?k1z9 ?k2z9 ?_; (case k1z9 | k2z9 => k_asm); k_whole); intro d' h' F' N'))
  trivial

set_option maxHeartbeats 8000000 in
theorem host_t (w : World) (news : List (Addr × Obj)) (t : Tok) : ConW w 644 9 news [.int 12 t, .none] (fun _ nw => nw = news) := by
  w_top off
  unfold ConW
  k_fill
  intro p loose mean mg mb dp un gd cn cs a ccd cl outer A₀ base h₀ L m s Q E B F X N T hk hd hu hret
  k_steps
  exact fin_less (l' := news) hret (by assumption) (by assumption) (fun p hp => by walk_at "my_mem") rfl
theorem rows_24 : True := by
  k_with_none
  (k_with "pyIter ref!" => ((with_reducible show wpAny _ _ (pyIter (Value.ref _)) (fun it s₂ => LoopAtV _ _ _ _ _ _ _ _ _ it s₂) _ _); refine Stop.out ?_))
  (k_with "InvEndN!" => refine Stop.out ?_)
  (k_with "KswEnd!" => refine Stop.out ?_)
  (k_with "exec While Compare cons nil!" => refine Stop.out ?_)
  (k_with "my_room!" => first | ((try simp only [depth_under_make, depth_under_kw, depth_in1, depth_deeper, depth_caller]); (try dsimp only [ktrTop]); first | walk_at "my_rm" | omega) | ((try simp only [depth_under_make, depth_under_kw, depth_in1, depth_deeper, depth_caller]); decide) | decide)
  (k_with "my_rm!" => first | (with_reducible exact rm0 hd) | ((with_reducible refine rm1 hd ?_); exact Nat.le_of_ble_eq_true rfl) | ((with_reducible refine rm2 hd ?_); exact Nat.le_of_ble_eq_true rfl) | ((with_reducible refine rm2 hu ?_); exact Nat.le_of_ble_eq_true rfl) | ((with_reducible refine rm3 hd ?_); exact Nat.le_of_ble_eq_true rfl) | ((with_reducible refine rm3 hu ?_); exact Nat.le_of_ble_eq_true rfl) | ((with_reducible refine rm4 hd ?_); exact Nat.le_of_ble_eq_true rfl) | ((with_reducible refine rm4 hu ?_); exact Nat.le_of_ble_eq_true rfl))
  (k_with "my_units!" => ((try simp only [units_in1, units_deeper, Around.mark_units, units_caller]); (try dsimp only [ktrTop]); first | walk_at "my_rm" | ((have hcL9 := cLine_is); omega)))
  (k_with "my_ec!" => ((case kA | kF => exact rfl); (case kK => first | exact rfl | assumption); (case k1 | k2 | k3 | k4 | k5 => k_asm); (case k6 | k7 => k_is); (case k8 => first | (dsimp only [ktrTop]; first | walk_at "my_rm" | omega) | walk_at "my_room")))
  (k_with "my_e1!" => (refine' code_def ?k1 ?k2 ?k3 ?k4 ?k5 ?kA ?kF ?kK ?k6 ?k7 ?k8 ?k9 ?kB ?_ ?c2 ?c3 ?c4 ?c5; walk_at "my_ec"; (case k9 => first | exact BindsTo.of_eq rfl | exact binds_K (by k_in) rfl (by k_is) rfl rfl rfl); (case c5 => decide); (case kB => exact locs rfl); (case c2 | c3 | c4 => exact rfl); k_whole))
  (k_with "my_e2!" => (refine' code_defC ?k1 ?k2 ?k3 ?k4 ?k5 ?kA ?kF ?kK ?k6 ?k7 ?k8 ?k9 ?kB ?kD ?_ ?c2 ?c3 ?c4; walk_at "my_ec"; (case k9 => exact BindsTo.of_eq rfl); (case kB => exact rfl); (case kD => decide +kernel); (case c2 | c3 | c4 => exact rfl); k_whole))
  (k_with "my_enter!" => ((first | (walk_at "my_e1"; intro g' L' h' FG' F' N' B' X' T') | (walk_at "my_e2"; intro g' L' h' tk' cells' FG' F' N' Y' B' X' T' l1; (try k_lt l1); k_cells Y'; (try simp only [List.cons_append, List.nil_append] at N'))); (try dsimp only); (try k_lift B'); (try k_fold)))
  (k_with "my_start!" => (w_top off; unfold Con; k_fill; intro w p loose mean mg mb dp un gd cn cs a ccd cl outer A₀ base h₀ L m s Q E B F X N T hk hd hu hret; refine wpAny_call ?_; k_dflt walk_at "my_enter"))
  (k_with "call builtin:str.join!" => first | (k_here; refine join_listW (by is_list) (by assumption) (by decide) (by assumption) ?_; intro tj kj) | refine Stop.out ?_)
  (k_with "eval BinOp!" => (dsimp only; walk1))
  (k_with "binaryOp BitOr int int!" => (dsimp only; walk1))
  (k_with "newTuple!" => (dsimp only; walk1))
  (k_with "InvEndG!" => refine Stop.out ?_)
  (k_with "exec For Name Tuple cons nil!" => (k_here; (rename Fr _ _ _ _ => lF'); (with_unfolding_all refine' For_invVF lF' ?k1z9 ?k2z9 ?_; (case k1z9 | k2z9 => exact rfl); k_whole)))
  (k_with "my_mem!" => first | assumption | exact List.Mem.head _ | (refine List.mem_cons_of_mem _ ?_; walk_at "my_mem") | (with_reducible refine List.mem_append.mpr (.inl ?_); walk_at "my_mem") | (with_reducible refine List.mem_append.mpr (.inr ?_); walk_at "my_mem"))
  (k_with "call builtin:len!" => (k_here; (with_reducible show wpAny _ _ (call (Value.builtin "len") [Value.ref _]) _ _ _); k_dflt (refine' kst_len ?k1 ?k2 ?k3 ?k4 ?_; (case k1 => k_asm); (case k2 => walk_at "my_mem"); (case k3 => first | exact IntsAre.length (by assumption) | exact RngsAre.length (by assumption)); (case k4 => omega))))
  (k_with "subscriptTail!" => (k_here; (with_reducible show wpAny _ _ (subscriptTail _ _ (Value.ref _) (Value.int _ _)) _ _ _); k_dflt (refine' item_led ?k1 ?k2 ?k3 ?k4 ?k5 ?k6 ?_; (case k1 => k_asm); (case k2 => walk_at "my_mem"); (case k3 => assumption); (case k4 | k5 | k6 => omega); k_whole); intro _))
  (k_with "subscriptTail Name Name ref int!" => (k_here; k_dflt (refine' ref_led ?k1 ?k2 ?k4 ?k5 ?k6 ?_; (case k1 => k_asm); (case k2 => walk_at "my_mem"); (case k6 => assumption); (case k4 | k5 => omega); k_whole)))
  (k_with "CompSrc!" => refine Stop.out ?_)
  (k_with "CompEnd!" => refine Stop.out ?_)
  (k_with "my_slen!" => (rw [sizeLine_eq]; (try simp only [Str.length_append, tx_len, List.length_cons, List.length_nil, List.length_append]); omega))
  (k_with "inplaceOp Add str str!" => ((refine SBL.iadd (hsz := ?hszz9) ?_); (case hszz9 => walk_at "my_slen"); intro _ _ _))
  (k_with "binaryOp Add str str!" => ((refine SBL.add (hsz := ?hszz9) ?_); (case hszz9 => walk_at "my_slen"); intro _ _ _))
  (k_with "my_lt!" => first | assumption | exact kst_ltOf (by assumption) | exact kst_ltOf (And.right (by assumption)) | exact kst_ltOf (And.right (And.right (by assumption))) | exact kst_ltOf (And.right (And.right (And.right (by assumption)))) | exact kst_ltOf (And.right (And.right (And.right (And.right (by assumption))))) | exact kst_ltOf (And.right (And.right (And.right (And.right (And.right (by assumption)))))) | exact kst_ltOf (And.right (And.right (And.right (And.right (And.right (And.right (by assumption))))))) | exact kst_ltOf (And.right (And.right (And.right (And.right (And.right (And.right (And.right (by assumption)))))))) | exact kst_ltOf (And.right (And.right (And.right (And.right (And.right (And.right (And.right (And.right (by assumption))))))))) | exact kst_ltOf (And.right (And.right (And.right (And.right (And.right (And.right (And.right (And.right (And.right (by assumption)))))))))) | exact kst_ltOf (And.right (And.right (And.right (And.right (And.right (And.right (And.right (And.right (And.right (And.right (by assumption))))))))))) | exact kst_ltOf (And.right (And.right (And.right (And.right (And.right (And.right (And.right (And.right (And.right (And.right (And.right (by assumption)))))))))))) | exact kst_ltOf (And.right (And.right (And.right (And.right (And.right (And.right (And.right (And.right (And.right (And.right (And.right (And.right (by assumption))))))))))))) | exact kst_ltOf (And.right (And.right (And.right (And.right (And.right (And.right (And.right (And.right (And.right (And.right (And.right (And.right (And.right (by assumption)))))))))))))))
  (k_with "call ref!" => (k_here; k_dflt (refine' call_cls ?k1z9 ?k2z9 ?k3z9 ?k4z9 ?k5z9 ?k6z9 ?_; (case k1z9 | k2z9 | k3z9 => k_asm); (case k4z9 | k5z9 | k6z9 => k_is); k_whole; intro x' d' h' F' N' l1 l2; (try k_lt l1); (try k_lt2 l2); (try k_sweep); walk_at "my_enter")))
  (k_with "my_startW!" => (w_top off; unfold ConW; k_fill; intro p loose mean mg mb dp un gd cn cs a ccd cl outer A₀ base h₀ L m s Q E B F X N T hk hd hu hret; refine wpAny_call ?_; k_dflt walk_at "my_enter"))
  (k_with "my_ints!" => first | assumption | exact .nil | exact .cons _ _ .nil | exact .cons _ _ (.cons _ _ .nil))
  (k_with "my_rng!" => first | assumption | (intro n hn; simp only [List.mem_singleton] at hn; omega))
  (k_with "my_om!" => first | assumption | omega | exact Nat.le_of_ble_eq_true rfl)
  (k_with "my_u16!" => first | omega | with_reducible exact (sur_hi (by omega) (by omega)).2.1 | with_reducible exact (sur_hi (by omega) (by omega)).2.2 | with_reducible exact (sur_lo (by omega) (by omega)).2.1 | with_reducible exact (sur_lo (by omega) (by omega)).2.2)
  (k_with "my_lu!" => first | omega | (kmn_bounds; omega) | (simp only [Int.fdiv_eq_ediv_of_nonneg _ (show (0:Int) ≤ 1024 by decide), Int.fmod_eq_emod_of_nonneg _ (show (0:Int) ≤ 1024 by decide)]; omega))
  (k_with "my_con!" => ((case k4 | k1 => k_asm); (case k2 | k3 | k5 => k_asm); (case kK => first | exact rfl | assumption); (case kd => walk_at "my_room"); (case ku => walk_at "my_units")))
  (k_with "i_str!" => (intro r9 nw9 h9 tk9 R9 F9 N9; obtain ⟨e8, t9, e7⟩ := R9; subst e8 e7; (try dsimp only); (try k_fold)))
  (k_with "i_strx!" => (intro r9 nw9 h9 tk9 R9 F9 N9; obtain ⟨e8, t9, e7⟩ := R9; subst e8 e7; (try walk_at "my_text"); (try dsimp only); (try k_fold)))
  (k_with "i_two!" => (intro r9 nw9 h9 tk9 R9 F9 N9; obtain ⟨e8, e7⟩ := R9; subst e8 e7; (try dsimp only); (try k_fold)))
  (k_with "i_rj!" => (intro r9 nw9 h9 tk9 R9 F9 N9; obtain ⟨d9, t91, t92, e8, e7, l9⟩ := R9; subst e8 e7; (try k_lt l9); (try dsimp only); (try k_fold)))
  (k_with "i_pts!" => (intro r9 nw9 h9 tk9 R9 F9 N9; obtain ⟨e9, e8, e7⟩ | ⟨l9, vs9, nn9, pts9, e9, e8, e7, i9, m9⟩ := R9; (all_goals subst e8 e7); (all_goals (try walk_at "my_same")); (all_goals (try k_lt m9)); (all_goals ((try dsimp only); (try k_fold)))))
  (k_with "call ref!" => (k_here; k_dflt (refine' Con.use (shape_t _ _ _) ?k1 ?k2 ?k3 ?k4 ?k5 ?kK ?kd ?ku ?_; walk_at "my_con"; walk_at "i_shape")))
  (k_with "i_shape!" => (intro r9 nw9 h9 tk9 R9 F9 N9; obtain ⟨e9, e8, e7⟩ | ⟨d9, k9, mn9, pt9, t91, t92, t93, e9, e8, e7⟩ := R9; (all_goals subst e8 e7); (all_goals ((try dsimp only); (try k_fold)))))
  (k_with "call ref!" => (k_here; k_dflt (refine' Con.use (at_t _ _ _ _ _ ?m1 ?m2 ?m3) ?k1 ?k2 ?k3 ?k4 ?k5 ?kK ?kd ?ku ?_; walk_at "my_con"; (case m1 | m2 | m3 => walk_at "my_om"); walk_at "i_at")))
  (k_with "i_at!" => (intro r9 nw9 h9 tk9 R9 F9 N9; obtain ⟨e9, e8, e7⟩ | ⟨d9, q9, j9, t91, t92, e9, e8, e7, l9⟩ := R9; (all_goals subst e8 e7); (all_goals (try k_lt l9)); (all_goals ((try dsimp only); (try k_fold)))))
  (k_with "call ref!" => (k_here; k_dflt (refine' Con.use (behind_t _ _ _) ?k1 ?k2 ?k3 ?k4 ?k5 ?kK ?kd ?ku ?_; walk_at "my_con"; walk_at "i_behind")))
  (k_with "i_behind!" => (intro r9 nw9 h9 tk9 R9 F9 N9; obtain ⟨e9, e8, e7⟩ | ⟨l9, vs9, rs9, nn9, e9, e8, e7, g9, m9⟩ | ⟨l9, vs9, rs9, nn9, d9, lo9, hi9, t91, t92, e9, e8, e7, g9, m8, m9, m7⟩ := R9; (all_goals subst e8 e7); (all_goals (try (have q9 := beh_len e9))); (all_goals (try k_lt m9)); (all_goals (try k_lt m7)); (all_goals ((try dsimp only); (try k_fold)))))
  (k_with "eval ListComp!" => (k_here; k_dflt (refine LCg.ListComp_U (F₀ := by k_asm) (by with_unfolding_all rfl) (by decide) (by rfl) (by decide) (by rfl) ?_)))
  (k_with "exec Assign cons ListComp!" => (k_here; k_dflt (refine LCg.Assign_ListComp_U (F₀ := by k_asm) (by rfl) (by with_unfolding_all rfl) (by with_unfolding_all rfl) (by decide) (by rfl) (by decide) (by rfl) (by rfl) (by rfl) ?_)))
  (k_with "call ref!" => (k_here; k_dflt (refine' Con.use (text_t _ _ _ _ _ ?m1 ?m2 ?m3 ?m4) ?k1 ?k2 ?k3 ?k4 ?k5 ?kK ?kd ?ku ?_; walk_at "my_con"; (case m1 => walk_at "my_mem"); (case m2 => walk_at "my_ints"); (case m3 => first | walk_at "my_om" | walk_at "my_len"); (case m4 => walk_at "my_rng"); walk_at "i_strx")))
  (k_with "call ref!" => (k_here; k_dflt (refine' Con.use (unit_t _ _ _ ?m1 ?m2) ?k1 ?k2 ?k3 ?k4 ?k5 ?kK ?kd ?ku ?_; walk_at "my_con"; (case m1 | m2 => walk_at "my_u16"); walk_at "i_str")))
  (k_with "call ref!" => (k_here; k_dflt (refine' ConW.use (flag_t _ _ _ _ _ _ _ _ _ _ _ _ _ _ _ _ ?m1 ?m2) ?k1 ?k2 ?k3 ?k4 ?k5 ?kK ?kd ?ku ?_; walk_at "my_con"; (case m1 | m2 => walk_at "my_mem"); walk_at "i_two")))
  (k_with "call ref!" => (k_here; k_dflt (refine' Con.use (points_t _ _ _ ?m1) ?k1 ?k2 ?k3 ?k4 ?k5 ?kK ?kd ?ku ?_; walk_at "my_con"; (case m1 => walk_at "my_om"); walk_at "i_pts")))
  (k_with "call ref!" => (k_here; k_dflt (refine' Con.use (kind_t _ _ _) ?k1 ?k2 ?k3 ?k4 ?k5 ?kK ?kd ?ku ?_; walk_at "my_con"; walk_at "i_str")))
  (k_with "call ref!" => (k_here; k_dflt (refine' ConW.use (esc_t _ _ _ _ _ _ _ _ _ _ _ _ _ _ _ _ ?m1 ?m2 ?m3 ?m4) ?k1 ?k2 ?k3 ?k4 ?k5 ?kK ?kd ?ku ?_; walk_at "my_con"; (case m1 | m2 => walk_at "my_mem"); (case m3 | m4 => first | omega | walk_at "my_pt"); walk_at "i_str")))
  (k_with "call ref!" => (k_here; k_dflt (refine' Con.use (octets_t _ _ _ ?m1 ?m2) ?k1 ?k2 ?k3 ?k4 ?k5 ?kK ?kd ?ku ?_; walk_at "my_con"; (case m1 | m2 => walk_at "my_lu"); walk_at "i_octets")))
  (k_with "i_octets!" => (intro r9 nw9 h9 tk9 R9 F9 N9; obtain ⟨l9, vs9, nn9, e8, e7, i9, m9⟩ := R9; subst e8 e7; (try k_lt m9); (all_goals ((try dsimp only); (try k_fold)))))
  (k_with "call ref!" => (k_here; k_dflt (refine' Con.use (ltext_t _ _ _ _ _ ?m1 ?m2 ?m3 ?m4) ?k1 ?k2 ?k3 ?k4 ?k5 ?kK ?kd ?ku ?_; walk_at "my_con"; (case m1 => walk_at "my_mem"); (case m2 => walk_at "my_ints"); (case m3 => walk_at "my_om"); (case m4 => walk_at "my_rng"); walk_at "i_str")))
  (k_with "call ref!" => (k_here; k_dflt (refine' Con.use (lunit_t _ _ _ ?m1 ?m2) ?k1 ?k2 ?k3 ?k4 ?k5 ?kK ?kd ?ku ?_; walk_at "my_con"; (case m1 | m2 => walk_at "my_lu"); walk_at "i_str")))
  (k_with "call ref!" => (k_here; k_dflt (refine' Con.use (lesc_t _ _ _ _ _ ?m1 ?m2 ?m3 ?m4) ?k1 ?k2 ?k3 ?k4 ?k5 ?kK ?kd ?ku ?_; walk_at "my_con"; (case m1 | m2 => first | omega | walk_at "my_pt"); (case m3 | m4 => first | assumption | omega); walk_at "i_str")))
  (k_with "call ref!" => (k_here; k_dflt (refine' Con.use (scalar_t _ _ _) ?k1 ?k2 ?k3 ?k4 ?k5 ?kK ?kd ?ku ?_; walk_at "my_con"; walk_at "i_two")))
  (k_with "call ref!" => (k_here; k_dflt (refine' Con.use (digit_t _ _ _ _ _ _ _ ?m1 ?m2 ?m3) ?k1 ?k2 ?k3 ?k4 ?k5 ?kK ?kd ?ku ?_; walk_at "my_con"; (case m1 => walk_at "my_mem"); (case m2 | m3 => first | omega | decide); walk_at "i_digit")))
  (k_with "i_digit!" => (intro r9 nw9 h9 tk9 R9 F9 N9; obtain ⟨t8, t9, e8, e7⟩ := R9; subst e8 e7; replace N9 := News.upd N9 (by k_upd); (all_goals ((try dsimp only); (try k_fold)))))
  trivial
section
variable {prog : Program} {w : World} {A : Around} {E : Value → Shared → Prop} {R : Result → Shared → Prop} {s : Shared} {h₀ : Heap} {L : Addr} {m : Str → Option Value} {env : Env}
/-- a comprehension of two clauses without tests -/
noncomputable abbrev comp2 (elt : Expr) (x : Str) (px : Pos) (iter : Expr) (x2 : Str) (px2 : Pos) (iter2 : Expr) (scope : Scope) (pos : Pos) : Expr := .ListComp elt [⟨.Name x px, iter, [], 0⟩, ⟨.Name x2 px2, iter2, [], 0⟩] scope pos
theorem turn2_out (elt : Expr) (x : Str) (px : Pos) (iter : Expr) (x2 : Str) (px2 : Pos) (iter2 : Expr) (scope : Scope) (pos : Pos) (it acc : Value) (env : Env) :
    compTurn (comp2 elt x px iter x2 px2 iter2 scope pos) 0 it acc env = (standAt iter.pos >>= fun _ => pyNext it >>= fun r => match r with
      | none => pure (.done .next)
      | some v => letOwnedTupleGo (.Name x px) it v >>= fun _ => assign (.Name x px) env v >>= fun _ =>
        eval iter2 env >>= fun y => standAt iter2.pos >>= fun _ => foldedSetIterable iter2 env y >>= fun y => holding [y] (pyIter y) >>= fun it2 =>
          runOwn (.compStart (comp2 elt x px iter x2 px2 iter2 scope pos) 1 it2 acc env) env >>= fun _ =>
          again (.compLoop (comp2 elt x px iter x2 px2 iter2 scope pos) 0 it acc env)) := by rfl
theorem turn2_in (elt : Expr) (x : Str) (px : Pos) (iter : Expr) (x2 : Str) (px2 : Pos) (iter2 : Expr) (scope : Scope) (pos : Pos) (it acc : Value) (env : Env) :
    compTurn (comp2 elt x px iter x2 px2 iter2 scope pos) 1 it acc env = (standAt iter2.pos >>= fun _ => pyNext it >>= fun r => match r with
      | none => pure (.done .next)
      | some v => letOwnedTupleGo (.Name x2 px2) it v >>= fun _ => assign (.Name x2 px2) env v >>= fun _ =>
        (eval elt env >>= fun y => call (.builtin "list.append") [acc, y] >>= fun _ => pure ()) >>= fun _ =>
          again (.compLoop (comp2 elt x px iter x2 px2 iter2 scope pos) 1 it acc env)) := by rfl
theorem start2 {elt : Expr} {x : Str} {px : Pos} {iter : Expr} {x2 : Str} {px2 : Pos} {iter2 : Expr} {scope : Scope} {pos : Pos} {it acc : Value}
    (h0 : codeAny (model prog w) A (.compLoop (comp2 elt x px iter x2 px2 iter2 scope pos) 1 it acc env) R s)
    (h : wpAny (model prog w) A (pyIter it) (fun it' s' => codeAny (model prog w) A (.compLoop (comp2 elt x px iter x2 px2 iter2 scope pos) 1 it' acc env) R s')
      (notedBy (model prog w) A env fun x s' => R (.error x) s') s) :
    codeAny (model prog w) A (.compStart (comp2 elt x px iter x2 px2 iter2 scope pos) 1 it acc env) R s := by
  refine codeAny_of_tree ?_
  show wpAny _ _ ((compStart (comp2 elt x px iter x2 px2 iter2 scope pos) 1 it acc env).onRaise (fun x => do noteFrame x env; standAt theWindowsPlace)) _ _ s
  refine wpAny_notedAt ?_
  unfold compStart
  show wpAny _ _ (ask >>= _) _ _ s
  refine wpAny_bind (wpAny_askSetting (wpAny_ite ?_))
  split
  · exact wpAny_pure (And.intro rfl h0)
  · refine wpAny_bind (wpAny_rule ?_)
    show wpAny _ _ (standAt iter2.pos >>= _) _ _ s
    exact wpAny_bind (wpAny_standAt (wpAny_bind (wpAny_mono h (fun it' s' h' => wpAny_pure (And.intro rfl h')) fun _ _ x => x)))
/-- the inner loop puts the items of a list behind what stands -/
theorem loop2_in {iter iter2 : Expr} {x x2 : Str} {px px2 pe : Pos} {scope : Scope} {cl : List (Str × Addr)} {pos : Pos} {I2 l D C : Addr} {its : Array Value} {ys : List Value} {m₂ : Str → Option Value}
    (hkind : scope.kind = .function) (hx2 : scope.names.lookup x2 = some .local) (hd : (x2 == ("__debug__" : Str)) = false) (hh : A.handled = none)
    (hI : s.heap.IsListIter I2 l 0) (hl : s.heap.IsList l its) (hC : s.heap.Ns C m₂) (hD : s.heap.get? D = some (LCg.lst ys))
    (n1 : C ≠ I2) (n2 : C ≠ l) (n3 : C ≠ D) (n4 : D ≠ I2) (n5 : D ≠ l) (n6 : I2 ≠ l) (hsz : ys.length + its.size ≤ sizeLine)
    (hR : ∀ h tk m', h.Ns C m' → h.get? D = some (LCg.lst (ys ++ its.toList)) → (∀ b o, b ≠ I2 → b ≠ C → b ≠ D → s.heap.get? b = some o → h.get? b = some o) → R (.ok .next) { s with heap := h, toks := tk }) :
    codeAny (model prog w) A (.compLoop (comp2 (.Name x2 pe) x px iter x2 px2 iter2 scope pos) 1 (.ref I2) (.ref D) (compEnvC scope cl C env)) R s := by
  have W := Walks.list (prog := prog) (w := w) hh I2 l (Ne.symm n6) its
  refine codeAny_loop rfl (fun k s' => ∃ h tk j m', s' = { s with heap := h, toks := tk } ∧ j ≤ its.size ∧ k = its.size + 1 - j ∧ (h.IsListIter I2 l j ∧ h.IsList l its) ∧ h.Ns C m' ∧ h.get? D = some (LCg.lst (ys ++ its.toList.take j)) ∧
    (∀ b o, b ≠ I2 → b ≠ C → b ≠ D → s.heap.get? b = some o → h.get? b = some o)) ?_ (its.size + 1) ⟨s.heap, s.toks, 0, m₂, rfl, Nat.zero_le _, rfl, ⟨hI, hl⟩, hC, by rw [List.take_zero, List.append_nil]; exact hD, fun _ _ _ _ _ e => e⟩
  rintro k s' ⟨h, tk, j, m', rfl, hj, rfl, hst, hn, hDj, keep⟩
  show wpAny _ A ((compTurn (comp2 (.Name x2 pe) x px iter x2 px2 iter2 scope pos) 1 (.ref I2) (.ref D) (compEnvC scope cl C env)).onRaise (fun x => do noteFrame x (compEnvC scope cl C env); theTreesLotGoes x)) _ _ _
  refine wpAny_noted ?_
  rw [turn2_in]
  refine wpAny_bind (wpAny_standAt (wpAny_bind ?_))
  by_cases hlt : j < its.size
  · refine W.item j _ _ _ hlt hst fun v h1 tk1 hv hst1 hk1 => ?_
    have hk1' : ∀ b o, b ≠ I2 → h.get? b = some o → h1.get? b = some o := fun b o hb e => hk1 b o (by simpa using hb) e
    refine wpAny_bind (wpAny_pure (wpAny_bind (wpAny_assign_Name (wpAny_storeName_local (lookup_relabel_local hx2) (hn.at' fun o e => hk1' _ o n1 e) (fun h2 hn2 hs2 => ?_) (by simp [compEnvC, relabel, hkind])))))
    refine wpAny_bind (wpAny_bind (wpAny_Name (wpAny_loadName_local (v := v) (by simp [compEnvC, relabel, hkind]) (lookup_relabel_local hx2) hn2 (by simp) ?_) hd))
    have hD2 : h2.get? D = some (LCg.lst (ys ++ its.toList.take j)) := hs2.extBut _ _ (Ne.symm n3) (hk1' _ _ n4 hDj)
    refine wpAny_bind (append_at (hsz := ?hsz9) hD2 fun h3 hs3 hD3 => ?_)
    case hsz9 =>
      have e9 : (ys ++ its.toList.take j).toArray.size = ys.length + min j its.size := by simp
      rw [e9]
      have e8 := Nat.min_le_right j its.size
      omega
    refine wpAny_pure (wpAny_pure ⟨rfl, its.size + 1 - (j + 1), by lia, h3, _, j + 1, _, rfl, hlt, rfl, W.frame _ _ _ hst1 fun b hb o e => ?_, (hn2.sameBut hs3 n3), ?_, fun b o b1 b2 b3 e => ?_⟩)
    · have hbl : b = I2 ∨ b = l := by simpa using hb
      have hbC : b ≠ C := by rcases hbl with rfl | rfl; exact Ne.symm n1; exact Ne.symm n2
      have hbD : b ≠ D := by rcases hbl with rfl | rfl; exact Ne.symm n4; exact Ne.symm n5
      exact hs3.extBut _ _ hbD (hs2.extBut _ _ hbC e)
    · rw [hD3, LCg.lst_snoc, List.take_add_one, show its.toList[j]? = some v by rw [Array.getElem?_toList]; exact hv, List.append_assoc]; rfl
    · exact hs3.extBut _ _ b3 (hs2.extBut _ _ b2 (hk1' _ _ b1 (keep _ _ b1 b2 b3 e)))
  · obtain rfl : j = its.size := Nat.le_antisymm hj (Nat.not_lt.mp hlt)
    refine W.done _ _ _ hst fun h1 tk1 hk1 => ?_
    have hk1' : ∀ b o, b ≠ I2 → h.get? b = some o → h1.get? b = some o := fun b o hb e => hk1 b o (by simpa using hb) e
    refine wpAny_pure (hR h1 tk1 m' (hn.at' fun o e => hk1' _ o n1 e) ?_ fun b o b1 b2 b3 e => hk1' _ _ b1 (keep _ _ b1 b2 b3 e))
    rw [hk1' _ _ n4 hDj, List.take_of_length_le (by rw [Array.length_toList]; exact Nat.le_refl _)]
end
noncomputable def Rest2 (prog : Program) (w : World) (A : Around) (h₀ : Heap) (L : Addr) (m : Str → Option Value) (env : Env) (iter2 : Expr) (x : Str) (scope : Scope) (cl : List (Str × Addr)) (s : Shared) (S : List (Addr × Obj) → Prop) (P : Nat → Value → Prop)
    (Fin : List Value → List (Addr × Obj) → Prop) : Nat → Nat → List Value → List (Addr × Obj) → Prop
  | 0, _, ys, news => Fin ys news
  | k + 1, i, ys, news => ∀ v I oI C oC D m₂ h tk (E' : Value → Shared → Prop), P i v → LCg.NsObj oC m₂ → m₂ x = some v → Fr h₀ L h m → News h₀ L h ((I, oI) :: (C, oC) :: (D, LCg.lst ys) :: news) → LCg.Off3 I C D news → ((@Ne Nat I C) ∧ (@Ne Nat I D) ∧ (@Ne Nat C D)) →
      wpAny (model prog w) A (eval iter2 (compEnvC scope cl C env)) (LCg.CompEnd h₀ L m { s with heap := h, toks := tk } I oI C oC D (LCg.lst ys) S (fun y nx => ∃ (l : Addr) (its : Array Value) (n : Nat) (nx' : List (Addr × Obj)), y = .ref l ∧ nx = (l, ({ cls := .type "list", data := .seq its n } : Obj)) :: nx' ∧ ys.length + its.size ≤ sizeLine ∧ S nx' ∧
        Rest2 prog w A h₀ L m env iter2 x scope cl s S P Fin k (i + 1) (ys ++ its.toList) nx')) E' { s with heap := h, toks := tk }
section
variable {prog : Program} {w : World} {A : Around} {E : Value → Shared → Prop} {s : Shared} {h₀ : Heap} {L : Addr} {m : Str → Option Value} {env : Env}
/-- two clauses, by what holds after i items of the outer one -/
theorem rest2_inv {iter2 : Expr} {x : Str} {scope : Scope} {cl : List (Str × Addr)} {S : List (Addr × Obj) → Prop} {P : Nat → Value → Prop} {Fin : List Value → List (Addr × Obj) → Prop} (n : Nat) (Inv : Nat → List Value → List (Addr × Obj) → Prop)
    (step : ∀ i ys nx, i < n → Inv i ys nx → ∀ v I oI C oC D m₂ h tk (E' : Value → Shared → Prop), P i v → LCg.NsObj oC m₂ → m₂ x = some v → Fr h₀ L h m → News h₀ L h ((I, oI) :: (C, oC) :: (D, LCg.lst ys) :: nx) → LCg.Off3 I C D nx → ((@Ne Nat I C) ∧ (@Ne Nat I D) ∧ (@Ne Nat C D)) →
      wpAny (model prog w) A (eval iter2 (compEnvC scope cl C env)) (LCg.CompEnd h₀ L m { s with heap := h, toks := tk } I oI C oC D (LCg.lst ys) S (fun y nx => ∃ (l : Addr) (its : Array Value) (n : Nat) (nx' : List (Addr × Obj)), y = .ref l ∧ nx = (l, ({ cls := .type "list", data := .seq its n } : Obj)) :: nx' ∧ ys.length + its.size ≤ sizeLine ∧ S nx' ∧ Inv (i + 1) (ys ++ its.toList) nx')) E' { s with heap := h, toks := tk })
    (fin : ∀ ys nx, Inv n ys nx → Fin ys nx) : ∀ k i ys nx, i + k = n → Inv i ys nx → Rest2 prog w A h₀ L m env iter2 x scope cl s S P Fin k i ys nx
  | 0, i, ys, nx, e, hI => fin ys nx (by rw [← e]; exact hI)
  | k + 1, i, ys, nx, e, hI => fun v I oI C oC D m₂ h tk E' hv hC hx F N o ne =>
      wpAny_mono (step i ys nx (by lia) hI v I oI C oC D m₂ h tk E' hv hC hx F N o ne) (fun y s₂ q => by
        obtain ⟨h', tk', nx1, e1, F1, N1, o1, hS, l, its, n', nx', rfl, rfl, hz, hS', r⟩ := q
        exact ⟨h', tk', _, e1, F1, N1, o1, hS, l, its, n', nx', rfl, rfl, hz, hS', rest2_inv n Inv step fin k (i + 1) (ys ++ its.toList) nx' (by lia) r⟩) fun _ _ x => x

/-- the compStart of the inner clause over a list -/
theorem start2_in {iter iter2 : Expr} {x x2 : Str} {px px2 pe : Pos} {scope : Scope} {cl : List (Str × Addr)} {pos : Pos} {J l D C : Addr} {its : Array Value} {ys : List Value} {m₂ : Str → Option Value} {R : Result → Shared → Prop}
    (hkind : scope.kind = .function) (hx2 : scope.names.lookup x2 = some .local) (hd : (x2 == ("__debug__" : Str)) = false) (hh : A.handled = none)
    (hJ : s.heap.IsListIter J l 0) (hl : s.heap.IsList l its) (hC : s.heap.Ns C m₂) (hD : s.heap.get? D = some (LCg.lst ys))
    (n1 : C ≠ J) (n2 : C ≠ l) (n3 : C ≠ D) (n4 : D ≠ J) (n5 : D ≠ l) (n6 : J ≠ l) (hsz : ys.length + its.size ≤ sizeLine)
    (hR : ∀ h tk m', h.Ns C m' → h.get? D = some (LCg.lst (ys ++ its.toList)) → (∀ b o, b ≠ J → b ≠ C → b ≠ D → s.heap.get? b = some o → h.get? b = some o) → R (.ok .next) { s with heap := h, toks := tk }) :
    codeAny (model prog w) A (.compStart (comp2 (.Name x2 pe) x px iter x2 px2 iter2 scope pos) 1 (.ref J) (.ref D) (compEnvC scope cl C env)) R s := by
  have go := loop2_in (env := env) (cl := cl) (px := px) (px2 := px2) (pe := pe) (iter := iter) (iter2 := iter2) (x := x) (pos := pos) (prog := prog) (w := w) hkind hx2 hd hh hJ hl hC hD n1 n2 n3 n4 n5 n6 hsz hR
  exact start2 go ((Walks.list hh J l n6.symm its).self 0 _ _ _ ⟨hJ, hl⟩ go)
end
/-- the iterator I, the names C and the list so far D of a comprehension under way, each apart from the others, from the frame and from what stood -/
structure Trio (h₀ : Heap) (L I C D : Addr) : Prop where
  ic : I ≠ C
  id : I ≠ D
  cd : C ≠ D
  li : L ≠ I
  lc : L ≠ C
  ld : L ≠ D
  i0 : h₀.get? I = none
  c0 : h₀.get? C = none
  d0 : h₀.get? D = none
/-- a comprehension between two items -/
structure Mid (h₀ : Heap) (L I C D : Addr) (m : Str → Option Value) (ys : List Value) (nx : List (Addr × Obj)) (h : Heap) : Prop where
  F : Fr h₀ L h m
  N : News h₀ L h nx
  acc : h.get? D = some (LCg.lst ys)
  ns : ∃ m', h.Ns C m'
  off : LCg.Off3 I C D nx
section
variable {h₀ h h' : Heap} {L I C D : Addr} {m : Str → Option Value} {ys : List Value} {nx : List (Addr × Obj)}
theorem not_at {a b : Addr} {o : Obj} (n : h.get? a = none) (e : h.get? b = some o) : b ≠ a := fun q => by rw [q, n] at e; cases e
theorem Trio.frame (T : Trio h₀ L I C D) (F : Fr h₀ L h m) (k : ∀ b o, b ≠ I → b ≠ C → b ≠ D → h.get? b = some o → h'.get? b = some o) : Fr h₀ L h' m :=
  ⟨F.ns.at fun o e => k L o T.li T.lc T.ld e, fun b o e => k b o (not_at T.i0 e) (not_at T.c0 e) (not_at T.d0 e) (F.keep b o e), F.above⟩
theorem news_off (N : News h₀ L h nx) (O : LCg.Off3 I C D nx) (k : ∀ b o, b ≠ I → b ≠ C → b ≠ D → h.get? b = some o → h'.get? b = some o) : News h₀ L h' nx :=
  fun p hp => have z := O.mem p hp; ⟨k _ _ z.1 z.2.1 z.2.2 (N p hp).1, (N p hp).2⟩
theorem Mid.move (T : Trio h₀ L I C D) (M : Mid h₀ L I C D m ys nx h) (k : ∀ b o, b ≠ I → b ≠ C → h.get? b = some o → h'.get? b = some o) (n : ∃ m', h'.Ns C m') : Mid h₀ L I C D m ys nx h' :=
  ⟨T.frame M.F fun b o p q _ => k b o p q, news_off M.N M.off fun b o p q _ => k b o p q, k _ _ T.id.symm T.cd.symm M.acc, n, M.off⟩
/-- the ledger that the element's code sees -/
theorem Mid.ledger {oI oC : Obj} (T : Trio h₀ L I C D) (M : Mid h₀ L I C D m ys nx h) (eI : h.get? I = some oI) (eC : h.get? C = some oC) : News h₀ L h ((I, oI) :: (C, oC) :: (D, LCg.lst ys) :: nx)
  | _, .head _ => ⟨eI, T.li.symm, T.i0⟩
  | _, .tail _ (.head _) => ⟨eC, T.lc.symm, T.c0⟩
  | _, .tail _ (.tail _ (.head _)) => ⟨M.acc, T.ld.symm, T.d0⟩
  | p, .tail _ (.tail _ (.tail _ hp)) => M.N p hp
/-- the names go, the list stays -/
theorem Mid.over {s : Shared} {Q : Value → Shared → Prop} {tk : Nat} (T : Trio h₀ L I C D) (M : Mid h₀ L I C D m ys nx h) (fin : LCg.FinE h₀ L m s Q ys nx) :
    ∃ m', h.Ns C m' ∧ ∀ g, Heap.SameBut C h g → Q (.ref D) { s with heap := g, toks := tk } :=
  M.ns.imp fun _ n => ⟨n, fun g sb => by
    have k : ∀ b o, b ≠ I → b ≠ C → b ≠ D → h.get? b = some o → g.get? b = some o := fun b o _ q _ e => sb.extBut b o q e
    refine fin D g tk (T.frame M.F k) ?_ M.off.one
    intro p hp
    cases hp with
    | head => exact ⟨sb.extBut _ _ T.cd.symm M.acc, T.ld.symm, T.d0⟩
    | tail _ hp => exact news_off M.N M.off k p hp⟩
end
section
variable {prog : Program} {w : World} {A : Around} {E : Value → Shared → Prop} {s : Shared} {h₀ : Heap} {L I : Addr} {m : Str → Option Value} {env : Env}
/-- what a comprehension makes ahead of its first turn: the list and the names -/
theorem trio_new {scope : Scope} {cl : List (Str × Addr)} {K : Value → Env → Shared → Prop} {nx : List (Addr × Obj)} {oI : Obj} (hcell : ∀ y ∈ scope.names, y.2 ≠ .cell) (hkind : scope.kind = .function)
    (F : Fr h₀ L s.heap m) (N : News h₀ L s.heap nx) (eI : s.heap.get? I = some oI) (li : L ≠ I) (i0 : h₀.get? I = none) (off : ∀ p ∈ nx, p.1 ≠ I)
    (k : ∀ C D g tk, Trio h₀ L I C D → Mid h₀ L I C D m [] nx g → (∀ b o, s.heap.get? b = some o → g.get? b = some o) → K (.ref D) (newEnv scope C env.globals cl env.qual none .none (some env) builtinsNs) { s with heap := g, toks := tk }) :
    wpAny (model prog w) A (newList []) (fun acc s₃ => wpAny (model prog w) A (newFunctionEnv scope env.globals cl [] env.qual none .none (some env)) (K acc) E s₃) E s := by
  refine wpAny_newObj_type ?_
  have sz := Heap.size_push s.heap (o := { cls := .type "list", dict := none, data := .seq ([] : List Value).toArray })
  have atD := Heap.get?_push_size (o := { cls := .type "list", dict := none, data := .seq ([] : List Value).toArray }) s.heap rfl
  have grow : ∀ b o, s.heap.get? b = some o → (s.heap.push { cls := .type "list", dict := none, data := .seq ([] : List Value).toArray }).get? b = some o := fun _ _ => Heap.get?_push_of_some _
  generalize s.heap.push { cls := .type "list", dict := none, data := .seq ([] : List Value).toArray } = g at sz atD grow ⊢
  refine wpAny_newFunctionEnv hcell (fun _ hy => nomatch hy) (fun g' ns sb => ?_) hkind
  dsimp only at ns sb ⊢
  have lt : s.heap.objs.size < g.objs.size := sz ▸ Nat.lt_succ_self _
  have low : ∀ b o, s.heap.get? b = some o → b < s.heap.objs.size := fun _ _ => Heap.lt_size
  have up : ∀ b o, s.heap.get? b = some o → g'.get? b = some o := fun b o e => sb.extBut b o (Nat.ne_of_lt (Nat.lt_trans (low b o e) lt)) (Heap.get?_push_of_some _ (grow b o e))
  have none0 : ∀ a, s.heap.objs.size ≤ a → h₀.get? a = none := fun a ha => Heap.get?_none_of_le (Nat.le_trans (Nat.le_of_lt (Nat.lt_of_le_of_lt F.above F.ns.lt)) ha)
  refine k g.objs.size s.heap.objs.size g' _ ⟨Nat.ne_of_lt (Nat.lt_trans (low _ _ eI) lt), Nat.ne_of_lt (low _ _ eI), Nat.ne_of_gt lt, li, Nat.ne_of_lt (Nat.lt_trans F.ns.lt lt), Nat.ne_of_lt F.ns.lt, i0, none0 _ (Nat.le_of_lt lt), none0 _ (Nat.le_refl _)⟩
    ⟨F.keeps up, N.grown up, sb.extBut _ _ (Nat.ne_of_lt lt) (Heap.get?_push_of_some _ atD), ⟨_, ns⟩, .of fun p hp => ?_⟩ up
  have z := low _ _ (N p hp).1
  exact ⟨off p hp, Nat.ne_of_lt (Nat.lt_trans z lt), Nat.ne_of_lt z⟩
/-- the outer loop of two clauses, over a list of the ledger -/
theorem loop2_out {iter iter2 : Expr} {x x2 : Str} {px px2 pe : Pos} {scope : Scope} {cl : List (Str × Addr)} {pos : Pos} {C D ax : Addr} {vs : List Value} {k₀ : Nat} {nx₀ : List (Addr × Obj)} {g₀ : Heap} {tk₀ : Nat} {Fin : List Value → List (Addr × Obj) → Prop} {R : Result → Shared → Prop}
    (hkind : scope.kind = .function) (hx : scope.names.lookup x = some .local) (hx2 : scope.names.lookup x2 = some .local) (hdb : (x2 == ("__debug__" : Str)) = false) (hh : A.handled = none)
    (hs2 : ∀ C y, foldedSetIterable iter2 (compEnvC scope cl C env) y = pure y)
    (T : Trio h₀ L I C D) (hI : g₀.IsListIter I ax 0) (M₀ : Mid h₀ L I C D m [] nx₀ g₀) (hm₀ : (ax, ({ cls := .type "list", data := .seq vs.toArray k₀ } : Obj)) ∈ nx₀)
    (go : Rest2 prog w A h₀ L m env iter2 x scope cl s (fun nx => (ax, ({ cls := .type "list", data := .seq vs.toArray k₀ } : Obj)) ∈ nx) (fun i v => vs[i]? = some v) Fin vs.length 0 [] nx₀)
    (hR : ∀ h tk ys nx, Mid h₀ L I C D m ys nx h → Fin ys nx → R (.ok .next) { s with heap := h, toks := tk }) :
    codeAny (model prog w) A (.compLoop (comp2 (.Name x2 pe) x px iter x2 px2 iter2 scope pos) 0 (.ref I) (.ref D) (compEnvC scope cl C env)) R { s with heap := g₀, toks := tk₀ } := by
  have W := Walks.list (prog := prog) (w := w) hh I ax (M₀.off.mem _ hm₀).1 vs.toArray
  rw [List.size_toArray] at W
  refine codeAny_loop rfl (fun k s' => ∃ h tk i ys nx, s' = { s with heap := h, toks := tk } ∧ i ≤ vs.length ∧ k = vs.length - i ∧ h.IsListIter I ax i ∧ Mid h₀ L I C D m ys nx h ∧ (ax, ({ cls := .type "list", data := .seq vs.toArray k₀ } : Obj)) ∈ nx ∧
    Rest2 prog w A h₀ L m env iter2 x scope cl s (fun nx => (ax, ({ cls := .type "list", data := .seq vs.toArray k₀ } : Obj)) ∈ nx) (fun i v => vs[i]? = some v) Fin (vs.length - i) i ys nx) ?_ vs.length ⟨g₀, tk₀, 0, [], nx₀, rfl, Nat.zero_le _, rfl, hI, M₀, hm₀, go⟩
  rintro _ _ ⟨h, tk, i, ys, nx, rfl, hi, rfl, hit, M, hm, go⟩
  obtain ⟨m', ns⟩ := M.ns
  have hl : h.IsList ax vs.toArray := ⟨_, (M.N _ hm).1, rfl, k₀, rfl⟩
  show wpAny _ A ((compTurn (comp2 (.Name x2 pe) x px iter x2 px2 iter2 scope pos) 0 (.ref I) (.ref D) (compEnvC scope cl C env)).onRaise _) _ _ _
  refine wpAny_noted ?_
  rw [turn2_out]
  refine wpAny_bind (wpAny_standAt (wpAny_bind ?_))
  rcases Nat.lt_or_ge i vs.length with hlt | hge
  · have hj : vs.length - i = vs.length - (i + 1) + 1 := by omega
    rw [hj] at go
    refine W.item i _ _ _ hlt ⟨hit, hl⟩ fun v g tk₁ hv st kept => ?_
    have kept : ∀ b o, b ≠ I → h.get? b = some o → g.get? b = some o := fun b o q => kept b o fun z => q (List.mem_singleton.mp z)
    refine wpAny_bind (wpAny_pure (wpAny_bind (wpAny_assign_Name (wpAny_storeName_local (lookup_relabel_local hx) (ns.at fun o => kept C o T.ic.symm) (fun g₂ ns₂ sb => ?_) (by simp [compEnvC, relabel, hkind])))))
    have M₂ := M.move (h' := g₂) T (fun b o p q e => sb.extBut b o q (kept b o p e)) ⟨_, ns₂⟩
    obtain ⟨oI, eI, rI⟩ := st.1.at fun o e => sb.extBut I o T.ic e
    obtain ⟨oC, eC, aC⟩ := LCg.ns_obj ns₂
    refine wpAny_bind (wpAny_mono (go v I oI C oC D _ g₂ _ _ (by simpa using hv) aC (by simp) M₂.F (M₂.ledger T eI eC) M₂.off ⟨T.ic, T.id, T.cd⟩) (fun y s₄ q => ?_) fun _ _ e => e)
    clear hv st kept M₂ eI eC go
    obtain ⟨g₄, tk₄, _, rfl, F₄, N₄, O₄, _, l, its, n₄, nx', rfl, rfl, hz, hm', go⟩ := q
    have eI := (N₄ _ (.head _)).1
    have eC := (N₄ _ (.tail _ (.head _))).1
    have eD := (N₄ _ (.tail _ (.tail _ (.head _)))).1
    have el := (N₄ _ (.tail _ (.tail _ (.tail _ (.head _))))).1
    have N' : News h₀ L g₄ nx' := fun p hp => N₄ p (.tail _ (.tail _ (.tail _ (.tail _ hp))))
    refine wpAny_bind (wpAny_standAt (wpAny_bind (wpAny_of_eq (hs2 _ _) (wpAny_bind (wpAny_holding (wpAny_pyIter_list (items := its) ⟨_, el, rfl, _, rfl⟩ ?_))))))
    have itJ : (g₄.push { cls := .type "list_iterator", data := .fields #[.ref l, .int 0 0] }).IsListIter g₄.objs.size l 0 := ⟨_, Heap.get?_push_size _ rfl, rfl, rfl⟩
    have grow : ∀ b o, g₄.get? b = some o → (g₄.push { cls := .type "list_iterator", data := .fields #[.ref l, .int 0 0] }).get? b = some o ∧ b ≠ g₄.objs.size := fun b o e => ⟨Heap.get?_push_of_some _ e, Nat.ne_of_lt (Heap.lt_size e)⟩
    generalize g₄.push { cls := .type "list_iterator", data := .fields #[.ref l, .int 0 0] } = g₅ at itJ grow ⊢
    generalize g₄.objs.size = J at itJ grow ⊢
    refine wpAny_bind (wpAny_runOwn (start2_in hkind hx2 hdb hh itJ ⟨_, (grow _ _ el).1, rfl, _, rfl⟩ (aC.ns (grow _ _ eC).1) (grow _ _ eD).1 (grow _ _ eC).2 O₄.1.2.1.symm T.cd (grow _ _ eD).2 O₄.1.2.2.symm (grow _ _ el).2.symm hz fun g₆ tk₆ m₆ ns₆ acc₆ kept₆ => ?_))
    have k : ∀ b o, b ≠ C → b ≠ D → g₄.get? b = some o → g₆.get? b = some o := fun b o p q e => kept₆ b o (grow b o e).2 p q (grow b o e).1
    exact wpAny_pure ⟨rfl, vs.length - (i + 1), by omega, g₆, tk₆, i + 1, ys ++ its.toList, nx', rfl, hlt, rfl, ⟨oI, k _ _ T.ic T.id eI, rI⟩, ⟨T.frame F₄ fun b o _ => k b o, news_off N' O₄.2 fun b o _ => k b o, acc₆, ⟨m₆, ns₆⟩, O₄.2⟩, hm', go⟩
  · have hi : i = vs.length := Nat.le_antisymm hi hge
    subst hi
    rw [Nat.sub_self] at go
    refine W.done _ _ _ ⟨hit, hl⟩ fun g tk₁ kept => wpAny_pure (hR g tk₁ ys nx (M.move T (fun b o q _ => kept b o fun z => q (List.mem_singleton.mp z)) ⟨_, ns.at fun o => kept C o fun z => T.ic (List.mem_singleton.mp z).symm⟩) go)
end
/-- a comprehension of two clauses over a list of the ledger -/
noncomputable def Src2 (prog : Program) (w : World) (A : Around) (h₀ : Heap) (L : Addr) (m : Str → Option Value) (env : Env) (iter2 : Expr) (x : Str) (scope : Scope) (cl : List (Str × Addr)) (Q : Value → Shared → Prop) (xv : Value) (s₁ : Shared) : Prop :=
  ∃ ax vs k news, xv = .ref ax ∧ A.handled = none ∧ Fr h₀ L s₁.heap m ∧ News h₀ L s₁.heap news ∧ (ax, ({ cls := .type "list", data := .seq (vs : List Value).toArray k } : Obj)) ∈ news ∧
    ∀ g, Rest2 prog w A h₀ L m env iter2 x scope cl { s₁ with heap := g } (fun nx => (ax, ({ cls := .type "list", data := .seq vs.toArray k } : Obj)) ∈ nx) (fun i v => vs[i]? = some v) (LCg.FinE h₀ L m { s₁ with heap := g } Q) vs.length 0 [] news
section
variable {prog : Program} {w : World} {A : Around} {E : Value → Shared → Prop} {s : Shared} {h₀ : Heap} {L : Addr} {m : Str → Option Value} {env : Env}
theorem comp_two {iter iter2 : Expr} {x x2 : Str} {px px2 pe : Pos} {scope : Scope} {cl : List (Str × Addr)} {pos : Pos} {Q : Value → Shared → Prop} (F₀ : Fr h₀ L s.heap m)
    (hclos : closureFor scope env = pure cl) (hcell : ∀ y ∈ scope.names, y.2 ≠ .cell) (hkind : scope.kind = .function)
    (hnames : ∀ y ∈ scope.names, y.2 = .local → scope.names.lookup y.1 = some .local) (hx : scope.names.lookup x = some .local) (hx2 : scope.names.lookup x2 = some .local) (hdb : (x2 == ("__debug__" : Str)) = false)
    (h : wpAny (model prog w) A (eval iter env) (Src2 prog w A h₀ L m env iter2 x scope cl Q) E s)
    (hs : ∀ x, foldedSetIterable iter env x = pure x := by intro _; rfl)
    (hs2 : ∀ C y, foldedSetIterable iter2 (compEnvC scope cl C env) y = pure y := by intro _ _; rfl) :
    wpAny (model prog w) A (eval (.ListComp (.Name x2 pe) [⟨.Name x px, iter, [], 0⟩, ⟨.Name x2 px2, iter2, [], 0⟩] scope pos) env) Q E s := by
  rw [eval_ListComp]
  refine wpAny_comprehension_free (use := none) rfl hs hclos hkind hnames (wpAny_mono h ?_ fun _ _ e => e)
  rintro _ s₁ ⟨ax, vs, k, nx, rfl, hh, F, N, hm, go⟩
  refine wpAny_pyIter_list (items := vs.toArray) ⟨_, (N _ hm).1, rfl, k, rfl⟩ ?_
  have itI : (s₁.heap.push { cls := .type "list_iterator", data := .fields #[.ref ax, .int 0 0] }).IsListIter s₁.heap.objs.size ax 0 := ⟨_, Heap.get?_push_size _ rfl, rfl, rfl⟩
  have grow : ∀ b o, s₁.heap.get? b = some o → (s₁.heap.push { cls := .type "list_iterator", data := .fields #[.ref ax, .int 0 0] }).get? b = some o := fun _ _ => Heap.get?_push_of_some _
  have nI := fun p hp => Nat.ne_of_lt (Heap.lt_size (N p hp).1)
  have i0 := next_is_new F
  have li := Nat.ne_of_lt F.ns.lt
  have go := go (s₁.heap.push { cls := .type "list_iterator", data := .fields #[.ref ax, .int 0 0] })
  generalize s₁.heap.push { cls := .type "list_iterator", data := .fields #[.ref ax, .int 0 0] } = g at itI grow go ⊢
  generalize s₁.heap.objs.size = I at itI nI i0 li ⊢
  obtain ⟨oI, eI, rI⟩ := itI
  refine trio_new hcell hkind (F.keeps grow) (N.grown grow) eI li i0 nI fun C D g' tk T M kept => ?_
  have all := loop2_out (Fin := LCg.FinE h₀ L m { s₁ with heap := g } Q) (R := compPost (model prog w) A E none Q (.ref D) C) (iter := iter) (px := px) (px2 := px2) (pe := pe) (pos := pos) (s := { s₁ with heap := g }) (g₀ := g') (tk₀ := tk) hkind hx hx2 hdb hh hs2 T ⟨oI, kept _ _ eI, rI⟩ M hm go fun h tk ys nx M fin => M.over (s := { s₁ with heap := g }) T fin
  exact codeAny_compStart_list all ((Walks.list hh I ax (nI _ hm) vs.toArray).self 0 _ _ _ ⟨⟨oI, kept _ _ eI, rI⟩, _, kept _ _ (grow _ _ (N _ hm).1), rfl, k, rfl⟩ all)
end
section
variable {prog : Program} {w : World} {A : Around} {E : Value → Shared → Prop} {s : Shared} {h₀ : Heap} {L : Addr} {m : Str → Option Value} {env : Env}
/-- a comprehension with a test by what holds after i items -/
theorem comp_restT {ct elt : Expr} {x : Str} {scope : Scope} {cl : List (Str × Addr)} {S : List (Addr × Obj) → Prop} {P : Nat → Value → Prop} {Fin : List Value → List (Addr × Obj) → Prop} (n : Nat) (Inv : Nat → List Value → List (Addr × Obj) → Prop)
    (step : ∀ i ys nx, i < n → Inv i ys nx → ∀ v I oI C oC D m₂ h tk (E' : Value → Shared → Prop), P i v → LCg.NsObj oC m₂ → m₂ x = some v → Fr h₀ L h m → News h₀ L h ((I, oI) :: (C, oC) :: (D, LCg.lst ys) :: nx) → LCg.Off3 I C D nx → ((@Ne Nat I C) ∧ (@Ne Nat I D) ∧ (@Ne Nat C D)) →
      wpAny (model prog w) A (isTrue ct (compEnvC scope cl C env) (eval ct (compEnvC scope cl C env))) (fun ok s' => if ok = true then
        wpAny (model prog w) A (eval elt (compEnvC scope cl C env)) (LCg.CompEnd h₀ L m { s with heap := h, toks := tk } I oI C oC D (LCg.lst ys) S (fun y nx' => Inv (i + 1) (ys ++ [y]) nx')) E' s'
        else LCg.CompEnd h₀ L m { s with heap := h, toks := tk } I oI C oC D (LCg.lst ys) S (fun _ nx' => Inv (i + 1) ys nx') Value.none s') E' { s with heap := h, toks := tk })
    (fin : ∀ ys nx, Inv n ys nx → Fin ys nx) : ∀ k i ys nx, i + k = n → Inv i ys nx → LCt.CompRestT prog w A h₀ L m env ct elt x scope cl s S P Fin k i ys nx
  | 0, i, ys, nx, e, hI => LCt.CompRestT.zero (fin ys nx (by rw [← e]; exact hI))
  | k + 1, i, ys, nx, e, hI => LCt.CompRestT.succ fun v I oI C oC D m₂ h tk E' hv hC hx F N o ne =>
      wpAny_mono (step i ys nx (by lia) hI v I oI C oC D m₂ h tk E' hv hC hx F N o ne) (fun ok s₂ q => by
        by_cases c : ok = true
        · rw [if_pos c] at q ⊢
          exact wpAny_mono q (fun y s₃ z => compEnd_mono z fun y nx' r => comp_restT n Inv step fin k (i + 1) (ys ++ [y]) nx' (by lia) r) fun _ _ x => x
        · rw [if_neg c] at q ⊢
          exact compEnd_mono q fun _ nx' r => comp_restT n Inv step fin k (i + 1) ys nx' (by lia) r) fun _ _ x => x
end
theorem and_bit {f : Int} (h : 0 ≤ f) (k : Nat) : Builtin.bitAnd f ((2 ^ k : Nat) : Int) ≠ 0 ↔ f / ((2 ^ k : Nat) : Int) % 2 = 1 := by
  rw [bitAnd_pp h (by exact Int.natCast_nonneg _), Int.toNat_natCast]
  obtain ⟨n, rfl⟩ := Int.eq_ofNat_of_zero_le h
  rw [Int.toNat_natCast]
  have e : (((n : Int) / ((2 ^ k : Nat) : Int) % 2 = 1) ↔ (n / 2 ^ k % 2 = 1)) := by
    constructor
    · intro q; exact_mod_cast q
    · intro q; exact_mod_cast q
  have tb : n.testBit k = decide (n / 2 ^ k % 2 = 1) := Nat.testBit_eq_decide_div_mod_eq
  rw [e]
  constructor
  · intro q
    by_cases c : n / 2 ^ k % 2 = 1
    · exact c
    · refine absurd ?_ q
      rw [decide_eq_false c] at tb
      have : n &&& 2 ^ k = 0 := Nat.eq_of_testBit_eq fun i => by
        rw [Nat.testBit_and, Nat.testBit_two_pow, Nat.zero_testBit]
        by_cases ei : k = i
        · subst ei; rw [tb]; rfl
        · rw [decide_eq_false ei, Bool.and_false]
      rw [this]; rfl
  · intro q z
    rw [decide_eq_true q] at tb
    have z' : n &&& 2 ^ k = 0 := by exact_mod_cast z
    have := congrArg (fun m => m.testBit k) z'
    simp only [Nat.testBit_and, Nat.testBit_two_pow_self, tb, Nat.zero_testBit] at this
    cases this
theorem and_64 {f : Int} (h : 0 ≤ f) : Builtin.bitAnd f 64 ≠ 0 ↔ f / 64 % 2 = 1 := and_bit h 6
theorem and_256 {f : Int} (h : 0 ≤ f) : Builtin.bitAnd f 256 ≠ 0 ↔ f / 256 % 2 = 1 := and_bit h 8
theorem and_512 {f : Int} (h : 0 ≤ f) : Builtin.bitAnd f 512 ≠ 0 ↔ f / 512 % 2 = 1 := and_bit h 9
theorem octF_octL {n : Int} (h0 : 0 ≤ n) (h1 : n < 2097152) : octF n = octL n := octF_eq h0 h1
theorem flatMap_same {g k : Int → List Int} : ∀ {ns : List Int}, (∀ n ∈ ns, g n = k n) → ns.flatMap g = ns.flatMap k
  | [], _ => rfl
  | n :: r, h => by rw [List.flatMap_cons, List.flatMap_cons, h n (.head _), flatMap_same fun m hm => h m (.tail _ hm)]
theorem flatMapN_same {g k : Int → List Nat} : ∀ {ns : List Int}, (∀ n ∈ ns, g n = k n) → ns.flatMap g = ns.flatMap k
  | [], _ => rfl
  | n :: r, h => by rw [List.flatMap_cons, List.flatMap_cons, h n (.head _), flatMapN_same fun m hm => h m (.tail _ hm)]
theorem text_oct {ns : List Int} (h : ∀ n ∈ ns, 0 ≤ n ∧ n < 2097152) : textF ns = ns.flatMap octL := flatMap_same fun n hn => octF_octL (h n hn).1 (h n hn).2
theorem esc_same {f p : Int} (hf : 0 ≤ f) (hp : Scal p) : escF f p = lescF f p := by
  unfold Scal at hp
  have a1 := and_64 hf
  have a2 := and_256 hf
  have sh := isShort_iff p
  unfold escF lescF
  by_cases c47 : p = 47
  · subst c47
    have s47 : isShort 47 = true := sh.mpr (by lia)
    by_cases q : Builtin.bitAnd f 64 ≠ 0
    · rw [if_neg (fun z : isShort 47 = true ∧ ¬ ((47 : Int) = 47 ∧ Builtin.bitAnd f 64 ≠ 0) => z.2 ⟨rfl, q⟩), if_pos (show (32 : Int) ≤ 47 ∧ (47 : Int) < 128 by lia), if_neg (fun z : isShort 47 = true ∧ (47 : Int) ≠ 47 => z.2 rfl), if_pos rfl, if_pos (a1.mp q)]; rfl
    · rw [if_pos (show isShort 47 = true ∧ ¬ ((47 : Int) = 47 ∧ Builtin.bitAnd f 64 ≠ 0) from ⟨s47, fun z => q z.2⟩), if_neg (fun z : isShort 47 = true ∧ (47 : Int) ≠ 47 => z.2 rfl), if_pos rfl, if_neg (fun z : f / 64 % 2 = 1 => q (a1.mpr z))]; rfl
  · by_cases c : isShort p = true
    · rw [if_pos ⟨c, fun z => c47 z.1⟩, if_pos ⟨c, c47⟩]
    · rw [if_neg (fun z : isShort p = true ∧ ¬ (p = 47 ∧ Builtin.bitAnd f 64 ≠ 0) => c z.1), if_neg (fun z : isShort p = true ∧ p ≠ 47 => c z.1), if_neg c47]
      by_cases c1 : 32 ≤ p ∧ p < 128
      · rw [if_pos c1, if_pos (show 31 < p ∧ p < 128 by lia)]
      · rw [if_neg c1, if_neg (show ¬ (31 < p ∧ p < 128) by lia)]
        by_cases c2 : 128 ≤ p ∧ Builtin.bitAnd f 256 ≠ 0 ∧ p ≠ 8232 ∧ p ≠ 8233
        · rw [if_pos c2, if_pos (show 127 < p ∧ f / 256 % 2 = 1 ∧ p ≠ 8232 ∧ p ≠ 8233 from ⟨by lia, a2.mp c2.2.1, c2.2.2⟩), octF_octL (by lia) (by lia)]
        · rw [if_neg c2, if_neg (fun z : 127 < p ∧ f / 256 % 2 = 1 ∧ p ≠ 8232 ∧ p ≠ 8233 => c2 ⟨by lia, a2.mpr z.2.1, z.2.2⟩)]
          by_cases c3 : p < 65536
          · rw [if_pos c3, if_pos c3]
          · rw [if_neg c3, if_neg c3, (sur_hi (by lia) (by lia)).1, (sur_lo (by lia) (by lia)).1]
theorem json_is {f : Int} {ps : Option (List Int)} (h0 : 0 ≤ f) (hs : ∀ l, ps = some l → ∀ p ∈ l, Scal p) : jsonF f ps = ljsonF f ps := by
  cases ps with
  | none =>
    unfold jsonF ljsonF
    dsimp only
    have a := and_512 h0
    by_cases q : Builtin.bitAnd f 512 = 0
    · rw [if_pos q, if_neg (fun z => a.mpr z q)]
    · rw [if_neg q, if_pos (a.mp q)]
  | some l =>
    unfold jsonF ljsonF
    dsimp only
    rw [flatMapN_same fun p hp => esc_same h0 (hs l rfl p hp)]
theorem and_192 {b : Int} (h0 : 0 ≤ b) (h1 : b ≤ 255) : Builtin.bitAnd b 192 = 128 ↔ 128 ≤ b ∧ b ≤ 191 := by
  have h : ∀ k : Fin 256, decide (Builtin.bitAnd ((k.val : Nat) : Int) 192 = 128) = decide (128 ≤ k.val ∧ k.val ≤ 191) := by decide +kernel
  have := h ⟨b.toNat, by lia⟩
  rw [decide_eq_decide] at this
  rw [show (((⟨b.toNat, by lia⟩ : Fin 256).val : Nat) : Int) = b from Int.toNat_of_nonneg h0] at this
  rw [this]
  show 128 ≤ b.toNat ∧ b.toNat ≤ 191 ↔ _
  omega
theorem getD_rng {os : List Int} (h : ∀ o ∈ os, 0 ≤ o ∧ o ≤ 255) (i : Nat) : 0 ≤ os.getD i 0 ∧ os.getD i 0 ≤ 255 := by
  by_cases hi : i < os.length
  · exact h _ (getD_mem hi)
  · rw [List.getD_eq_getElem?_getD, List.getElem?_eq_none (by lia)]; exact ⟨by decide, by decide⟩
theorem getD_rng1 {os : List Int} (h : ∀ o ∈ os, 0 ≤ o ∧ o ≤ 255) {i : Nat} {a : Int} (e : os.getD i 0 = a) : 0 ≤ a ∧ a ≤ 255 := e ▸ getD_rng h i
theorem rd_2 {os : List Int} {i : Nat} {a : Int} (e : os.getD i 0 = a) (h0 : 194 ≤ a) (h1 : a ≤ 223) : rdF os i = if os.length ≤ i + 1 then none else if 128 ≤ os.getD (i + 1) 0 ∧ os.getD (i + 1) 0 ≤ 191 then some (a * 64 + os.getD (i + 1) 0 - 12416, i + 1 + 1) else none := by
  unfold rdF rngF behF
  rw [e, if_neg (show ¬ a < 128 by lia), if_pos (show 194 ≤ a ∧ a ≤ 223 from ⟨h0, h1⟩)]
  simp only [contR, List.length_cons, List.length_nil]
  split
  · rfl
  · split
    · rename_i q; split at q <;> first | cases q | skip
      rw [if_neg (by assumption)]
    · rename_i q; split at q <;> cases q
      rw [if_pos (by assumption)]; rfl
theorem ok_is {mn p : Int} (h : mn ≤ p ∧ (p < 55296 ∨ 57343 < p) ∧ p ≤ 1114111) : okF mn p = true := by
  unfold okF
  simp only [Bool.not_eq_true', Bool.or_eq_false_iff, Bool.and_eq_false_iff, decide_eq_false_iff_not]; omega
theorem ok_not {mn p : Int} (h : p < mn ∨ (55296 ≤ p ∧ p ≤ 57343) ∨ 1114111 < p) : okF mn p = false := by
  cases e : okF mn p with
  | false => rfl
  | true => have := okF_is e; omega
noncomputable def G3 (lo hi : Int) (os : List Int) (i : Nat) (a : Int) : Option (Int × Nat) :=
  if os.length ≤ i + 2 then none else if lo ≤ os.getD (i + 1) 0 ∧ os.getD (i + 1) 0 ≤ hi then (if 128 ≤ os.getD (i + 1 + 1) 0 ∧ os.getD (i + 1 + 1) 0 ≤ 191 then some ((a * 64 + os.getD (i + 1) 0) * 64 + os.getD (i + 1 + 1) 0 - 925824, i + 1 + 2) else none) else none
noncomputable def G4 (lo hi : Int) (os : List Int) (i : Nat) (a : Int) : Option (Int × Nat) :=
  if os.length ≤ i + 3 then none else if lo ≤ os.getD (i + 1) 0 ∧ os.getD (i + 1) 0 ≤ hi then (if 128 ≤ os.getD (i + 1 + 1) 0 ∧ os.getD (i + 1 + 1) 0 ≤ 191 then (if 128 ≤ os.getD (i + 1 + 1 + 1) 0 ∧ os.getD (i + 1 + 1 + 1) 0 ≤ 191 then some (((a * 64 + os.getD (i + 1) 0) * 64 + os.getD (i + 1 + 1) 0) * 64 + os.getD (i + 1 + 1 + 1) 0 - 63447168, i + 1 + 3) else none) else none) else none
theorem rd_3 {os : List Int} {i : Nat} {a lo hi : Int} (e : os.getD i 0 = a) (h : rngF a = some [(lo, hi), (128, 191)]) : rdF os i = G3 lo hi os i a := by
  unfold rdF G3
  rw [e, h]
  simp only [contR, List.length_cons, List.length_nil]
  by_cases c : os.length ≤ i + 2
  · rw [if_pos (show os.length ≤ i + (0 + 1 + 1) by lia), if_pos c]
  · rw [if_neg (show ¬ os.length ≤ i + (0 + 1 + 1) by lia), if_neg c]
    by_cases c1 : lo ≤ os.getD (i + 1) 0 ∧ os.getD (i + 1) 0 ≤ hi
    · rw [if_pos c1, if_pos c1]
      by_cases c2 : 128 ≤ os.getD (i + 1 + 1) 0 ∧ os.getD (i + 1 + 1) 0 ≤ 191
      · rw [if_pos c2, if_pos c2]; rfl
      · rw [if_neg c2, if_neg c2]
    · rw [if_neg c1, if_neg c1]
theorem rd_4 {os : List Int} {i : Nat} {a lo hi : Int} (e : os.getD i 0 = a) (h : rngF a = some [(lo, hi), (128, 191), (128, 191)]) : rdF os i = G4 lo hi os i a := by
  unfold rdF G4
  rw [e, h]
  simp only [contR, List.length_cons, List.length_nil]
  by_cases c : os.length ≤ i + 3
  · rw [if_pos (show os.length ≤ i + (0 + 1 + 1 + 1) by lia), if_pos c]
  · rw [if_neg (show ¬ os.length ≤ i + (0 + 1 + 1 + 1) by lia), if_neg c]
    by_cases c1 : lo ≤ os.getD (i + 1) 0 ∧ os.getD (i + 1) 0 ≤ hi
    · rw [if_pos c1, if_pos c1]
      by_cases c2 : 128 ≤ os.getD (i + 1 + 1) 0 ∧ os.getD (i + 1 + 1) 0 ≤ 191
      · rw [if_pos c2, if_pos c2]
        by_cases c3 : 128 ≤ os.getD (i + 1 + 1 + 1) 0 ∧ os.getD (i + 1 + 1 + 1) 0 ≤ 191
        · rw [if_pos c3, if_pos c3]; rfl
        · rw [if_neg c3, if_neg c3]
      · rw [if_neg c2, if_neg c2]
    · rw [if_neg c1, if_neg c1]
theorem m64 {b : Int} (h : 128 ≤ b ∧ b ≤ 191) : b % 64 = b - 128 := by lia
theorem m32 {b : Int} (h0 : 194 ≤ b) (h1 : b ≤ 223) : b % 32 = b - 192 := by lia
theorem m16 {b : Int} (h0 : 224 ≤ b) (h1 : b ≤ 239) : b % 16 = b - 224 := by lia
theorem m8 {b : Int} (h0 : 240 ≤ b) (h1 : b ≤ 244) : b % 8 = b - 240 := by lia
theorem len_at {n i : Nat} {k : Int} {m : Nat} (hk : k = m) : (n : Int) ≤ (i : Int) + k ↔ n ≤ i + m := by subst hk; omega
theorem at_2 {os : List Int} (h : ∀ o ∈ os, 0 ≤ o ∧ o ≤ 255) {i : Nat} {a : Int} (e : os.getD i 0 = a) (h0 : 194 ≤ a) (h1 : a ≤ 223) : atF os i = if os.length ≤ i + 1 then none else if 128 ≤ os.getD (i + 1) 0 ∧ os.getD (i + 1) 0 ≤ 191 then some (a * 64 + os.getD (i + 1) 0 - 12416, i + 1 + 1) else none := by
  have hb := getD_rng h (i + 1)
  have mb := and_192 hb.1 hb.2
  unfold atF
  rw [e, if_neg (show ¬ a < 128 from fun z => absurd (Int.le_trans h0 (Int.le_of_lt z)) (by decide)), shape1 h0 h1]
  simp only [contF, show Int.toNat 1 = 1 by rfl, bitAnd_m5, bitAnd_m6]
  generalize os.getD (i + 1) 0 = b at *
  by_cases c : os.length ≤ i + 1
  · rw [if_pos c, if_pos ((len_at (k := 1) (m := 1) rfl).mpr c)]
  · rw [if_neg c, if_neg (fun z => c ((len_at (k := 1) (m := 1) rfl).mp z))]
    by_cases c2 : 128 ≤ b ∧ b ≤ 191
    · rw [if_pos c2, if_pos (mb.mpr c2)]
      dsimp only
      rw [m32 h0 h1, m64 c2, show (a - 192) * 64 + (b - 128) = a * 64 + b - 12416 by lia, if_pos (ok_is ⟨by lia, .inl (by lia), by lia⟩)]
    · rw [if_neg c2, if_neg (fun z => c2 (mb.mp z))]
theorem at_3 {os : List Int} (h : ∀ o ∈ os, 0 ≤ o ∧ o ≤ 255) {i : Nat} {a lo hi : Int} (e : os.getD i 0 = a) (h0 : 224 ≤ a) (h1 : a ≤ 239) (hl : 128 ≤ lo) (hh : hi ≤ 191)
    (hok : ∀ b c : Int, (128 ≤ b ∧ b ≤ 191) → (128 ≤ c ∧ c ≤ 191) → okF 2048 ((a * 64 + b) * 64 + c - 925824) = decide (lo ≤ b ∧ b ≤ hi)) : atF os i = G3 lo hi os i a := by
  have hb := getD_rng h (i + 1)
  have mb := and_192 hb.1 hb.2
  have hc := getD_rng h (i + 1 + 1)
  have mc := and_192 hc.1 hc.2
  unfold atF G3
  rw [e, if_neg (show ¬ a < 128 from fun z => absurd (Int.le_trans h0 (Int.le_of_lt z)) (by decide)), shape2 h0 h1]
  simp only [contF, show Int.toNat 2 = 2 by rfl, bitAnd_m4, bitAnd_m6]
  generalize os.getD (i + 1) 0 = b at *
  generalize os.getD (i + 1 + 1) 0 = c at *
  by_cases q : os.length ≤ i + 2
  · rw [if_pos ((len_at (k := 2) (m := 2) rfl).mpr q), if_pos q]
  · rw [if_neg (fun z => q ((len_at (k := 2) (m := 2) rfl).mp z)), if_neg q]
    by_cases q1 : Builtin.bitAnd b 192 = 128
    · have r1 := mb.mp q1
      rw [if_pos q1]
      by_cases q2 : Builtin.bitAnd c 192 = 128
      · have r2 := mc.mp q2
        rw [if_pos q2]
        dsimp only
        rw [m16 h0 h1, m64 r1, m64 r2, show ((a - 224) * 64 + (b - 128)) * 64 + (c - 128) = (a * 64 + b) * 64 + c - 925824 by lia, hok b c r1 r2]
        by_cases q3 : lo ≤ b ∧ b ≤ hi
        · rw [if_pos (decide_eq_true q3), if_pos q3, if_pos r2]
        · rw [if_neg (fun z => q3 (of_decide_eq_true z)), if_neg q3]
      · rw [if_neg q2, if_neg (fun z : 128 ≤ c ∧ c ≤ 191 => q2 (mc.mpr z)), ite_self]
    · rw [if_neg q1, if_neg (fun z : lo ≤ b ∧ b ≤ hi => q1 (mb.mpr ⟨Int.le_trans hl z.1, Int.le_trans z.2 hh⟩))]
theorem at_4 {os : List Int} (h : ∀ o ∈ os, 0 ≤ o ∧ o ≤ 255) {i : Nat} {a lo hi : Int} (e : os.getD i 0 = a) (h0 : 240 ≤ a) (h1 : a ≤ 244) (hl : 128 ≤ lo) (hh : hi ≤ 191)
    (hok : ∀ b c d : Int, (128 ≤ b ∧ b ≤ 191) → (128 ≤ c ∧ c ≤ 191) → (128 ≤ d ∧ d ≤ 191) → okF 65536 (((a * 64 + b) * 64 + c) * 64 + d - 63447168) = decide (lo ≤ b ∧ b ≤ hi)) : atF os i = G4 lo hi os i a := by
  have hb := getD_rng h (i + 1)
  have mb := and_192 hb.1 hb.2
  have hc := getD_rng h (i + 1 + 1)
  have mc := and_192 hc.1 hc.2
  have hd := getD_rng h (i + 1 + 1 + 1)
  have md := and_192 hd.1 hd.2
  unfold atF G4
  rw [e, if_neg (show ¬ a < 128 from fun z => absurd (Int.le_trans h0 (Int.le_of_lt z)) (by decide)), shape3 h0 h1]
  simp only [contF, show Int.toNat 3 = 3 by rfl, bitAnd_m3, bitAnd_m6]
  generalize os.getD (i + 1) 0 = b at *
  generalize os.getD (i + 1 + 1) 0 = c at *
  generalize os.getD (i + 1 + 1 + 1) 0 = d at *
  by_cases q : os.length ≤ i + 3
  · rw [if_pos ((len_at (k := 3) (m := 3) rfl).mpr q), if_pos q]
  · rw [if_neg (fun z => q ((len_at (k := 3) (m := 3) rfl).mp z)), if_neg q]
    by_cases q1 : Builtin.bitAnd b 192 = 128
    · have r1 := mb.mp q1
      rw [if_pos q1]
      by_cases q2 : Builtin.bitAnd c 192 = 128
      · have r2 := mc.mp q2
        rw [if_pos q2]
        by_cases q4 : Builtin.bitAnd d 192 = 128
        · have r4 := md.mp q4
          rw [if_pos q4]
          dsimp only
          rw [m8 h0 h1, m64 r1, m64 r2, m64 r4, show (((a - 240) * 64 + (b - 128)) * 64 + (c - 128)) * 64 + (d - 128) = ((a * 64 + b) * 64 + c) * 64 + d - 63447168 by lia, hok b c d r1 r2 r4]
          by_cases q3 : lo ≤ b ∧ b ≤ hi
          · rw [if_pos (decide_eq_true q3), if_pos q3, if_pos r2, if_pos r4]
          · rw [if_neg (fun z => q3 (of_decide_eq_true z)), if_neg q3]
        · rw [if_neg q4, if_neg (fun z : 128 ≤ d ∧ d ≤ 191 => q4 (md.mpr z)), ite_self, ite_self]
      · rw [if_neg q2, if_neg (fun z : 128 ≤ c ∧ c ≤ 191 => q2 (mc.mpr z)), ite_self]
    · rw [if_neg q1, if_neg (fun z : lo ≤ b ∧ b ≤ hi => q1 (mb.mpr ⟨Int.le_trans hl z.1, Int.le_trans z.2 hh⟩))]
theorem ok_dec {mn p : Int} {q : Prop} [Decidable q] (h1 : q → mn ≤ p ∧ (p < 55296 ∨ 57343 < p) ∧ p ≤ 1114111) (h2 : ¬ q → p < mn ∨ (55296 ≤ p ∧ p ≤ 57343) ∨ 1114111 < p) : okF mn p = decide q := by
  by_cases c : q
  · rw [decide_eq_true c, ok_is (h1 c)]
  · rw [decide_eq_false c, ok_not (h2 c)]
theorem ok_224 (b c : Int) (hb : 128 ≤ b ∧ b ≤ 191) (hc : 128 ≤ c ∧ c ≤ 191) : okF 2048 ((224 * 64 + b) * 64 + c - 925824) = decide (160 ≤ b ∧ b ≤ 191) :=
  ok_dec (fun q => ⟨by lia, .inl (by lia), by lia⟩) fun q => .inl (by lia)
theorem ok_237 (b c : Int) (hb : 128 ≤ b ∧ b ≤ 191) (hc : 128 ≤ c ∧ c ≤ 191) : okF 2048 ((237 * 64 + b) * 64 + c - 925824) = decide (128 ≤ b ∧ b ≤ 159) :=
  ok_dec (fun q => ⟨by lia, .inl (by lia), by lia⟩) fun q => .inr (.inl ⟨by lia, by lia⟩)
theorem ok_lo {a : Int} (h0 : 225 ≤ a) (h1 : a ≤ 236) (b c : Int) (hb : 128 ≤ b ∧ b ≤ 191) (hc : 128 ≤ c ∧ c ≤ 191) : okF 2048 ((a * 64 + b) * 64 + c - 925824) = decide (128 ≤ b ∧ b ≤ 191) :=
  ok_dec (fun q => ⟨by lia, .inl (by lia), by lia⟩) fun q => absurd hb q
theorem ok_hi {a : Int} (h0 : 238 ≤ a) (h1 : a ≤ 239) (b c : Int) (hb : 128 ≤ b ∧ b ≤ 191) (hc : 128 ≤ c ∧ c ≤ 191) : okF 2048 ((a * 64 + b) * 64 + c - 925824) = decide (128 ≤ b ∧ b ≤ 191) :=
  ok_dec (fun q => ⟨by lia, .inr (by lia), by lia⟩) fun q => absurd hb q
theorem ok_240 (b c d : Int) (hb : 128 ≤ b ∧ b ≤ 191) (hc : 128 ≤ c ∧ c ≤ 191) (hd : 128 ≤ d ∧ d ≤ 191) : okF 65536 (((240 * 64 + b) * 64 + c) * 64 + d - 63447168) = decide (144 ≤ b ∧ b ≤ 191) :=
  ok_dec (fun q => ⟨by lia, .inr (by lia), by lia⟩) fun q => .inl (by lia)
theorem ok_244 (b c d : Int) (hb : 128 ≤ b ∧ b ≤ 191) (hc : 128 ≤ c ∧ c ≤ 191) (hd : 128 ≤ d ∧ d ≤ 191) : okF 65536 (((244 * 64 + b) * 64 + c) * 64 + d - 63447168) = decide (128 ≤ b ∧ b ≤ 143) :=
  ok_dec (fun q => ⟨by lia, .inr (by lia), by lia⟩) fun q => .inr (.inr (by lia))
theorem ok_top {a : Int} (h0 : 241 ≤ a) (h1 : a ≤ 243) (b c d : Int) (hb : 128 ≤ b ∧ b ≤ 191) (hc : 128 ≤ c ∧ c ≤ 191) (hd : 128 ≤ d ∧ d ≤ 191) : okF 65536 (((a * 64 + b) * 64 + c) * 64 + d - 63447168) = decide (128 ≤ b ∧ b ≤ 191) :=
  ok_dec (fun q => ⟨by lia, .inr (by lia), by lia⟩) fun q => absurd hb q
theorem beh_none {a : Int} (h : a < 194 ∨ 244 < a) : behF a = none := by
  unfold behF; rw [if_neg (by lia), if_neg (by lia), if_neg (by lia), if_neg (by lia), if_neg (by lia), if_neg (by lia), if_neg (by lia)]
theorem rng_mid {a : Int} (h0 : 224 ≤ a) (h1 : a ≤ 239) (d1 : a ≠ 224) (d2 : a ≠ 237) : rngF a = some [(128, 191), (128, 191)] := by
  unfold rngF behF; rw [if_neg (by lia), if_neg (by lia), if_neg (by lia), if_neg (by lia), if_pos (by lia)]
theorem rng_top {a : Int} (h0 : 241 ≤ a) (h1 : a ≤ 243) : rngF a = some [(128, 191), (128, 191), (128, 191)] := by
  unfold rngF behF; rw [if_neg (by lia), if_neg (by lia), if_neg (by lia), if_neg (by lia), if_neg (by lia), if_neg (by lia), if_neg (by lia), if_pos (by lia)]
theorem lead (a : Int) : (a < 194 ∨ 244 < a) ∨ (194 ≤ a ∧ a ≤ 223) ∨ a = 224 ∨ a = 237 ∨ (225 ≤ a ∧ a ≤ 236) ∨ (238 ≤ a ∧ a ≤ 239) ∨ a = 240 ∨ a = 244 ∨ (241 ≤ a ∧ a ≤ 243) := by
  by_cases h1 : a < 194
  · exact .inl (.inl h1)
  · by_cases h2 : 244 < a
    · exact .inl (.inr h2)
    · by_cases h3 : a ≤ 223
      · exact .inr (.inl ⟨Int.not_lt.mp h1, h3⟩)
      · by_cases h4 : a ≤ 236
        · by_cases h5 : a = 224
          · exact .inr (.inr (.inl h5))
          · exact .inr (.inr (.inr (.inr (.inl ⟨by lia, h4⟩))))
        · by_cases h6 : a ≤ 239
          · by_cases h7 : a = 237
            · exact .inr (.inr (.inr (.inl h7)))
            · exact .inr (.inr (.inr (.inr (.inr (.inl ⟨by lia, h6⟩)))))
          · by_cases h8 : a = 240
            · exact .inr (.inr (.inr (.inr (.inr (.inr (.inl h8))))))
            · by_cases h9 : a = 244
              · exact .inr (.inr (.inr (.inr (.inr (.inr (.inr (.inl h9)))))))
              · exact .inr (.inr (.inr (.inr (.inr (.inr (.inr (.inr ⟨by lia, by lia⟩)))))))
theorem at_rd {os : List Int} (h : ∀ o ∈ os, 0 ≤ o ∧ o ≤ 255) {i : Nat} (hi : i < os.length) : atF os i = rdF os i := by
  generalize ea : os.getD i 0 = a
  by_cases c0 : a < 128
  · unfold atF rdF rngF
    rw [ea, if_pos c0, if_pos c0]
    dsimp only [contR, List.length_nil]
    rw [if_neg (show ¬ os.length ≤ i + 0 from Nat.not_le_of_lt hi)]
    show _ = some (a - 0, i + 1)
    rw [Int.sub_zero]
  · rcases lead a with c1 | ⟨c1, c2⟩ | rfl | rfl | ⟨c1, c2⟩ | ⟨c1, c2⟩ | rfl | rfl | ⟨c1, c2⟩
    · unfold atF rdF rngF
      rw [ea, if_neg c0, if_neg c0, shape0 c1, beh_none c1]
    · rw [at_2 h ea c1 c2, rd_2 ea c1 c2]
    · rw [at_3 h ea (by decide) (by decide) (by decide) (by decide) ok_224, rd_3 ea rfl]
    · rw [at_3 h ea (by decide) (by decide) (by decide) (by decide) ok_237, rd_3 ea rfl]
    · rw [at_3 h ea (by lia) (by lia) (by decide) (by decide) (ok_lo c1 c2), rd_3 ea (rng_mid (by lia) (by lia) (by lia) (by lia))]
    · rw [at_3 h ea (by lia) c2 (by decide) (by decide) (ok_hi c1 c2), rd_3 ea (rng_mid (by lia) c2 (by lia) (by lia))]
    · rw [at_4 h ea (by decide) (by decide) (by decide) (by decide) ok_240, rd_4 ea rfl]
    · rw [at_4 h ea (by decide) (by decide) (by decide) (by decide) ok_244, rd_4 ea rfl]
    · rw [at_4 h ea (by lia) (by lia) (by decide) (by decide) (ok_top c1 c2), rd_4 ea (rng_top c1 c2)]
theorem ptsG_same {f g : Nat → Option (Int × Nat)} {len : Nat} (h : ∀ i, i < len → f i = g i) : ∀ n i, ptsG f len n i = ptsG g len n i
  | 0, _ => rfl
  | n + 1, i => by
    rw [ptsG, ptsG]
    by_cases c : i < len
    · rw [if_pos c, if_pos c, h i c]
      cases g i with
      | none => rfl
      | some p => dsimp only; rw [ptsG_same h n p.2]
    · rw [if_neg c, if_neg c]
theorem pts_read {os : List Int} (h : ∀ o ∈ os, 0 ≤ o ∧ o ≤ 255) : pointsF os = readF os := ptsG_same (fun _ hi => at_rd h hi) _ _
theorem drop_at {os : List Int} {i : Nat} (hi : i < os.length) : os.drop i = os.getD i 0 :: os.drop (i + 1) := by
  rw [List.drop_eq_getElem_cons hi, List.getD_eq_getElem?_getD, List.getElem?_eq_getElem hi, Option.getD_some]
theorem octL_a {n : Int} (h : n < 128) : octL n = [n] := if_pos h
theorem octL_b {n : Int} (h0 : 128 ≤ n) (h1 : n < 2048) : octL n = [192 + n / 64, 128 + n % 64] := by unfold octL; rw [if_neg (by lia), if_pos h1]
theorem octL_c {n : Int} (h0 : 2048 ≤ n) (h1 : n < 65536) : octL n = [224 + n / 4096, 128 + n / 64 % 64, 128 + n % 64] := by unfold octL; rw [if_neg (by lia), if_neg (by lia), if_pos h1]
theorem octL_d {n : Int} (h0 : 65536 ≤ n) : octL n = [240 + n / 262144, 128 + n / 4096 % 64, 128 + n / 64 % 64, 128 + n % 64] := by unfold octL; rw [if_neg (by lia), if_neg (by lia), if_neg (by lia)]
theorem rd_1 {os : List Int} {i : Nat} {a : Int} (hi : i < os.length) (e : os.getD i 0 = a) (h : a < 128) : rdF os i = some (a, i + 1) := by
  unfold rdF rngF
  rw [e, if_pos h]
  dsimp only [contR, List.length_nil]
  rw [if_neg (show ¬ os.length ≤ i + 0 by lia)]
  show some (a - 0, i + 1) = _
  rw [Int.sub_zero]
theorem q64 {t : Int} (x : Int) (ht : 0 ≤ t ∧ t < 64) : (x * 64 + t) / 64 = x := by lia
theorem r64 {t : Int} (x : Int) (ht : 0 ≤ t ∧ t < 64) : (x * 64 + t) % 64 = t := by lia
theorem dv2 (n : Int) : n / 4096 = n / 64 / 64 := (Int.ediv_ediv_of_nonneg (x := n) (y := 64) (z := 64) (by decide)).symm
theorem dv3 (n : Int) : n / 262144 = n / 64 / 64 / 64 := (Int.ediv_ediv_of_nonneg (x := n) (y := 4096) (z := 64) (by decide)).symm.trans (congrArg (· / 64) (dv2 n))
theorem pw3 (q r t : Int) : q * 4096 + r * 64 + t = (q * 64 + r) * 64 + t := by lia
theorem pw4 (p q r t : Int) : p * 262144 + q * 4096 + r * 64 + t = ((p * 64 + q) * 64 + r) * 64 + t := by lia
theorem enc2 {n q t : Int} (e : n = q * 64 + t) (ht : 0 ≤ t ∧ t < 64) (h0 : 128 ≤ n) (h1 : n < 2048) : octL n = [192 + q, 128 + t] := by
  rw [octL_b h0 h1, e, q64 q ht, r64 q ht]
theorem enc3 {n q r t : Int} (e : n = q * 4096 + r * 64 + t) (hr : 0 ≤ r ∧ r < 64) (ht : 0 ≤ t ∧ t < 64) (h0 : 2048 ≤ n) (h1 : n < 65536) : octL n = [224 + q, 128 + r, 128 + t] := by
  rw [octL_c h0 h1, e, dv2, pw3, q64 _ ht, r64 _ ht, q64 _ hr, r64 _ hr]
theorem enc4 {n p q r t : Int} (e : n = p * 262144 + q * 4096 + r * 64 + t) (hq : 0 ≤ q ∧ q < 64) (hr : 0 ≤ r ∧ r < 64) (ht : 0 ≤ t ∧ t < 64) (h0 : 65536 ≤ n) : octL n = [240 + p, 128 + q, 128 + r, 128 + t] := by
  rw [octL_d h0, e, dv3, dv2, pw4, q64 _ ht, r64 _ ht, q64 _ hr, r64 _ hr, q64 _ hq, r64 _ hq]
theorem dig64 (n : Int) : 0 ≤ n % 64 ∧ n % 64 < 64 := ⟨Int.emod_nonneg _ (by decide), Int.emod_lt_of_pos _ (by decide)⟩
theorem dec2 (n : Int) : ∃ q t, n = q * 64 + t ∧ 0 ≤ t ∧ t < 64 := ⟨n / 64, n % 64, by lia, dig64 n⟩
theorem dec3 (n : Int) : ∃ q r t, n = q * 4096 + r * 64 + t ∧ (0 ≤ r ∧ r < 64) ∧ 0 ≤ t ∧ t < 64 := by
  obtain ⟨q, t, rfl, ht⟩ := dec2 n
  obtain ⟨p, r, rfl, hr⟩ := dec2 q
  exact ⟨p, r, t, by lia, hr, ht⟩
theorem dec4 (n : Int) : ∃ p q r t, n = p * 262144 + q * 4096 + r * 64 + t ∧ (0 ≤ q ∧ q < 64) ∧ (0 ≤ r ∧ r < 64) ∧ 0 ≤ t ∧ t < 64 := by
  obtain ⟨q, t, rfl, ht⟩ := dec2 n
  obtain ⟨p, q2, r, rfl, h2, hr⟩ := dec3 q
  exact ⟨p, q2, r, t, by lia, h2, hr, ht⟩
theorem take3 {os : List Int} {i : Nat} (h : ¬ os.length ≤ i + 2) : os.drop i = os.getD i 0 :: os.getD (i + 1) 0 :: os.getD (i + 1 + 1) 0 :: os.drop (i + 1 + 2) := by
  rw [drop_at (by lia), drop_at (by lia), drop_at (by lia)]
theorem take4 {os : List Int} {i : Nat} (h : ¬ os.length ≤ i + 3) : os.drop i = os.getD i 0 :: os.getD (i + 1) 0 :: os.getD (i + 1 + 1) 0 :: os.getD (i + 1 + 1 + 1) 0 :: os.drop (i + 1 + 3) := by
  rw [drop_at (by lia), drop_at (by lia), drop_at (by lia), drop_at (by lia)]
theorem g3_drop {os : List Int} {i j : Nat} {a lo hi q : Int} (ea : os.getD i 0 = a) (h0 : 224 ≤ a) (h1 : a ≤ 239) (hl : 128 ≤ lo) (hh : hi ≤ 191) (h2 : a = 224 → lo = 160) (e : G3 lo hi os i a = some (q, j)) : os.drop i = octL q ++ os.drop j := by
  unfold G3 at e
  split at e
  · cases e
  · rename_i hn
    split at e
    · split at e
      · cases e
        rw [take3 hn, ea]
        generalize os.getD (i + 1) 0 = b at *
        generalize os.getD (i + 1 + 1) 0 = c at *
        rw [enc3 (q := a - 224) (r := b - 128) (t := c - 128) (by lia) (by lia) (by lia) (by lia) (by lia), show 224 + (a - 224) = a by lia, show 128 + (b - 128) = b by lia, show 128 + (c - 128) = c by lia]
        rfl
      · cases e
    · cases e
theorem g4_drop {os : List Int} {i j : Nat} {a lo hi q : Int} (ea : os.getD i 0 = a) (h0 : 240 ≤ a) (hl : 128 ≤ lo) (hh : hi ≤ 191) (h2 : a = 240 → lo = 144) (e : G4 lo hi os i a = some (q, j)) : os.drop i = octL q ++ os.drop j := by
  unfold G4 at e
  split at e
  · cases e
  · rename_i hn
    split at e
    · split at e
      · split at e
        · cases e
          rw [take4 hn, ea]
          generalize os.getD (i + 1) 0 = b at *
          generalize os.getD (i + 1 + 1) 0 = c at *
          generalize os.getD (i + 1 + 1 + 1) 0 = d at *
          rw [enc4 (p := a - 240) (q := b - 128) (r := c - 128) (t := d - 128) (by lia) (by lia) (by lia) (by lia) (by lia), show 240 + (a - 240) = a by lia, show 128 + (b - 128) = b by lia, show 128 + (c - 128) = c by lia, show 128 + (d - 128) = d by lia]
          rfl
        · cases e
      · cases e
    · cases e
theorem rd_drop {os : List Int} {i j : Nat} {q : Int} (hi : i < os.length) (e : rdF os i = some (q, j)) : os.drop i = octL q ++ os.drop j := by
  generalize ea : os.getD i 0 = a
  by_cases c0 : a < 128
  · rw [rd_1 hi ea c0] at e
    cases e
    rw [drop_at hi, ea, octL_a c0]; rfl
  · rcases lead a with c1 | ⟨c1, c2⟩ | rfl | rfl | ⟨c1, c2⟩ | ⟨c1, c2⟩ | rfl | rfl | ⟨c1, c2⟩
    · unfold rdF rngF at e
      rw [ea, if_neg c0, beh_none c1] at e
      cases e
    · rw [rd_2 ea c1 c2] at e
      split at e
      · cases e
      · split at e
        · cases e
          rw [drop_at hi, drop_at (by lia), ea]
          generalize os.getD (i + 1) 0 = b at *
          rw [enc2 (q := a - 192) (t := b - 128) (by lia) (by lia) (by lia) (by lia), show 192 + (a - 192) = a by lia, show 128 + (b - 128) = b by lia]
          rfl
        · cases e
    · rw [rd_3 ea rfl] at e; exact g3_drop ea (by decide) (by decide) (by decide) (by decide) (fun _ => rfl) e
    · rw [rd_3 ea rfl] at e; exact g3_drop ea (by decide) (by decide) (by decide) (by decide) (fun z => absurd z (by decide)) e
    · rw [rd_3 ea (rng_mid (by lia) (by lia) (by lia) (by lia))] at e; exact g3_drop ea (by lia) (by lia) (by decide) (by decide) (fun z => by lia) e
    · rw [rd_3 ea (rng_mid (by lia) c2 (by lia) (by lia))] at e; exact g3_drop ea (by lia) c2 (by decide) (by decide) (fun z => by lia) e
    · rw [rd_4 ea rfl] at e; exact g4_drop ea (by decide) (by decide) (by decide) (fun _ => rfl) e
    · rw [rd_4 ea rfl] at e; exact g4_drop ea (by decide) (by decide) (by decide) (fun z => absurd z (by decide)) e
    · rw [rd_4 ea (rng_top c1 c2)] at e; exact g4_drop ea (by lia) (by decide) (by decide) (fun z => by lia) e
theorem all_drop {os : List Int} : ∀ (n i : Nat) (pts : List Int), i ≤ os.length → os.length < n + i → ptsG (rdF os) os.length n i = some pts → pts.flatMap octL = os.drop i
  | 0, _, _, hi, hn, _ => by lia
  | n + 1, i, pts, hi, hn, e => by
    rw [ptsG] at e
    split at e
    · rename_i hlt
      split at e
      · cases e
      · rename_i q j eq
        obtain ⟨r, hr, rfl⟩ := Option.map_eq_some_iff.mp e
        have st := rdF_gt os i q j hlt eq
        rw [List.flatMap_cons, all_drop n j r st.2 (by lia) hr, ← rd_drop hlt eq]
    · cases e
      rw [List.drop_eq_nil_of_le (by lia)]; rfl
theorem read_drop {os pts : List Int} (e : readF os = some pts) : pts.flatMap octL = os := all_drop _ 0 pts (Nat.zero_le _) (by lia) e
theorem drop_cons {os l : List Int} {i : Nat} {a : Int} (e : os.drop i = a :: l) : os.getD i 0 = a ∧ i < os.length ∧ os.drop (i + 1) = l := by
  have hi : i < os.length := by
    by_cases c : i < os.length
    · exact c
    · rw [List.drop_eq_nil_of_le (by lia)] at e; cases e
  rw [drop_at hi] at e
  exact ⟨(List.cons.inj e).1, hi, (List.cons.inj e).2⟩
theorem rd_oct {os r : List Int} {i : Nat} {n : Int} (e : os.drop i = octL n ++ r) (hs : Scal n) : rdF os i = some (n, i + (octL n).length) ∧ i < os.length ∧ os.drop (i + (octL n).length) = r := by
  unfold Scal at hs
  by_cases c0 : n < 128
  · rw [octL_a c0] at e ⊢
    obtain ⟨e1, l1, d1⟩ := drop_cons e
    exact ⟨rd_1 l1 e1 c0, l1, d1⟩
  · by_cases c1 : n < 2048
    · obtain ⟨q, t, en, ht⟩ := dec2 n
      rw [enc2 en ht (Int.not_lt.mp c0) c1] at e ⊢
      obtain ⟨e1, l1, d1⟩ := drop_cons e
      obtain ⟨e2, l2, d2⟩ := drop_cons d1
      refine ⟨?_, l1, d2⟩
      rw [rd_2 e1 (by lia) (by lia), e2, if_neg (Nat.not_le_of_lt l2), if_pos (by lia), show (192 + q) * 64 + (128 + t) - 12416 = n by lia]
      rfl
    · by_cases c2 : n < 65536
      · obtain ⟨q, r2, t, en, hr, ht⟩ := dec3 n
        rw [enc3 en hr ht (Int.not_lt.mp c1) c2] at e ⊢
        obtain ⟨e1, l1, d1⟩ := drop_cons e
        obtain ⟨e2, l2, d2⟩ := drop_cons d1
        obtain ⟨e3, l3, d3⟩ := drop_cons d2
        refine ⟨?_, l1, d3⟩
        have g : ∀ lo hi, lo ≤ 128 + r2 → 128 + r2 ≤ hi → G3 lo hi os i (224 + q) = some (n, i + 3) := by
          intro lo hi q1 q2
          unfold G3
          rw [e2, e3, if_neg (Nat.not_le_of_lt l3), if_pos ⟨q1, q2⟩, if_pos (by lia), show ((224 + q) * 64 + (128 + r2)) * 64 + (128 + t) - 925824 = n by lia]
        by_cases x1 : 224 + q = 224
        · rw [rd_3 (lo := 160) (hi := 191) e1 (by rw [x1]; rfl)]; exact g _ _ (by lia) (by lia)
        · by_cases x2 : 224 + q = 237
          · rw [rd_3 (lo := 128) (hi := 159) e1 (by rw [x2]; rfl)]; exact g _ _ (by lia) (by lia)
          · rw [rd_3 e1 (rng_mid (by lia) (by lia) x1 x2)]; exact g _ _ (by lia) (by lia)
      · obtain ⟨p, q, r2, t, en, hq, hr, ht⟩ := dec4 n
        rw [enc4 en hq hr ht (Int.not_lt.mp c2)] at e ⊢
        obtain ⟨e1, l1, d1⟩ := drop_cons e
        obtain ⟨e2, l2, d2⟩ := drop_cons d1
        obtain ⟨e3, l3, d3⟩ := drop_cons d2
        obtain ⟨e4, l4, d4⟩ := drop_cons d3
        refine ⟨?_, l1, d4⟩
        have g : ∀ lo hi, lo ≤ 128 + q → 128 + q ≤ hi → G4 lo hi os i (240 + p) = some (n, i + 4) := by
          intro lo hi q1 q2
          unfold G4
          rw [e2, e3, e4, if_neg (Nat.not_le_of_lt l4), if_pos ⟨q1, q2⟩, if_pos (by lia), if_pos (by lia), show (((240 + p) * 64 + (128 + q)) * 64 + (128 + r2)) * 64 + (128 + t) - 63447168 = n by lia]
        by_cases x1 : 240 + p = 240
        · rw [rd_4 (lo := 144) (hi := 191) e1 (by rw [x1]; rfl)]; exact g _ _ (by lia) (by lia)
        · by_cases x2 : 240 + p = 244
          · rw [rd_4 (lo := 128) (hi := 143) e1 (by rw [x2]; rfl)]; exact g _ _ (by lia) (by lia)
          · rw [rd_4 e1 (rng_top (by lia) (by lia))]; exact g _ _ (by lia) (by lia)
theorem rd_not {os r : List Int} {i : Nat} {n : Int} (e : os.drop i = octL n ++ r) (h0 : 0 ≤ n) (h1 : n < 2097152) (hs : ¬ Scal n) : rdF os i = none ∧ i < os.length := by
  unfold Scal at hs
  by_cases c2 : n < 65536
  · obtain ⟨q, r2, t, en, hr, ht⟩ := dec3 n
    rw [enc3 en hr ht (by lia) c2] at e
    obtain ⟨e1, l1, d1⟩ := drop_cons e
    obtain ⟨e2, l2, d2⟩ := drop_cons d1
    refine ⟨?_, l1⟩
    rw [rd_3 (lo := 128) (hi := 159) e1 (by rw [show 224 + q = 237 by lia]; rfl)]
    unfold G3
    rw [e2, if_neg (show ¬ (128 ≤ 128 + r2 ∧ 128 + r2 ≤ 159) by lia), ite_self]
  · obtain ⟨p, q, r2, t, en, hq, hr, ht⟩ := dec4 n
    rw [enc4 en hq hr ht (Int.not_lt.mp c2)] at e
    obtain ⟨e1, l1, d1⟩ := drop_cons e
    obtain ⟨e2, l2, d2⟩ := drop_cons d1
    refine ⟨?_, l1⟩
    by_cases x2 : 240 + p = 244
    · rw [rd_4 (lo := 128) (hi := 143) e1 (by rw [x2]; rfl)]
      unfold G4
      rw [e2, if_neg (show ¬ (128 ≤ 128 + q ∧ 128 + q ≤ 143) by lia), ite_self]
    · unfold rdF rngF
      rw [e1, if_neg (by lia), beh_none (by lia)]
theorem scal_iff {n : Int} (h0 : 0 ≤ n) : scalarF n = true ↔ Scal n := by
  unfold scalarF Scal
  simp only [Bool.or_eq_true, Bool.and_eq_true, decide_eq_true_eq]; omega
theorem all_oct {os : List Int} : ∀ (ns : List Int) (k i : Nat), (∀ n ∈ ns, 0 ≤ n ∧ n < 2097152) → os.length < k + i → os.drop i = ns.flatMap octL → ptsG (rdF os) os.length k i = if ns.all scalarF then some ns else none
  | [], k, i, _, hk, e => by
    have hi : ¬ i < os.length := fun hi => by rw [drop_at hi] at e; cases e
    cases k with
    | zero => rfl
    | succ k => rw [ptsG, if_neg hi]; rfl
  | n :: r, 0, i, h, hk, e => by
    exfalso
    rw [List.drop_eq_nil_of_le (by lia), List.flatMap_cons] at e
    have h1 := (octL_len n).1
    have h2 := congrArg List.length e
    rw [List.length_nil, List.length_append] at h2
    omega
  | n :: r, k + 1, i, h, hk, e => by
    rw [List.flatMap_cons] at e
    have hn := h n (.head _)
    by_cases c : Scal n
    · obtain ⟨e1, l1, d1⟩ := rd_oct e c
      have := (octL_len n).1
      rw [ptsG, if_pos l1, e1]
      dsimp only
      rw [all_oct r k _ (fun m hm => h m (.tail _ hm)) (by lia) d1, List.all_cons, (scal_iff hn.1).mpr c, Bool.true_and]
      split <;> rfl
    · obtain ⟨e1, l1⟩ := rd_not e hn.1 hn.2 c
      have f : scalarF n = false := by
        cases q : scalarF n with
        | false => rfl
        | true => exact absurd ((scal_iff hn.1).mp q) c
      rw [ptsG, if_pos l1, e1, List.all_cons, f, Bool.false_and]
      rfl
theorem read_all {ns : List Int} (h : ∀ n ∈ ns, 0 ≤ n ∧ n < 2097152) : readF (ns.flatMap octL) = if ns.all scalarF then some ns else none := all_oct ns _ 0 h (by lia) rfl
theorem text_pts {os pts : List Int} (h : ∀ o ∈ os, 0 ≤ o ∧ o ≤ 255) (e : readF os = some pts) : textF pts = os := by
  have hs : ∀ p ∈ pts, Scal p := by
    refine ptsG_all (fun i q j hi he => ?_) _ _ _ (show pointsF os = some pts by rw [pts_read h]; exact e)
    exact atF_scal (fun o ho => (h o ho).1) hi he
  rw [text_oct (fun p hp => by have := hs p hp; unfold Scal at this; omega)]
  exact read_drop e
theorem oct_all {ns : List Int} (h : ∀ n ∈ ns, 0 ≤ n ∧ n < 2097152) : ∀ o ∈ ns.flatMap octL, 0 ≤ o ∧ o ≤ 255 := by
  intro o ho
  obtain ⟨n, hn, ho⟩ := List.mem_flatMap.mp ho
  exact octL_rng (h n hn).1 (h n hn).2 o ho
theorem scal_rng {pts : List Int} (h : ∀ p ∈ pts, Scal p) : ∀ p ∈ pts, 0 ≤ p ∧ p < 2097152 := fun p hp => by have := h p hp; unfold Scal at this; omega
theorem pts_oct {ns : List Int} (h : ∀ n ∈ ns, Scal n) : pointsF (ns.flatMap octL) = some ns := by
  rw [pts_read (oct_all (scal_rng h)), read_all (scal_rng h), if_pos (List.all_eq_true.mpr fun n hn => (scal_iff (scal_rng h n hn).1).mpr (h n hn))]
theorem pts_good {ns : List Int} (h : ∀ n ∈ ns, 0 ≤ n ∧ n < 2097152) (e : ns.filter scalarF = ns) : pointsF (ns.flatMap octL) = some ns := by
  rw [pts_read (oct_all h), read_all h, if_pos (List.all_eq_true.mpr (List.filter_eq_self.mp e))]
theorem pts_bad {ns : List Int} (h : ∀ n ∈ ns, 0 ≤ n ∧ n < 2097152) (e : ns.filter scalarF ≠ ns) : pointsF (ns.flatMap octL) = none := by
  rw [pts_read (oct_all h), read_all h, if_neg (fun z => e (List.filter_eq_self.mpr (List.all_eq_true.mp z)))]
theorem str_len (os : List Int) : (strOf os).length = os.length := by show (os.map Int.toNat).toArray.size = _; simp
theorem os_str {os : List Int} (h : ∀ o ∈ os, 0 ≤ o ∧ o ≤ 255) : osOf (strOf os) = os := by
  unfold osOf strOf
  show ((os.map Int.toNat).toArray.toList).map (fun (n : Nat) => (n : Int)) = os
  rw [List.toList_toArray, List.map_map]
  induction os with
  | nil => rfl
  | cons a r ih =>
    rw [List.map_cons, ih fun o ho => h o (.tail _ ho)]
    have := (h a (.head _)).1
    show ((a.toNat : Int)) :: r = _
    rw [Int.toNat_of_nonneg this]
theorem pts_str {os : List Int} (h : ∀ o ∈ os, 0 ≤ o ∧ o ≤ 255) : pointsF (osOf (strOf os)) = readF os := by rw [os_str h, pts_read h]
theorem read_rng {os pts : List Int} (h : ∀ o ∈ os, 0 ≤ o ∧ o ≤ 255) (e : readF os = some pts) : ∀ p ∈ pts, Scal p := by
  rw [← pts_str h] at e; exact pts_scal e
theorem read_len {os pts : List Int} (h : ∀ o ∈ os, 0 ≤ o ∧ o ≤ 255) (e : readF os = some pts) : pts.length ≤ os.length := by
  rw [← pts_str h] at e; have := pts_len e; rw [str_len] at this; exact this
theorem read_oct {ns : List Int} (h : ∀ n ∈ ns, Scal n) : readF (ns.flatMap octL) = some ns := by
  rw [← pts_read (oct_all (scal_rng h)), pts_oct h]
theorem hexd_lt (k : Int) : hexd k < 1114112 := by
  unfold hexd
  generalize k.toNat = i
  have hs : (Str.ofString "0123456789abcdef").cps.size = 16 := by decide +kernel
  have h : ∀ j : Fin 16, (Str.ofString "0123456789abcdef").cps.getD j.val 0 < 1114112 := by decide +kernel
  by_cases c : i < 16
  · exact h ⟨i, c⟩
  · rw [Array.getD_eq_getD_getElem?, Array.getElem?_eq_none (by omega)]; decide
theorem unitL_lt (n : Int) : ∀ c ∈ unitL n, c < 1114112 := by
  unfold unitL digs
  simp only [List.cons_append, List.nil_append, List.forall_mem_cons]
  exact ⟨by decide, by decide, hexd_lt _, hexd_lt _, hexd_lt _, hexd_lt _, fun _ h => nomatch h⟩
theorem shortN_lt {p : Int} (h0 : p < 1114112) : shortN p < 1114112 := by
  unfold shortN; repeat' split
  all_goals omega
theorem lesc_lt {f p : Int} (h : Scal p) : ∀ c ∈ lescF f p, c < 1114112 := by
  unfold Scal at h
  unfold lescF
  split
  · simp only [List.forall_mem_cons]; exact ⟨by decide, shortN_lt h.2.1, fun _ h => nomatch h⟩
  · split
    · split
      · decide
      · decide
    · split
      · simp only [List.forall_mem_cons]; exact ⟨by omega, fun _ h => nomatch h⟩
      · split
        · intro c hc
          obtain ⟨o, ho, rfl⟩ := List.mem_map.mp hc
          have := octL_rng h.1 (by omega) o ho
          omega
        · split
          · exact unitL_lt _
          · intro c hc
            rcases List.mem_append.mp hc with hc | hc
            · exact unitL_lt _ c hc
            · exact unitL_lt _ c hc
theorem tx_ok {l : List Nat} (h : ∀ c ∈ l, c < 1114112) : PyData.strOk (tx l) = true := by
  unfold PyData.strOk tx
  rw [List.all_toArray, List.all_eq_true]
  exact fun c hc => decide_eq_true (h c hc)
theorem ljson_ok {f : Int} {ps : Option (List Int)} (h : ∀ l, ps = some l → ∀ p ∈ l, Scal p) : PyData.strOk (tx (ljsonF f ps).2) = true := by
  refine tx_ok ?_
  cases ps with
  | none => unfold ljsonF; dsimp only; split <;> decide
  | some l =>
    unfold ljsonF; dsimp only
    intro c hc
    rcases List.mem_append.mp hc with hc | hc
    · rcases List.mem_cons.mp hc with rfl | hc
      · decide
      · obtain ⟨p, hp, hc⟩ := List.mem_flatMap.mp hc
        exact lesc_lt (h l rfl p hp) c hc
    · rw [List.mem_singleton.mp hc]; decide
section
variable {prog : Program} {w : World} {A : Around} {E : Value → Shared → Prop} {s : Shared} {h₀ : Heap} {L : Addr}
theorem eq_tup {d e : Addr} {c : Int} {x : Str} {t1 t2 t3 t4 : Tok} {news : List (Addr × Obj)} {Q : Value → Shared → Prop} (N : News h₀ L s.heap news) (h1 : (d, tupO [.int c t1, .str x t2]) ∈ news) (h2 : (e, tupO [.int c t3, .str x t4]) ∈ news)
    (hx : PyData.strOk x = true) (hu : A.units + 64 < cLine) (h : Q (.bool true) s) : wpAny (model prog w) A (compareOp .Eq (.ref d) (.ref e)) Q E s := by
  have sh : PySem.SeqAt.shaped (.tuple [.int c, .str x]) = true := by
    unfold PySem.SeqAt.shaped
    simp [PyData.canLay0, PyData.canLayAll0, PyData.depth, PyData.depthAll, hx]
  refine eq_dataH (reads_tuple_at (N.get h1) rfl rfl (.cons (.int _ _) (.cons (.str _ _) .nil))) (reads_tuple_at (N.get h2) rfl rfl (.cons (.int _ _) (.cons (.str _ _) .nil))) sh sh hu ?_
  rw [show PyData.eqv (.tuple [.int c, .str x]) (.tuple [.int c, .str x]) = true by simp [PyData.eqv, PyData.eqvAll]]
  exact h
end
noncomputable def PV (news : List (Addr × Obj)) (pv : Value) (ps : Option (List Int)) : Prop := (pv = .none ∧ ps = none) ∨ ∃ l vs nn pts, pv = .ref l ∧ (l, listOf (vs : List Value).toArray nn) ∈ news ∧ IntsAre vs pts ∧ pts.length ≤ 200 ∧ (∀ p ∈ pts, Scal p) ∧ ps = some pts
theorem PV.more {news nw : List (Addr × Obj)} {pv : Value} {ps : Option (List Int)} (h : PV news pv ps) (hs : ∀ p ∈ news, p ∈ nw) : PV nw pv ps := by
  rcases h with h | ⟨l, vs, nn, pts, a, b, c⟩
  · exact .inl h
  · exact .inr ⟨l, vs, nn, pts, a, hs _ b, c⟩
theorem ljson_v (news : List (Addr × Obj)) (pv : Value) (ps : Option (List Int)) (f : Int) (tf : Tok) (hv : PV news pv ps) (hf : 0 ≤ f) (hf2 : f < 1024) : Con 706 9 news [pv, .int f tf] (RJ (ljsonF f ps) news) := by
  rcases hv with ⟨rfl, rfl⟩ | ⟨l, vs, nn, pts, rfl, hl, hi, hn, hr, rfl⟩
  · exact ljson_n_t news f tf hf hf2
  · exact ljson_t news l vs nn pts f tf hl hi hn hr hf hf2
theorem rows_25 : True := by
  (k_with "call ref!" => (k_here; k_dflt (refine' ConW.use (jtext_t _ _ _ _ _ _ _ _ ?m1) ?k1 ?k2 ?k3 ?k4 ?k5 ?kK ?kd ?ku ?_; walk_at "my_con"; (case m1 => walk_at "my_om"); walk_at "i_rj")))
  (k_with "call ref!" => (k_here; k_dflt (refine' Con.use (read_t _ _ _ _ _ ?m1 ?m2 ?m3) ?k1 ?k2 ?k3 ?k4 ?k5 ?kK ?kd ?ku ?_; walk_at "my_con"; (case m1 => walk_at "my_mem"); (case m2 => walk_at "my_ints"); (case m3 => walk_at "my_om"); walk_at "i_pts")))
  (k_with "call ref!" => (k_here; k_dflt (refine' ConW.use (host_t _ _ _) ?k1 ?k2 ?k3 ?k4 ?k5 ?kK ?kd ?ku ?_; walk_at "my_con"; walk_at "i_host")))
  (k_with "i_host!" => (intro r9 nw9 h9 tk9 R9 F9 N9; subst R9; (all_goals ((try dsimp only); (try k_fold)))))
  (k_with "call ref!" => (k_here; k_dflt (refine' Con.use (ljson_v _ _ _ _ _ ?m1 ?m2 ?m3) ?k1 ?k2 ?k3 ?k4 ?k5 ?kK ?kd ?ku ?_; walk_at "my_con"; (case m1 => exact PV.more (by assumption) (by exact fun p hp => by walk_at "my_mem")); (case m2 | m3 => omega); walk_at "i_ljson")))
  (k_with "i_ljson!" => (intro r9 nw9 h9 tk9 R9 F9 N9; obtain ⟨dl, tl1, tl2, e8, e7, ll⟩ := R9; subst e8 e7; (try k_lt ll); (all_goals ((try dsimp only); (try k_fold)))))
  (k_with "call ref!" => (k_here; k_dflt (refine' Con.use (piece_t _ _ _ _) ?k1 ?k2 ?k3 ?k4 ?k5 ?kK ?kd ?ku ?_; walk_at "my_con"; walk_at "i_piece")))
  (k_with "i_piece!" => (intro r9 nw9 h9 tk9 R9 F9 N9; obtain ⟨d9, l9, vs9, nn9, os9, v9, e8, e7, i9, ⟨⟨ol1, ol2, or9⟩, pv9⟩, ne9, f1, f2⟩ := R9; subst e8 e7; (try simp only [List.cons_append, List.nil_append, LCg.Off1, and_true] at f1 f2); (all_goals ((try dsimp only); (try k_fold)))))
  trivial
theorem kfill9 (w : World) (h : Heap) : (fr.heap_1 w.params).In h → model PySem.Challenge.rw_ov0010_01.row.prog w = model PySem.Challenge.rw_ov0010_01.row.prog w := by
  k_fill
  intro _; rfl
theorem rows_26 : True := by
  (k_with "Nxt!" => (refine ⟨rfl, ?_⟩; dsimp only [Blk]; (try k_fold)))
  (k_with "CutS!" => refine Stop.out ?_)
  trivial

noncomputable def LawInv (wh : Bool) (i : Nat) (os ns : List Int) : Prop := os.length ≤ 4 * i ∧ ns.length ≤ i ∧ (∀ o ∈ os, 0 ≤ o ∧ o ≤ 255) ∧ (∀ n ∈ ns, 0 ≤ n ∧ n < 2097152) ∧ (wh = true → os = ns.flatMap octL ∧ ∀ n ∈ ns, Scal n)
theorem rows_27 : True := by
  (k_with "binaryOp Add ref ref!" => (k_here; (with_reducible show wpAny _ _ (binaryOp _ (Value.ref _) (Value.ref _)) _ _ _); k_dflt (refine' kmk_add_ints ?Fz9 ?Nz9 ?az9 ?bz9 ?iz9 ?jz9 ?_ ?zz9; (case Fz9 | Nz9 => k_asm); (case az9 | bz9 => exact News.isList (by k_asm) (by walk_at "my_mem")); (case iz9 | jz9 => assumption); (case zz9 => rw [sizeLine_eq]; omega)); intro D' ws' h' F' N' l1 hI'; (try k_lt l1); (try k_sweep)))
  (k_with "call builtin:list.extend!" => (k_here; k_dflt (first | (refine' ext_some ?Fz9 ?Nz9 ?bz9 ?Uz9 ?dz9 ?_; (case Fz9 | Nz9 => k_asm); (case bz9 => walk_at "my_mem"); (case Uz9 => k_upd); (case dz9 => omega)) | (refine' ext_nil ?Fz9 ?Nz9 ?bz9 ?Uz9 ?dz9 ?_; (case Fz9 | Nz9 => k_asm); (case bz9 => walk_at "my_mem"); (case Uz9 => k_upd); (case dz9 => omega))); intro h' F' N'; (try k_sweep)))
  (k_with "my_same!" => (first | ((rename readF _ = _ => eR); rw [hlaw, eR] at e9; cases e9) | ((rename pointsF _ = _ => eP); rw [hlaw, e9] at eP; cases eP)))
  (k_with "my_rng!" => exact scal_rng (read_rng hos (by assumption)))
  (k_with "my_len!" => exact Nat.le_trans (read_len hos (by assumption)) (by omega))
  (k_with "my_text!" => first | rw [text_oct hnr] | rw [text_pts hos (by assumption)])
  (k_with "eval ListComp!" => (k_here; k_dflt (refine comp_two (F₀ := by k_asm) (by with_unfolding_all rfl) (by decide) (by rfl) (by decide) (by rfl) (by rfl) (by decide) ?_)))
  (k_with "compareOp Eq ref ref!" => (k_here; rw [hjs] at N9; k_dflt (refine' eq_tup N9 ?q1 ?q2 ?q3 ?q4 ?_; (case q1 | q2 => walk_at "my_mem"); (case q3 => exact hok9); (case q4 => walk_at "my_units"))))
  (k_with "isTrue Compare!" => (k_here; have _ := cmk9; (fail_if_success (with_reducible show wpAny _ _ _ (CutV _ _ _ _ _) _ _)); refine Stop.out ?_))
  (k_with "CutV!" => refine Stop.out ?_)
  (k_with "CompSrcT!" => refine Stop.out ?_)
  (k_with "exec Assign cons ListComp!" => (k_here; k_dflt (refine LCt.Assign_ListComp_T (F₀ := by k_asm) (by rfl) (by with_unfolding_all rfl) (by with_unfolding_all rfl) (by decide) (by rfl) (by decide) (by rfl) (by rfl) (by rfl) ?_)))
  (k_with "Src2!" => refine Stop.out ?_)
  trivial

theorem linv_mono {wh : Bool} {i j : Nat} {os ns : List Int} (h : LawInv wh i os ns) (hij : i ≤ j) : LawInv wh j os ns := ⟨by have := h.1; omega, by have := h.2.1; omega, h.2.2⟩
noncomputable def PtsV (extra : List (Addr × Obj)) (pv : Value) (ps : Option (List Int)) : Prop := (pv = .none ∧ ps = none ∧ extra = []) ∨ ∃ l vs nn pts, pv = .ref l ∧ extra = [(l, listOf vs.toArray nn)] ∧ IntsAre vs pts ∧ ps = some pts
theorem linv_none {wh : Bool} {i : Nat} {os ns os9 : List Int} (h : LawInv wh i os ns) (hw : wh = false) (hl : os9.length ≤ 4) (hr : ∀ o ∈ os9, 0 ≤ o ∧ o ≤ 255) : LawInv wh (i + 1) (os ++ os9) ns := by
  refine ⟨by rw [List.length_append]; have := h.1; omega, by have := h.2.1; omega, fun o ho => ?_, h.2.2.2.1, fun e => by rw [hw] at e; cases e⟩
  rcases List.mem_append.mp ho with ho | ho
  · exact h.2.2.1 o ho
  · exact hr o ho
theorem linv_some {wh : Bool} {i : Nat} {os ns : List Int} {n : Int} (h : LawInv wh i os ns) (h0 : 0 ≤ n) (h1 : n < 2097152) (hs : wh = true → Scal n) : LawInv wh (i + 1) (os ++ octL n) (ns ++ [n]) := by
  refine ⟨by rw [List.length_append]; have := h.1; have := (octL_len n).2; omega, by rw [List.length_append, List.length_singleton]; have := h.2.1; omega, fun o ho => ?_, fun m hm => ?_, fun e => ⟨?_, fun m hm => ?_⟩⟩
  · rcases List.mem_append.mp ho with ho | ho
    · exact h.2.2.1 o ho
    · exact octL_rng h0 h1 o ho
  · rcases List.mem_append.mp hm with hm | hm
    · exact h.2.2.2.1 m hm
    · rw [List.mem_singleton.mp hm]; exact ⟨h0, h1⟩
  · rw [List.flatMap_append, ← (h.2.2.2.2 e).1, List.flatMap_cons, List.flatMap_nil, List.append_nil]
  · rcases List.mem_append.mp hm with hm | hm
    · exact (h.2.2.2.2 e).2 m hm
    · rw [List.mem_singleton.mp hm]; exact hs e
theorem own_re {own : List (Addr × Obj)} {a b n l : Addr} (h : OwnOff own [a, b, n]) (hl : ∀ p ∈ own, p.1 < l) : OwnOff own [a, l, n] := by
  intro p hp x hx
  rcases List.mem_cons.mp hx with rfl | hx
  · exact h p hp _ (.head _)
  · rcases List.mem_cons.mp hx with rfl | hx
    · exact Nat.ne_of_lt (hl p hp)
    · exact h p hp x (.tail _ (.tail _ hx))
theorem octs_len : ∀ ns : List Int, (ns.flatMap octL).length ≤ 4 * ns.length
  | [] => Nat.zero_le _
  | n :: r => by rw [List.flatMap_cons, List.length_append, List.length_cons]; have := octs_len r; have := (octL_len n).2; omega
theorem mem_rot3 {α : Type} {a b c d : α} {l : List α} : ∀ p ∈ a :: b :: c :: d :: l, p ∈ d :: a :: b :: c :: l := by
  intro p hp
  rcases List.mem_cons.mp hp with rfl | hp
  · exact .tail _ (.head _)
  · rcases List.mem_cons.mp hp with rfl | hp
    · exact .tail _ (.tail _ (.head _))
    · rcases List.mem_cons.mp hp with rfl | hp
      · exact .tail _ (.tail _ (.tail _ (.head _)))
      · rcases List.mem_cons.mp hp with rfl | hp
        · exact .head _
        · exact .tail _ (.tail _ (.tail _ (.tail _ hp)))
structure LawSt where
  oA : Addr
  ovs : List Value
  onn : Nat
  os : List Int
  nvs : List Value
  nnn : Nat
  ns : List Int
theorem rows_28 : True := by
  (k_with "exec For Name Subscript cons nil!" => (k_here; (rename Fr _ _ _ _ => lF'); (with_unfolding_all refine' For_invVF lF' ?k1z9 ?k2z9 ?_; (case k1z9 | k2z9 => exact rfl); k_whole)))
  trivial
theorem hdT.tw2524514887380091968 : True := trivial
theorem hdT.tw2264310253170993280 : True := trivial
theorem hdT.tw6381563940363135200 : True := trivial
theorem hdT.tw3953179481644070144 : True := trivial
theorem hdT.tw8050950827777398048 : True := trivial
theorem hdT.tw5755368545809505600 : True := trivial
theorem hdT.tw15983779588726612320 : True := trivial
theorem hdT.tw3437907633828208000 : True := trivial
theorem hdT.tw355996382856560000 : True := trivial
theorem hdT.tw3232902566179762624 : True := trivial
theorem hdT.tw9626081196716337632 : True := trivial
theorem hdT.tw1016409337160901120 : True := trivial
theorem hdT.tw2956658484386022912 : True := trivial
theorem hdT.tw15997896964119252480 : True := trivial
theorem hdT.tw2141031780377652736 : True := trivial
theorem hdT.tw14550229436542405152 : True := trivial
theorem hdT.tw4473644792770490912 : True := trivial
theorem hdT.tw15363033733867052640 : True := trivial
theorem hdT.tw2332166447756793472 : True := trivial
theorem hdT.tw13135032373196411520 : True := trivial
theorem hdT.tw5151078855888670336 : True := trivial
theorem hdT.tw12097059370169897664 : True := trivial
theorem hdT.tw8503660711936515776 : True := trivial
theorem hdT.tw13943718228407289568 : True := trivial
theorem hdT.tw7949111435810904832 : True := trivial
theorem hdT.tw18146764690948789024 : True := trivial
theorem hdT.tw6454614446495489824 : True := trivial
theorem hdT.tw11459261865374864192 : True := trivial
theorem hdT.tw13102114777984284480 : True := trivial
theorem hdT.tw3523916434977887104 : True := trivial
theorem hdT.tw12823683342366667648 : True := trivial
theorem hdT.tw6646879331855590304 : True := trivial
theorem hdT.tw3519013304060778432 : True := trivial
theorem hdT.tw12351822775331109856 : True := trivial
theorem hdT.tw14081329003077593056 : True := trivial
theorem hdT.tw15617995345080321057 : True := trivial
theorem hdT.tw13711046040431484001 : True := trivial
theorem hdT.tw3305749480084898945 : True := trivial
theorem hdT.tw9462271027950759041 : True := trivial
theorem hdT.tw9068879478100896929 : True := trivial
theorem hdT.tw11427050489749338305 : True := trivial
theorem hdT.tw8125986697966438625 : True := trivial
theorem hdT.tw16358887474051182817 : True := trivial
theorem hdT.tw9063316141770240257 : True := trivial
theorem hdT.tw4306564808082017633 : True := trivial
theorem hdT.tw6620875393786368385 : True := trivial
theorem hdT.tw9571535370773033377 : True := trivial
theorem hdT.tw12420876592445741537 : True := trivial
theorem hdT.tw17078586683851555393 : True := trivial
theorem hdT.tw16948914098618018369 : True := trivial
theorem hdT.tw1743478796703445569 : True := trivial
theorem hdT.tw5074628755499229793 : True := trivial
theorem hdT.tw14441849217696572001 : True := trivial
theorem hdT.tw2315787472201323137 : True := trivial
theorem hdT.tw15573197441692842753 : True := trivial
theorem hdT.tw10515750818216680289 : True := trivial
theorem hdT.tw12669503823874496449 : True := trivial
theorem hdT.tw9383755259358098369 : True := trivial
theorem hdT.tw14596787741471266818 : True := trivial
theorem hdT.tw15649314382953645090 : True := trivial
theorem hdT.tw3546582400588944418 : True := trivial
theorem hdT.tw8027916372720486466 : True := trivial
theorem hdT.tw2921489290202636354 : True := trivial
theorem hdT.tw5100337038175710370 : True := trivial
theorem hdT.tw8058740734964580546 : True := trivial
theorem hdT.tw7475871208913492162 : True := trivial
theorem hdT.tw15245239720828614882 : True := trivial
theorem hdT.tw16661676742480009506 : True := trivial
theorem hdT.tw13204161976637456802 : True := trivial
theorem hdT.tw15338273020528510402 : True := trivial
theorem hdT.tw8248988724413977058 : True := trivial
theorem hdT.tw8326316056751524354 : True := trivial
theorem hdT.tw14239289350908617314 : True := trivial
theorem hdT.tw3847893416258255458 : True := trivial
theorem hdT.tw3837135630182166146 : True := trivial
theorem hdT.tw18329903030470619778 : True := trivial
theorem hdT.tw5409318470822155906 : True := trivial
theorem hdT.tw9311056039789755042 : True := trivial
theorem hdT.tw13572087799763237570 : True := trivial
theorem hdT.tw5604596863259938530 : True := trivial
theorem hdT.tw14689110479457818338 : True := trivial
theorem hdT.tw5055731070195491554 : True := trivial
theorem hdT.tw1566920424647158498 : True := trivial
theorem hdT.tw6712877469516756738 : True := trivial
theorem hdT.tw6500145776929650466 : True := trivial
theorem hdT.tw8218680328573768610 : True := trivial
theorem hdT.tw4284608214837042114 : True := trivial
theorem hdT.tw2657588340156428226 : True := trivial
theorem hdT.tw8845853409719386050 : True := trivial
theorem hdT.tw5607320358360422370 : True := trivial
theorem hdT.tw14855939166130383842 : True := trivial
theorem hdT.tw12981684361872513027 : True := trivial
theorem hdT.tw5856148982977898499 : True := trivial
theorem hdT.tw1469108666565013507 : True := trivial
theorem hdT.tw5259499215298897955 : True := trivial
theorem hdT.tw10775545438231040131 : True := trivial
theorem hdT.tw16987890369639669891 : True := trivial
theorem hdT.tw4117183145614516387 : True := trivial
theorem hdT.tw10937101298365751459 : True := trivial
theorem hdT.tw2630498254398583971 : True := trivial
theorem hdT.tw6340907260889010371 : True := trivial
theorem hdT.tw14646731528478996707 : True := trivial
theorem hdT.tw8179496250600685827 : True := trivial
theorem hdT.tw103841106966163747 : True := trivial
theorem hdT.tw15781415185009098019 : True := trivial
theorem hdT.tw7634598030205468963 : True := trivial
theorem hdT.tw3493307492934057283 : True := trivial
theorem hdT.tw17615970304678335875 : True := trivial
theorem hdT.tw9100184902824156547 : True := trivial
theorem hdT.tw14978029401855857091 : True := trivial
theorem hdT.tw16395373911868539363 : True := trivial
theorem hdT.tw7357894038608555523 : True := trivial
theorem hdT.tw13716554771327204899 : True := trivial
theorem hdT.tw9389196833010162243 : True := trivial
theorem hdT.tw5929152466802282115 : True := trivial
theorem hdT.tw9990210928843065123 : True := trivial
theorem hdT.tw7039955194728326051 : True := trivial
theorem hdT.tw7760847729004739588 : True := trivial
theorem hdT.tw12942645491533211748 : True := trivial
theorem hdT.tw13218149750968122468 : True := trivial
theorem hdT.tw16679067981958320292 : True := trivial
theorem hdT.tw11757530532557608132 : True := trivial
theorem hdT.tw11438849694878761156 : True := trivial
theorem hdT.tw17603631647825564964 : True := trivial
theorem hdT.tw5260378216028650820 : True := trivial
theorem hdT.tw9160942786681829764 : True := trivial
theorem hdT.tw5798720885741911428 : True := trivial
theorem hdT.tw17484115831290457604 : True := trivial
theorem hdT.tw15260663562296954404 : True := trivial
theorem hdT.tw14384018857657548324 : True := trivial
theorem hdT.tw1282731619024302628 : True := trivial
theorem hdT.tw1432046594818976388 : True := trivial
theorem hdT.tw12332239120535128740 : True := trivial
theorem hdT.tw2110733675783530212 : True := trivial
theorem hdT.tw9095357839185793764 : True := trivial
theorem hdT.tw3794940417139765988 : True := trivial
theorem hdT.tw3521704421116752708 : True := trivial
theorem hdT.tw10619363654360093604 : True := trivial
theorem hdT.tw17008556930567598020 : True := trivial
theorem hdT.tw3588971163530525636 : True := trivial
theorem hdT.tw1959391839168329765 : True := trivial
theorem hdT.tw1572057145254206533 : True := trivial
theorem hdT.tw10036917896950967397 : True := trivial
theorem hdT.tw2500981849052796069 : True := trivial
theorem hdT.tw5691128966781905093 : True := trivial
theorem hdT.tw1075420501288489189 : True := trivial
theorem hdT.tw2195608335200427237 : True := trivial
theorem hdT.tw3282193913366300933 : True := trivial
theorem hdT.tw15089131379500936453 : True := trivial
theorem hdT.tw8937378945868886277 : True := trivial
theorem hdT.tw16108318809565218085 : True := trivial
theorem hdT.tw15276534085303339301 : True := trivial
theorem hdT.tw11589766111040825669 : True := trivial
theorem hdT.tw13965410898340613445 : True := trivial
theorem hdT.tw18403864235283672485 : True := trivial
theorem hdT.tw6425414900942841285 : True := trivial
theorem hdT.tw708045295726102117 : True := trivial
theorem hdT.tw4826709780904878789 : True := trivial
theorem hdT.tw13329559452079177445 : True := trivial
theorem hdT.tw8088496495341888229 : True := trivial
theorem hdT.tw12807591335219599141 : True := trivial
theorem hdT.tw11747024902356852549 : True := trivial
theorem hdT.tw1015662721845049221 : True := trivial
theorem hdT.tw17155855487621836709 : True := trivial
theorem hdT.tw4383407420157449125 : True := trivial
theorem hdT.tw15786061811284279205 : True := trivial
theorem hdT.tw5789553496708623366 : True := trivial
theorem hdT.tw16659000165413568518 : True := trivial
theorem hdT.tw11435658123040128006 : True := trivial
theorem hdT.tw13185223269041771558 : True := trivial
theorem hdT.tw9983460089433338982 : True := trivial
theorem hdT.tw3964741812652841094 : True := trivial
theorem hdT.tw3340316414879853702 : True := trivial
theorem hdT.tw13293429889846063270 : True := trivial
theorem hdT.tw2616141405226908838 : True := trivial
theorem hdT.tw18241957777257879750 : True := trivial
theorem hdT.tw2951386002248001958 : True := trivial
theorem hdT.tw3241106111546785190 : True := trivial
theorem hdT.tw8092666306467823078 : True := trivial
theorem hdT.tw8697609910814775846 : True := trivial
theorem hdT.tw3680329325441293862 : True := trivial
theorem hdT.tw6909686524076739110 : True := trivial
theorem hdT.tw9347353921567168070 : True := trivial
theorem hdT.tw2097802629581862470 : True := trivial
theorem hdT.tw17840979056596484806 : True := trivial
theorem hdT.tw2857486579997302598 : True := trivial
theorem hdT.tw10166195152394021702 : True := trivial
theorem hdT.tw12616172019080302470 : True := trivial
theorem hdT.tw2139353334662462342 : True := trivial
theorem hdT.tw617269760308790182 : True := trivial
theorem hdT.tw14972248735013912518 : True := trivial
theorem hdT.tw16003616904477165510 : True := trivial
theorem hdT.tw9476022492007706598 : True := trivial
theorem hdT.tw7404225678548197383 : True := trivial
theorem hdT.tw10319501003782391847 : True := trivial
theorem hdT.tw1520117329010893095 : True := trivial
theorem hdT.tw9257927824111913287 : True := trivial
theorem hdT.tw9084411662588796295 : True := trivial
theorem hdT.tw17212982446460151239 : True := trivial
theorem hdT.tw10202071882699297223 : True := trivial
theorem hdT.tw10735954711252949447 : True := trivial
theorem hdT.tw5074441716824221287 : True := trivial
theorem hdT.tw17456490922900562567 : True := trivial
theorem hdT.tw15604690081134836391 : True := trivial
theorem hdT.tw2375206398539671207 : True := trivial
theorem hdT.tw9884355026049912583 : True := trivial
theorem hdT.tw5776241990557117223 : True := trivial
theorem hdT.tw683934152577371975 : True := trivial
theorem hdT.tw8616971507025133447 : True := trivial
theorem hdT.tw14560644946258142183 : True := trivial
theorem hdT.tw13901490053756404744 : True := trivial
theorem hdT.tw14116893189291779112 : True := trivial
theorem hdT.tw2420845466144198696 : True := trivial
theorem hdT.tw3661936358686036136 : True := trivial
theorem hdT.tw10428136857845229736 : True := trivial
theorem hdT.tw2735428037448430824 : True := trivial
theorem hdT.tw2247844110553814248 : True := trivial
theorem hdT.tw17804484615444265320 : True := trivial
theorem hdT.tw10323790414895024552 : True := trivial
theorem hdT.tw7378758851455175208 : True := trivial
theorem hdT.tw2152687164418267720 : True := trivial
theorem hdT.tw905587528695013960 : True := trivial
theorem hdT.tw17943681747480410696 : True := trivial
theorem hdT.tw10868594059437301352 : True := trivial
theorem hdT.tw7399340436763251304 : True := trivial
theorem hdT.tw3146396220367132296 : True := trivial
theorem hdT.tw13184737160273421960 : True := trivial
theorem hdT.tw15541911741645186728 : True := trivial
theorem hdT.tw15986589184504527592 : True := trivial
theorem hdT.tw1994805565058289416 : True := trivial
theorem hdT.tw12194875641299781416 : True := trivial
theorem hdT.tw13190432942527766312 : True := trivial
theorem hdT.tw4870820990998705960 : True := trivial
theorem hdT.tw2178699043757754280 : True := trivial
theorem hdT.tw16626288849920792520 : True := trivial
theorem hdT.tw7108597360084366280 : True := trivial
theorem hdT.tw13845363747457403913 : True := trivial
theorem hdT.tw1001932927927829641 : True := trivial
theorem hdT.tw11673848817800129705 : True := trivial
theorem hdT.tw18142978766235501769 : True := trivial
theorem hdT.tw15609716034131776777 : True := trivial
theorem hdT.tw7383831400874300713 : True := trivial
theorem hdT.tw13038914319371988265 : True := trivial
theorem hdT.tw7346947853037217097 : True := trivial
theorem hdT.tw1769862425480128937 : True := trivial
theorem hdT.tw6150976936601723337 : True := trivial
theorem hdT.tw16514091972170015177 : True := trivial
theorem hdT.tw11714566110517299753 : True := trivial
theorem hdT.tw15543842933211244073 : True := trivial
theorem hdT.tw12541584954729255465 : True := trivial
theorem hdT.tw2578351281817413193 : True := trivial
theorem hdT.tw279229455494635177 : True := trivial
theorem hdT.tw11542872704083187369 : True := trivial
theorem hdT.tw7790660797244695241 : True := trivial
theorem hdT.tw16539148576436122313 : True := trivial
theorem hdT.tw2873733111616625417 : True := trivial
theorem hdT.tw11759856159870746441 : True := trivial
theorem hdT.tw16134883265113472841 : True := trivial
theorem hdT.tw1759045066290804585 : True := trivial
theorem hdT.tw16531870463292877737 : True := trivial
theorem hdT.tw9699336115117729930 : True := trivial
theorem hdT.tw15478290568897951882 : True := trivial
theorem hdT.tw6690937501477351658 : True := trivial
theorem hdT.tw1378004814817118474 : True := trivial
theorem hdT.tw2539720526774857002 : True := trivial
theorem hdT.tw6293537249065075018 : True := trivial
theorem hdT.tw1604004307016998346 : True := trivial
theorem hdT.tw518114109976262218 : True := trivial
theorem hdT.tw12563112198918280810 : True := trivial
theorem hdT.tw8448208942434106986 : True := trivial
theorem hdT.tw5153904615180192362 : True := trivial
theorem hdT.tw7686422701275456138 : True := trivial
theorem hdT.tw2452211869294023338 : True := trivial
theorem hdT.tw13060595092114332330 : True := trivial
theorem hdT.tw15975467772437593770 : True := trivial
theorem hdT.tw14390980076652992266 : True := trivial
theorem hdT.tw15937438585856900970 : True := trivial
theorem hdT.tw13786714389439647722 : True := trivial
theorem hdT.tw2959161835317433322 : True := trivial
theorem hdT.tw4487434557544995915 : True := trivial
theorem hdT.tw9451025747531858059 : True := trivial
theorem hdT.tw17281509130118850763 : True := trivial
theorem hdT.tw8943506571587402987 : True := trivial
theorem hdT.tw8567503031727373547 : True := trivial
theorem hdT.tw17570792280595983627 : True := trivial
theorem hdT.tw5619491481767085419 : True := trivial
theorem hdT.tw2897632379665089931 : True := trivial
theorem hdT.tw10067355104075643275 : True := trivial
theorem hdT.tw12079561201602305451 : True := trivial
theorem hdT.tw11805960059324406283 : True := trivial
theorem hdT.tw14020171688309530123 : True := trivial
theorem hdT.tw5853876167621158507 : True := trivial
theorem hdT.tw6418923982407956075 : True := trivial
theorem hdT.tw9534325647766667915 : True := trivial
theorem hdT.tw8698424893286483627 : True := trivial
theorem hdT.tw4420862922631421675 : True := trivial
theorem hdT.tw15373800813920376587 : True := trivial
theorem hdT.tw6683267451252391723 : True := trivial
theorem hdT.tw7136564018072386347 : True := trivial
theorem hdT.tw12839877120325842763 : True := trivial
theorem hdT.tw6089881760442619883 : True := trivial
theorem hdT.tw18425225725321503756 : True := trivial
theorem hdT.tw6889086249523499052 : True := trivial
theorem hdT.tw12380100870602463276 : True := trivial
theorem hdT.tw16725842125655001164 : True := trivial
theorem hdT.tw2159627914686711884 : True := trivial
theorem hdT.tw938805452192909420 : True := trivial
theorem hdT.tw12848851418496564332 : True := trivial
theorem hdT.tw2625485059379306636 : True := trivial
theorem hdT.tw2405699965061682348 : True := trivial
theorem hdT.tw10544611178586225868 : True := trivial
theorem hdT.tw2099304469547774156 : True := trivial
theorem hdT.tw1965936428634566924 : True := trivial
theorem hdT.tw12038241232971039084 : True := trivial
theorem hdT.tw8749434859236362604 : True := trivial
theorem hdT.tw13153322381789100428 : True := trivial
theorem hdT.tw6069086958997180844 : True := trivial
theorem hdT.tw16619460248487745004 : True := trivial
theorem hdT.tw5806034029871757836 : True := trivial
theorem hdT.tw16061927722193772204 : True := trivial
theorem hdT.tw8343146700199848716 : True := trivial
theorem hdT.tw1046303050538599212 : True := trivial
theorem hdT.tw1873386468875058060 : True := trivial
theorem hdT.tw2042762938286467980 : True := trivial
theorem hdT.tw14243908728459721612 : True := trivial
theorem hdT.tw4637192288282360748 : True := trivial
theorem hdT.tw14738332839276273773 : True := trivial
theorem hdT.tw8586098045395995821 : True := trivial
theorem hdT.tw12078823273170598061 : True := trivial
theorem hdT.tw12153659471345884365 : True := trivial
theorem hdT.tw3148966950799367373 : True := trivial
theorem hdT.tw14680936511344029933 : True := trivial
theorem hdT.tw17194698461186748653 : True := trivial
theorem hdT.tw14682451217626634541 : True := trivial
theorem hdT.tw17982695594306778445 : True := trivial
theorem hdT.tw14156971944580773197 : True := trivial
theorem hdT.tw8059042711464421741 : True := trivial
theorem hdT.tw8862904055507789325 : True := trivial
theorem hdT.tw222358611838573069 : True := trivial
theorem hdT.tw3996128608794023469 : True := trivial
theorem hdT.tw10759425804810152557 : True := trivial
theorem hdT.tw11541319093331784333 : True := trivial
theorem hdT.tw11687710423419705005 : True := trivial
theorem hdT.tw5144897212246035213 : True := trivial
theorem hdT.tw12097682857056489229 : True := trivial
theorem hdT.tw8958366324690311949 : True := trivial
theorem hdT.tw14739110467874880269 : True := trivial
theorem hdT.tw1066655907184155469 : True := trivial
theorem hdT.tw13667648759157132173 : True := trivial
theorem hdT.tw9227535465733522349 : True := trivial
theorem hdT.tw5340122980169538509 : True := trivial
theorem hdT.tw6599119529455057934 : True := trivial
theorem hdT.tw14936380700840972334 : True := trivial
theorem hdT.tw13764317736034591790 : True := trivial
theorem hdT.tw1268191746442894382 : True := trivial
theorem hdT.tw378083904730610894 : True := trivial
theorem hdT.tw12106956960737714382 : True := trivial
theorem hdT.tw14928136798684704974 : True := trivial
theorem hdT.tw16911082514686179566 : True := trivial
theorem hdT.tw3750821004556546318 : True := trivial
theorem hdT.tw10080614041577044238 : True := trivial
theorem hdT.tw2847899997164225806 : True := trivial
theorem hdT.tw18248651582587074862 : True := trivial
theorem hdT.tw18339263457832828270 : True := trivial
theorem hdT.tw14477410685026519406 : True := trivial
theorem hdT.tw2391073300771724814 : True := trivial
theorem hdT.tw16177888989005199918 : True := trivial
theorem hdT.tw1776274062459803214 : True := trivial
theorem hdT.tw12693335245358512814 : True := trivial
theorem hdT.tw16614067421052205742 : True := trivial
theorem hdT.tw11624307389960985358 : True := trivial
theorem hdT.tw7084950837047997198 : True := trivial
theorem hdT.tw17156949415198633774 : True := trivial
theorem hdT.tw16651234390879853358 : True := trivial
theorem hdT.tw4012522088078816110 : True := trivial
theorem hdT.tw9552418135779484783 : True := trivial
theorem hdT.tw816760262920538255 : True := trivial
theorem hdT.tw12293168118825579695 : True := trivial
theorem hdT.tw17419156074687965551 : True := trivial
theorem hdT.tw6011456627351739823 : True := trivial
theorem hdT.tw6628020113012296143 : True := trivial
theorem hdT.tw9881428037870011887 : True := trivial
theorem hdT.tw14577063617963707951 : True := trivial
theorem hdT.tw13941434405423248975 : True := trivial
theorem hdT.tw167985071357648463 : True := trivial
theorem hdT.tw6269800576724384367 : True := trivial
theorem hdT.tw3937244442570227343 : True := trivial
theorem hdT.tw1005338743208741551 : True := trivial
theorem hdT.tw1053057342741277391 : True := trivial
theorem hdT.tw8404949597763912559 : True := trivial
theorem hdT.tw5368014852992154543 : True := trivial
theorem hdT.tw14793636826967330735 : True := trivial
theorem hdT.tw16730996887124671439 : True := trivial
theorem hdT.tw4895140127428138000 : True := trivial
theorem hdT.tw2047077231110316048 : True := trivial
theorem hdT.tw12513107966257316912 : True := trivial
theorem hdT.tw15595976923621643440 : True := trivial
theorem hdT.tw13271241176467474704 : True := trivial
theorem hdT.tw2948353722112939280 : True := trivial
theorem hdT.tw13511928953172602288 : True := trivial
theorem hdT.tw18402769245516950960 : True := trivial
theorem hdT.tw8641585120534172112 : True := trivial
theorem hdT.tw4258548822608003536 : True := trivial
theorem hdT.tw7324589716685445584 : True := trivial
theorem hdT.tw6455760386348682736 : True := trivial
theorem hdT.tw10865885875968670224 : True := trivial
theorem hdT.tw16899397432000394928 : True := trivial
theorem hdT.tw17323566721633243856 : True := trivial
theorem hdT.tw1892497086594246384 : True := trivial
theorem hdT.tw98075271140989712 : True := trivial
theorem hdT.tw6841577446531214128 : True := trivial
theorem hdT.tw15028613228254450480 : True := trivial
theorem hdT.tw17850443551450840944 : True := trivial
theorem hdT.tw15994309253796730768 : True := trivial
theorem hdT.tw8597674654162788304 : True := trivial
theorem hdT.tw10249303264208934864 : True := trivial
theorem hdT.tw3926485035421332432 : True := trivial
theorem hdT.tw6735879728937818129 : True := trivial
theorem hdT.tw18243017937811348529 : True := trivial
theorem hdT.tw13139216254927382609 : True := trivial
theorem hdT.tw16411160818834565329 : True := trivial
theorem hdT.tw4584557407448336657 : True := trivial
theorem hdT.tw1285798067458324753 : True := trivial
theorem hdT.tw6134002508673835281 : True := trivial
theorem hdT.tw660219271244974385 : True := trivial
theorem hdT.tw14069745036643010929 : True := trivial
theorem hdT.tw2573676684247115121 : True := trivial
theorem hdT.tw8296667696301474193 : True := trivial
theorem hdT.tw15513460198188007025 : True := trivial
theorem hdT.tw1553361418407970481 : True := trivial
theorem hdT.tw15241406090431451857 : True := trivial
theorem hdT.tw9054821845631497969 : True := trivial
theorem hdT.tw102660449159839505 : True := trivial
theorem hdT.tw11317579533362982705 : True := trivial
theorem hdT.tw11199705531422776145 : True := trivial
theorem hdT.tw8739099295787217745 : True := trivial
theorem hdT.tw12360972160261386290 : True := trivial
theorem hdT.tw7370714080064044178 : True := trivial
theorem hdT.tw2222322585373364402 : True := trivial
theorem hdT.tw6126834691248478450 : True := trivial
theorem hdT.tw12257142217187598610 : True := trivial
theorem hdT.tw7942171668155527442 : True := trivial
theorem hdT.tw13102605487479191858 : True := trivial
theorem hdT.tw14889336212933601618 : True := trivial
theorem hdT.tw15649738087625292210 : True := trivial
theorem hdT.tw5163333308569226706 : True := trivial
theorem hdT.tw2888049423600391730 : True := trivial
theorem hdT.tw6670617395169278514 : True := trivial
theorem hdT.tw3075648315715463794 : True := trivial
theorem hdT.tw14374489479828959890 : True := trivial
theorem hdT.tw1102789012699053714 : True := trivial
theorem hdT.tw11001209747788500658 : True := trivial
theorem hdT.tw1041002507800964818 : True := trivial
theorem hdT.tw12279998229694318322 : True := trivial
theorem hdT.tw4799336707676368658 : True := trivial
theorem hdT.tw3569573548083652402 : True := trivial
theorem hdT.tw92803350260385714 : True := trivial
theorem hdT.tw12634102005968315378 : True := trivial
theorem hdT.tw17666093417056562162 : True := trivial
theorem hdT.tw9470199025548531795 : True := trivial
theorem hdT.tw2026564882714474611 : True := trivial
theorem hdT.tw6739956485725728979 : True := trivial
theorem hdT.tw6033919521562791155 : True := trivial
theorem hdT.tw2727673047806841075 : True := trivial
theorem hdT.tw8346696010151329043 : True := trivial
theorem hdT.tw18168334755178658163 : True := trivial
theorem hdT.tw6975353774855479699 : True := trivial
theorem hdT.tw8072592181832140243 : True := trivial
theorem hdT.tw12817492696408795699 : True := trivial
theorem hdT.tw10010845322139352627 : True := trivial
theorem hdT.tw2597303081884382771 : True := trivial
theorem hdT.tw9380053455917048403 : True := trivial
theorem hdT.tw4306714477624967827 : True := trivial
theorem hdT.tw1176079322420180659 : True := trivial
theorem hdT.tw4805750459014103763 : True := trivial
theorem hdT.tw16707821526901707475 : True := trivial
theorem hdT.tw13054363712787031859 : True := trivial
theorem hdT.tw14145074365520202611 : True := trivial
theorem hdT.tw3470672704688877459 : True := trivial
theorem hdT.tw15894074919283784595 : True := trivial
theorem hdT.tw1327509301673333715 : True := trivial
theorem hdT.tw4719937437743394932 : True := trivial
theorem hdT.tw7561044058177157300 : True := trivial
theorem hdT.tw476896764602719412 : True := trivial
theorem hdT.tw5476256833781881076 : True := trivial
theorem hdT.tw10618657522404741396 : True := trivial
theorem hdT.tw2465201272906389876 : True := trivial
theorem hdT.tw2231793398430435732 : True := trivial
theorem hdT.tw12476784377090588212 : True := trivial
theorem hdT.tw17110205108780911252 : True := trivial
theorem hdT.tw1989478745651664532 : True := trivial
theorem hdT.tw7266376299009869524 : True := trivial
theorem hdT.tw8049430661905582836 : True := trivial
theorem hdT.tw8933809840192862964 : True := trivial
theorem hdT.tw12217529378293269236 : True := trivial
theorem hdT.tw14535055646236278548 : True := trivial
theorem hdT.tw4476036477331449620 : True := trivial
theorem hdT.tw9761581780216786772 : True := trivial
theorem hdT.tw3691545737793461076 : True := trivial
theorem hdT.tw16150095853827848020 : True := trivial
theorem hdT.tw18190383041204214644 : True := trivial
theorem hdT.tw9007937751257014164 : True := trivial
theorem hdT.tw8259725323803305940 : True := trivial
theorem hdT.tw12530120557820931060 : True := trivial
theorem hdT.tw18135067806621036532 : True := trivial
theorem hdT.tw10512983876303221748 : True := trivial
theorem hdT.tw15966169735260121141 : True := trivial
theorem hdT.tw308856326611634325 : True := trivial
theorem hdT.tw3163186264296576149 : True := trivial
theorem hdT.tw7217518033528309941 : True := trivial
theorem hdT.tw12163744985405934773 : True := trivial
theorem hdT.tw5205668749297161461 : True := trivial
theorem hdT.tw822856507448853781 : True := trivial
theorem hdT.tw11550254677324453141 : True := trivial
theorem hdT.tw14184987369404498229 : True := trivial
theorem hdT.tw1760258660891434357 : True := trivial
theorem hdT.tw3120113681926121877 : True := trivial
theorem hdT.tw15419372733056382389 : True := trivial
theorem hdT.tw18431168122545246677 : True := trivial
theorem hdT.tw7118430192128766453 : True := trivial
theorem hdT.tw7201601642792764949 : True := trivial
theorem hdT.tw15503024994843384373 : True := trivial
theorem hdT.tw13508362850219849301 : True := trivial
theorem hdT.tw9044453912763272853 : True := trivial
theorem hdT.tw8301197473519855253 : True := trivial
theorem hdT.tw12643286276921385653 : True := trivial
theorem hdT.tw2543978539304783637 : True := trivial
theorem hdT.tw11458501801640361781 : True := trivial
theorem hdT.tw6324740212330344277 : True := trivial
theorem hdT.tw10281885422764332917 : True := trivial
theorem hdT.tw14544301321182030741 : True := trivial
theorem hdT.tw2652420494882195381 : True := trivial
theorem hdT.tw14243037624748947413 : True := trivial
theorem hdT.tw12301605705503117334 : True := trivial
theorem hdT.tw12320029094706313238 : True := trivial
theorem hdT.tw6564123913869981750 : True := trivial
theorem hdT.tw11400800689391800470 : True := trivial
theorem hdT.tw12387774662352885974 : True := trivial
theorem hdT.tw15874489536405178614 : True := trivial
theorem hdT.tw3786290960044989686 : True := trivial
theorem hdT.tw14135771155940000022 : True := trivial
theorem hdT.tw17684493538786419990 : True := trivial
theorem hdT.tw18097265767344203094 : True := trivial
theorem hdT.tw12779001571807900022 : True := trivial
theorem hdT.tw17904838590246713782 : True := trivial
theorem hdT.tw9914334180009780790 : True := trivial
theorem hdT.tw14529177570932698710 : True := trivial
theorem hdT.tw16549196318746827350 : True := trivial
theorem hdT.tw11613489809167172214 : True := trivial
theorem hdT.tw1368098252954153590 : True := trivial
theorem hdT.tw12016396987279823510 : True := trivial
theorem hdT.tw17278014667150443254 : True := trivial
theorem hdT.tw12896701216255168246 : True := trivial
theorem hdT.tw9966396331570240342 : True := trivial
theorem hdT.tw2520595883203713878 : True := trivial
theorem hdT.tw10107192914230221782 : True := trivial
theorem hdT.tw9988109110853653462 : True := trivial
theorem hdT.tw7855729953441644567 : True := trivial
theorem hdT.tw13952589186035531799 : True := trivial
theorem hdT.tw9531525317723489367 : True := trivial
theorem hdT.tw8344245260858803287 : True := trivial
theorem hdT.tw8639440022213153879 : True := trivial
theorem hdT.tw11131275715287355575 : True := trivial
theorem hdT.tw855168499411000503 : True := trivial
theorem hdT.tw960050848766937271 : True := trivial
theorem hdT.tw3055067098921867479 : True := trivial
theorem hdT.tw3808180270531141879 : True := trivial
theorem hdT.tw17370461868930270551 : True := trivial
theorem hdT.tw2590165118902636919 : True := trivial
theorem hdT.tw12431542053280375191 : True := trivial
theorem hdT.tw16489284681867142615 : True := trivial
theorem hdT.tw1948666990017201687 : True := trivial
theorem hdT.tw9736829806540214903 : True := trivial
theorem hdT.tw16559897199988454135 : True := trivial
theorem hdT.tw14749652554219716343 : True := trivial
theorem hdT.tw10158975050279796663 : True := trivial
theorem hdT.tw11156275287357966263 : True := trivial
theorem hdT.tw16169267508442259383 : True := trivial
theorem hdT.tw15729114282328834007 : True := trivial
theorem hdT.tw7977824130624017432 : True := trivial
theorem hdT.tw12669062764373177400 : True := trivial
theorem hdT.tw15941966535906006232 : True := trivial
theorem hdT.tw5747501506443722968 : True := trivial
theorem hdT.tw10637491067871093976 : True := trivial
theorem hdT.tw16660877896988103928 : True := trivial
theorem hdT.tw2346434553980085496 : True := trivial
theorem hdT.tw776152709372847384 : True := trivial
theorem hdT.tw17460586045901743480 : True := trivial
theorem hdT.tw2421974210947943896 : True := trivial
theorem hdT.tw942146656244889080 : True := trivial
theorem hdT.tw9294019548499875384 : True := trivial
theorem hdT.tw14823433085943519800 : True := trivial
theorem hdT.tw8173607700945315544 : True := trivial
theorem hdT.tw13065430645502238488 : True := trivial
theorem hdT.tw1580787227658663736 : True := trivial
theorem hdT.tw12626607938501811000 : True := trivial
theorem hdT.tw10176395992278642552 : True := trivial
theorem hdT.tw2783002473615349720 : True := trivial
theorem hdT.tw4579577086566881272 : True := trivial
theorem hdT.tw8852530127386481689 : True := trivial
theorem hdT.tw15578045932945952825 : True := trivial
theorem hdT.tw1363381414463380569 : True := trivial
theorem hdT.tw1543731155930569881 : True := trivial
theorem hdT.tw15460788182947458201 : True := trivial
theorem hdT.tw2783956855398936025 : True := trivial
theorem hdT.tw12475268420717446649 : True := trivial
theorem hdT.tw12214340855711000089 : True := trivial
theorem hdT.tw13075672575759723129 : True := trivial
theorem hdT.tw8766941176648348281 : True := trivial
theorem hdT.tw8054727372441204377 : True := trivial
theorem hdT.tw4882206569832762009 : True := trivial
theorem hdT.tw11018788065075084025 : True := trivial
theorem hdT.tw6131459261266714361 : True := trivial
theorem hdT.tw5502382909086503705 : True := trivial
theorem hdT.tw18138672634151941913 : True := trivial
theorem hdT.tw6412721170132791065 : True := trivial
theorem hdT.tw14113409516418308985 : True := trivial
theorem hdT.tw18323763663938697113 : True := trivial
theorem hdT.tw10194237121763327897 : True := trivial
theorem hdT.tw17704734469149224921 : True := trivial
theorem hdT.tw14697747961488160826 : True := trivial
theorem hdT.tw9119509293607635002 : True := trivial
theorem hdT.tw18310924211212023898 : True := trivial
theorem hdT.tw10439521527477894234 : True := trivial
theorem hdT.tw14832296044313233530 : True := trivial
theorem hdT.tw4527832340654653562 : True := trivial
theorem hdT.tw17204517880365750426 : True := trivial
theorem hdT.tw8046985584504496282 : True := trivial
theorem hdT.tw1422925138140981434 : True := trivial
theorem hdT.tw18238355898598786330 : True := trivial
theorem hdT.tw8513699309975795002 : True := trivial
theorem hdT.tw4276992846007295418 : True := trivial
theorem hdT.tw7407133789760533946 : True := trivial
theorem hdT.tw17154144827933080058 : True := trivial
theorem hdT.tw185286079852928538 : True := trivial
theorem hdT.tw1830728938623689242 : True := trivial
theorem hdT.tw13279870413759428154 : True := trivial
theorem hdT.tw8287701665231782586 : True := trivial
theorem hdT.tw5825364656412045018 : True := trivial
theorem hdT.tw7723371066258716378 : True := trivial
theorem hdT.tw4919105219394446106 : True := trivial
theorem hdT.tw15670875253111351066 : True := trivial
theorem hdT.tw16623138619976506330 : True := trivial
theorem hdT.tw11286671869160983514 : True := trivial
theorem hdT.tw13745481164612088859 : True := trivial
theorem hdT.tw8420545781065954363 : True := trivial
theorem hdT.tw14339686620797904987 : True := trivial
theorem hdT.tw6517722867670072411 : True := trivial
theorem hdT.tw7546123832575513691 : True := trivial
theorem hdT.tw3154932998989693115 : True := trivial
theorem hdT.tw13338845783058869467 : True := trivial
theorem hdT.tw4860882504843640059 : True := trivial
theorem hdT.tw10468062072056533275 : True := trivial
theorem hdT.tw4160381695852730747 : True := trivial
theorem hdT.tw13988915499686876603 : True := trivial
theorem hdT.tw6955748858972044763 : True := trivial
theorem hdT.tw6987257369885776379 : True := trivial
theorem hdT.tw12604221089893923323 : True := trivial
theorem hdT.tw11015649899063884283 : True := trivial
theorem hdT.tw13877802309104239163 : True := trivial
theorem hdT.tw10711610238166011483 : True := trivial
theorem hdT.tw512989020808680059 : True := trivial
theorem hdT.tw4478334040652372635 : True := trivial
theorem hdT.tw10173080693487543003 : True := trivial
theorem hdT.tw7853958019229731579 : True := trivial
theorem hdT.tw4699266021141634843 : True := trivial
theorem hdT.tw9429051258219011899 : True := trivial
theorem hdT.tw10212826435615706971 : True := trivial
theorem hdT.tw13281160262870861691 : True := trivial
theorem hdT.tw16922730983264970715 : True := trivial
theorem hdT.tw10734346761020631068 : True := trivial
theorem hdT.tw123686674118195260 : True := trivial
theorem hdT.tw4114763448039057500 : True := trivial
theorem hdT.tw10475928700771966044 : True := trivial
theorem hdT.tw11217382035824116924 : True := trivial
theorem hdT.tw11437854503393051836 : True := trivial
theorem hdT.tw12986058576653620508 : True := trivial
theorem hdT.tw6016340665346597148 : True := trivial
theorem hdT.tw9655245656693899580 : True := trivial
theorem hdT.tw8750652063840231740 : True := trivial
theorem hdT.tw4105787885487224124 : True := trivial
theorem hdT.tw9693196243994611036 : True := trivial
theorem hdT.tw17279418265372097916 : True := trivial
theorem hdT.tw11417774720625015196 : True := trivial
theorem hdT.tw10988130239496037820 : True := trivial
theorem hdT.tw9747532853796621756 : True := trivial
theorem hdT.tw13298019607888386524 : True := trivial
theorem hdT.tw6958645189134850556 : True := trivial
theorem hdT.tw12033344195343221276 : True := trivial
theorem hdT.tw4180767909326071356 : True := trivial
theorem hdT.tw4478279841756930620 : True := trivial
theorem hdT.tw614904304593535612 : True := trivial
theorem hdT.tw11048436554777996028 : True := trivial
theorem hdT.tw12528596615628285788 : True := trivial
theorem hdT.tw13538150416244100956 : True := trivial
theorem hdT.tw10765721606339117948 : True := trivial
theorem hdT.tw5165581774834855932 : True := trivial
theorem hdT.tw1923917731997800541 : True := trivial
theorem hdT.tw13907023301156516989 : True := trivial
theorem hdT.tw11372798963237433469 : True := trivial
theorem hdT.tw12367187599949045917 : True := trivial
theorem hdT.tw5657525579230229757 : True := trivial
theorem hdT.tw16364119444717739325 : True := trivial
theorem hdT.tw10247054860911567197 : True := trivial
theorem hdT.tw3114665982151778685 : True := trivial
theorem hdT.tw12313064947553493437 : True := trivial
theorem hdT.tw6062054041289883069 : True := trivial
theorem hdT.tw1843932490979021277 : True := trivial
theorem hdT.tw5493415599788509693 : True := trivial
theorem hdT.tw3048625272048801309 : True := trivial
theorem hdT.tw11786815773050827325 : True := trivial
theorem hdT.tw776734900397645373 : True := trivial
theorem hdT.tw11755220345028815485 : True := trivial
theorem hdT.tw12953295867854242429 : True := trivial
theorem hdT.tw10734110473604000413 : True := trivial
theorem hdT.tw9015241098177759933 : True := trivial
theorem hdT.tw10572733635573505725 : True := trivial
theorem hdT.tw5989770250344729309 : True := trivial
theorem hdT.tw15902368515024810717 : True := trivial
theorem hdT.tw18157086518045136637 : True := trivial
theorem hdT.tw17990951745574838045 : True := trivial
theorem hdT.tw6408363902074713917 : True := trivial
theorem hdT.tw8873467754133050205 : True := trivial
theorem hdT.tw17732004547103332221 : True := trivial
theorem hdT.tw8797873527435561917 : True := trivial
theorem hdT.tw7750204729614750717 : True := trivial
theorem hdT.tw14043705154278696030 : True := trivial
theorem hdT.tw5429872173572285534 : True := trivial
theorem hdT.tw2436422211977766078 : True := trivial
theorem hdT.tw4042970992223234270 : True := trivial
theorem hdT.tw8001199741054128350 : True := trivial
theorem hdT.tw11636107060374798686 : True := trivial
theorem hdT.tw8425876010081677758 : True := trivial
theorem hdT.tw7873442354669621758 : True := trivial
theorem hdT.tw10413290030777078302 : True := trivial
theorem hdT.tw6722888759846166110 : True := trivial
theorem hdT.tw6096052327025629822 : True := trivial
theorem hdT.tw4685213532338564830 : True := trivial
theorem hdT.tw17035528155845151454 : True := trivial
theorem hdT.tw15706192859081561822 : True := trivial
theorem hdT.tw18100569989897730878 : True := trivial
theorem hdT.tw11571630735370523486 : True := trivial
theorem hdT.tw10278784268148742078 : True := trivial
theorem hdT.tw1747257847226575806 : True := trivial
theorem hdT.tw2187532262907252767 : True := trivial
theorem hdT.tw8065493402013126719 : True := trivial
theorem hdT.tw2027763147986355455 : True := trivial
theorem hdT.tw824807754771498271 : True := trivial
theorem hdT.tw11976874915213706559 : True := trivial
theorem hdT.tw1145438229332021567 : True := trivial
theorem hdT.tw4680045992198469983 : True := trivial
theorem hdT.tw2013409472790794623 : True := trivial
theorem hdT.tw2132456725083282815 : True := trivial
theorem hdT.tw6136093587156985215 : True := trivial
theorem hdT.tw11735543557094715807 : True := trivial
theorem hdT.tw3354442301435478463 : True := trivial
theorem hdT.tw446475844140859903 : True := trivial
theorem hdT.tw11487036344001518079 : True := trivial
theorem hdT.tw7963365950823558655 : True := trivial
theorem hdT.tw16808101064571166239 : True := trivial
theorem hdT.tw6312247056617087519 : True := trivial
theorem hdT.tw9083635313989964351 : True := trivial
theorem hdT.tw7378976414268029503 : True := trivial
theorem hdT.tw7663180509135097439 : True := trivial
theorem hdT.tw8317748790123228767 : True := trivial
theorem hdT.tw11680981566860643967 : True := trivial
theorem hdT.tw12965636546680305311 : True := trivial
theorem hdT.tw457585342618246847 : True := trivial
theorem hdT.tw15139554571385455295 : True := trivial
theorem hdT.tw7410480008539292383 : True := trivial
theorem hdT.tw3130026600693219103 : True := trivial
theorem hdT.tw15585351579074516767 : True := trivial
theorem hdT.tw14851777919923771231 : True := trivial
theorem hdT.tw7825484699456415615 : True := trivial
theorem hdT.tw8224041156636738495 : True := trivial
theorem hdT.tw1066543892732998623 : True := trivial
theorem hdT.tw11695609216540864661 : True := trivial
theorem hdT.tw3621683266556679469 : True := trivial
set_option Elab.async true in
set_option maxHeartbeats 40000000 in
theorem hdT : PySem.Challenge.rw_ov0010_01.Holds := by
  w_on; o_law; k_head
  · w_witness2
  k_go0
  (rename Frag.In _ _ => KX0)
  have KX1 : (fr.heap_1 _).In _ := KX0
  clear KX0
  have hMk : KstMark := kstMark
  (rename Fr _ _ _ _ => lF'); (rename IntsAre _ _ => sI)
  refine cutB (l := [_]) lF' (fun ps led => ∃ sA svs ns, ps = [(Str.ofString "script", .ref sA)] ∧ led = [(sA, listOf svs.toArray 0)] ∧ IntsAre svs ns ∧ ns.length ≤ 63) ?_ ?_
  · dsimp only [Blk]
    try k_fold
    k_steps
    unfold Stop
    exact CutS.intro (by assumption) (by assumption) (by exact ⟨rfl, trivial⟩) (by exact fun _ h => h) ⟨_, _, _, rfl, rfl, by assumption, by omega⟩
  clear lF'
  rintro _ _ u1 h1 tk1 ⟨sA, svs, sns, rfl, rfl, hsi, hsl⟩ F1 N1
  refine cutB (l := [_]) F1 (fun ps led => ∃ bA b tb, ps = [(Str.ofString "script", .ref sA), (Str.ofString "bag", .ref bA)] ∧ led = [(bA, listOf #[.int b tb] 0), (sA, listOf svs.toArray 0)] ∧ (@Ne Nat bA sA)) ?_ ?_
  · dsimp only [Blk]
    by_cases hz : sns = []
    · subst hz
      cases hsi
      try k_fold
      k_steps
      unfold Stop
      exact CutS.intro (by assumption) (by assumption) (by exact ⟨rfl, rfl, trivial⟩) (by exact sub_cons (sub_cons (fun _ h => nomatch h) (by walk_at "my_mem")) (by walk_at "my_mem")) ⟨_, _, _, rfl, rfl, by omega⟩
    · have hpos : 0 < sns.length := List.length_pos_iff.mpr hz
      try k_fold
      k_steps
      unfold Stop
      exact CutS.intro (by assumption) (by assumption) (by exact ⟨rfl, rfl, trivial⟩) (by exact sub_cons (sub_cons (fun _ h => nomatch h) (by walk_at "my_mem")) (by walk_at "my_mem")) ⟨_, _, _, rfl, rfl, by omega⟩
  clear F1 N1
  rintro _ _ u2 h2 tk2 ⟨bA, b, tb, rfl, rfl, hbs⟩ F2 N2
  refine cutB (l := [_, _, _]) F2 (fun ps led => ∃ fl tf wh oA nA k1 k2, ps = [(Str.ofString "script", .ref sA), (Str.ofString "is_whole", .bool wh), (Str.ofString "flags", .int fl tf), (Str.ofString "octets", .ref oA), (Str.ofString "numbers", .ref nA)] ∧
    led = [(oA, listOf #[] k1), (nA, listOf #[] k2), (sA, listOf svs.toArray 0)] ∧ (@Ne Nat oA nA) ∧ (@Ne Nat oA sA) ∧ (@Ne Nat nA sA) ∧ 0 ≤ fl ∧ fl < 1024) ?_ ?_
  · dsimp only [Blk]
    try k_fold
    k_steps
    unfold Stop
    exact CutS.intro (by assumption) (by assumption) (by exact ⟨rfl, rfl, rfl, rfl, rfl, trivial⟩) (by exact sub_cons (sub_cons (sub_cons (fun _ h => nomatch h) (by walk_at "my_mem")) (by walk_at "my_mem")) (by walk_at "my_mem")) ⟨_, _, _, _, _, _, _, rfl, rfl, by omega, by omega, by omega, by omega, by omega⟩
  clear F2 N2
  rintro _ _ u3 h3 tk3 ⟨fl, tf, wh, oA, nA, k1, k2, rfl, rfl, ne1, ne2, ne3, hf0, hf1⟩ F3 N3
  refine cutB (l := [_]) F3 (fun ps led => ∃ oB ovs onn os nvs nnn ns, ps = [(Str.ofString "is_whole", .bool wh), (Str.ofString "flags", .int fl tf), (Str.ofString "octets", .ref oB), (Str.ofString "numbers", .ref nA)] ∧
    led = [(oB, listOf ovs.toArray onn), (nA, listOf nvs.toArray nnn)] ∧ (@Ne Nat oB nA) ∧ IntsAre ovs os ∧ IntsAre nvs ns ∧ LawInv wh 20 os ns) ?_ ?_
  · dsimp only [Blk]
    try k_fold
    k_steps
    unfold Stop
    (rename Fr _ _ _ _ => lF'); (rename News _ _ _ _ => lN'); (rename IntsAre _ (List.take _ _) => cI); (rename (List.take _ _).length = _ => cL); (rename (List.take _ _).length ≤ _ => cL2)
    replace cL : (List.take (min 21 sns.length - 1) (List.drop 1 sns)).length ≤ 20 := by rw [cL]; omega
    clear cL2
    revert cI cL
    generalize List.take (min 21 sns.length - 1) (List.drop 1 sns) = cs
    intro cI cL
    refine' led_listH (σ := LawSt) (fun c => [(c.oA, listOf c.ovs.toArray c.onn), (nA, listOf c.nvs.toArray c.nnn)]) (fun c => [(Str.ofString "octets", .ref c.oA)]) [Str.ofString "some", Str.ofString "number"]
      (fun i c => (@Ne Nat c.oA nA) ∧ IntsAre c.ovs c.os ∧ IntsAre c.nvs c.ns ∧ LawInv wh i c.os c.ns) ⟨oA, [], k1, [], [], k2, []⟩ (by rfl) lF' (News.less (sub_cons (sub_cons (sub_cons (fun _ h => nomatch h) ?m3) ?m2) ?m1) lN') ?hk ?hp ?turn ?done
    case m1 => walk_at "my_mem"
    case m2 => walk_at "my_mem"
    case m3 => walk_at "my_mem"
    case hk => intro p hp; rw [List.mem_singleton.mp hp]; rfl
    case hp => exact ⟨ne1, .nil, .nil, Nat.zero_le _, Nat.le_refl _, (fun _ h => nomatch h), (fun _ h => nomatch h), fun _ => ⟨rfl, fun _ h => nomatch h⟩⟩
    case done =>
      intro c u h9 tk9 hP9 F9 N9
      clear lF' lN'
      obtain ⟨nec, hoi, hni, hinv⟩ := hP9
      refine ⟨rfl, ?_⟩
      exact CutS.intro F9 N9 (by exact ⟨rfl, rfl, rfl, rfl, trivial⟩) (by exact fun _ h => h) ⟨c.oA, c.ovs, c.onn, c.os, c.nvs, c.nnn, c.ns, rfl, rfl, nec, hoi, hni, linv_mono hinv (by rw [cI.length]; exact cL)⟩
    case turn =>
      intro c i v u h9 tk9 own9 hv hP9 ho9 F9 N9
      clear lF' lN'
      obtain ⟨nec, hoi, hni, hinv⟩ := hP9
      simp only [List.cons_append, List.nil_append] at N9
      obtain ⟨x9, tx9, rfl, hx9⟩ := cI.at i v (by simpa using hv)
      have hi20 : i < 20 := by have := (List.getElem?_eq_some_iff.mp hx9).1; omega
      have hol : c.os.length ≤ 80 := by have := hinv.1; omega
      have hnl : c.nvs.length ≤ 20 := by rw [hni.length]; have := hinv.2.1; omega
      (try dsimp only)
      try k_fold
      k_steps
      have hlaw := pts_str or9
      have hsl : (strOf os9).length ≤ 200 := by rw [str_len]; omega
      have cmk9 : True := trivial
      rcases pv9 with ⟨rfl, hwf⟩ | ⟨n9, tn9, rfl, rfl, hn0, hn1, hns⟩
      · k_steps
        (rename Fr _ _ _ _ => lF'); (rename News _ _ _ _ => lN')
        unfold Stop
        refine cutV1 (fun v => v = false) lF' lN' ?_ ?_
        · k_steps
          all_goals
            unfold Stop
            exact CutV.intro (by assumption) (by assumption) (by exact fun p hp => by walk_at "my_mem") ⟨rfl, by first | rfl | simp⟩
        · clear lF' lN'
          rintro _ hc9 tkc9 rfl Fc9 Nc9
          k_steps
          (rename IntsAre _ (_ ++ _) => hI9); (rename Fr _ _ _ _ => lF'); (rename News _ _ _ _ => lN')
          unfold Stop
          exact led_end (x := Str.ofString "cell") ⟨_, _, _, c.os ++ os9, c.nvs, c.nnn, c.ns⟩ lF' lN' (by exact sub_cons (sub_cons (sub_cons (fun _ h => nomatch h) (by walk_at "my_mem")) (by walk_at "my_mem")) (by walk_at "my_mem")) (by exact fun p hp => by walk_at "my_mem") (by exact own_re ho9 (by walk_at "my_lt"))
            (by intro p hp; rw [List.mem_singleton.mp hp]; rfl)
            (by
              intro z hz hp hs
              have hz2 : z ≠ Str.ofString "octets" := hp _ (List.mem_singleton.mpr rfl)
              have hz3 : z ≠ Str.ofString "some" := fun e => by rw [e] at hs; exact absurd hs (by decide)
              have hz4 : z ≠ Str.ofString "number" := fun e => by rw [e] at hs; exact absurd hs (by decide)
              simp only [hz, hz2, hz3, hz4, if_false, kstB, hs]
              rfl)
            ⟨by dsimp only; omega, hI9, hni, linv_none hinv hwf ol2 or9⟩
      · k_steps
        (rename Fr _ _ _ _ => lF'); (rename News _ _ _ _ => lN')
        unfold Stop
        refine cutV1 (fun v => v = false) lF' lN' ?_ ?_
        · k_steps
          all_goals
            unfold Stop
            exact CutV.intro (by assumption) (by assumption) (by exact fun p hp => by walk_at "my_mem") ⟨rfl, by first | rfl | simp⟩
        · clear lF' lN'
          rintro _ hc9 tkc9 rfl Fc9 Nc9
          k_steps
          (rename IntsAre _ (_ ++ _) => hI9); (rename Fr _ _ _ _ => lF'); (rename News _ _ _ _ => lN')
          unfold Stop
          exact led_end (x := Str.ofString "cell") ⟨_, _, _, c.os ++ octL n9, c.nvs ++ [.int n9 tn9], c.nnn + 1, c.ns ++ [n9]⟩ lF' lN' (by exact sub_cons (sub_cons (sub_cons (fun _ h => nomatch h) (by walk_at "my_mem")) (by walk_at "my_mem")) (by walk_at "my_mem")) (by exact fun p hp => by walk_at "my_mem") (by exact own_re ho9 (by walk_at "my_lt"))
            (by intro p hp; rw [List.mem_singleton.mp hp]; rfl)
            (by
              intro z hz hp hs
              have hz2 : z ≠ Str.ofString "octets" := hp _ (List.mem_singleton.mpr rfl)
              have hz3 : z ≠ Str.ofString "some" := fun e => by rw [e] at hs; exact absurd hs (by decide)
              have hz4 : z ≠ Str.ofString "number" := fun e => by rw [e] at hs; exact absurd hs (by decide)
              simp only [hz, hz2, hz3, hz4, if_false, kstB, hs]
              rfl)
            ⟨by dsimp only; omega, hI9, hni.append (.cons _ _ .nil), linv_some hinv hn0 hn1 hns⟩
  clear F3 N3
  rintro _ _ u4 h4 tk4 ⟨oB, ovs, onn, os, nvs, nnn, ns, rfl, rfl, nec, hoi, hni, hinv⟩ F4 N4
  have hos := hinv.2.2.1
  have hnr := hinv.2.2.2.1
  have hol : os.length ≤ 80 := hinv.1
  have hnl : ns.length ≤ 20 := hinv.2.1
  have hnv : nvs.length ≤ 20 := by rw [hni.length]; exact hnl
  have hsl : (strOf os).length ≤ 200 := by rw [str_len]; omega
  have hwh : wh = true → readF os = some ns := fun e => by obtain ⟨h1, h2⟩ := hinv.2.2.2.2 e; rw [h1]; exact read_oct h2
  refine cutB (l := [_, _, _]) F4 (fun ps led => ∃ tt pv extra, ps = [(Str.ofString "flags", .int fl tf), (Str.ofString "numbers", .ref nA), (Str.ofString "text", .str (strOf os) tt), (Str.ofString "points", pv)] ∧
    led = (nA, listOf nvs.toArray nnn) :: extra ∧ PtsV extra pv (readF os)) ?_ ?_
  · dsimp only [Blk]
    have hlaw := pts_str hos
    try k_fold
    k_steps
    · exfalso
      have hw9 : wh = true := by assumption
      have hr9 := hwh hw9
      (rename readF _ = none => eN)
      rw [eN] at hr9; cases hr9
    · (rename readF _ = none => eN)
      unfold Stop
      exact CutS.intro (by assumption) (by assumption) (by exact ⟨rfl, rfl, rfl, rfl, trivial⟩) (by exact sub_cons (fun _ h => nomatch h) (by walk_at "my_mem")) ⟨_, _, [], rfl, rfl, .inl ⟨rfl, eN, rfl⟩⟩
    · exfalso
      (rename (strOf os != strOf os) = true => hb)
      simp at hb
    · unfold Stop
      exact CutS.intro (by assumption) (by assumption) (by exact ⟨rfl, rfl, rfl, rfl, trivial⟩) (by exact sub_cons (sub_cons (fun _ h => nomatch h) (by walk_at "my_mem")) (by walk_at "my_mem")) ⟨_, _, _, rfl, rfl, .inr ⟨_, _, _, _, rfl, rfl, by assumption, by assumption⟩⟩
  clear F4 N4
  rintro _ _ u5 h5 tk5 ⟨tt, pv, extra, rfl, rfl, hpv⟩ F5 N5
  refine cutB (l := [_, _]) F5 (fun ps led => ∃ tm, ps = [(Str.ofString "flags", .int fl tf), (Str.ofString "numbers", .ref nA), (Str.ofString "text", .str (strOf os) tt), (Str.ofString "points", pv), (Str.ofString "made", .str (strOf (ns.flatMap octL)) tm)] ∧
    led = (nA, listOf nvs.toArray nnn) :: extra) ?_ ?_
  · dsimp only [Blk]
    try k_fold
    k_steps
    unfold Stop
    refine ⟨nA, nvs, nnn, _, rfl, by rfl, by k_asm, by k_asm, by walk_at "my_mem", fun g9 => rest2_inv nvs.length (fun i ys nx => nx = _ ∧ IntsAre ys ((ns.take i).flatMap octL)) ?_ ?_ _ _ _ _ (Nat.zero_add _) ⟨rfl, .nil⟩⟩
    · rintro i ys nx hlt ⟨rfl, hS⟩ v I oI C oC D m₂ h tk E' hv hC hx F9 N9 o9 ne9
      obtain ⟨n, tn, rfl, hn⟩ := hni.at i v (by simpa using hv)
      have hnn := hnr n (List.mem_of_getElem? hn)
      (try dsimp only)
      try k_fold
      k_steps
      unfold Stop
      have hyl : ys.length ≤ 80 := by rw [hS.length]; exact Nat.le_trans (octs_len _) (by rw [List.length_take]; omega)
      have hol9 : vs9.length ≤ 4 := by rw [i9.length]; exact (octL_len n).2
      refine LCg.CompEnd.intro (by assumption) (by assumption) ((l9, listOf vs9.toArray nn9) :: (nA, listOf nvs.toArray nnn) :: extra) (by exact mem_rot3) ⟨⟨by omega, by omega, by omega⟩, o9⟩ (.tail _ (.head _)) ⟨l9, _, _, _, rfl, rfl, by rw [List.size_toArray, sizeLine_eq]; omega, .head _, rfl, ?_⟩
      rw [List.take_add_one, hn, List.flatMap_append]
      exact hS.append (by simpa using i9)
    · rintro ys nx ⟨rfl, hS⟩
      rw [show ns.take nvs.length = ns by rw [hni.length]; exact List.take_length] at hS
      unfold LCg.FinE
      intro D' h' tk' F' N' o1'
      have hor9 := oct_all hnr
      have hlen9 : (ns.flatMap octL).length ≤ 400 := Nat.le_trans (octs_len ns) (by omega)
      (try dsimp only)
      try k_fold
      k_steps
      · exfalso
        (rename (strOf _ != strOf _) = true => hb)
        simp at hb
      · unfold Stop
        exact CutS.intro (by assumption) (by assumption) (by exact ⟨rfl, rfl, rfl, rfl, rfl, trivial⟩) (by exact fun p hp => by walk_at "my_mem") ⟨_, rfl, rfl⟩
  clear F5 N5
  rintro _ _ u6 h6 tk6 ⟨tm, rfl, rfl⟩ F6 N6
  refine cutB (l := [_]) F6 (fun ps led => ∃ zA zvs znn, ps = [(Str.ofString "flags", .int fl tf), (Str.ofString "numbers", .ref nA), (Str.ofString "text", .str (strOf os) tt), (Str.ofString "points", pv), (Str.ofString "made", .str (strOf (ns.flatMap octL)) tm), (Str.ofString "scalars", .ref zA)] ∧
    led = (zA, listOf (zvs : List Value).toArray znn) :: (nA, listOf nvs.toArray nnn) :: extra ∧ IntsAre zvs (ns.filter scalarF) ∧ (@Ne Nat zA nA)) ?_ ?_
  · dsimp only [Blk]
    try k_fold
    k_steps
    unfold Stop
    refine LCt.CompSrcT.ledger (by rfl) (by k_asm) (by k_asm) (by walk_at "my_mem") (by rw [List.size_toArray, sizeLine_eq]; omega) ?_
    intro g9
    refine comp_restT nvs.toArray.size (fun i ys nx => nx = _ ∧ IntsAre ys ((ns.take i).filter scalarF)) ?_ ?_ _ _ _ _ (Nat.zero_add _) ⟨rfl, .nil⟩
    · rintro i ys nx hlt ⟨rfl, hS⟩ v I oI C oC D m₂ h tk E' hv hC hx F9 N9 o9 ne9
      obtain ⟨n, tn, rfl, hn⟩ := hni.at i v (by simpa using hv)
      (try dsimp only)
      try k_fold
      k_steps
      · unfold Stop
        have ha : scalarF n = true := by assumption
        refine LCg.CompEnd.intro (by assumption) (by assumption) _ (fun _ h => h) o9 (.inr ⟨_, .head _, rfl, _, rfl⟩) ⟨rfl, ?_⟩
        rw [List.take_add_one, hn, List.filter_append, show List.filter scalarF (some n).toList = [n] by rw [Option.toList_some, List.filter_cons, if_pos ha, List.filter_nil]]
        exact hS.append (.cons _ _ .nil)
      · unfold Stop
        have ha : scalarF n = false := by assumption
        refine LCg.CompEnd.intro (by assumption) (by assumption) _ (fun _ h => h) o9 (.inr ⟨_, .head _, rfl, _, rfl⟩) ⟨rfl, ?_⟩
        rw [List.take_add_one, hn, List.filter_append, show List.filter scalarF (some n).toList = [] by rw [Option.toList_some, List.filter_cons, if_neg (by rw [ha]; decide), List.filter_nil], List.append_nil]
        exact hS
    · rintro ys nx ⟨rfl, hS⟩
      rw [show ns.take nvs.toArray.size = ns by rw [List.size_toArray, hni.length]; exact List.take_length] at hS
      unfold LCg.FinA
      intro D' h' tk' F' N' o1'
      (try dsimp only)
      try k_fold
      k_steps
      unfold Stop
      exact CutS.intro (by assumption) (by assumption) (by exact ⟨rfl, rfl, rfl, rfl, rfl, rfl, trivial⟩) (by exact fun _ h => h) ⟨_, ys, _, rfl, rfl, hS, fun e => o1'.1 e.symm⟩
  clear F6 N6
  rintro _ _ u7 h7 tk7 ⟨zA, zvs, znn, rfl, rfl, hzi, hzn⟩ F7 N7
  refine cutB (l := [_]) F7 (fun ps led => ps = [(Str.ofString "flags", .int fl tf), (Str.ofString "text", .str (strOf os) tt), (Str.ofString "points", pv)] ∧ led = extra) ?_ ?_
  · dsimp only [Blk]
    have hor9 := oct_all hnr
    have hlen9 : (strOf (ns.flatMap octL)).length ≤ 200 := by rw [str_len]; exact Nat.le_trans (octs_len ns) (by omega)
    have hos9 : osOf (strOf (ns.flatMap octL)) = ns.flatMap octL := os_str hor9
    try k_fold
    k_steps
    · exfalso
      rw [hos9, pts_good hnr (by assumption)] at e9
      cases e9
    · unfold Stop
      exact CutS.intro (by assumption) (by assumption) (by exact ⟨rfl, rfl, rfl, trivial⟩) (by exact fun p hp => by walk_at "my_mem") ⟨rfl, rfl⟩
    · unfold Stop
      exact CutS.intro (by assumption) (by assumption) (by exact ⟨rfl, rfl, rfl, trivial⟩) (by exact fun p hp => by walk_at "my_mem") ⟨rfl, rfl⟩
    · exfalso
      rw [hos9, pts_good hnr (by assumption)] at e9
      exact absurd (Option.some.inj e9).symm (by assumption)
    · exfalso
      rw [hos9, pts_bad hnr (by assumption)] at e9
      cases e9
  clear F7 N7
  rintro _ lE u8 h8 tk8 ⟨rfl, rfl⟩ F8 N8
  have hjs : jsonF fl (pointsF (osOf (strOf os))) = ljsonF fl (readF os) := by rw [pts_str hos]; exact json_is hf0 (fun l e p hp => read_rng hos e p hp)
  have hok9 : PyData.strOk (tx (ljsonF fl (readF os)).2) = true := ljson_ok fun l e p hp => read_rng hos e p hp
  have hpv9 : PV lE pv (readF os) := by
    rcases hpv with ⟨e1, e2, e3⟩ | ⟨l, vs, nn, pts, e1, e2, e3, e4⟩
    · exact .inl ⟨e1, e2⟩
    · exact .inr ⟨l, vs, nn, pts, e1, e2 ▸ .head _, e3, Nat.le_trans (read_len hos e4) (by omega), read_rng hos e4, e4⟩
  clear hpv
  · dsimp only [Blk]
    try k_fold
    k_steps
end Mine

theorem PySem.Challenge.cw_ov0010_01_holds : PySem.Challenge.rw_ov0010_01.Holds :=
  Mine.hdT
