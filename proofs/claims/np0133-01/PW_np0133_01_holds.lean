import PyProof.Rows.All
import Wide.All
import OpenK.AllK
import Wide.FinOn
import Lean
import PySem.Challenge.RW_np0133_01
open PySem PySem.W PyProof.Rows
set_option Elab.async false
set_option synthInstance.maxSize 1 in
set_option maxRecDepth 100000 in
set_option maxHeartbeats 8000000 in
open_top Mine.hd for PySem.Challenge.rw_np0133_01
set_option maxRecDepth 100000
set_option maxHeartbeats 4000000
local macro_rules | `(tactic| walk_at $s:str) => `(tactic| k_extra $s)
local macro_rules | `(tactic| kst_facts) => `(tactic| k_extra "kst_facts")
local macro_rules | `(tactic| k_updF) => `(tactic| k_extra "k_updF")
section PartTx
namespace Mine
open PySem.StrLaws
/-- the six blanks -/
def isB (n : Nat) : Bool := n == 32 || n == 9 || n == 10 || n == 11 || n == 12 || n == 13
theorem isB_mem {n : Nat} : isB n = true ↔ n ∈ [32, 9, 10, 11, 12, 13] := by
  simp only [isB, Bool.or_eq_true, beq_iff_eq, List.mem_cons, List.not_mem_nil, or_false, or_assoc]
theorem false_iff_of {p : Prop} {b : Bool} (h : b = true ↔ p) : b = false ↔ ¬ p := by
  cases b with
  | true => exact ⟨fun q => (by cases q), fun q => absurd (h.mp rfl) q⟩
  | false => exact ⟨fun _ q => (by cases h.mpr q), fun _ => rfl⟩
def anyS (l : List Str) (c : Str) : Bool := l.any fun x => x == c
def isBlankS (c : Str) : Bool := [Str.ofString " ", Str.ofString "\t", Str.ofString "\n", Str.ofString "\x0b", Str.ofString "\x0c", Str.ofString "\x0d"].any fun x => x == c
theorem one_beq (a n : Nat) : ((⟨#[a]⟩ : Str) == ⟨#[n]⟩) = (n == a) := by
  rw [Bool.eq_iff_iff, beq_iff_eq, beq_iff_eq]
  constructor
  · intro h; cases h; rfl
  · intro h; rw [h]
theorem lit_sp : Str.ofString " " = ⟨#[32]⟩ := by decide +kernel
theorem lit_tab : Str.ofString "\t" = ⟨#[9]⟩ := by decide +kernel
theorem lit_nl : Str.ofString "\n" = ⟨#[10]⟩ := by decide +kernel
theorem lit_vt : Str.ofString "\x0b" = ⟨#[11]⟩ := by decide +kernel
theorem lit_ff : Str.ofString "\x0c" = ⟨#[12]⟩ := by decide +kernel
theorem lit_cr : Str.ofString "\x0d" = ⟨#[13]⟩ := by decide +kernel
theorem lit_ob : Str.ofString "{" = ⟨#[123]⟩ := by decide +kernel
theorem lit_cb : Str.ofString "}" = ⟨#[125]⟩ := by decide +kernel
theorem lit_os : Str.ofString "[" = ⟨#[91]⟩ := by decide +kernel
theorem lit_cs : Str.ofString "]" = ⟨#[93]⟩ := by decide +kernel
theorem lit_dl : Str.ofString "$" = ⟨#[36]⟩ := by decide +kernel
theorem lit_sc : Str.ofString ";" = ⟨#[59]⟩ := by decide +kernel
theorem lit_dq : Str.ofString "\"" = ⟨#[34]⟩ := by decide +kernel
theorem lit_bs : Str.ofString "\\" = ⟨#[92]⟩ := by decide +kernel
theorem lit_hs : Str.ofString "#" = ⟨#[35]⟩ := by decide +kernel
theorem isBlankS_one (n : Nat) : isBlankS ⟨#[n]⟩ = isB n := by
  simp only [isBlankS, isB, lit_sp, lit_tab, lit_nl, lit_vt, lit_ff, lit_cr, List.any_cons, List.any_nil, one_beq, Bool.or_false, Bool.or_assoc]

abbrev ctl : Str := Str.ofString "\x0c\n\x0d\t\x0b"
theorem ctl_is : ctl = ⟨#[12, 10, 13, 9, 11]⟩ := by decide +kernel
theorem find_none (x : Str) (n : Nat) (h : n ∉ x.cps.toList) : Txt.find x ⟨#[n]⟩ = -1 := by
  unfold Txt.find
  rcases occ_head x ⟨#[n]⟩ 1 (Nat.le_refl _) with ⟨h0, _⟩ | ⟨i, r, _, h1, _⟩
  · rw [h0]
  · exact absurd (List.mem_of_getElem? ((subAt_one x n i).mp h1)) h
theorem find_ctl (n : Nat) : (n = 12 ∧ Txt.find ctl ⟨#[n]⟩ = 0) ∨ (n = 10 ∧ Txt.find ctl ⟨#[n]⟩ = 1) ∨ (n = 13 ∧ Txt.find ctl ⟨#[n]⟩ = 2) ∨ (n = 9 ∧ Txt.find ctl ⟨#[n]⟩ = 3) ∨ (n = 11 ∧ Txt.find ctl ⟨#[n]⟩ = 4) ∨
    (n ≠ 12 ∧ n ≠ 10 ∧ n ≠ 13 ∧ n ≠ 9 ∧ n ≠ 11 ∧ Txt.find ctl ⟨#[n]⟩ = -1) := by
  by_cases h1 : n = 12
  · subst h1; exact .inl ⟨rfl, by decide +kernel⟩
  by_cases h2 : n = 10
  · subst h2; exact .inr (.inl ⟨rfl, by decide +kernel⟩)
  by_cases h3 : n = 13
  · subst h3; exact .inr (.inr (.inl ⟨rfl, by decide +kernel⟩))
  by_cases h4 : n = 9
  · subst h4; exact .inr (.inr (.inr (.inl ⟨rfl, by decide +kernel⟩)))
  by_cases h5 : n = 11
  · subst h5; exact .inr (.inr (.inr (.inr (.inl ⟨rfl, by decide +kernel⟩))))
  refine .inr (.inr (.inr (.inr (.inr ⟨h1, h2, h3, h4, h5, find_none _ _ ?_⟩))))
  rw [ctl_is]
  simp [h1, h2, h3, h4, h5]
theorem find_ctl_lt (n : Nat) : Txt.find ctl ⟨#[n]⟩ < 5 := by
  rcases find_ctl n with h | h | h | h | h | h <;> omega

/-- what a sign is written as -/
def escL (n : Nat) (deep : Bool) : List Nat :=
  if n = 12 then [92, 102] else if n = 10 then [92, 110] else if n = 13 then [92, 114] else if n = 9 then [92, 116] else if n = 11 then [92, 118]
  else if n = 93 ∨ n = 91 ∨ n = 36 ∨ n = 59 ∨ n = 32 ∨ n = 92 ∨ n = 34 then [92, n]
  else if deep = true ∧ (n = 123 ∨ n = 125) then [92, n] else [n]
def S (l : List Nat) : Str := ⟨l.toArray⟩
theorem S_append (a b : List Nat) : S a ++ S b = S (a ++ b) := PySem.Str.ext' (by show (S a).cps ++ (S b).cps = _; simp [S])
theorem lit_fnrtv : Str.ofString "fnrtv" = ⟨#[102, 110, 114, 116, 118]⟩ := by decide +kernel
theorem esc_find (n : Nat) (deep : Bool) (h : 0 ≤ Txt.find ctl ⟨#[n]⟩) : Str.ofString "\\" ++ Txt.item (Str.ofString "fnrtv") (Txt.find ctl ⟨#[n]⟩) = S (escL n deep) := by
  rw [lit_bs, lit_fnrtv]
  rcases find_ctl n with ⟨h1, h2⟩ | ⟨h1, h2⟩ | ⟨h1, h2⟩ | ⟨h1, h2⟩ | ⟨h1, h2⟩ | ⟨h1, h2, h3, h4, h5, h6⟩
  all_goals first | omega | (rw [h2, h1]; unfold escL; decide +revert +kernel)
theorem esc_set (n : Nat) (deep : Bool) (h : ¬ 0 ≤ Txt.find ctl ⟨#[n]⟩)
    (ha : ([Str.ofString "]", Str.ofString "[", Str.ofString "$", Str.ofString ";", Str.ofString " ", Str.ofString "\\", Str.ofString "\""].any fun x => x == (⟨#[n]⟩ : Str)) = true) :
    Str.ofString "\\" ++ ⟨#[n]⟩ = S (escL n deep) := by
  simp only [lit_cs, lit_os, lit_dl, lit_sc, lit_sp, lit_bs, lit_dq, List.any_cons, List.any_nil, one_beq, Bool.or_false, Bool.or_eq_true, beq_iff_eq] at ha
  rw [lit_bs]
  rcases ha with h | h | h | h | h | h | h <;> (subst h; decide +revert +kernel)
theorem esc_deep (n : Nat) (deep : Bool) (hd : deep = true) (h : ¬ 0 ≤ Txt.find ctl ⟨#[n]⟩)
    (ha : ([Str.ofString "{", Str.ofString "}"].any fun x => x == (⟨#[n]⟩ : Str)) = true) :
    Str.ofString "\\" ++ ⟨#[n]⟩ = S (escL n deep) := by
  subst hd
  simp only [lit_ob, lit_cb, List.any_cons, List.any_nil, one_beq, Bool.or_false, Bool.or_eq_true, beq_iff_eq] at ha
  rw [lit_bs]
  rcases ha with h | h <;> (subst h; decide +kernel)
theorem esc_self (n : Nat) (deep : Bool) (h : ¬ 0 ≤ Txt.find ctl ⟨#[n]⟩)
    (ha : ([Str.ofString "]", Str.ofString "[", Str.ofString "$", Str.ofString ";", Str.ofString " ", Str.ofString "\\", Str.ofString "\""].any fun x => x == (⟨#[n]⟩ : Str)) = false)
    (hb : deep = false ∨ ([Str.ofString "{", Str.ofString "}"].any fun x => x == (⟨#[n]⟩ : Str)) = false) : (⟨#[n]⟩ : Str) = S (escL n deep) := by
  simp only [lit_cs, lit_os, lit_dl, lit_sc, lit_sp, lit_bs, lit_dq, lit_ob, lit_cb, List.any_cons, List.any_nil, one_beq, Bool.or_false, Bool.or_eq_false_iff, beq_eq_false_iff_ne] at ha hb
  rcases find_ctl n with ⟨h1, h2⟩ | ⟨h1, h2⟩ | ⟨h1, h2⟩ | ⟨h1, h2⟩ | ⟨h1, h2⟩ | ⟨h1, h2, h3, h4, h5, h6⟩
  · omega
  · omega
  · omega
  · omega
  · omega
  unfold escL
  rw [if_neg h1, if_neg h2, if_neg h3, if_neg h4, if_neg h5, if_neg (by simp only [not_or]; exact ha), if_neg ?_]
  · rfl
  · rintro ⟨hd, hn⟩
    rcases hb with hb | hb
    · rw [hd] at hb; cases hb
    · omega
end Mine
end PartTx
section PartRu
namespace Mine
section
variable {prog : Program} {w : World} {A : Around} {E : Value → Shared → Prop} {s : Shared} {name : Str} {scope : Scope} {L a : Addr} {cd : Value} {h₀ : Heap} {m : Str → Option Value}
theorem or_names {x y : Str} {p1 p2 pos : Pos} {p q : Bool} {Q : Value → Shared → Prop} (F : Fr h₀ L s.heap m) (hx : m x = some (.bool p)) (hy : m y = some (.bool q)) (h : Q (.bool (p || q)) s)
    (hk : scope.kind = .function := by rfl) (hl : (envOf name scope L a cd).kindOf x = some .local := by rfl) (hl2 : (envOf name scope L a cd).kindOf y = some .local := by rfl)
    (hd : (x == ("__debug__" : Str)) = false := by decide) (hd2 : (y == ("__debug__" : Str)) = false := by decide) :
    wpAny (model prog w) A (eval (.BoolOp .Or [.Name x p1, .Name y p2] pos) (envOf name scope L a cd)) Q E s := by
  refine BoolOp_or (ld F hx (wpAny_truthy_bool ?_) hk hl hd)
  cases p
  · exact BoolOp_one (ld F hy h hk hl2 hd2)
  · exact h
theorem and_name_eq {x y c : Str} {p1 p2 p3 p4 pos : Pos} {k : Nat} {p : Bool} {b : Str} {t : Tok} {Q : Value → Shared → Prop} (F : Fr h₀ L s.heap m) (hx : m x = some (.bool p)) (hy : m y = some (.str b t)) (h : ∀ tk, Q (.bool (p && (b == c))) { s with toks := tk })
    (hk : scope.kind = .function := by rfl) (hl : (envOf name scope L a cd).kindOf x = some .local := by rfl) (hl2 : (envOf name scope L a cd).kindOf y = some .local := by rfl)
    (hd : (x == ("__debug__" : Str)) = false := by decide) (hd2 : (y == ("__debug__" : Str)) = false := by decide) :
    wpAny (model prog w) A (eval (.BoolOp .And [.Name x p1, .Compare (.Name y p2) [.Eq] [.Constant (.str c) k p3] p4] pos) (envOf name scope L a cd)) Q E s := by
  refine BoolOp_and (ld F hx (wpAny_truthy_bool ?_) hk hl hd)
  cases p
  · exact h s.toks
  · refine BoolOp_one (wpAny_Compare1 (ld F hy ?_ hk hl2 hd2))
    refine Calls.Constant_str ?_
    exact eq_str (h _)
end
end Mine
end PartRu
section PartCt
namespace Mine
abbrev Led := List (Addr × Obj)
noncomputable abbrev LO : List Str := looseW hd.view_39 [Str.ofString "Raised", Str.ofString "error", Str.ofString "quote"]

/-- the contract of a def of the text: from every frame, its value and what it leaves -/
def Con (w : World) (mean : ExcName → Option Value) (mg mb : Str → Option Value) (f : Addr) (k : Nat) (news : Led) (vs : List Value) (Out : Value → Led → Prop) : Prop :=
  ∀ (dp un : Nat) (gd : Option (List Code)) (cn : Str) (cs : Scope) (a : Addr) (ccd : Value) (cl : List (Str × Addr)) (outer : List Env) (A₀ : Around) (base h₀ : Heap) (L : Addr) (m : Str → Option Value) (s : Shared)
    (Q E : Value → Shared → Prop),
    Below A₀ base outer h₀ → Fr h₀ L s.heap m → (hd.heap_39 w.params).In h₀ → News h₀ L s.heap news → Top hd.view_39 LO mean mg mb h₀ → cs.kind = .function → dp + k < recursionLimit → un + 8 * k < cLine →
    (∀ r tl h' tk', Fr h₀ L h' m → News h₀ L h' (news ++ tl) → (∀ q ∈ news, ∀ p ∈ tl, q.1 < p.1) → Out r tl → Q r { s with heap := h', toks := tk' }) →
    wpAny (model PySem.Challenge.rw_np0133_01.row.prog w) (ktrTop dp un gd cn cs L a ccd cl outer) (call (.ref f) vs) Q E s

theorem ap2 {α β : Type} {q : α → β → Prop} {a : α} {b : β} (h : q a b) : q a b := h
theorem sub_all {a b : Led} (h : ∀ p ∈ a, p ∈ b) : ∀ p ∈ a, p ∈ b := h
theorem end0 {h₀ h' : Heap} {L : Addr} {m : Str → Option Value} {news news' : Led} {Out : Value → Led → Prop} {s : Shared} {Q : Value → Shared → Prop} {r : Value} {tk' : Nat}
    (hret : ∀ r tl h' tk', Fr h₀ L h' m → News h₀ L h' (news ++ tl) → (∀ q ∈ news, ∀ p ∈ tl, q.1 < p.1) → Out r tl → Q r { s with heap := h', toks := tk' })
    (F : Fr h₀ L h' m) (N : News h₀ L h' news') (hs : ∀ p ∈ news, p ∈ news') (ho : Out r []) : Q r { s with heap := h', toks := tk' } :=
  hret r [] h' tk' F (by rw [List.append_nil]; exact fun p hp => N p (hs p hp)) (fun _ _ _ h => nomatch h) ho

/-- a contract that leaves nothing, used -/
theorem Con.use0 {w : World} {mean : ExcName → Option Value} {mg mb : Str → Option Value} {f : Addr} {k : Nat} {news : Led} {vs : List Value} {Out : Value → Prop}
    (C : Con w mean mg mb f k news vs (fun v tl => Out v ∧ tl = []))
    {dp un : Nat} {gd : Option (List Code)} {cn : Str} {cs : Scope} {a : Addr} {ccd : Value} {cl : List (Str × Addr)} {outer : List Env} {A₀ : Around} {base h₀ : Heap} {L : Addr} {m : Str → Option Value} {s : Shared} {Q E : Value → Shared → Prop}
    (B : Below A₀ base outer h₀) (F : Fr h₀ L s.heap m) (X : (hd.heap_39 w.params).In h₀) (N : News h₀ L s.heap news) (T : Top hd.view_39 LO mean mg mb h₀) (hk : cs.kind = .function) (hd : dp + k < recursionLimit) (hu : un + 8 * k < cLine)
    (ret : ∀ r h' tk', Fr h₀ L h' m → News h₀ L h' news → Out r → Q r { s with heap := h', toks := tk' }) :
    wpAny (model PySem.Challenge.rw_np0133_01.row.prog w) (ktrTop dp un gd cn cs L a ccd cl outer) (call (.ref f) vs) Q E s := by
  refine C _ _ _ _ _ _ _ _ _ _ _ _ _ _ _ _ _ B F X N T hk hd hu ?_
  rintro r tl h' tk' F' N' _ ⟨ho, rfl⟩
  rw [List.append_nil] at N'
  exact ret r h' tk' F' N' ho

/-- a contract that gives a text back, used -/
theorem Con.useS {w : World} {mean : ExcName → Option Value} {mg mb : Str → Option Value} {f : Addr} {k : Nat} {news : Led} {vs : List Value} {x : Str}
    (C : Con w mean mg mb f k news vs (fun v tl => (∃ t', v = .str x t') ∧ tl = []))
    {dp un : Nat} {gd : Option (List Code)} {cn : Str} {cs : Scope} {a : Addr} {ccd : Value} {cl : List (Str × Addr)} {outer : List Env} {A₀ : Around} {base h₀ : Heap} {L : Addr} {m : Str → Option Value} {s : Shared} {Q E : Value → Shared → Prop}
    (B : Below A₀ base outer h₀) (F : Fr h₀ L s.heap m) (X : (hd.heap_39 w.params).In h₀) (N : News h₀ L s.heap news) (T : Top hd.view_39 LO mean mg mb h₀) (hk : cs.kind = .function) (hd : dp + k < recursionLimit) (hu : un + 8 * k < cLine)
    (ret : ∀ y t' h' tk', y = x → Fr h₀ L h' m → News h₀ L h' news → Q (.str y t') { s with heap := h', toks := tk' }) :
    wpAny (model PySem.Challenge.rw_np0133_01.row.prog w) (ktrTop dp un gd cn cs L a ccd cl outer) (call (.ref f) vs) Q E s :=
  C.use0 B F X N T hk hd hu (by rintro r h' tk' F' N' ⟨t', rfl⟩; exact ret x t' h' tk' rfl F' N')
end Mine
end PartCt
section PartMl
theorem Mine.wMl : True := by
  k_with_none
  k_with "con in" => (
  w_top off
  unfold Mine.Con
  k_fill
  intro dp un gd cn cs a ccd cl outer A₀ base h₀ L m s Q E B F X N T hk hd hu hret
  refine wpAny_call ?_
  k_dflt cell_enter)
  k_with "con in0" => (
  w_top off
  unfold Mine.Con
  k_fill
  intro dp un gd cn cs a ccd cl outer A₀ base h₀ L m s Q E B F X N T hk hd hu hret
  refine wpAny_call ?_)
  k_with "con args" => (
  (case kA => exact rfl); (case kF => exact rfl); (case kK => assumption); (case k1 => k_asm); (case k2 => k_asm); (case k3 => k_asm); (case k4 => k_asm); (case k5 => k_asm); (case k6 => k_is); (case k7 => k_is); (case k8 => ktr_room); (case k9 => first | exact BindsTo.of_eq rfl | exact binds_K (by k_in) rfl (by k_is) rfl rfl rfl); (case c5 => decide); (case kB => exact locs rfl); (case c2 => exact rfl); (case c3 => exact rfl); (case c4 => exact rfl); k_whole; intro g' L' h' FG' F' N' B' X' T'; (try dsimp only); (try k_fold))
  k_with "con end" => (
  refine Mine.end0 hret (by k_asm) (by k_asm) (by first | exact Mine.sub_all (by intro p hp; repeat (first | exact hp | refine List.mem_cons_of_mem _ ?_)) | exact Mine.sub_all (by kst_inAny)) ?_)
  k_with "con use0" => (
  (case k1 => k_asm); (case k2 => k_asm); (case k3 => k_asm); (case k4 => k_asm); (case k5 => k_asm); (case kK => first | exact rfl | assumption); (case kd => ktr_room); (case ku => ktr_units))
  k_with "call ref" => (
  k_here
  (show wpAny _ _ (call (Value.ref 52) [Value.str _ _]) _ _ _)
  (k_dflt (refine' Mine.Con.use0 (Mine.con_is_blank _ _) ?k1 ?k2 ?k3 ?k4 ?k5 ?kK ?kd ?ku ?_; (case k1 => k_asm); (case k2 => k_asm); (case k3 => k_asm); (case k4 => k_asm); (case k5 => k_asm); (case kK => first | exact rfl | assumption); (case kd => ktr_room); (case ku => ktr_units)))
  (intro r9 h9 tk9 F9 N9 hr9; subst hr9; (try dsimp only); (try k_fold)))
  k_with "step" => (first
  | (k_unfold; (try dsimp only))
  | (refine Mine.ap2 ?_; k_unfold; (try dsimp only))
  | (k_end; kc_close)
  | ((fail_if_success (with_reducible show wpAny _ _ (exec (Stmt.While _ _ _ _) _) _ _ _)); first | walk1 | (dsimp only; walk1))
  | (leave1; (try dsimp only))
  | fail "no step")
  k_with "steps" => repeat' walk_at "step"
  k_with "eval BoolOp" => (
  k_here
  (k_dflt (first
   | (refine' Mine.or_names ?k1 ?k2 ?k3 ?_; (case k1 => k_asm); (case k2 => rfl); (case k3 => rfl))
   | (refine' Mine.and_name_eq ?k1 ?k2 ?k3 ?_; (case k1 => k_asm); (case k2 => rfl); (case k3 => rfl))))
  k_whole)
  k_with "drop" => (
  (rename News _ _ _ _ => nX)
  (have nY := cb_drop (news := news) nX (by intro p hp; repeat (first | exact hp | refine List.mem_cons_of_mem _ ?_)))
  (clear nX))
  k_with "KswEnd" => (
  (rename News _ _ _ _ => nE')
  (try simp only [List.push_toArray] at nE')
  (first
    | (refine' ksw_end ⟨_,_,_,_,_,_,_⟩ ?e1 nE' ?e2 ?e3 ?e4 ?e5 ?e6 ?e7)
    | (refine' ksw_end ⟨_,_,_,_⟩ ?e1 nE' ?e2 ?e3 ?e4 ?e5 ?e6 ?e7)
    | (refine' ksw_end ⟨_,_⟩ ?e1 nE' ?e2 ?e3 ?e4 ?e5 ?e6 ?e7)
    | (refine' ksw_end ⟨_,_,_,_,_⟩ ?e1 nE' ?e2 ?e3 ?e4 ?e5 ?e6 ?e7))
  (case e1 => assumption)
  (case e2 => first | exact Mine.sub_all (by intro p hp; repeat (first | exact hp | refine List.mem_cons_of_mem _ ?_)) | kst_in)
  (case e3 => kst_facts)
  (case e4 => kst_all)
  (case e5 => ksw_same)
  (case e6 => kst_p)
  (case e7 => ksw_less))
  k_with "exec If" => refine wpAny_If ?_
  k_with "call ref" => (
  k_here
  (k_dflt (first
   | ((show wpAny _ _ (call (Value.ref 129) [Value.str _ _, Value.bool _]) _ _ _); refine' Mine.Con.useS (Mine.con_mode_of _ _ _ ?hc) ?k1 ?k2 ?k3 ?k4 ?k5 ?kK ?kd ?ku ?_)
   | ((show wpAny _ _ (call (Value.ref 136) [Value.str _ _, Value.bool _]) _ _ _); refine' Mine.Con.useS (Mine.con_escaped _ _ _) ?k1 ?k2 ?k3 ?k4 ?k5 ?kK ?kd ?ku ?_)))
  (try (case hc => first | assumption | omega))
  (case k1 => k_asm); (case k2 => k_asm); (case k3 => k_asm); (case k4 => k_asm); (case k5 => k_asm); (case kK => first | exact rfl | assumption); (case kd => ktr_room); (case ku => ktr_units)
  (intro x9 t9 h9 tk9 e9 F9 N9; (try dsimp only); (try k_fold)))
  k_with "call builtin:str.join" => (
  k_here
  (k_dflt (first
   | ((with_reducible show wpAny _ _ (call (Value.builtin "str.join") [Value.str (Str.ofString "") _, Value.ref _]) _ _ _); refine' Mine.join0_at ?k1 ?k2 ?k3 ?k4 ?k5 ?_)
   | ((with_reducible show wpAny _ _ (call (Value.builtin "str.join") [Value.str (Str.ofString " ") _, Value.ref _]) _ _ _); refine' Mine.joinB_at ?k1 ?k2 ?k3 ?k4 ?k5 ?_)))
  (case k1 => k_asm); (case k2 => k_memK); (case k3 => k_asm); (case k4 => first | assumption | exact rfl); (case k5 => walk_at "join size")
  (intro t9 k9; (try dsimp only); (try k_fold)))
  k_with "call ref" => (
  k_here
  (with_reducible show wpAny _ _ (call (Value.ref 129) [Value.str (Str.ofString "") _, Value.bool _]) _ _ _)
  (k_dflt (refine' Mine.Con.use0 (Mine.con_mode_of0 _ _) ?k1 ?k2 ?k3 ?k4 ?k5 ?kK ?kd ?ku ?_))
  (case k1 => k_asm); (case k2 => k_asm); (case k3 => k_asm); (case k4 => k_asm); (case k5 => k_asm); (case kK => first | exact rfl | assumption); (case kd => ktr_room); (case ku => ktr_units)
  (intro r9 h9 tk9 F9 N9 hr9; (obtain ⟨t9, hr9⟩ := hr9); subst hr9; (try dsimp only); (try k_fold)))
  k_with "con argsC" => (
  (case kA => exact rfl); (case kF => exact rfl); (case kK => assumption); (case k1 => k_asm); (case k2 => k_asm); (case k3 => k_asm); (case k4 => k_asm); (case k5 => k_asm); (case k6 => k_is); (case k7 => k_is); (case k8 => ktr_room); (case k9 => first | exact BindsTo.of_eq rfl | exact binds_K (by k_in) rfl (by k_is) rfl rfl rfl); (case kB => exact rfl); (case kD => decide +kernel); (case c2 => exact rfl); (case c3 => exact rfl); (case c4 => exact rfl); k_whole; intro g' L' h' tk' cells' FG' F' N' Y' B' X' T' l1; (try k_lt l1); k_cells Y'; (try simp only [List.cons_append, List.nil_append] at N'); (try dsimp only); (try k_fold))
  k_with "call ref" => (
  k_here
  (k_dflt (first
   | ((show wpAny _ _ (call (Value.ref 158) [Value.str _ _]) _ _ _); refine' Mine.Con.useS (Mine.con_trim _ _ ?hc) ?k1 ?k2 ?k3 ?k4 ?k5 ?kK ?kd ?ku ?_)
   | ((show wpAny _ _ (call (Value.ref 205) [Value.str _ _]) _ _ _); refine' Mine.Con.useS (Mine.con_law_trimmed _ _ ?hc) ?k1 ?k2 ?k3 ?k4 ?k5 ?kK ?kd ?ku ?_)
   | ((show wpAny _ _ (call (Value.ref 144) [Value.str _ _, Value.bool _]) _ _ _); refine' Mine.Con.useS (Mine.con_quote _ _ _ ?hc) ?k1 ?k2 ?k3 ?k4 ?k5 ?kK ?kd ?ku ?_)
   | ((show wpAny _ _ (call (Value.ref 144) [Value.str _ _]) _ _ _); refine' Mine.Con.useS (Mine.con_quoteD _ _ ?hc) ?k1 ?k2 ?k3 ?k4 ?k5 ?kK ?kd ?ku ?_)
   | ((show wpAny _ _ (call (Value.ref 193) [Value.str _ _, Value.bool _]) _ _ _); refine' Mine.Con.useS (Mine.con_law_mode _ _ _ ?hc) ?k1 ?k2 ?k3 ?k4 ?k5 ?kK ?kd ?ku ?_)))
  (try (case hc => first | assumption | omega))
  (case k1 => k_asm); (case k2 => k_asm); (case k3 => k_asm); (case k4 => k_asm); (case k5 => k_asm); (case kK => first | exact rfl | assumption); (case kd => ktr_room); (case ku => ktr_units)
  (intro x9 t9 h9 tk9 e9 F9 N9; (try (first | (have z9 := Mine.trim_fact e9) | (have z9 := Mine.quote_fact e9))); (try dsimp only); (try k_fold)))
  k_with "for texts" => (k_here; (rename Fr _ _ _ _ => lF'); (with_unfolding_all refine' For_invVF lF' ?k1 ?k2 ?_; (case k1 => exact rfl); (case k2 => exact rfl); k_whole))
  k_with "call ref" => (
  k_here
  (k_dflt (first
   | ((show wpAny _ _ (call (Value.ref 165) [Value.str _ _]) _ _ _); refine' Mine.Con.useS (Mine.con_concat_part _ _ ?hc) ?k1 ?k2 ?k3 ?k4 ?k5 ?kK ?kd ?ku ?_)
   | ((show wpAny _ _ (call (Value.ref 212) [Value.str _ _]) _ _ _); refine' Mine.Con.useS (Mine.con_law_part _ _ ?hc) ?k1 ?k2 ?k3 ?k4 ?k5 ?kK ?kd ?ku ?_)
   | ((show wpAny _ _ (call (Value.ref 200) [Value.str _ _, Value.bool _]) _ _ _); refine' Mine.Con.useS (Mine.con_law_written _ _ _ ?hc) ?k1 ?k2 ?k3 ?k4 ?k5 ?kK ?kd ?ku ?_)))
  (try (case hc => first | assumption | omega))
  (case k1 => k_asm); (case k2 => k_asm); (case k3 => k_asm); (case k4 => k_asm); (case k5 => k_asm); (case kK => first | exact rfl | assumption); (case kd => ktr_room); (case ku => ktr_units)
  (intro x9 t9 h9 tk9 e9 F9 N9; (try (first | (have z9 := Mine.part_fact e9) | (have z9 := Mine.quote_fact e9))); (try dsimp only); (try k_fold)))
  k_with "call ref" => (
  k_here
  (k_dflt (first
   | ((show wpAny _ _ (call (Value.ref 151) [Value.ref _]) _ _ _); refine' Mine.Con.useS (Mine.con_join_list ?hT ?hi ?hm ?hB ?hn) ?k1 ?k2 ?k3 ?k4 ?k5 ?kK ?kd ?ku ?_)
   | ((show wpAny _ _ (call (Value.ref 172) [Value.ref _]) _ _ _); refine' Mine.Con.useS (Mine.con_concat ?hT ?hi ?hm ?hB ?hn) ?k1 ?k2 ?k3 ?k4 ?k5 ?kK ?kd ?ku ?_)
   | ((show wpAny _ _ (call (Value.ref 179) [Value.ref _]) _ _ _); refine' Mine.Con.useS (Mine.con_code_text ?hT ?hi ?hm ?hB ?hn) ?k1 ?k2 ?k3 ?k4 ?k5 ?kK ?kd ?ku ?_)))
  (case hT => first | assumption | exact ⟨_, .inl rfl⟩ | exact ⟨_, .inr rfl⟩)
  (case hi => assumption)
  (case hm => first | assumption | k_memK)
  (case hB => assumption)
  (case hn => first | assumption | omega)
  (case k1 => k_asm); (case k2 => k_asm); (case k3 => k_asm); (case k4 => k_asm); (case k5 => k_asm); (case kK => first | exact rfl | assumption); (case kd => ktr_room); (case ku => ktr_units)
  (intro x9 t9 h9 tk9 e9 F9 N9; (try dsimp only); (try k_fold)))
  k_with "binaryOp Add str str" => (
  k_here
  (with_reducible show wpAny _ _ (binaryOp Operator.Add (Value.str (Str.ofString _) _) (Value.str (Str.ofString _) _)) _ _ _)
  (refine' PyProof.Rows.SBL.add ?_ ?z)
  (case z => decide +kernel)
  (intro t9 k9 z9))
  k_with "call builtin:str.replace" => (
  k_here
  (with_reducible show wpAny _ _ (call (Value.builtin "str.replace") [Value.str _ _, Value.str _ _, Value.str _ _]) _ _ _)
  (walk_at "replace by"))
  k_with "con end1" => (
  refine Mine.end1 hret (by k_asm) (by k_asm) (by first | exact Mine.sub_all (by intro p hp; repeat (first | exact hp | refine List.mem_cons_of_mem _ ?_)) | exact Mine.sub_all (by kst_inAny)) (by k_memK)
    (by first | assumption | exact PySem.W.kst_ltOf (by first | exact And.right (by assumption) | exact And.right (And.right (by assumption)) | exact And.right (And.right (And.right (by assumption))) | exact And.right (And.right (And.right (And.right (by assumption)))))) ?_)
  trivial
namespace Mine
open PySem.StrLaws
abbrev esc8 : Str := Str.ofString "escape"
def modeEnd (H : Bool) (d : Int) (ib wb we : Bool) : Str :=
  if 0 < d then Str.ofString "escape" else if ib = true then (if we = true ∧ wb = false then Str.ofString "mask" else Str.ofString "brace") else if H = true then Str.ofString "brace" else Str.ofString "none"
def modeScan (H : Bool) (l : List Nat) (d : Int) (ib wb we : Bool) : Str :=
  match l with
  | [] => modeEnd H d ib wb we
  | c :: r =>
    if c = 123 then modeScan H r (d + 1) ib wb we
    else if c = 125 then (if d - 1 < 0 then Str.ofString "escape" else modeScan H r (d - 1) ib wb we)
    else if c = 93 ∨ c = 34 then modeScan H r d true wb true
    else if c = 92 then
      (if r = [] ∨ r.head? = some 10 then Str.ofString "escape"
       else if r.head? = some 123 ∨ r.head? = some 125 ∨ r.head? = some 92 then modeScan H (r.drop 1) d true true we
       else modeScan H r d true true we)
    else if c = 91 ∨ c = 36 ∨ c = 59 ∨ isB c = true then modeScan H r d true true we
    else modeScan H r d ib wb we
termination_by l.length
decreasing_by all_goals first | (simp_wf; done) | (simp_wf; omega) | (simp only [List.length_drop, List.length_cons]; omega)

def modeOf (l : List Nat) (h : Bool) : Str :=
  match l with
  | [] => Str.ofString "brace"
  | b :: _ => modeScan (h && b == 35) l 0 (b == 123 || b == 34) ((b == 123 || b == 34) || (h && b == 35)) false


theorem item_at {x : Str} {k : Int} (h0 : 0 ≤ k) (hk : k < x.length) : ∃ n, Txt.item x k = ⟨#[n]⟩ ∧ x.cps.toList.drop k.toNat = n :: x.cps.toList.drop (k + 1).toNat := by
  obtain ⟨n, hn⟩ := some_at h0 hk
  refine ⟨n, ?_, ?_⟩
  · unfold Txt.item Txt.charAt
    rw [at_nonneg h0 hn]; rfl
  · have e : (k + 1).toNat = k.toNat + 1 := by omega
    rw [e]
    have h2 : k.toNat < x.cps.toList.length := by
      have : x.length = x.cps.toList.length := by simp [PySem.Str.length]
      omega
    rw [List.drop_eq_getElem_cons h2]
    congr 1
    have : x.cps.toList[k.toNat]? = some n := by simpa using hn
    rw [List.getElem?_eq_getElem h2] at this
    exact Option.some.inj this
theorem any2 (a b n : Nat) : ([(⟨#[a]⟩ : Str), ⟨#[b]⟩].any fun x => x == (⟨#[n]⟩ : Str)) = (n == a || n == b) := by
  simp only [List.any_cons, List.any_nil, one_beq, Bool.or_false]
theorem any3 (a b c n : Nat) : ([(⟨#[a]⟩ : Str), ⟨#[b]⟩, ⟨#[c]⟩].any fun x => x == (⟨#[n]⟩ : Str)) = (n == a || (n == b || n == c)) := by
  simp only [List.any_cons, List.any_nil, one_beq, Bool.or_false]
theorem any4 (a b c d n : Nat) : ([(⟨#[a]⟩ : Str), ⟨#[b]⟩, ⟨#[c]⟩, ⟨#[d]⟩].any fun x => x == (⟨#[n]⟩ : Str)) = (n == a || (n == b || (n == c || n == d))) := by
  simp only [List.any_cons, List.any_nil, one_beq, Bool.or_false]
theorem one_eq (a n : Nat) : ((⟨#[n]⟩ : Str) == ⟨#[a]⟩) = (n == a) := by
  rw [one_beq, Bool.eq_iff_iff, beq_iff_eq, beq_iff_eq]; exact eq_comm
section
variable {x : Str} {k : Int} {H ib wb we : Bool} {d : Int} {R : Str}
theorem scan_cons (H : Bool) (c : Nat) (r : List Nat) (d : Int) (ib wb we : Bool) : modeScan H (c :: r) d ib wb we =
    if c = 123 then modeScan H r (d + 1) ib wb we
    else if c = 125 then (if d - 1 < 0 then Str.ofString "escape" else modeScan H r (d - 1) ib wb we)
    else if c = 93 ∨ c = 34 then modeScan H r d true wb true
    else if c = 92 then
      (if r = [] ∨ r.head? = some 10 then Str.ofString "escape"
       else if r.head? = some 123 ∨ r.head? = some 125 ∨ r.head? = some 92 then modeScan H (r.drop 1) d true true we
       else modeScan H r d true true we)
    else if c = 91 ∨ c = 36 ∨ c = 59 ∨ isB c = true then modeScan H r d true true we
    else modeScan H r d ib wb we := by rw [modeScan]
theorem scan_nil (H : Bool) (d : Int) (ib wb we : Bool) : modeScan H [] d ib wb we = modeEnd H d ib wb we := by rw [modeScan]
abbrev anyMask (c : Str) : Bool := [Str.ofString "]", Str.ofString "\""].any fun x => x == c
abbrev anyBr (c : Str) : Bool := [Str.ofString "[", Str.ofString "$", Str.ofString ";", Str.ofString "\\"].any fun x => x == c
abbrev anyPair (c : Str) : Bool := [Str.ofString "{", Str.ofString "}", Str.ofString "\\"].any fun x => x == c
theorem Mine.wMl0 : True := by
  k_with "ms" => (simp only [anyMask, anyBr, anyPair, lit_ob, lit_cb, lit_cs, lit_dq, lit_os, lit_dl, lit_sc, lit_bs, lit_nl, any2, any3, any4, one_eq, isBlankS_one, beq_iff_eq, beq_eq_false_iff_ne, Bool.or_eq_true, Bool.or_eq_false_iff, ne_eq] at *)
  trivial
theorem ms_ob (h0 : 0 ≤ k) (hk : k < x.length) (h : modeScan H (x.cps.toList.drop k.toNat) d ib wb we = R) (a1 : (Txt.item x k == Str.ofString "{") = true) :
    modeScan H (x.cps.toList.drop (k + 1).toNat) (d + 1) ib wb we = R := by
  obtain ⟨n, e1, e2⟩ := item_at h0 hk
  try simp only [e1] at a1; rw [e2, scan_cons] at h; clear e1; walk_at "ms"
  rw [if_pos a1] at h; exact h
theorem ms_cb (h0 : 0 ≤ k) (hk : k < x.length) (h : modeScan H (x.cps.toList.drop k.toNat) d ib wb we = R) (a1 : (Txt.item x k == Str.ofString "{") = false) (a2 : (Txt.item x k == Str.ofString "}") = true) (a3 : ¬ d - 1 < 0) :
    modeScan H (x.cps.toList.drop (k + 1).toNat) (d - 1) ib wb we = R := by
  obtain ⟨n, e1, e2⟩ := item_at h0 hk
  try simp only [e1] at a1 a2 a3; rw [e2, scan_cons] at h; clear e1; walk_at "ms"
  rw [if_neg a1, if_pos a2, if_neg a3] at h; exact h
theorem ms_cbE (h0 : 0 ≤ k) (hk : k < x.length) (h : modeScan H (x.cps.toList.drop k.toNat) d ib wb we = R) (a1 : (Txt.item x k == Str.ofString "{") = false) (a2 : (Txt.item x k == Str.ofString "}") = true) (a3 : d - 1 < 0) :
    Str.ofString "escape" = R := by
  obtain ⟨n, e1, e2⟩ := item_at h0 hk
  try simp only [e1] at a1 a2 a3; rw [e2, scan_cons] at h; clear e1; walk_at "ms"
  rw [if_neg a1, if_pos a2, if_pos a3] at h; exact h
theorem ms_mask (h0 : 0 ≤ k) (hk : k < x.length) (h : modeScan H (x.cps.toList.drop k.toNat) d ib wb we = R) (a1 : (Txt.item x k == Str.ofString "{") = false) (a2 : (Txt.item x k == Str.ofString "}") = false) (a3 : anyMask (Txt.item x k) = true) :
    modeScan H (x.cps.toList.drop (k + 1).toNat) d true wb true = R := by
  obtain ⟨n, e1, e2⟩ := item_at h0 hk
  try simp only [e1] at a1 a2 a3; rw [e2, scan_cons] at h; clear e1; walk_at "ms"
  rw [if_neg a1, if_neg a2, if_pos a3] at h; exact h
theorem ms_plain (h0 : 0 ≤ k) (hk : k < x.length) (h : modeScan H (x.cps.toList.drop k.toNat) d ib wb we = R) (a1 : (Txt.item x k == Str.ofString "{") = false) (a2 : (Txt.item x k == Str.ofString "}") = false) (a3 : anyMask (Txt.item x k) = false)
    (a4 : anyBr (Txt.item x k) = false) (a5 : isBlankS (Txt.item x k) = false) :
    modeScan H (x.cps.toList.drop (k + 1).toNat) d ib wb we = R := by
  obtain ⟨n, e1, e2⟩ := item_at h0 hk
  try simp only [e1] at a1 a2 a3 a4 a5; rw [e2, scan_cons] at h; clear e1; walk_at "ms"
  rw [if_neg a1, if_neg a2, if_neg (by omega), if_neg (by omega), if_neg (by simp only [not_or]; exact ⟨by omega, by omega, by omega, by rw [a5]; simp⟩)] at h; exact h
theorem ms_brace (h0 : 0 ≤ k) (hk : k < x.length) (h : modeScan H (x.cps.toList.drop k.toNat) d ib wb we = R) (a1 : (Txt.item x k == Str.ofString "{") = false) (a2 : (Txt.item x k == Str.ofString "}") = false) (a3 : anyMask (Txt.item x k) = false)
    (a4 : anyBr (Txt.item x k) = true ∨ isBlankS (Txt.item x k) = true) (a5 : (Txt.item x k == Str.ofString "\\") = false) :
    modeScan H (x.cps.toList.drop (k + 1).toNat) d true true we = R := by
  obtain ⟨n, e1, e2⟩ := item_at h0 hk
  try simp only [e1] at a1 a2 a3 a4 a5; rw [e2, scan_cons] at h; clear e1; walk_at "ms"
  rw [if_neg a1, if_neg a2, if_neg (by omega), if_neg a5, if_pos (by rcases a4 with (a4 | a4 | a4 | a4) | a4 <;> simp [a4] <;> omega)] at h; exact h
theorem ms_bsE (h0 : 0 ≤ k) (hk : k < x.length) (h : modeScan H (x.cps.toList.drop k.toNat) d ib wb we = R) (a5 : (Txt.item x k == Str.ofString "\\") = true) (a6 : k + 1 = x.length) :
    Str.ofString "escape" = R := by
  obtain ⟨n, e1, e2⟩ := item_at h0 hk
  have e3 : x.cps.toList.drop (k + 1).toNat = [] := by
    rw [List.drop_eq_nil_iff]
    have : x.length = x.cps.toList.length := by simp [PySem.Str.length]
    omega
  try simp only [e1] at a5 a6; rw [e2, scan_cons, e3] at h; clear e1; walk_at "ms"
  rw [if_neg (by omega), if_neg (by omega), if_neg (by omega), if_pos a5, if_pos (by simp)] at h; exact h
theorem ms_bsN (h : modeScan H (x.cps.toList.drop k.toNat) d ib wb we = R) (h0 : 0 ≤ k) (hk : k + 1 < x.length) (a5 : (Txt.item x k == Str.ofString "\\") = true) (a6 : (Txt.item x (k + 1) == Str.ofString "\n") = true) :
    Str.ofString "escape" = R := by
  obtain ⟨n, e1, e2⟩ := item_at h0 (x := x) (by omega)
  obtain ⟨n', e3, e4⟩ := item_at (x := x) (k := k + 1) (by omega) hk
  try simp only [e1, e3] at a5 a6; rw [e2, scan_cons, e4] at h; clear e1; walk_at "ms"
  rw [if_neg (by omega), if_neg (by omega), if_neg (by omega), if_pos a5, if_pos (.inr (by rw [a6]; rfl))] at h; exact h
theorem ms_bsP (h0 : 0 ≤ k) (hk : k + 1 < x.length) (h : modeScan H (x.cps.toList.drop k.toNat) d ib wb we = R) (a5 : (Txt.item x k == Str.ofString "\\") = true) (a6 : (Txt.item x (k + 1) == Str.ofString "\n") = false) (a7 : anyPair (Txt.item x (k + 1)) = true) :
    modeScan H (x.cps.toList.drop (k + 1 + 1).toNat) d true true we = R := by
  obtain ⟨n, e1, e2⟩ := item_at h0 (x := x) (by omega)
  obtain ⟨n', e3, e4⟩ := item_at (x := x) (k := k + 1) (by omega) hk
  try simp only [e1, e3] at a5 a6 a7; rw [e2, scan_cons, e4] at h; clear e1; walk_at "ms"
  rw [if_neg (by omega), if_neg (by omega), if_neg (by omega), if_pos a5, if_neg (by simp [a6]), if_pos (by rcases a7 with a7 | a7 | a7 <;> simp [a7])] at h; exact h
theorem ms_bsO (h0 : 0 ≤ k) (hk : k + 1 < x.length) (h : modeScan H (x.cps.toList.drop k.toNat) d ib wb we = R) (a5 : (Txt.item x k == Str.ofString "\\") = true) (a6 : (Txt.item x (k + 1) == Str.ofString "\n") = false) (a7 : anyPair (Txt.item x (k + 1)) = false) :
    modeScan H (x.cps.toList.drop (k + 1).toNat) d true true we = R := by
  obtain ⟨n, e1, e2⟩ := item_at h0 (x := x) (by omega)
  obtain ⟨n', e3, e4⟩ := item_at (x := x) (k := k + 1) (by omega) hk
  try simp only [e1, e3] at a5 a6 a7; rw [e2, scan_cons] at h; rw [e4] at h; clear e1; walk_at "ms"
  rw [if_neg (by omega), if_neg (by omega), if_neg (by omega), if_pos a5, if_neg (by simp [a6]), if_neg (by simp [a7]), ← e4] at h; exact h
theorem ms_end (h1 : k ≤ x.length) (hk : ¬ k < x.length) (h : modeScan H (x.cps.toList.drop k.toNat) d ib wb we = R) : modeEnd H d ib wb we = R := by
  have e3 : x.cps.toList.drop k.toNat = [] := by
    rw [List.drop_eq_nil_iff]
    have : x.length = x.cps.toList.length := by simp [PySem.Str.length]
    omega
  rw [e3, scan_nil] at h; exact h
theorem ms_start (b : Bool) (h1 : 1 ≤ x.length) :
    modeScan (b && Txt.item x 0 == Str.ofString "#") (x.cps.toList.drop (Int.toNat 0)) 0 ([Str.ofString "{", Str.ofString "\""].any fun y => y == Txt.item x 0) (([Str.ofString "{", Str.ofString "\""].any fun y => y == Txt.item x 0) || b && Txt.item x 0 == Str.ofString "#") false = modeOf x.cps.toList b := by
  obtain ⟨n, e1, e2⟩ := item_at (x := x) (k := 0) (by omega) (by omega)
  have e3 : x.cps.toList = n :: x.cps.toList.drop (0 + 1 : Int).toNat := e2
  rw [e1, lit_ob, lit_dq, any2, lit_hs, one_eq]
  show modeScan _ (x.cps.toList.drop 0) _ _ _ _ = _
  rw [List.drop_zero, e3]
  rfl
theorem md_esc (h : modeEnd H d ib wb we = R) (a : 0 < d) : Str.ofString "escape" = R := by unfold modeEnd at h; rw [if_pos a] at h; exact h
theorem md_mask (h : modeEnd H d ib wb we = R) (a : ¬ 0 < d) (b : ib = true) (c : we = true) (e : wb = false) : Str.ofString "mask" = R := by unfold modeEnd at h; rw [if_neg a, if_pos b, if_pos ⟨c, e⟩] at h; exact h
theorem md_brace1 (h : modeEnd H d ib wb we = R) (a : ¬ 0 < d) (b : ib = true) (c : wb = true) : Str.ofString "brace" = R := by unfold modeEnd at h; rw [if_neg a, if_pos b, if_neg (by rw [c]; simp)] at h; exact h
theorem md_brace2 (h : modeEnd H d ib wb we = R) (a : ¬ 0 < d) (b : ib = true) (c : we = false) : Str.ofString "brace" = R := by unfold modeEnd at h; rw [if_neg a, if_pos b, if_neg (by rw [c]; simp)] at h; exact h
theorem md_hash (h : modeEnd H d ib wb we = R) (a : ¬ 0 < d) (b : ib = false) (c : H = true) : Str.ofString "brace" = R := by unfold modeEnd at h; rw [if_neg a, if_neg (by rw [b]; simp), if_pos c] at h; exact h
theorem md_none (h : modeEnd H d ib wb we = R) (a : ¬ 0 < d) (b : ib = false) (c : H = false) : Str.ofString "none" = R := by unfold modeEnd at h; rw [if_neg a, if_neg (by rw [b]; simp), if_neg (by rw [c]; simp)] at h; exact h
theorem str_ret {R r : Str} {t : Tok} (h : r = R) : (∃ t', Value.str r t = .str R t') := ⟨t, by rw [h]⟩
end

end Mine
end PartMl
section PartBl
theorem Mine.wBl : True := by
  k_with_none
  k_with "con in" => (
  w_top off
  unfold Mine.Con
  k_fill
  intro dp un gd cn cs a ccd cl outer A₀ base h₀ L m s Q E B F X N T hk hd hu hret
  refine wpAny_call ?_
  k_dflt cell_enter)
  k_with "con in0" => (
  w_top off
  unfold Mine.Con
  k_fill
  intro dp un gd cn cs a ccd cl outer A₀ base h₀ L m s Q E B F X N T hk hd hu hret
  refine wpAny_call ?_)
  k_with "con args" => (
  (case kA => exact rfl); (case kF => exact rfl); (case kK => assumption); (case k1 => k_asm); (case k2 => k_asm); (case k3 => k_asm); (case k4 => k_asm); (case k5 => k_asm); (case k6 => k_is); (case k7 => k_is); (case k8 => ktr_room); (case k9 => first | exact BindsTo.of_eq rfl | exact binds_K (by k_in) rfl (by k_is) rfl rfl rfl); (case c5 => decide); (case kB => exact locs rfl); (case c2 => exact rfl); (case c3 => exact rfl); (case c4 => exact rfl); k_whole; intro g' L' h' FG' F' N' B' X' T'; (try dsimp only); (try k_fold))
  k_with "con end" => (
  refine Mine.end0 hret (by k_asm) (by k_asm) (by first | exact Mine.sub_all (by intro p hp; repeat (first | exact hp | refine List.mem_cons_of_mem _ ?_)) | exact Mine.sub_all (by kst_inAny)) ?_)
  k_with "con use0" => (
  (case k1 => k_asm); (case k2 => k_asm); (case k3 => k_asm); (case k4 => k_asm); (case k5 => k_asm); (case kK => first | exact rfl | assumption); (case kd => ktr_room); (case ku => ktr_units))
  k_with "call ref" => (
  k_here
  (show wpAny _ _ (call (Value.ref 52) [Value.str _ _]) _ _ _)
  (k_dflt (refine' Mine.Con.use0 (Mine.con_is_blank _ _) ?k1 ?k2 ?k3 ?k4 ?k5 ?kK ?kd ?ku ?_; (case k1 => k_asm); (case k2 => k_asm); (case k3 => k_asm); (case k4 => k_asm); (case k5 => k_asm); (case kK => first | exact rfl | assumption); (case kd => ktr_room); (case ku => ktr_units)))
  (intro r9 h9 tk9 F9 N9 hr9; subst hr9; (try dsimp only); (try k_fold)))
  k_with "step" => (first
  | (k_unfold; (try dsimp only))
  | (refine Mine.ap2 ?_; k_unfold; (try dsimp only))
  | (k_end; kc_close)
  | ((fail_if_success (with_reducible show wpAny _ _ (exec (Stmt.While _ _ _ _) _) _ _ _)); first | walk1 | (dsimp only; walk1))
  | (leave1; (try dsimp only))
  | fail "no step")
  k_with "steps" => repeat' walk_at "step"
  k_with "eval BoolOp" => (
  k_here
  (k_dflt (first
   | (refine' Mine.or_names ?k1 ?k2 ?k3 ?_; (case k1 => k_asm); (case k2 => rfl); (case k3 => rfl))
   | (refine' Mine.and_name_eq ?k1 ?k2 ?k3 ?_; (case k1 => k_asm); (case k2 => rfl); (case k3 => rfl))))
  k_whole)
  k_with "drop" => (
  (rename News _ _ _ _ => nX)
  (have nY := cb_drop (news := news) nX (by intro p hp; repeat (first | exact hp | refine List.mem_cons_of_mem _ ?_)))
  (clear nX))
  k_with "KswEnd" => (
  (rename News _ _ _ _ => nE')
  (try simp only [List.push_toArray] at nE')
  (first
    | (refine' ksw_end ⟨_,_,_,_,_,_,_⟩ ?e1 nE' ?e2 ?e3 ?e4 ?e5 ?e6 ?e7)
    | (refine' ksw_end ⟨_,_,_,_⟩ ?e1 nE' ?e2 ?e3 ?e4 ?e5 ?e6 ?e7)
    | (refine' ksw_end ⟨_,_⟩ ?e1 nE' ?e2 ?e3 ?e4 ?e5 ?e6 ?e7)
    | (refine' ksw_end ⟨_,_,_,_,_⟩ ?e1 nE' ?e2 ?e3 ?e4 ?e5 ?e6 ?e7))
  (case e1 => assumption)
  (case e2 => first | exact Mine.sub_all (by intro p hp; repeat (first | exact hp | refine List.mem_cons_of_mem _ ?_)) | kst_in)
  (case e3 => kst_facts)
  (case e4 => kst_all)
  (case e5 => ksw_same)
  (case e6 => kst_p)
  (case e7 => ksw_less))
  k_with "exec If" => refine wpAny_If ?_
  k_with "call ref" => (
  k_here
  (k_dflt (first
   | ((show wpAny _ _ (call (Value.ref 129) [Value.str _ _, Value.bool _]) _ _ _); refine' Mine.Con.useS (Mine.con_mode_of _ _ _ ?hc) ?k1 ?k2 ?k3 ?k4 ?k5 ?kK ?kd ?ku ?_)
   | ((show wpAny _ _ (call (Value.ref 136) [Value.str _ _, Value.bool _]) _ _ _); refine' Mine.Con.useS (Mine.con_escaped _ _ _) ?k1 ?k2 ?k3 ?k4 ?k5 ?kK ?kd ?ku ?_)))
  (try (case hc => first | assumption | omega))
  (case k1 => k_asm); (case k2 => k_asm); (case k3 => k_asm); (case k4 => k_asm); (case k5 => k_asm); (case kK => first | exact rfl | assumption); (case kd => ktr_room); (case ku => ktr_units)
  (intro x9 t9 h9 tk9 e9 F9 N9; (try dsimp only); (try k_fold)))
  k_with "call builtin:str.join" => (
  k_here
  (k_dflt (first
   | ((with_reducible show wpAny _ _ (call (Value.builtin "str.join") [Value.str (Str.ofString "") _, Value.ref _]) _ _ _); refine' Mine.join0_at ?k1 ?k2 ?k3 ?k4 ?k5 ?_)
   | ((with_reducible show wpAny _ _ (call (Value.builtin "str.join") [Value.str (Str.ofString " ") _, Value.ref _]) _ _ _); refine' Mine.joinB_at ?k1 ?k2 ?k3 ?k4 ?k5 ?_)))
  (case k1 => k_asm); (case k2 => k_memK); (case k3 => k_asm); (case k4 => first | assumption | exact rfl); (case k5 => walk_at "join size")
  (intro t9 k9; (try dsimp only); (try k_fold)))
  k_with "call ref" => (
  k_here
  (with_reducible show wpAny _ _ (call (Value.ref 129) [Value.str (Str.ofString "") _, Value.bool _]) _ _ _)
  (k_dflt (refine' Mine.Con.use0 (Mine.con_mode_of0 _ _) ?k1 ?k2 ?k3 ?k4 ?k5 ?kK ?kd ?ku ?_))
  (case k1 => k_asm); (case k2 => k_asm); (case k3 => k_asm); (case k4 => k_asm); (case k5 => k_asm); (case kK => first | exact rfl | assumption); (case kd => ktr_room); (case ku => ktr_units)
  (intro r9 h9 tk9 F9 N9 hr9; (obtain ⟨t9, hr9⟩ := hr9); subst hr9; (try dsimp only); (try k_fold)))
  k_with "con argsC" => (
  (case kA => exact rfl); (case kF => exact rfl); (case kK => assumption); (case k1 => k_asm); (case k2 => k_asm); (case k3 => k_asm); (case k4 => k_asm); (case k5 => k_asm); (case k6 => k_is); (case k7 => k_is); (case k8 => ktr_room); (case k9 => first | exact BindsTo.of_eq rfl | exact binds_K (by k_in) rfl (by k_is) rfl rfl rfl); (case kB => exact rfl); (case kD => decide +kernel); (case c2 => exact rfl); (case c3 => exact rfl); (case c4 => exact rfl); k_whole; intro g' L' h' tk' cells' FG' F' N' Y' B' X' T' l1; (try k_lt l1); k_cells Y'; (try simp only [List.cons_append, List.nil_append] at N'); (try dsimp only); (try k_fold))
  k_with "call ref" => (
  k_here
  (k_dflt (first
   | ((show wpAny _ _ (call (Value.ref 158) [Value.str _ _]) _ _ _); refine' Mine.Con.useS (Mine.con_trim _ _ ?hc) ?k1 ?k2 ?k3 ?k4 ?k5 ?kK ?kd ?ku ?_)
   | ((show wpAny _ _ (call (Value.ref 205) [Value.str _ _]) _ _ _); refine' Mine.Con.useS (Mine.con_law_trimmed _ _ ?hc) ?k1 ?k2 ?k3 ?k4 ?k5 ?kK ?kd ?ku ?_)
   | ((show wpAny _ _ (call (Value.ref 144) [Value.str _ _, Value.bool _]) _ _ _); refine' Mine.Con.useS (Mine.con_quote _ _ _ ?hc) ?k1 ?k2 ?k3 ?k4 ?k5 ?kK ?kd ?ku ?_)
   | ((show wpAny _ _ (call (Value.ref 144) [Value.str _ _]) _ _ _); refine' Mine.Con.useS (Mine.con_quoteD _ _ ?hc) ?k1 ?k2 ?k3 ?k4 ?k5 ?kK ?kd ?ku ?_)
   | ((show wpAny _ _ (call (Value.ref 193) [Value.str _ _, Value.bool _]) _ _ _); refine' Mine.Con.useS (Mine.con_law_mode _ _ _ ?hc) ?k1 ?k2 ?k3 ?k4 ?k5 ?kK ?kd ?ku ?_)))
  (try (case hc => first | assumption | omega))
  (case k1 => k_asm); (case k2 => k_asm); (case k3 => k_asm); (case k4 => k_asm); (case k5 => k_asm); (case kK => first | exact rfl | assumption); (case kd => ktr_room); (case ku => ktr_units)
  (intro x9 t9 h9 tk9 e9 F9 N9; (try (first | (have z9 := Mine.trim_fact e9) | (have z9 := Mine.quote_fact e9))); (try dsimp only); (try k_fold)))
  k_with "for texts" => (k_here; (rename Fr _ _ _ _ => lF'); (with_unfolding_all refine' For_invVF lF' ?k1 ?k2 ?_; (case k1 => exact rfl); (case k2 => exact rfl); k_whole))
  k_with "call ref" => (
  k_here
  (k_dflt (first
   | ((show wpAny _ _ (call (Value.ref 165) [Value.str _ _]) _ _ _); refine' Mine.Con.useS (Mine.con_concat_part _ _ ?hc) ?k1 ?k2 ?k3 ?k4 ?k5 ?kK ?kd ?ku ?_)
   | ((show wpAny _ _ (call (Value.ref 212) [Value.str _ _]) _ _ _); refine' Mine.Con.useS (Mine.con_law_part _ _ ?hc) ?k1 ?k2 ?k3 ?k4 ?k5 ?kK ?kd ?ku ?_)
   | ((show wpAny _ _ (call (Value.ref 200) [Value.str _ _, Value.bool _]) _ _ _); refine' Mine.Con.useS (Mine.con_law_written _ _ _ ?hc) ?k1 ?k2 ?k3 ?k4 ?k5 ?kK ?kd ?ku ?_)))
  (try (case hc => first | assumption | omega))
  (case k1 => k_asm); (case k2 => k_asm); (case k3 => k_asm); (case k4 => k_asm); (case k5 => k_asm); (case kK => first | exact rfl | assumption); (case kd => ktr_room); (case ku => ktr_units)
  (intro x9 t9 h9 tk9 e9 F9 N9; (try (first | (have z9 := Mine.part_fact e9) | (have z9 := Mine.quote_fact e9))); (try dsimp only); (try k_fold)))
  k_with "call ref" => (
  k_here
  (k_dflt (first
   | ((show wpAny _ _ (call (Value.ref 151) [Value.ref _]) _ _ _); refine' Mine.Con.useS (Mine.con_join_list ?hT ?hi ?hm ?hB ?hn) ?k1 ?k2 ?k3 ?k4 ?k5 ?kK ?kd ?ku ?_)
   | ((show wpAny _ _ (call (Value.ref 172) [Value.ref _]) _ _ _); refine' Mine.Con.useS (Mine.con_concat ?hT ?hi ?hm ?hB ?hn) ?k1 ?k2 ?k3 ?k4 ?k5 ?kK ?kd ?ku ?_)
   | ((show wpAny _ _ (call (Value.ref 179) [Value.ref _]) _ _ _); refine' Mine.Con.useS (Mine.con_code_text ?hT ?hi ?hm ?hB ?hn) ?k1 ?k2 ?k3 ?k4 ?k5 ?kK ?kd ?ku ?_)))
  (case hT => first | assumption | exact ⟨_, .inl rfl⟩ | exact ⟨_, .inr rfl⟩)
  (case hi => assumption)
  (case hm => first | assumption | k_memK)
  (case hB => assumption)
  (case hn => first | assumption | omega)
  (case k1 => k_asm); (case k2 => k_asm); (case k3 => k_asm); (case k4 => k_asm); (case k5 => k_asm); (case kK => first | exact rfl | assumption); (case kd => ktr_room); (case ku => ktr_units)
  (intro x9 t9 h9 tk9 e9 F9 N9; (try dsimp only); (try k_fold)))
  k_with "binaryOp Add str str" => (
  k_here
  (with_reducible show wpAny _ _ (binaryOp Operator.Add (Value.str (Str.ofString _) _) (Value.str (Str.ofString _) _)) _ _ _)
  (refine' PyProof.Rows.SBL.add ?_ ?z)
  (case z => decide +kernel)
  (intro t9 k9 z9))
  k_with "call builtin:str.replace" => (
  k_here
  (with_reducible show wpAny _ _ (call (Value.builtin "str.replace") [Value.str _ _, Value.str _ _, Value.str _ _]) _ _ _)
  (walk_at "replace by"))
  k_with "con end1" => (
  refine Mine.end1 hret (by k_asm) (by k_asm) (by first | exact Mine.sub_all (by intro p hp; repeat (first | exact hp | refine List.mem_cons_of_mem _ ?_)) | exact Mine.sub_all (by kst_inAny)) (by k_memK)
    (by first | assumption | exact PySem.W.kst_ltOf (by first | exact And.right (by assumption) | exact And.right (And.right (by assumption)) | exact And.right (And.right (And.right (by assumption))) | exact And.right (And.right (And.right (And.right (by assumption)))))) ?_)
  trivial
namespace Mine
theorem con_is_blank {w mean mg mb news} (c : Str) (t : Tok) : Con w mean mg mb 52 1 news [.str c t] (fun v tl => v = .bool (isBlankS c) ∧ tl = []) := by
  walk_at "con in0"
  k_dflt (refine' code_def (binds := [(Str.ofString "c", .str c t)]) ?k1 ?k2 ?k3 ?k4 ?k5 ?kA ?kF ?kK ?k6 ?k7 ?k8 ?k9 ?kB ?_ ?c2 ?c3 ?c4 ?c5; walk_at "con args")
  k_steps
  walk_at "con end"
  exact ⟨rfl, rfl⟩
end Mine
end PartBl
section PartEs
theorem Mine.wEs : True := by
  k_with_none
  k_with "con in" => (
  w_top off
  unfold Mine.Con
  k_fill
  intro dp un gd cn cs a ccd cl outer A₀ base h₀ L m s Q E B F X N T hk hd hu hret
  refine wpAny_call ?_
  k_dflt cell_enter)
  k_with "con in0" => (
  w_top off
  unfold Mine.Con
  k_fill
  intro dp un gd cn cs a ccd cl outer A₀ base h₀ L m s Q E B F X N T hk hd hu hret
  refine wpAny_call ?_)
  k_with "con args" => (
  (case kA => exact rfl); (case kF => exact rfl); (case kK => assumption); (case k1 => k_asm); (case k2 => k_asm); (case k3 => k_asm); (case k4 => k_asm); (case k5 => k_asm); (case k6 => k_is); (case k7 => k_is); (case k8 => ktr_room); (case k9 => first | exact BindsTo.of_eq rfl | exact binds_K (by k_in) rfl (by k_is) rfl rfl rfl); (case c5 => decide); (case kB => exact locs rfl); (case c2 => exact rfl); (case c3 => exact rfl); (case c4 => exact rfl); k_whole; intro g' L' h' FG' F' N' B' X' T'; (try dsimp only); (try k_fold))
  k_with "con end" => (
  refine Mine.end0 hret (by k_asm) (by k_asm) (by first | exact Mine.sub_all (by intro p hp; repeat (first | exact hp | refine List.mem_cons_of_mem _ ?_)) | exact Mine.sub_all (by kst_inAny)) ?_)
  k_with "con use0" => (
  (case k1 => k_asm); (case k2 => k_asm); (case k3 => k_asm); (case k4 => k_asm); (case k5 => k_asm); (case kK => first | exact rfl | assumption); (case kd => ktr_room); (case ku => ktr_units))
  k_with "call ref" => (
  k_here
  (show wpAny _ _ (call (Value.ref 52) [Value.str _ _]) _ _ _)
  (k_dflt (refine' Mine.Con.use0 (Mine.con_is_blank _ _) ?k1 ?k2 ?k3 ?k4 ?k5 ?kK ?kd ?ku ?_; (case k1 => k_asm); (case k2 => k_asm); (case k3 => k_asm); (case k4 => k_asm); (case k5 => k_asm); (case kK => first | exact rfl | assumption); (case kd => ktr_room); (case ku => ktr_units)))
  (intro r9 h9 tk9 F9 N9 hr9; subst hr9; (try dsimp only); (try k_fold)))
  k_with "step" => (first
  | (k_unfold; (try dsimp only))
  | (refine Mine.ap2 ?_; k_unfold; (try dsimp only))
  | (k_end; kc_close)
  | ((fail_if_success (with_reducible show wpAny _ _ (exec (Stmt.While _ _ _ _) _) _ _ _)); first | walk1 | (dsimp only; walk1))
  | (leave1; (try dsimp only))
  | fail "no step")
  k_with "steps" => repeat' walk_at "step"
  k_with "eval BoolOp" => (
  k_here
  (k_dflt (first
   | (refine' Mine.or_names ?k1 ?k2 ?k3 ?_; (case k1 => k_asm); (case k2 => rfl); (case k3 => rfl))
   | (refine' Mine.and_name_eq ?k1 ?k2 ?k3 ?_; (case k1 => k_asm); (case k2 => rfl); (case k3 => rfl))))
  k_whole)
  k_with "drop" => (
  (rename News _ _ _ _ => nX)
  (have nY := cb_drop (news := news) nX (by intro p hp; repeat (first | exact hp | refine List.mem_cons_of_mem _ ?_)))
  (clear nX))
  k_with "KswEnd" => (
  (rename News _ _ _ _ => nE')
  (try simp only [List.push_toArray] at nE')
  (first
    | (refine' ksw_end ⟨_,_,_,_,_,_,_⟩ ?e1 nE' ?e2 ?e3 ?e4 ?e5 ?e6 ?e7)
    | (refine' ksw_end ⟨_,_,_,_⟩ ?e1 nE' ?e2 ?e3 ?e4 ?e5 ?e6 ?e7)
    | (refine' ksw_end ⟨_,_⟩ ?e1 nE' ?e2 ?e3 ?e4 ?e5 ?e6 ?e7)
    | (refine' ksw_end ⟨_,_,_,_,_⟩ ?e1 nE' ?e2 ?e3 ?e4 ?e5 ?e6 ?e7))
  (case e1 => assumption)
  (case e2 => first | exact Mine.sub_all (by intro p hp; repeat (first | exact hp | refine List.mem_cons_of_mem _ ?_)) | kst_in)
  (case e3 => kst_facts)
  (case e4 => kst_all)
  (case e5 => ksw_same)
  (case e6 => kst_p)
  (case e7 => ksw_less))
  k_with "exec If" => refine wpAny_If ?_
  k_with "call ref" => (
  k_here
  (k_dflt (first
   | ((show wpAny _ _ (call (Value.ref 129) [Value.str _ _, Value.bool _]) _ _ _); refine' Mine.Con.useS (Mine.con_mode_of _ _ _ ?hc) ?k1 ?k2 ?k3 ?k4 ?k5 ?kK ?kd ?ku ?_)
   | ((show wpAny _ _ (call (Value.ref 136) [Value.str _ _, Value.bool _]) _ _ _); refine' Mine.Con.useS (Mine.con_escaped _ _ _) ?k1 ?k2 ?k3 ?k4 ?k5 ?kK ?kd ?ku ?_)))
  (try (case hc => first | assumption | omega))
  (case k1 => k_asm); (case k2 => k_asm); (case k3 => k_asm); (case k4 => k_asm); (case k5 => k_asm); (case kK => first | exact rfl | assumption); (case kd => ktr_room); (case ku => ktr_units)
  (intro x9 t9 h9 tk9 e9 F9 N9; (try dsimp only); (try k_fold)))
  k_with "call builtin:str.join" => (
  k_here
  (k_dflt (first
   | ((with_reducible show wpAny _ _ (call (Value.builtin "str.join") [Value.str (Str.ofString "") _, Value.ref _]) _ _ _); refine' Mine.join0_at ?k1 ?k2 ?k3 ?k4 ?k5 ?_)
   | ((with_reducible show wpAny _ _ (call (Value.builtin "str.join") [Value.str (Str.ofString " ") _, Value.ref _]) _ _ _); refine' Mine.joinB_at ?k1 ?k2 ?k3 ?k4 ?k5 ?_)))
  (case k1 => k_asm); (case k2 => k_memK); (case k3 => k_asm); (case k4 => first | assumption | exact rfl); (case k5 => walk_at "join size")
  (intro t9 k9; (try dsimp only); (try k_fold)))
  k_with "call ref" => (
  k_here
  (with_reducible show wpAny _ _ (call (Value.ref 129) [Value.str (Str.ofString "") _, Value.bool _]) _ _ _)
  (k_dflt (refine' Mine.Con.use0 (Mine.con_mode_of0 _ _) ?k1 ?k2 ?k3 ?k4 ?k5 ?kK ?kd ?ku ?_))
  (case k1 => k_asm); (case k2 => k_asm); (case k3 => k_asm); (case k4 => k_asm); (case k5 => k_asm); (case kK => first | exact rfl | assumption); (case kd => ktr_room); (case ku => ktr_units)
  (intro r9 h9 tk9 F9 N9 hr9; (obtain ⟨t9, hr9⟩ := hr9); subst hr9; (try dsimp only); (try k_fold)))
  k_with "con argsC" => (
  (case kA => exact rfl); (case kF => exact rfl); (case kK => assumption); (case k1 => k_asm); (case k2 => k_asm); (case k3 => k_asm); (case k4 => k_asm); (case k5 => k_asm); (case k6 => k_is); (case k7 => k_is); (case k8 => ktr_room); (case k9 => first | exact BindsTo.of_eq rfl | exact binds_K (by k_in) rfl (by k_is) rfl rfl rfl); (case kB => exact rfl); (case kD => decide +kernel); (case c2 => exact rfl); (case c3 => exact rfl); (case c4 => exact rfl); k_whole; intro g' L' h' tk' cells' FG' F' N' Y' B' X' T' l1; (try k_lt l1); k_cells Y'; (try simp only [List.cons_append, List.nil_append] at N'); (try dsimp only); (try k_fold))
  k_with "call ref" => (
  k_here
  (k_dflt (first
   | ((show wpAny _ _ (call (Value.ref 158) [Value.str _ _]) _ _ _); refine' Mine.Con.useS (Mine.con_trim _ _ ?hc) ?k1 ?k2 ?k3 ?k4 ?k5 ?kK ?kd ?ku ?_)
   | ((show wpAny _ _ (call (Value.ref 205) [Value.str _ _]) _ _ _); refine' Mine.Con.useS (Mine.con_law_trimmed _ _ ?hc) ?k1 ?k2 ?k3 ?k4 ?k5 ?kK ?kd ?ku ?_)
   | ((show wpAny _ _ (call (Value.ref 144) [Value.str _ _, Value.bool _]) _ _ _); refine' Mine.Con.useS (Mine.con_quote _ _ _ ?hc) ?k1 ?k2 ?k3 ?k4 ?k5 ?kK ?kd ?ku ?_)
   | ((show wpAny _ _ (call (Value.ref 144) [Value.str _ _]) _ _ _); refine' Mine.Con.useS (Mine.con_quoteD _ _ ?hc) ?k1 ?k2 ?k3 ?k4 ?k5 ?kK ?kd ?ku ?_)
   | ((show wpAny _ _ (call (Value.ref 193) [Value.str _ _, Value.bool _]) _ _ _); refine' Mine.Con.useS (Mine.con_law_mode _ _ _ ?hc) ?k1 ?k2 ?k3 ?k4 ?k5 ?kK ?kd ?ku ?_)))
  (try (case hc => first | assumption | omega))
  (case k1 => k_asm); (case k2 => k_asm); (case k3 => k_asm); (case k4 => k_asm); (case k5 => k_asm); (case kK => first | exact rfl | assumption); (case kd => ktr_room); (case ku => ktr_units)
  (intro x9 t9 h9 tk9 e9 F9 N9; (try (first | (have z9 := Mine.trim_fact e9) | (have z9 := Mine.quote_fact e9))); (try dsimp only); (try k_fold)))
  k_with "for texts" => (k_here; (rename Fr _ _ _ _ => lF'); (with_unfolding_all refine' For_invVF lF' ?k1 ?k2 ?_; (case k1 => exact rfl); (case k2 => exact rfl); k_whole))
  k_with "call ref" => (
  k_here
  (k_dflt (first
   | ((show wpAny _ _ (call (Value.ref 165) [Value.str _ _]) _ _ _); refine' Mine.Con.useS (Mine.con_concat_part _ _ ?hc) ?k1 ?k2 ?k3 ?k4 ?k5 ?kK ?kd ?ku ?_)
   | ((show wpAny _ _ (call (Value.ref 212) [Value.str _ _]) _ _ _); refine' Mine.Con.useS (Mine.con_law_part _ _ ?hc) ?k1 ?k2 ?k3 ?k4 ?k5 ?kK ?kd ?ku ?_)
   | ((show wpAny _ _ (call (Value.ref 200) [Value.str _ _, Value.bool _]) _ _ _); refine' Mine.Con.useS (Mine.con_law_written _ _ _ ?hc) ?k1 ?k2 ?k3 ?k4 ?k5 ?kK ?kd ?ku ?_)))
  (try (case hc => first | assumption | omega))
  (case k1 => k_asm); (case k2 => k_asm); (case k3 => k_asm); (case k4 => k_asm); (case k5 => k_asm); (case kK => first | exact rfl | assumption); (case kd => ktr_room); (case ku => ktr_units)
  (intro x9 t9 h9 tk9 e9 F9 N9; (try (first | (have z9 := Mine.part_fact e9) | (have z9 := Mine.quote_fact e9))); (try dsimp only); (try k_fold)))
  k_with "call ref" => (
  k_here
  (k_dflt (first
   | ((show wpAny _ _ (call (Value.ref 151) [Value.ref _]) _ _ _); refine' Mine.Con.useS (Mine.con_join_list ?hT ?hi ?hm ?hB ?hn) ?k1 ?k2 ?k3 ?k4 ?k5 ?kK ?kd ?ku ?_)
   | ((show wpAny _ _ (call (Value.ref 172) [Value.ref _]) _ _ _); refine' Mine.Con.useS (Mine.con_concat ?hT ?hi ?hm ?hB ?hn) ?k1 ?k2 ?k3 ?k4 ?k5 ?kK ?kd ?ku ?_)
   | ((show wpAny _ _ (call (Value.ref 179) [Value.ref _]) _ _ _); refine' Mine.Con.useS (Mine.con_code_text ?hT ?hi ?hm ?hB ?hn) ?k1 ?k2 ?k3 ?k4 ?k5 ?kK ?kd ?ku ?_)))
  (case hT => first | assumption | exact ⟨_, .inl rfl⟩ | exact ⟨_, .inr rfl⟩)
  (case hi => assumption)
  (case hm => first | assumption | k_memK)
  (case hB => assumption)
  (case hn => first | assumption | omega)
  (case k1 => k_asm); (case k2 => k_asm); (case k3 => k_asm); (case k4 => k_asm); (case k5 => k_asm); (case kK => first | exact rfl | assumption); (case kd => ktr_room); (case ku => ktr_units)
  (intro x9 t9 h9 tk9 e9 F9 N9; (try dsimp only); (try k_fold)))
  k_with "binaryOp Add str str" => (
  k_here
  (with_reducible show wpAny _ _ (binaryOp Operator.Add (Value.str (Str.ofString _) _) (Value.str (Str.ofString _) _)) _ _ _)
  (refine' PyProof.Rows.SBL.add ?_ ?z)
  (case z => decide +kernel)
  (intro t9 k9 z9))
  k_with "call builtin:str.replace" => (
  k_here
  (with_reducible show wpAny _ _ (call (Value.builtin "str.replace") [Value.str _ _, Value.str _ _, Value.str _ _]) _ _ _)
  (walk_at "replace by"))
  k_with "con end1" => (
  refine Mine.end1 hret (by k_asm) (by k_asm) (by first | exact Mine.sub_all (by intro p hp; repeat (first | exact hp | refine List.mem_cons_of_mem _ ?_)) | exact Mine.sub_all (by kst_inAny)) (by k_memK)
    (by first | assumption | exact PySem.W.kst_ltOf (by first | exact And.right (by assumption) | exact And.right (And.right (by assumption)) | exact And.right (And.right (And.right (by assumption))) | exact And.right (And.right (And.right (And.right (by assumption)))))) ?_)
  trivial
namespace Mine
theorem con_escaped {w mean mg mb news} (n : Nat) (t : Tok) (b : Bool) : Con w mean mg mb 136 1 news [.str ⟨#[n]⟩ t, .bool b] (fun v tl => (∃ t', v = .str (S (escL n b)) t') ∧ tl = []) := by
  have hf := find_ctl_lt n
  walk_at "con in0"
  k_dflt (refine' code_def (binds := [(Str.ofString "c", .str ⟨#[n]⟩ t), (Str.ofString "is_deep", .bool b)]) ?k1 ?k2 ?k3 ?k4 ?k5 ?kA ?kF ?kK ?k6 ?k7 ?k8 ?k9 ?kB ?_ ?c2 ?c3 ?c4 ?c5; walk_at "con args")
  k_steps
  all_goals walk_at "con end"
  all_goals first
    | exact ⟨⟨_, by rw [esc_find n b (by assumption)]⟩, rfl⟩
    | exact ⟨⟨_, by rw [esc_set n b (by assumption) (by assumption)]⟩, rfl⟩
    | exact ⟨⟨_, by rw [esc_deep n b (by assumption) (by assumption) (by assumption)]⟩, rfl⟩
    | exact ⟨⟨_, by rw [esc_self n b (by assumption) (by assumption) (.inr (by assumption))]⟩, rfl⟩
    | exact ⟨⟨_, by rw [esc_self n b (by assumption) (by assumption) (.inl (by assumption))]⟩, rfl⟩
end Mine
end PartEs
section PartMd
theorem Mine.wMd : True := by
  k_with_none
  k_with "con in" => (
  w_top off
  unfold Mine.Con
  k_fill
  intro dp un gd cn cs a ccd cl outer A₀ base h₀ L m s Q E B F X N T hk hd hu hret
  refine wpAny_call ?_
  k_dflt cell_enter)
  k_with "con in0" => (
  w_top off
  unfold Mine.Con
  k_fill
  intro dp un gd cn cs a ccd cl outer A₀ base h₀ L m s Q E B F X N T hk hd hu hret
  refine wpAny_call ?_)
  k_with "con args" => (
  (case kA => exact rfl); (case kF => exact rfl); (case kK => assumption); (case k1 => k_asm); (case k2 => k_asm); (case k3 => k_asm); (case k4 => k_asm); (case k5 => k_asm); (case k6 => k_is); (case k7 => k_is); (case k8 => ktr_room); (case k9 => first | exact BindsTo.of_eq rfl | exact binds_K (by k_in) rfl (by k_is) rfl rfl rfl); (case c5 => decide); (case kB => exact locs rfl); (case c2 => exact rfl); (case c3 => exact rfl); (case c4 => exact rfl); k_whole; intro g' L' h' FG' F' N' B' X' T'; (try dsimp only); (try k_fold))
  k_with "con end" => (
  refine Mine.end0 hret (by k_asm) (by k_asm) (by first | exact Mine.sub_all (by intro p hp; repeat (first | exact hp | refine List.mem_cons_of_mem _ ?_)) | exact Mine.sub_all (by kst_inAny)) ?_)
  k_with "con use0" => (
  (case k1 => k_asm); (case k2 => k_asm); (case k3 => k_asm); (case k4 => k_asm); (case k5 => k_asm); (case kK => first | exact rfl | assumption); (case kd => ktr_room); (case ku => ktr_units))
  k_with "call ref" => (
  k_here
  (show wpAny _ _ (call (Value.ref 52) [Value.str _ _]) _ _ _)
  (k_dflt (refine' Mine.Con.use0 (Mine.con_is_blank _ _) ?k1 ?k2 ?k3 ?k4 ?k5 ?kK ?kd ?ku ?_; (case k1 => k_asm); (case k2 => k_asm); (case k3 => k_asm); (case k4 => k_asm); (case k5 => k_asm); (case kK => first | exact rfl | assumption); (case kd => ktr_room); (case ku => ktr_units)))
  (intro r9 h9 tk9 F9 N9 hr9; subst hr9; (try dsimp only); (try k_fold)))
  k_with "step" => (first
  | (k_unfold; (try dsimp only))
  | (refine Mine.ap2 ?_; k_unfold; (try dsimp only))
  | (k_end; kc_close)
  | ((fail_if_success (with_reducible show wpAny _ _ (exec (Stmt.While _ _ _ _) _) _ _ _)); first | walk1 | (dsimp only; walk1))
  | (leave1; (try dsimp only))
  | fail "no step")
  k_with "steps" => repeat' walk_at "step"
  k_with "eval BoolOp" => (
  k_here
  (k_dflt (first
   | (refine' Mine.or_names ?k1 ?k2 ?k3 ?_; (case k1 => k_asm); (case k2 => rfl); (case k3 => rfl))
   | (refine' Mine.and_name_eq ?k1 ?k2 ?k3 ?_; (case k1 => k_asm); (case k2 => rfl); (case k3 => rfl))))
  k_whole)
  k_with "drop" => (
  (rename News _ _ _ _ => nX)
  (have nY := cb_drop (news := news) nX (by intro p hp; repeat (first | exact hp | refine List.mem_cons_of_mem _ ?_)))
  (clear nX))
  k_with "KswEnd" => (
  (rename News _ _ _ _ => nE')
  (try simp only [List.push_toArray] at nE')
  (first
    | (refine' ksw_end ⟨_,_,_,_,_,_,_⟩ ?e1 nE' ?e2 ?e3 ?e4 ?e5 ?e6 ?e7)
    | (refine' ksw_end ⟨_,_,_,_⟩ ?e1 nE' ?e2 ?e3 ?e4 ?e5 ?e6 ?e7)
    | (refine' ksw_end ⟨_,_⟩ ?e1 nE' ?e2 ?e3 ?e4 ?e5 ?e6 ?e7)
    | (refine' ksw_end ⟨_,_,_,_,_⟩ ?e1 nE' ?e2 ?e3 ?e4 ?e5 ?e6 ?e7))
  (case e1 => assumption)
  (case e2 => first | exact Mine.sub_all (by intro p hp; repeat (first | exact hp | refine List.mem_cons_of_mem _ ?_)) | kst_in)
  (case e3 => kst_facts)
  (case e4 => kst_all)
  (case e5 => ksw_same)
  (case e6 => kst_p)
  (case e7 => ksw_less))
  k_with "exec If" => refine wpAny_If ?_
  k_with "call ref" => (
  k_here
  (k_dflt (first
   | ((show wpAny _ _ (call (Value.ref 129) [Value.str _ _, Value.bool _]) _ _ _); refine' Mine.Con.useS (Mine.con_mode_of _ _ _ ?hc) ?k1 ?k2 ?k3 ?k4 ?k5 ?kK ?kd ?ku ?_)
   | ((show wpAny _ _ (call (Value.ref 136) [Value.str _ _, Value.bool _]) _ _ _); refine' Mine.Con.useS (Mine.con_escaped _ _ _) ?k1 ?k2 ?k3 ?k4 ?k5 ?kK ?kd ?ku ?_)))
  (try (case hc => first | assumption | omega))
  (case k1 => k_asm); (case k2 => k_asm); (case k3 => k_asm); (case k4 => k_asm); (case k5 => k_asm); (case kK => first | exact rfl | assumption); (case kd => ktr_room); (case ku => ktr_units)
  (intro x9 t9 h9 tk9 e9 F9 N9; (try dsimp only); (try k_fold)))
  k_with "call builtin:str.join" => (
  k_here
  (k_dflt (first
   | ((with_reducible show wpAny _ _ (call (Value.builtin "str.join") [Value.str (Str.ofString "") _, Value.ref _]) _ _ _); refine' Mine.join0_at ?k1 ?k2 ?k3 ?k4 ?k5 ?_)
   | ((with_reducible show wpAny _ _ (call (Value.builtin "str.join") [Value.str (Str.ofString " ") _, Value.ref _]) _ _ _); refine' Mine.joinB_at ?k1 ?k2 ?k3 ?k4 ?k5 ?_)))
  (case k1 => k_asm); (case k2 => k_memK); (case k3 => k_asm); (case k4 => first | assumption | exact rfl); (case k5 => walk_at "join size")
  (intro t9 k9; (try dsimp only); (try k_fold)))
  k_with "call ref" => (
  k_here
  (with_reducible show wpAny _ _ (call (Value.ref 129) [Value.str (Str.ofString "") _, Value.bool _]) _ _ _)
  (k_dflt (refine' Mine.Con.use0 (Mine.con_mode_of0 _ _) ?k1 ?k2 ?k3 ?k4 ?k5 ?kK ?kd ?ku ?_))
  (case k1 => k_asm); (case k2 => k_asm); (case k3 => k_asm); (case k4 => k_asm); (case k5 => k_asm); (case kK => first | exact rfl | assumption); (case kd => ktr_room); (case ku => ktr_units)
  (intro r9 h9 tk9 F9 N9 hr9; (obtain ⟨t9, hr9⟩ := hr9); subst hr9; (try dsimp only); (try k_fold)))
  k_with "con argsC" => (
  (case kA => exact rfl); (case kF => exact rfl); (case kK => assumption); (case k1 => k_asm); (case k2 => k_asm); (case k3 => k_asm); (case k4 => k_asm); (case k5 => k_asm); (case k6 => k_is); (case k7 => k_is); (case k8 => ktr_room); (case k9 => first | exact BindsTo.of_eq rfl | exact binds_K (by k_in) rfl (by k_is) rfl rfl rfl); (case kB => exact rfl); (case kD => decide +kernel); (case c2 => exact rfl); (case c3 => exact rfl); (case c4 => exact rfl); k_whole; intro g' L' h' tk' cells' FG' F' N' Y' B' X' T' l1; (try k_lt l1); k_cells Y'; (try simp only [List.cons_append, List.nil_append] at N'); (try dsimp only); (try k_fold))
  k_with "call ref" => (
  k_here
  (k_dflt (first
   | ((show wpAny _ _ (call (Value.ref 158) [Value.str _ _]) _ _ _); refine' Mine.Con.useS (Mine.con_trim _ _ ?hc) ?k1 ?k2 ?k3 ?k4 ?k5 ?kK ?kd ?ku ?_)
   | ((show wpAny _ _ (call (Value.ref 205) [Value.str _ _]) _ _ _); refine' Mine.Con.useS (Mine.con_law_trimmed _ _ ?hc) ?k1 ?k2 ?k3 ?k4 ?k5 ?kK ?kd ?ku ?_)
   | ((show wpAny _ _ (call (Value.ref 144) [Value.str _ _, Value.bool _]) _ _ _); refine' Mine.Con.useS (Mine.con_quote _ _ _ ?hc) ?k1 ?k2 ?k3 ?k4 ?k5 ?kK ?kd ?ku ?_)
   | ((show wpAny _ _ (call (Value.ref 144) [Value.str _ _]) _ _ _); refine' Mine.Con.useS (Mine.con_quoteD _ _ ?hc) ?k1 ?k2 ?k3 ?k4 ?k5 ?kK ?kd ?ku ?_)
   | ((show wpAny _ _ (call (Value.ref 193) [Value.str _ _, Value.bool _]) _ _ _); refine' Mine.Con.useS (Mine.con_law_mode _ _ _ ?hc) ?k1 ?k2 ?k3 ?k4 ?k5 ?kK ?kd ?ku ?_)))
  (try (case hc => first | assumption | omega))
  (case k1 => k_asm); (case k2 => k_asm); (case k3 => k_asm); (case k4 => k_asm); (case k5 => k_asm); (case kK => first | exact rfl | assumption); (case kd => ktr_room); (case ku => ktr_units)
  (intro x9 t9 h9 tk9 e9 F9 N9; (try (first | (have z9 := Mine.trim_fact e9) | (have z9 := Mine.quote_fact e9))); (try dsimp only); (try k_fold)))
  k_with "for texts" => (k_here; (rename Fr _ _ _ _ => lF'); (with_unfolding_all refine' For_invVF lF' ?k1 ?k2 ?_; (case k1 => exact rfl); (case k2 => exact rfl); k_whole))
  k_with "call ref" => (
  k_here
  (k_dflt (first
   | ((show wpAny _ _ (call (Value.ref 165) [Value.str _ _]) _ _ _); refine' Mine.Con.useS (Mine.con_concat_part _ _ ?hc) ?k1 ?k2 ?k3 ?k4 ?k5 ?kK ?kd ?ku ?_)
   | ((show wpAny _ _ (call (Value.ref 212) [Value.str _ _]) _ _ _); refine' Mine.Con.useS (Mine.con_law_part _ _ ?hc) ?k1 ?k2 ?k3 ?k4 ?k5 ?kK ?kd ?ku ?_)
   | ((show wpAny _ _ (call (Value.ref 200) [Value.str _ _, Value.bool _]) _ _ _); refine' Mine.Con.useS (Mine.con_law_written _ _ _ ?hc) ?k1 ?k2 ?k3 ?k4 ?k5 ?kK ?kd ?ku ?_)))
  (try (case hc => first | assumption | omega))
  (case k1 => k_asm); (case k2 => k_asm); (case k3 => k_asm); (case k4 => k_asm); (case k5 => k_asm); (case kK => first | exact rfl | assumption); (case kd => ktr_room); (case ku => ktr_units)
  (intro x9 t9 h9 tk9 e9 F9 N9; (try (first | (have z9 := Mine.part_fact e9) | (have z9 := Mine.quote_fact e9))); (try dsimp only); (try k_fold)))
  k_with "call ref" => (
  k_here
  (k_dflt (first
   | ((show wpAny _ _ (call (Value.ref 151) [Value.ref _]) _ _ _); refine' Mine.Con.useS (Mine.con_join_list ?hT ?hi ?hm ?hB ?hn) ?k1 ?k2 ?k3 ?k4 ?k5 ?kK ?kd ?ku ?_)
   | ((show wpAny _ _ (call (Value.ref 172) [Value.ref _]) _ _ _); refine' Mine.Con.useS (Mine.con_concat ?hT ?hi ?hm ?hB ?hn) ?k1 ?k2 ?k3 ?k4 ?k5 ?kK ?kd ?ku ?_)
   | ((show wpAny _ _ (call (Value.ref 179) [Value.ref _]) _ _ _); refine' Mine.Con.useS (Mine.con_code_text ?hT ?hi ?hm ?hB ?hn) ?k1 ?k2 ?k3 ?k4 ?k5 ?kK ?kd ?ku ?_)))
  (case hT => first | assumption | exact ⟨_, .inl rfl⟩ | exact ⟨_, .inr rfl⟩)
  (case hi => assumption)
  (case hm => first | assumption | k_memK)
  (case hB => assumption)
  (case hn => first | assumption | omega)
  (case k1 => k_asm); (case k2 => k_asm); (case k3 => k_asm); (case k4 => k_asm); (case k5 => k_asm); (case kK => first | exact rfl | assumption); (case kd => ktr_room); (case ku => ktr_units)
  (intro x9 t9 h9 tk9 e9 F9 N9; (try dsimp only); (try k_fold)))
  k_with "binaryOp Add str str" => (
  k_here
  (with_reducible show wpAny _ _ (binaryOp Operator.Add (Value.str (Str.ofString _) _) (Value.str (Str.ofString _) _)) _ _ _)
  (refine' PyProof.Rows.SBL.add ?_ ?z)
  (case z => decide +kernel)
  (intro t9 k9 z9))
  k_with "call builtin:str.replace" => (
  k_here
  (with_reducible show wpAny _ _ (call (Value.builtin "str.replace") [Value.str _ _, Value.str _ _, Value.str _ _]) _ _ _)
  (walk_at "replace by"))
  k_with "con end1" => (
  refine Mine.end1 hret (by k_asm) (by k_asm) (by first | exact Mine.sub_all (by intro p hp; repeat (first | exact hp | refine List.mem_cons_of_mem _ ?_)) | exact Mine.sub_all (by kst_inAny)) (by k_memK)
    (by first | assumption | exact PySem.W.kst_ltOf (by first | exact And.right (by assumption) | exact And.right (And.right (by assumption)) | exact And.right (And.right (And.right (by assumption))) | exact And.right (And.right (And.right (And.right (by assumption)))))) ?_)
  trivial
namespace Mine
theorem con_mode_of1 {w mean mg mb news} (c : Str) (t : Tok) (b : Bool) (hc : c.length ≤ 4096) (hne : 1 ≤ c.length) (hn : (c == Str.ofString "") = false) : Con w mean mg mb 129 3 news [.str c t, .bool b] (fun v tl => (∃ t', v = .str (modeOf c.cps.toList b) t') ∧ tl = []) := by
  walk_at "con in0"
  k_dflt (refine' code_def (binds := [(Str.ofString "element", .str c t), (Str.ofString "is_hash", .bool b)]) ?k1 ?k2 ?k3 ?k4 ?k5 ?kA ?kF ?kK ?k6 ?k7 ?k8 ?k9 ?kB ?_ ?c2 ?c3 ?c4 ?c5; walk_at "con args")
  walk_at "steps"
  k_with "state" => ((refine ⟨by omega, by omega, ?_⟩); with_reducible (first
    | exact ms_start b hne
    | exact ms_ob (by assumption) (by assumption) (by assumption) (by assumption)
    | exact ms_cb (by assumption) (by assumption) (by assumption) (by assumption) (by assumption) (by assumption)
    | exact ms_mask (by assumption) (by assumption) (by assumption) (by assumption) (by assumption) (by assumption)
    | exact ms_plain (by assumption) (by assumption) (by assumption) (by assumption) (by assumption) (by assumption) (by assumption) (by assumption)
    | exact ms_brace (by assumption) (by assumption) (by assumption) (by assumption) (by assumption) (by assumption) (by first | (refine .inl ?_; assumption) | (refine .inr ?_; assumption)) (by assumption)
    | exact ms_bsP (by assumption) (by omega) (by assumption) (by assumption) (by assumption) (by assumption)
    | exact ms_bsO (by assumption) (by omega) (by assumption) (by assumption) (by assumption) (by assumption)))
  walk_at "drop"
  k_while (fun _ (depth at' : Int) (ib wb we : Bool) => 0 ≤ at' ∧ at' ≤ (c.length : Int) ∧ modeScan (b && Txt.item c 0 == Str.ofString "#") (c.cps.toList.drop at'.toNat) depth ib wb we = modeOf c.cps.toList b) (fun _ depth at' _ _ _ => ((c.length : Int) - at').toNat) "depth" "at" "is_bound" "wants_brace" "wants_escape"
  walk_at "steps"
  all_goals walk_at "con end"
  all_goals with_reducible (first
    | exact ⟨str_ret (ms_cbE (by assumption) (by assumption) (by assumption) (by assumption) (by assumption) (by assumption)), rfl⟩
    | exact ⟨str_ret (ms_bsE (by assumption) (by assumption) (by assumption) (by assumption) (by assumption)), rfl⟩
    | exact ⟨str_ret (ms_bsN (by assumption) (by omega) (by omega) (by assumption) (by assumption)), rfl⟩
    | exact ⟨str_ret (md_esc (ms_end (by assumption) (by assumption) (by assumption)) (by assumption)), rfl⟩
    | exact ⟨str_ret (md_mask (ms_end (by assumption) (by assumption) (by assumption)) (by assumption) (by assumption) (by assumption) (by assumption)), rfl⟩
    | exact ⟨str_ret (md_brace1 (ms_end (by assumption) (by assumption) (by assumption)) (by assumption) (by assumption) (by assumption)), rfl⟩
    | exact ⟨str_ret (md_brace2 (ms_end (by assumption) (by assumption) (by assumption)) (by assumption) (by assumption) (by assumption)), rfl⟩
    | exact ⟨str_ret (md_hash (ms_end (by assumption) (by assumption) (by assumption)) (by assumption) (by assumption) (by assumption)), rfl⟩
    | exact ⟨str_ret (md_none (ms_end (by assumption) (by assumption) (by assumption)) (by assumption) (by assumption) (by assumption)), rfl⟩)
end Mine
namespace Mine
theorem con_mode_of0 {w mean mg mb news} (t : Tok) (b : Bool) : Con w mean mg mb 129 3 news [.str (Str.ofString "") t, .bool b] (fun v tl => (∃ t', v = .str (Str.ofString "brace") t') ∧ tl = []) := by
  walk_at "con in0"
  k_dflt (refine' code_def (binds := [(Str.ofString "element", .str (Str.ofString "") t), (Str.ofString "is_hash", .bool b)]) ?k1 ?k2 ?k3 ?k4 ?k5 ?kA ?kF ?kK ?k6 ?k7 ?k8 ?k9 ?kB ?_ ?c2 ?c3 ?c4 ?c5; walk_at "con args")
  walk_at "steps"
  all_goals walk_at "con end"
  all_goals exact ⟨⟨_, rfl⟩, rfl⟩
theorem con_mode_of {w mean mg mb news} (c : Str) (t : Tok) (b : Bool) (hc : c.length ≤ 4096) : Con w mean mg mb 129 3 news [.str c t, .bool b] (fun v tl => (∃ t', v = .str (modeOf c.cps.toList b) t') ∧ tl = []) := by
  cases h : c == Str.ofString "" with
  | true =>
    have e := eq_of_beq h
    subst e
    exact con_mode_of0 t b
  | false =>
    refine con_mode_of1 c t b hc ?_ h
    rcases Nat.eq_zero_or_pos c.length with h0 | h0
    · exfalso
      have : c = Str.ofString "" := by
        obtain ⟨a⟩ := c
        have : a = #[] := Array.eq_empty_of_size_eq_zero h0
        subst this; decide +kernel
      rw [this] at h
      exact absurd h (by decide +kernel)
    · exact h0
end Mine
end PartMd
section PartSt
namespace Mine
def quoteL (l : List Nat) (b : Bool) : List Nat :=
  if modeOf l b = Str.ofString "none" then l
  else if modeOf l b = Str.ofString "brace" then 123 :: (l ++ [125])
  else (if b = true ∧ l.head? = some 35 then [92] else []) ++ l.flatMap (fun n => escL n (modeOf l b == Str.ofString "escape"))
def trimL (l : List Nat) : List Nat := ((l.dropWhile isB).reverse.dropWhile isB).reverse
end Mine
end PartSt
section PartJn
namespace Mine
/-- a text's signs -/
def sg (x : Str) : List Nat := x.cps.toList
theorem S_sg (x : Str) : S (sg x) = x := PySem.Str.ext' (by show (sg x).toArray = x.cps; simp [sg])
theorem sg_S (l : List Nat) : sg (S l) = l := by simp [sg, S]
theorem sg_len (x : Str) : (sg x).length = x.length := by simp [sg, PySem.Str.length]
theorem S_len (l : List Nat) : (S l).length = l.length := by simp [S, PySem.Str.length]
theorem sg_app (x y : Str) : sg (x ++ y) = sg x ++ sg y := by
  show ((x ++ y).cps).toList = _
  rw [PySem.Str.cps_append]; simp [sg]
theorem lit_em : Str.ofString "" = ⟨#[]⟩ := by decide +kernel
/-- the texts, a blank between -/
def joinB : List (List Nat) → List Nat
  | [] => []
  | [x] => x
  | x :: y :: r => x ++ 32 :: joinB (y :: r)
theorem join0_is : ∀ ys : List Str, Txt.join (Str.ofString "") ys = S (ys.flatMap sg) := by
  intro ys
  show PySem.Builtin.Str.glued _ ys = _
  rw [PySem.StrLaws.glued_eq_join, lit_em]
  induction ys with
  | nil => rfl
  | cons x r ih => rw [PyProof.Rows.join_nil_cons, ih, List.flatMap_cons, ← S_append, S_sg]
theorem joinB_is : ∀ ys : List Str, Txt.join (Str.ofString " ") ys = S (joinB (ys.map sg)) := by
  intro ys
  show PySem.Builtin.Str.glued _ ys = _
  rw [PySem.StrLaws.glued_eq_join, lit_sp]
  induction ys with
  | nil => rfl
  | cons x r ih =>
    cases r with
    | nil => exact (S_sg x).symm
    | cons y r =>
      show x ++ ⟨#[32]⟩ ++ Str.join _ (y :: r) = S (sg x ++ 32 :: joinB (sg y :: r.map sg))
      rw [ih, show (32 :: joinB (sg y :: r.map sg)) = [32] ++ joinB ((y :: r).map sg) from rfl, ← S_append, ← S_append, S_sg, PySem.Str.append_assoc]
      rfl
theorem sum0 : ∀ ys : List Str, (ys.map (·.length)).sum = (ys.flatMap sg).length
  | [] => rfl
  | x :: r => by rw [List.map_cons, List.sum_cons, List.flatMap_cons, List.length_append, sum0 r, sg_len]
theorem sumB : ∀ ys : List Str, (ys.map (·.length)).sum + ys.length ≤ (joinB (ys.map sg)).length + 1
  | [] => Nat.zero_le _
  | [x] => by simp [joinB, sg_len]
  | x :: y :: r => by
    have h := sumB (y :: r)
    simp only [List.map_cons, List.sum_cons, List.length_cons, joinB, List.length_append, sg_len] at h ⊢
    omega
section
variable {prog : Program} {w : World} {A : Around} {E : Value → Shared → Prop} {s : Shared} {t : Tok} {Q : Value → Shared → Prop} {h₀ : Heap} {L D : Addr} {news : List (Addr × Obj)}
theorem join0_at {vs : List Value} {ys : List Str} {n : Nat} (N : News h₀ L s.heap news) (hm : (D, PySem.W.listOf vs.toArray n) ∈ news) (hi : StrsAre vs ys) {R : List Nat} (hj : ys.flatMap sg = R) (hR : R.length ≤ 1000000)
    (h : ∀ t' k, Q (.str (S R) t') { s with toks := k }) : wpAny (model prog w) A (call (.builtin "str.join") [.str (Str.ofString "") t, .ref D]) Q E s := by
  refine join_list (News.isList N hm) (by simpa using hi) ?_ fun t' k => ?_
  · rw [sum0, hj, lit_em]; show R.length + ys.length * 0 ≤ _; omega
  · rw [join0_is, hj]; exact h t' k
theorem joinB_at {vs : List Value} {ys : List Str} {n : Nat} (N : News h₀ L s.heap news) (hm : (D, PySem.W.listOf vs.toArray n) ∈ news) (hi : StrsAre vs ys) {R : List Nat} (hj : joinB (ys.map sg) = R) (hR : R.length ≤ 1000000)
    (h : ∀ t' k, Q (.str (S R) t') { s with toks := k }) : wpAny (model prog w) A (call (.builtin "str.join") [.str (Str.ofString " ") t, .ref D]) Q E s := by
  refine join_list (News.isList N hm) (by simpa using hi) ?_ fun t' k => ?_
  · have := sumB ys
    rw [hj] at this
    rw [lit_sp]; show _ + ys.length * 1 ≤ _; omega
  · rw [joinB_is, hj]; exact h t' k
end
theorem escL_len (n : Nat) (deep : Bool) : (escL n deep).length ≤ 2 := by
  unfold escL
  repeat' split
  all_goals simp
theorem flat_len {α : Type} (l : List α) (f : α → List Nat) (k : Nat) (h : ∀ n, (f n).length ≤ k) : (l.flatMap f).length ≤ k * l.length := by
  induction l with
  | nil => simp
  | cons a r ih => rw [List.flatMap_cons, List.length_append, List.length_cons, Nat.mul_succ]; have := h a; omega
end Mine
end PartJn
section PartQu
theorem Mine.wQu : True := by
  k_with_none
  k_with "con in" => (
  w_top off
  unfold Mine.Con
  k_fill
  intro dp un gd cn cs a ccd cl outer A₀ base h₀ L m s Q E B F X N T hk hd hu hret
  refine wpAny_call ?_
  k_dflt cell_enter)
  k_with "con in0" => (
  w_top off
  unfold Mine.Con
  k_fill
  intro dp un gd cn cs a ccd cl outer A₀ base h₀ L m s Q E B F X N T hk hd hu hret
  refine wpAny_call ?_)
  k_with "con args" => (
  (case kA => exact rfl); (case kF => exact rfl); (case kK => assumption); (case k1 => k_asm); (case k2 => k_asm); (case k3 => k_asm); (case k4 => k_asm); (case k5 => k_asm); (case k6 => k_is); (case k7 => k_is); (case k8 => ktr_room); (case k9 => first | exact BindsTo.of_eq rfl | exact binds_K (by k_in) rfl (by k_is) rfl rfl rfl); (case c5 => decide); (case kB => exact locs rfl); (case c2 => exact rfl); (case c3 => exact rfl); (case c4 => exact rfl); k_whole; intro g' L' h' FG' F' N' B' X' T'; (try dsimp only); (try k_fold))
  k_with "con end" => (
  refine Mine.end0 hret (by k_asm) (by k_asm) (by first | exact Mine.sub_all (by intro p hp; repeat (first | exact hp | refine List.mem_cons_of_mem _ ?_)) | exact Mine.sub_all (by kst_inAny)) ?_)
  k_with "con use0" => (
  (case k1 => k_asm); (case k2 => k_asm); (case k3 => k_asm); (case k4 => k_asm); (case k5 => k_asm); (case kK => first | exact rfl | assumption); (case kd => ktr_room); (case ku => ktr_units))
  k_with "call ref" => (
  k_here
  (show wpAny _ _ (call (Value.ref 52) [Value.str _ _]) _ _ _)
  (k_dflt (refine' Mine.Con.use0 (Mine.con_is_blank _ _) ?k1 ?k2 ?k3 ?k4 ?k5 ?kK ?kd ?ku ?_; (case k1 => k_asm); (case k2 => k_asm); (case k3 => k_asm); (case k4 => k_asm); (case k5 => k_asm); (case kK => first | exact rfl | assumption); (case kd => ktr_room); (case ku => ktr_units)))
  (intro r9 h9 tk9 F9 N9 hr9; subst hr9; (try dsimp only); (try k_fold)))
  k_with "step" => (first
  | (k_unfold; (try dsimp only))
  | (refine Mine.ap2 ?_; k_unfold; (try dsimp only))
  | (k_end; kc_close)
  | ((fail_if_success (with_reducible show wpAny _ _ (exec (Stmt.While _ _ _ _) _) _ _ _)); first | walk1 | (dsimp only; walk1))
  | (leave1; (try dsimp only))
  | fail "no step")
  k_with "steps" => repeat' walk_at "step"
  k_with "eval BoolOp" => (
  k_here
  (k_dflt (first
   | (refine' Mine.or_names ?k1 ?k2 ?k3 ?_; (case k1 => k_asm); (case k2 => rfl); (case k3 => rfl))
   | (refine' Mine.and_name_eq ?k1 ?k2 ?k3 ?_; (case k1 => k_asm); (case k2 => rfl); (case k3 => rfl))))
  k_whole)
  k_with "drop" => (
  (rename News _ _ _ _ => nX)
  (have nY := cb_drop (news := news) nX (by intro p hp; repeat (first | exact hp | refine List.mem_cons_of_mem _ ?_)))
  (clear nX))
  k_with "KswEnd" => (
  (rename News _ _ _ _ => nE')
  (try simp only [List.push_toArray] at nE')
  (first
    | (refine' ksw_end ⟨_,_,_,_,_,_,_⟩ ?e1 nE' ?e2 ?e3 ?e4 ?e5 ?e6 ?e7)
    | (refine' ksw_end ⟨_,_,_,_⟩ ?e1 nE' ?e2 ?e3 ?e4 ?e5 ?e6 ?e7)
    | (refine' ksw_end ⟨_,_⟩ ?e1 nE' ?e2 ?e3 ?e4 ?e5 ?e6 ?e7)
    | (refine' ksw_end ⟨_,_,_,_,_⟩ ?e1 nE' ?e2 ?e3 ?e4 ?e5 ?e6 ?e7))
  (case e1 => assumption)
  (case e2 => first | exact Mine.sub_all (by intro p hp; repeat (first | exact hp | refine List.mem_cons_of_mem _ ?_)) | kst_in)
  (case e3 => kst_facts)
  (case e4 => kst_all)
  (case e5 => ksw_same)
  (case e6 => kst_p)
  (case e7 => ksw_less))
  k_with "exec If" => refine wpAny_If ?_
  k_with "call ref" => (
  k_here
  (k_dflt (first
   | ((show wpAny _ _ (call (Value.ref 129) [Value.str _ _, Value.bool _]) _ _ _); refine' Mine.Con.useS (Mine.con_mode_of _ _ _ ?hc) ?k1 ?k2 ?k3 ?k4 ?k5 ?kK ?kd ?ku ?_)
   | ((show wpAny _ _ (call (Value.ref 136) [Value.str _ _, Value.bool _]) _ _ _); refine' Mine.Con.useS (Mine.con_escaped _ _ _) ?k1 ?k2 ?k3 ?k4 ?k5 ?kK ?kd ?ku ?_)))
  (try (case hc => first | assumption | omega))
  (case k1 => k_asm); (case k2 => k_asm); (case k3 => k_asm); (case k4 => k_asm); (case k5 => k_asm); (case kK => first | exact rfl | assumption); (case kd => ktr_room); (case ku => ktr_units)
  (intro x9 t9 h9 tk9 e9 F9 N9; (try dsimp only); (try k_fold)))
  k_with "call builtin:str.join" => (
  k_here
  (k_dflt (first
   | ((with_reducible show wpAny _ _ (call (Value.builtin "str.join") [Value.str (Str.ofString "") _, Value.ref _]) _ _ _); refine' Mine.join0_at ?k1 ?k2 ?k3 ?k4 ?k5 ?_)
   | ((with_reducible show wpAny _ _ (call (Value.builtin "str.join") [Value.str (Str.ofString " ") _, Value.ref _]) _ _ _); refine' Mine.joinB_at ?k1 ?k2 ?k3 ?k4 ?k5 ?_)))
  (case k1 => k_asm); (case k2 => k_memK); (case k3 => k_asm); (case k4 => first | assumption | exact rfl); (case k5 => walk_at "join size")
  (intro t9 k9; (try dsimp only); (try k_fold)))
  k_with "call ref" => (
  k_here
  (with_reducible show wpAny _ _ (call (Value.ref 129) [Value.str (Str.ofString "") _, Value.bool _]) _ _ _)
  (k_dflt (refine' Mine.Con.use0 (Mine.con_mode_of0 _ _) ?k1 ?k2 ?k3 ?k4 ?k5 ?kK ?kd ?ku ?_))
  (case k1 => k_asm); (case k2 => k_asm); (case k3 => k_asm); (case k4 => k_asm); (case k5 => k_asm); (case kK => first | exact rfl | assumption); (case kd => ktr_room); (case ku => ktr_units)
  (intro r9 h9 tk9 F9 N9 hr9; (obtain ⟨t9, hr9⟩ := hr9); subst hr9; (try dsimp only); (try k_fold)))
  k_with "con argsC" => (
  (case kA => exact rfl); (case kF => exact rfl); (case kK => assumption); (case k1 => k_asm); (case k2 => k_asm); (case k3 => k_asm); (case k4 => k_asm); (case k5 => k_asm); (case k6 => k_is); (case k7 => k_is); (case k8 => ktr_room); (case k9 => first | exact BindsTo.of_eq rfl | exact binds_K (by k_in) rfl (by k_is) rfl rfl rfl); (case kB => exact rfl); (case kD => decide +kernel); (case c2 => exact rfl); (case c3 => exact rfl); (case c4 => exact rfl); k_whole; intro g' L' h' tk' cells' FG' F' N' Y' B' X' T' l1; (try k_lt l1); k_cells Y'; (try simp only [List.cons_append, List.nil_append] at N'); (try dsimp only); (try k_fold))
  k_with "call ref" => (
  k_here
  (k_dflt (first
   | ((show wpAny _ _ (call (Value.ref 158) [Value.str _ _]) _ _ _); refine' Mine.Con.useS (Mine.con_trim _ _ ?hc) ?k1 ?k2 ?k3 ?k4 ?k5 ?kK ?kd ?ku ?_)
   | ((show wpAny _ _ (call (Value.ref 205) [Value.str _ _]) _ _ _); refine' Mine.Con.useS (Mine.con_law_trimmed _ _ ?hc) ?k1 ?k2 ?k3 ?k4 ?k5 ?kK ?kd ?ku ?_)
   | ((show wpAny _ _ (call (Value.ref 144) [Value.str _ _, Value.bool _]) _ _ _); refine' Mine.Con.useS (Mine.con_quote _ _ _ ?hc) ?k1 ?k2 ?k3 ?k4 ?k5 ?kK ?kd ?ku ?_)
   | ((show wpAny _ _ (call (Value.ref 144) [Value.str _ _]) _ _ _); refine' Mine.Con.useS (Mine.con_quoteD _ _ ?hc) ?k1 ?k2 ?k3 ?k4 ?k5 ?kK ?kd ?ku ?_)
   | ((show wpAny _ _ (call (Value.ref 193) [Value.str _ _, Value.bool _]) _ _ _); refine' Mine.Con.useS (Mine.con_law_mode _ _ _ ?hc) ?k1 ?k2 ?k3 ?k4 ?k5 ?kK ?kd ?ku ?_)))
  (try (case hc => first | assumption | omega))
  (case k1 => k_asm); (case k2 => k_asm); (case k3 => k_asm); (case k4 => k_asm); (case k5 => k_asm); (case kK => first | exact rfl | assumption); (case kd => ktr_room); (case ku => ktr_units)
  (intro x9 t9 h9 tk9 e9 F9 N9; (try (first | (have z9 := Mine.trim_fact e9) | (have z9 := Mine.quote_fact e9))); (try dsimp only); (try k_fold)))
  k_with "for texts" => (k_here; (rename Fr _ _ _ _ => lF'); (with_unfolding_all refine' For_invVF lF' ?k1 ?k2 ?_; (case k1 => exact rfl); (case k2 => exact rfl); k_whole))
  k_with "call ref" => (
  k_here
  (k_dflt (first
   | ((show wpAny _ _ (call (Value.ref 165) [Value.str _ _]) _ _ _); refine' Mine.Con.useS (Mine.con_concat_part _ _ ?hc) ?k1 ?k2 ?k3 ?k4 ?k5 ?kK ?kd ?ku ?_)
   | ((show wpAny _ _ (call (Value.ref 212) [Value.str _ _]) _ _ _); refine' Mine.Con.useS (Mine.con_law_part _ _ ?hc) ?k1 ?k2 ?k3 ?k4 ?k5 ?kK ?kd ?ku ?_)
   | ((show wpAny _ _ (call (Value.ref 200) [Value.str _ _, Value.bool _]) _ _ _); refine' Mine.Con.useS (Mine.con_law_written _ _ _ ?hc) ?k1 ?k2 ?k3 ?k4 ?k5 ?kK ?kd ?ku ?_)))
  (try (case hc => first | assumption | omega))
  (case k1 => k_asm); (case k2 => k_asm); (case k3 => k_asm); (case k4 => k_asm); (case k5 => k_asm); (case kK => first | exact rfl | assumption); (case kd => ktr_room); (case ku => ktr_units)
  (intro x9 t9 h9 tk9 e9 F9 N9; (try (first | (have z9 := Mine.part_fact e9) | (have z9 := Mine.quote_fact e9))); (try dsimp only); (try k_fold)))
  k_with "call ref" => (
  k_here
  (k_dflt (first
   | ((show wpAny _ _ (call (Value.ref 151) [Value.ref _]) _ _ _); refine' Mine.Con.useS (Mine.con_join_list ?hT ?hi ?hm ?hB ?hn) ?k1 ?k2 ?k3 ?k4 ?k5 ?kK ?kd ?ku ?_)
   | ((show wpAny _ _ (call (Value.ref 172) [Value.ref _]) _ _ _); refine' Mine.Con.useS (Mine.con_concat ?hT ?hi ?hm ?hB ?hn) ?k1 ?k2 ?k3 ?k4 ?k5 ?kK ?kd ?ku ?_)
   | ((show wpAny _ _ (call (Value.ref 179) [Value.ref _]) _ _ _); refine' Mine.Con.useS (Mine.con_code_text ?hT ?hi ?hm ?hB ?hn) ?k1 ?k2 ?k3 ?k4 ?k5 ?kK ?kd ?ku ?_)))
  (case hT => first | assumption | exact ⟨_, .inl rfl⟩ | exact ⟨_, .inr rfl⟩)
  (case hi => assumption)
  (case hm => first | assumption | k_memK)
  (case hB => assumption)
  (case hn => first | assumption | omega)
  (case k1 => k_asm); (case k2 => k_asm); (case k3 => k_asm); (case k4 => k_asm); (case k5 => k_asm); (case kK => first | exact rfl | assumption); (case kd => ktr_room); (case ku => ktr_units)
  (intro x9 t9 h9 tk9 e9 F9 N9; (try dsimp only); (try k_fold)))
  k_with "binaryOp Add str str" => (
  k_here
  (with_reducible show wpAny _ _ (binaryOp Operator.Add (Value.str (Str.ofString _) _) (Value.str (Str.ofString _) _)) _ _ _)
  (refine' PyProof.Rows.SBL.add ?_ ?z)
  (case z => decide +kernel)
  (intro t9 k9 z9))
  k_with "call builtin:str.replace" => (
  k_here
  (with_reducible show wpAny _ _ (call (Value.builtin "str.replace") [Value.str _ _, Value.str _ _, Value.str _ _]) _ _ _)
  (walk_at "replace by"))
  k_with "con end1" => (
  refine Mine.end1 hret (by k_asm) (by k_asm) (by first | exact Mine.sub_all (by intro p hp; repeat (first | exact hp | refine List.mem_cons_of_mem _ ?_)) | exact Mine.sub_all (by kst_inAny)) (by k_memK)
    (by first | assumption | exact PySem.W.kst_ltOf (by first | exact And.right (by assumption) | exact And.right (And.right (by assumption)) | exact And.right (And.right (And.right (by assumption))) | exact And.right (And.right (And.right (And.right (by assumption)))))) ?_)
  trivial
namespace Mine
def qR (M c : Str) (b : Bool) (pre : List Int) : List Nat :=
  (if (b && Txt.item c 0 == Str.ofString "#") = true then [92] else []) ++ pre.flatMap fun n => escL n.toNat (M == Str.ofString "escape")
theorem q_s0 {M c : Str} {b : Bool} (h : b = false) : ([] : List Str).flatMap sg = qR M c b [] := by subst h; rfl
theorem q_s1 {M c : Str} {b : Bool} (h : (Txt.item c 0 == Str.ofString "#") = false) : ([] : List Str).flatMap sg = qR M c b [] := by unfold qR; rw [h]; cases b <;> rfl
theorem q_s2 {M c : Str} {b : Bool} (h : (Txt.item c 0 == Str.ofString "#") = true) (hb : b = true) : [Str.ofString "\\"].flatMap sg = qR M c b [] := by unfold qR; rw [h, hb, lit_bs]; rfl
theorem q_turn {M c : Str} {b : Bool} {pre : List Int} {n : Nat} {out : List Str} {y : Str} (h : out.flatMap sg = qR M c b pre) (e : y = S (escL n (M == Str.ofString "escape"))) : (out ++ [y]).flatMap sg = qR M c b (pre ++ [(n : Int)]) := by
  subst e
  rw [List.flatMap_append, h]
  unfold qR
  rw [List.flatMap_append, ← List.append_assoc]
  refine congrArg _ ?_
  rw [List.flatMap_cons, List.flatMap_cons, List.flatMap_nil, List.flatMap_nil, sg_S, Int.toNat_natCast]
theorem q_len {M c : Str} {b : Bool} (hc : c.length ≤ 4096) : (qR M c b (PySem.W.KStt.codes c)).length ≤ 1000000 := by
  have h := flat_len (PySem.W.KStt.codes c) (fun n => escL n.toNat (M == Str.ofString "escape")) 2 (fun n => escL_len _ _)
  rw [PySem.W.KStt.codes_length] at h
  unfold qR
  rw [List.length_append]
  split <;> simp only [List.length_cons, List.length_nil] <;> omega
theorem item0 {c : Str} (h : 1 ≤ c.length) : (Txt.item c 0 == Str.ofString "#") = decide (c.cps.toList.head? = some 35) := by
  obtain ⟨n, e1, e2⟩ := item_at (x := c) (k := 0) (by omega) (by omega)
  have e3 : c.cps.toList = n :: c.cps.toList.drop (0 + 1 : Int).toNat := e2
  rw [e1, lit_hs, one_eq, e3, List.head?_cons, Bool.eq_iff_iff]
  simp
theorem qe_none {M c : Str} {b : Bool} {t : Tok} (e : M = modeOf c.cps.toList b) (h : (M == Str.ofString "none") = true) : (∃ t', Value.str c t = .str (S (quoteL c.cps.toList b)) t') ∧ ([] : Led) = [] := by
  refine ⟨⟨t, ?_⟩, rfl⟩
  unfold quoteL
  rw [← e, if_pos (eq_of_beq h)]
  rfl
theorem qe_brace {M c : Str} {b : Bool} {t : Tok} (e : M = modeOf c.cps.toList b) (h0 : (M == Str.ofString "none") = false) (h : (M == Str.ofString "brace") = true) : (∃ t', Value.str (Str.ofString "{" ++ c ++ Str.ofString "}") t = .str (S (quoteL c.cps.toList b)) t') ∧ ([] : Led) = [] := by
  refine ⟨⟨t, ?_⟩, rfl⟩
  unfold quoteL
  rw [← e, if_neg (by intro q; rw [q] at h0; simp at h0), if_pos (eq_of_beq h), lit_ob, lit_cb]
  refine congrArg (fun x => Value.str x t) ?_
  rw [show (123 :: (c.cps.toList ++ [125])) = [123] ++ c.cps.toList ++ [125] from rfl, ← S_append, ← S_append]
  rfl
theorem codes_flat (c : Str) (f : Nat → List Nat) : (PySem.W.KStt.codes c).flatMap (fun n => f n.toNat) = c.cps.toList.flatMap f := by
  unfold PySem.W.KStt.codes
  rw [List.flatMap_map]
  rfl
theorem qe_esc {M c : Str} {b : Bool} {t : Tok} (hne : 1 ≤ c.length) (e : M = modeOf c.cps.toList b) (h0 : (M == Str.ofString "none") = false) (h : (M == Str.ofString "brace") = false) : (∃ t', Value.str (S (qR M c b (PySem.W.KStt.codes c))) t = .str (S (quoteL c.cps.toList b)) t') ∧ ([] : Led) = [] := by
  refine ⟨⟨t, ?_⟩, rfl⟩
  refine congrArg (fun x => Value.str (S x) t) ?_
  have h0' : ¬ M = Str.ofString "none" := by intro q; rw [q] at h0; simp at h0
  have h' : ¬ M = Str.ofString "brace" := by intro q; rw [q] at h; simp at h
  unfold quoteL qR
  rw [← e, if_neg h0', if_neg h', item0 hne, codes_flat c (fun n => escL n (M == Str.ofString "escape"))]
  simp only [Bool.and_eq_true, decide_eq_true_eq]
theorem Mine.wQu0 : True := by
  k_with "kst_facts" => (with_reducible first | exact PyProof.Rows.StrsAre.nil | exact PyProof.Rows.StrsAre.cons _ _ .nil | exact PyProof.Rows.StrsAre.append' (by assumption) (.cons _ _ .nil))
  k_with "join size" => exact q_len (by assumption)
  trivial
theorem con_quote1 {w mean mg mb news} (c : Str) (t : Tok) (b : Bool) (hc : c.length ≤ 4096) (hne : 1 ≤ c.length) : Con w mean mg mb 144 5 news [.str c t, .bool b] (fun v tl => (∃ t', v = .str (S (quoteL c.cps.toList b)) t') ∧ tl = []) := by
  walk_at "con in0"
  k_dflt (refine' code_def (binds := [(Str.ofString "element", .str c t), (Str.ofString "is_hash", .bool b)]) ?k1 ?k2 ?k3 ?k4 ?k5 ?kA ?kF ?kK ?k6 ?k7 ?k8 ?k9 ?kB ?_ ?c2 ?c3 ?c4 ?c5; walk_at "con args")
  k_with "state" => ((refine ⟨?_, by simp only [List.length_append, List.length_cons, List.length_nil]; omega⟩); with_reducible (first | exact q_s0 (by assumption) | exact q_s1 (by assumption) | exact q_s2 (by assumption) (by assumption) | exact q_turn (by assumption) (by assumption) ))
  k_with "pyIter str" => k_state (fun pre (out : List Str) => out.flatMap sg = qR x9 c b pre ∧ out.length ≤ pre.length + 1) "out$"
  walk_at "steps"
  all_goals walk_at "con end"
  all_goals with_reducible (first
    | exact qe_none (by assumption) (by assumption)
    | exact qe_brace (by assumption) (by assumption) (by assumption)
    | exact qe_esc hne (by assumption) (by assumption) (by assumption))
theorem q0_end (b : Bool) : Str.ofString "{" ++ Str.ofString "" ++ Str.ofString "}" = S (quoteL [] b) := by
  unfold quoteL
  rw [show modeOf [] b = Str.ofString "brace" from rfl, if_neg (by decide +kernel), if_pos rfl]
  decide +kernel
theorem con_quote0 {w mean mg mb news} (t : Tok) (b : Bool) : Con w mean mg mb 144 5 news [.str (Str.ofString "") t, .bool b] (fun v tl => (∃ t', v = .str (S (quoteL [] b)) t') ∧ tl = []) := by
  walk_at "con in0"
  k_dflt (refine' code_def (binds := [(Str.ofString "element", .str (Str.ofString "") t), (Str.ofString "is_hash", .bool b)]) ?k1 ?k2 ?k3 ?k4 ?k5 ?kA ?kF ?kK ?k6 ?k7 ?k8 ?k9 ?kB ?_ ?c2 ?c3 ?c4 ?c5; walk_at "con args")
  walk_at "steps"
  all_goals walk_at "con end"
  all_goals exact ⟨⟨_, by rw [q0_end b]⟩, rfl⟩
theorem con_quote {w mean mg mb news} (c : Str) (t : Tok) (b : Bool) (hc : c.length ≤ 4096) : Con w mean mg mb 144 5 news [.str c t, .bool b] (fun v tl => (∃ t', v = .str (S (quoteL c.cps.toList b)) t') ∧ tl = []) := by
  rcases Nat.eq_zero_or_pos c.length with h0 | h0
  · have : c = Str.ofString "" := by
      obtain ⟨a⟩ := c
      have : a = #[] := Array.eq_empty_of_size_eq_zero h0
      subst this; decide +kernel
    subst this
    exact con_quote0 t b
  · exact con_quote1 c t b hc h0
end Mine
end PartQu
section PartSl
namespace Mine
open PySem.StrLaws PySem.Builtin PySem.Builtin.Str
theorem clip_nat (a n : Nat) : max (0 : Int) (min (a : Int) (n : Int)) = ((min a n : Nat) : Int) := by
  rw [Int.max_eq_right (Int.le_min.mpr ⟨Int.natCast_nonneg a, Int.natCast_nonneg n⟩)]
  rcases Nat.le_total a n with h | h
  · rw [Nat.min_eq_left h, Int.min_eq_left (Int.ofNat_le.mpr h)]
  · rw [Nat.min_eq_right h, Int.min_eq_right (Int.ofNat_le.mpr h)]
theorem idx_clip {a b : Int} {n : Nat} (ha : 0 ≤ a) (hb : 0 ≤ b) : strSliceIndices (some a) (some b) 1 n = strSliceIndices (some ((min a.toNat n : Nat) : Int)) (some ((max (min a.toNat n) (min b.toNat n) : Nat) : Int)) 1 n := by
  obtain ⟨a, rfl⟩ := Int.eq_ofNat_of_zero_le ha
  obtain ⟨b, rfl⟩ := Int.eq_ofNat_of_zero_le hb
  have hn (k : Nat) : ¬ ((k : Int) < 0) := Int.not_lt.mpr (Int.natCast_nonneg k)
  have e3 : min (min a n) n = min a n := Nat.min_eq_left (Nat.min_le_right _ _)
  have e4 : min (max (min a n) (min b n)) n = max (min a n) (min b n) := Nat.min_eq_left (Nat.max_le.mpr ⟨Nat.min_le_right _ _, Nat.min_le_right _ _⟩)
  rw [Int.toNat_natCast, Int.toNat_natCast]
  simp only [strSliceIndices, sliceRange, hn, if_false, show ((1 : Int) > 0) = True from eq_true (by decide), if_true, clip_nat, e3, e4, Int.ofNat_lt]
  by_cases h : min a n < min b n
  · rw [Nat.max_eq_right (Nat.le_of_lt h)]
  · rw [Nat.max_eq_left (Nat.le_of_not_lt h), if_neg h, if_neg (Nat.lt_irrefl _)]
theorem take_clip (l : List Nat) (a b : Nat) : (l.drop (min a l.length)).take (max (min a l.length) (min b l.length) - min a l.length) = (l.drop a).take (b - a) := by
  by_cases h : a ≤ l.length
  · rw [Nat.min_eq_left h]
    by_cases h2 : b ≤ l.length
    · rw [Nat.min_eq_left h2]
      congr 1; omega
    · rw [Nat.min_eq_right (by omega), List.take_of_length_le, List.take_of_length_le]
      · rw [List.length_drop]; omega
      · rw [List.length_drop]; omega
  · rw [Nat.min_eq_right (by omega), List.drop_length, List.take_nil, List.drop_of_length_le (by omega), List.take_nil]
/-- a slice with bounds that are not negative -/
theorem slice_is (x : Str) {a b : Int} (ha : 0 ≤ a) (hb : 0 ≤ b) : Txt.slice x (some a) (some b) = S ((sg x).drop a.toNat |>.take (b.toNat - a.toNat)) := by
  show sliceText x (some a) (some b) = _
  have hx : x.length = (sg x).length := (sg_len x).symm
  have e : sliceText x (some a) (some b) = sliceText x (some ((min a.toNat x.length : Nat) : Int)) (some ((max (min a.toNat x.length) (min b.toNat x.length) : Nat) : Int)) := by
    unfold sliceText
    rw [idx_clip ha hb]
  rw [e, sliceText_nat x (by omega) (by omega)]
  show S ((sg x).drop _ |>.take _) = _
  rw [hx, take_clip]
theorem slice_from_is (x : Str) {a : Int} (ha : 0 ≤ a) : Txt.slice x (some a) none = S ((sg x).drop a.toNat) := by
  have e : Txt.slice x (some a) none = Txt.slice x (some a) (some (x.length : Int)) := by
    show sliceText x (some a) none = sliceText x _ _
    unfold sliceText
    rw [sliceIdx_none_hi]
  rw [e, slice_is x ha (by omega), List.take_of_length_le]
  rw [List.length_drop, sg_len]; omega
theorem slice_to_is (x : Str) {b : Int} (hb : 0 ≤ b) : Txt.slice x none (some b) = S ((sg x).take b.toNat) := by
  have e : Txt.slice x none (some b) = Txt.slice x (some 0) (some b) := by
    show sliceText x none (some b) = sliceText x _ _
    unfold sliceText
    rw [sliceIdx_none_lo]
  rw [e, slice_is x (by omega) hb]
  rfl
/-- one sign cut out -/
theorem slice_one (x : Str) {a : Int} (ha : 0 ≤ a) : Txt.slice x (some a) (some (a + 1)) = S ((sg x).drop a.toNat |>.take 1) := by
  rw [slice_is x ha (by omega), show (a + 1).toNat - a.toNat = 1 by omega]
end Mine
end PartSl
section PartRp
namespace Mine
open PySem.StrLaws PySem.Builtin PySem.Builtin.Str
/-- the pattern y, from the left, by z -/
def replL (y z : List Nat) (l : List Nat) : List Nat :=
  match l with
  | [] => []
  | c :: r => if 1 ≤ y.length ∧ (c :: r).take y.length = y then z ++ replL y z ((c :: r).drop y.length) else c :: replL y z r
termination_by l.length
decreasing_by all_goals first | (simp_wf; done) | (simp_wf; omega) | (simp only [List.length_drop, List.length_cons]; omega)
theorem replL_nil (y z : List Nat) : replL y z [] = [] := by rw [replL]
theorem replL_cons (y z : List Nat) (c : Nat) (r : List Nat) : replL y z (c :: r) = if 1 ≤ y.length ∧ (c :: r).take y.length = y then z ++ replL y z ((c :: r).drop y.length) else c :: replL y z r := by rw [replL]
theorem at_iff (x y : Str) (i : Nat) : At x y x.length i ↔ i + (sg y).length ≤ (sg x).length ∧ ((sg x).drop i).take (sg y).length = sg y := by
  unfold At
  rw [subAt_eq, sg_len, sg_len, beq_iff_eq]
  rfl
theorem repl_skip (x y z : Str) (hw : 1 ≤ y.length) : ∀ (n a : Nat), a + n ≤ (sg x).length → (∀ k, a ≤ k → k < a + n → ¬ At x y x.length k) → replL (sg y) (sg z) ((sg x).drop a) = ((sg x).drop a).take n ++ replL (sg y) (sg z) ((sg x).drop (a + n))
  | 0, a, _, _ => by simp
  | n + 1, a, h, hn => by
    have ha : a < (sg x).length := by omega
    rw [List.drop_eq_getElem_cons ha, replL_cons, if_neg, List.take_succ_cons, List.cons_append, repl_skip x y z hw n (a + 1) (by omega) (fun k h1 h2 => hn k (by omega) (by omega)), show a + 1 + n = a + (n + 1) by omega]
    rintro ⟨_, h2⟩
    rw [← List.drop_eq_getElem_cons ha] at h2
    refine hn a (Nat.le_refl _) (by omega) ((at_iff _ _ _).mpr ⟨?_, h2⟩)
    have := congrArg List.length h2
    rw [List.length_take, List.length_drop] at this
    have := sg_len y
    omega
theorem repl_end (x y z : Str) (hw : 1 ≤ y.length) (a : Nat) (ha : a ≤ (sg x).length) (hn : ∀ k, a ≤ k → ¬ At x y x.length k) : replL (sg y) (sg z) ((sg x).drop a) = (sg x).drop a := by
  rw [repl_skip x y z hw ((sg x).length - a) a (by omega) (fun k h1 _ => hn k h1), show a + ((sg x).length - a) = (sg x).length by omega, List.drop_length, replL_nil, List.append_nil, List.take_of_length_le]
  rw [List.length_drop]; omega
theorem sub_sg (x : Str) (a c : Nat) : sg (strSub x a c) = ((sg x).drop a).take (c - a) := strSub_toList x a c
theorem repl_chain (x y z : Str) (hw : 1 ≤ y.length) : ∀ (cuts : List Nat) (a f : Nat), a ≤ (sg x).length → ChainG x y x.length a cuts f → (∀ k, f ≤ k → ¬ At x y x.length k) → sg (Str.join z (partsFrom x y.length a cuts)) = replL (sg y) (sg z) ((sg x).drop a)
  | [], a, f, ha, h, hn => by
    have e : f = a := h
    subst e
    rw [repl_end x y z hw f ha hn]
    show sg (strSub x f x.length) = _
    rw [sub_sg, List.take_of_length_le]
    rw [List.length_drop, sg_len]; omega
  | c :: r, a, f, ha, h, hn => by
    obtain ⟨h1, h2, h3, h4⟩ := h
    have h2' := (at_iff _ _ _).mp h2
    have hy := sg_len y
    have hlt : c < (sg x).length := by omega
    rw [repl_skip x y z hw (c - a) a (by omega) (fun k h5 h6 => h3 k h5 (by omega)), show a + (c - a) = c by omega]
    have e1 : replL (sg y) (sg z) ((sg x).drop c) = sg z ++ replL (sg y) (sg z) ((sg x).drop (c + y.length)) := by
      have e2 := List.drop_eq_getElem_cons hlt
      rw [e2, replL_cons, if_pos ⟨by omega, by rw [← e2]; exact h2'.2⟩, ← e2, List.drop_drop, hy]
    rw [e1, ← repl_chain x y z hw r (c + y.length) f (by omega) h4 hn, ← List.append_assoc, ← sub_sg]
    obtain ⟨p, r', e⟩ := partsFrom_ne x y.length (c + y.length) r
    show sg (Str.join z (strSub x a c :: partsFrom x y.length (c + y.length) r)) = _
    rw [e]
    show sg (strSub x a c ++ z ++ Str.join z (p :: r')) = _
    rw [sg_app, sg_app]
theorem replace_is (x y z : Str) (hw : 1 ≤ y.length) : Txt.replace x y z = S (replL (sg y) (sg z) (sg x)) := by
  obtain ⟨f, hG, hn⟩ := occ_tight x y hw
  have key := repl_chain x y z hw _ 0 f (Nat.zero_le _) hG hn
  rw [List.drop_zero] at key
  unfold Txt.replace
  split
  · rename_i h
    have h0 : (y.length == 0 && z.length == 0) = false := by
      rw [Bool.and_eq_false_iff]; left; simp; omega
    rw [h0, Bool.or_false] at h
    have ho : occurrences x y 0 x.length (x.length + 1) = [] := by simpa using h
    rw [ho] at hG key
    have e : f = 0 := hG
    subst e
    rw [← key]
    show x = S (sg (strSub x 0 x.length))
    rw [sub_whole, S_sg]
  · rw [glued_eq_join, partsBetween_eq, ← key, S_sg]
theorem repl_one (c : Nat) (z : List Nat) : ∀ l : List Nat, replL [c] z l = l.flatMap fun n => if n = c then z else [n]
  | [] => replL_nil _ _
  | n :: r => by
    rw [replL_cons, List.flatMap_cons]
    by_cases h : n = c
    · rw [if_pos h, if_pos ⟨Nat.le_refl _, by rw [h]; rfl⟩]
      show z ++ replL [c] z r = _
      rw [repl_one c z r]
    · rw [if_neg h, if_neg (by rintro ⟨_, h2⟩; exact h (List.cons.inj h2).1), repl_one c z r]
      rfl
/-- the pairs of a backslash and k -/
theorem repl_two (b k : Nat) (z : List Nat) (n : Nat) (r : List Nat) : replL [b, k] z (n :: r) = if n = b ∧ r.head? = some k then z ++ replL [b, k] z (r.drop 1) else n :: replL [b, k] z r := by
  rw [replL_cons]
  by_cases h : n = b ∧ r.head? = some k
  · rw [if_pos h, if_pos]
    · cases r with
      | nil => cases h.2
      | cons q r => rfl
    · obtain ⟨h1, h2⟩ := h
      cases r with
      | nil => cases h2
      | cons q r =>
        rw [List.head?_cons] at h2
        cases h2
        rw [h1]
        exact ⟨by simp, rfl⟩
  · rw [if_neg h, if_neg]
    rintro ⟨_, h2⟩
    cases r with
    | nil => simp at h2
    | cons q r =>
      have h3 := List.cons.inj h2
      have h4 := List.cons.inj h3.2
      exact h ⟨h3.1, by rw [List.head?_cons, h4.1]⟩
theorem repl_len (y z : List Nat) (h : z.length ≤ y.length) : ∀ (n : Nat) (l : List Nat), l.length ≤ n → (replL y z l).length ≤ l.length
  | n, [], _ => by rw [replL_nil]; exact Nat.le_refl _
  | 0, c :: r, hl => by simp at hl
  | n + 1, c :: r, hl => by
    rw [replL_cons]
    split
    · rename_i h2
      have h3 := congrArg List.length h2.2
      rw [List.length_take] at h3
      have ih := repl_len y z h n ((c :: r).drop y.length) (by rw [List.length_drop]; omega)
      rw [List.length_drop] at ih
      rw [List.length_append]
      omega
    · have ih := repl_len y z h n r (by simp only [List.length_cons] at hl; omega)
      simp only [List.length_cons]; omega
theorem trimL_len (l : List Nat) : (trimL l).length ≤ l.length := by
  unfold trimL
  rw [List.length_reverse]
  refine Nat.le_trans (List.dropWhile_sublist _).length_le ?_
  rw [List.length_reverse]
  exact (List.dropWhile_sublist _).length_le
theorem trim_fact {x c : Str} (e : x = S (trimL c.cps.toList)) : x.length ≤ c.length := by
  rw [e, S_len, ← sg_len c]
  exact trimL_len _
theorem quote_fact {x c : Str} {b : Bool} (e : x = S (quoteL c.cps.toList b)) : x.length ≤ 2 * c.length + 2 := by
  have hl : c.length = c.cps.toList.length := by simp [PySem.Str.length]
  rw [e, S_len, hl]
  unfold quoteL
  split
  · omega
  split
  · simp only [List.length_cons, List.length_append, List.length_nil]; omega
  · rw [List.length_append]
    have := flat_len c.cps.toList (fun n => escL n (modeOf c.cps.toList b == Str.ofString "escape")) 2 (fun n => escL_len _ _)
    split <;> simp only [List.length_cons, List.length_nil] <;> omega
end Mine
end PartRp
section PartTr
theorem Mine.wTr : True := by
  k_with_none
  k_with "con in" => (
  w_top off
  unfold Mine.Con
  k_fill
  intro dp un gd cn cs a ccd cl outer A₀ base h₀ L m s Q E B F X N T hk hd hu hret
  refine wpAny_call ?_
  k_dflt cell_enter)
  k_with "con in0" => (
  w_top off
  unfold Mine.Con
  k_fill
  intro dp un gd cn cs a ccd cl outer A₀ base h₀ L m s Q E B F X N T hk hd hu hret
  refine wpAny_call ?_)
  k_with "con args" => (
  (case kA => exact rfl); (case kF => exact rfl); (case kK => assumption); (case k1 => k_asm); (case k2 => k_asm); (case k3 => k_asm); (case k4 => k_asm); (case k5 => k_asm); (case k6 => k_is); (case k7 => k_is); (case k8 => ktr_room); (case k9 => first | exact BindsTo.of_eq rfl | exact binds_K (by k_in) rfl (by k_is) rfl rfl rfl); (case c5 => decide); (case kB => exact locs rfl); (case c2 => exact rfl); (case c3 => exact rfl); (case c4 => exact rfl); k_whole; intro g' L' h' FG' F' N' B' X' T'; (try dsimp only); (try k_fold))
  k_with "con end" => (
  refine Mine.end0 hret (by k_asm) (by k_asm) (by first | exact Mine.sub_all (by intro p hp; repeat (first | exact hp | refine List.mem_cons_of_mem _ ?_)) | exact Mine.sub_all (by kst_inAny)) ?_)
  k_with "con use0" => (
  (case k1 => k_asm); (case k2 => k_asm); (case k3 => k_asm); (case k4 => k_asm); (case k5 => k_asm); (case kK => first | exact rfl | assumption); (case kd => ktr_room); (case ku => ktr_units))
  k_with "call ref" => (
  k_here
  (show wpAny _ _ (call (Value.ref 52) [Value.str _ _]) _ _ _)
  (k_dflt (refine' Mine.Con.use0 (Mine.con_is_blank _ _) ?k1 ?k2 ?k3 ?k4 ?k5 ?kK ?kd ?ku ?_; (case k1 => k_asm); (case k2 => k_asm); (case k3 => k_asm); (case k4 => k_asm); (case k5 => k_asm); (case kK => first | exact rfl | assumption); (case kd => ktr_room); (case ku => ktr_units)))
  (intro r9 h9 tk9 F9 N9 hr9; subst hr9; (try dsimp only); (try k_fold)))
  k_with "step" => (first
  | (k_unfold; (try dsimp only))
  | (refine Mine.ap2 ?_; k_unfold; (try dsimp only))
  | (k_end; kc_close)
  | ((fail_if_success (with_reducible show wpAny _ _ (exec (Stmt.While _ _ _ _) _) _ _ _)); first | walk1 | (dsimp only; walk1))
  | (leave1; (try dsimp only))
  | fail "no step")
  k_with "steps" => repeat' walk_at "step"
  k_with "eval BoolOp" => (
  k_here
  (k_dflt (first
   | (refine' Mine.or_names ?k1 ?k2 ?k3 ?_; (case k1 => k_asm); (case k2 => rfl); (case k3 => rfl))
   | (refine' Mine.and_name_eq ?k1 ?k2 ?k3 ?_; (case k1 => k_asm); (case k2 => rfl); (case k3 => rfl))))
  k_whole)
  k_with "drop" => (
  (rename News _ _ _ _ => nX)
  (have nY := cb_drop (news := news) nX (by intro p hp; repeat (first | exact hp | refine List.mem_cons_of_mem _ ?_)))
  (clear nX))
  k_with "KswEnd" => (
  (rename News _ _ _ _ => nE')
  (try simp only [List.push_toArray] at nE')
  (first
    | (refine' ksw_end ⟨_,_,_,_,_,_,_⟩ ?e1 nE' ?e2 ?e3 ?e4 ?e5 ?e6 ?e7)
    | (refine' ksw_end ⟨_,_,_,_⟩ ?e1 nE' ?e2 ?e3 ?e4 ?e5 ?e6 ?e7)
    | (refine' ksw_end ⟨_,_⟩ ?e1 nE' ?e2 ?e3 ?e4 ?e5 ?e6 ?e7)
    | (refine' ksw_end ⟨_,_,_,_,_⟩ ?e1 nE' ?e2 ?e3 ?e4 ?e5 ?e6 ?e7))
  (case e1 => assumption)
  (case e2 => first | exact Mine.sub_all (by intro p hp; repeat (first | exact hp | refine List.mem_cons_of_mem _ ?_)) | kst_in)
  (case e3 => kst_facts)
  (case e4 => kst_all)
  (case e5 => ksw_same)
  (case e6 => kst_p)
  (case e7 => ksw_less))
  k_with "exec If" => refine wpAny_If ?_
  k_with "call ref" => (
  k_here
  (k_dflt (first
   | ((show wpAny _ _ (call (Value.ref 129) [Value.str _ _, Value.bool _]) _ _ _); refine' Mine.Con.useS (Mine.con_mode_of _ _ _ ?hc) ?k1 ?k2 ?k3 ?k4 ?k5 ?kK ?kd ?ku ?_)
   | ((show wpAny _ _ (call (Value.ref 136) [Value.str _ _, Value.bool _]) _ _ _); refine' Mine.Con.useS (Mine.con_escaped _ _ _) ?k1 ?k2 ?k3 ?k4 ?k5 ?kK ?kd ?ku ?_)))
  (try (case hc => first | assumption | omega))
  (case k1 => k_asm); (case k2 => k_asm); (case k3 => k_asm); (case k4 => k_asm); (case k5 => k_asm); (case kK => first | exact rfl | assumption); (case kd => ktr_room); (case ku => ktr_units)
  (intro x9 t9 h9 tk9 e9 F9 N9; (try dsimp only); (try k_fold)))
  k_with "call builtin:str.join" => (
  k_here
  (k_dflt (first
   | ((with_reducible show wpAny _ _ (call (Value.builtin "str.join") [Value.str (Str.ofString "") _, Value.ref _]) _ _ _); refine' Mine.join0_at ?k1 ?k2 ?k3 ?k4 ?k5 ?_)
   | ((with_reducible show wpAny _ _ (call (Value.builtin "str.join") [Value.str (Str.ofString " ") _, Value.ref _]) _ _ _); refine' Mine.joinB_at ?k1 ?k2 ?k3 ?k4 ?k5 ?_)))
  (case k1 => k_asm); (case k2 => k_memK); (case k3 => k_asm); (case k4 => first | assumption | exact rfl); (case k5 => walk_at "join size")
  (intro t9 k9; (try dsimp only); (try k_fold)))
  k_with "call ref" => (
  k_here
  (with_reducible show wpAny _ _ (call (Value.ref 129) [Value.str (Str.ofString "") _, Value.bool _]) _ _ _)
  (k_dflt (refine' Mine.Con.use0 (Mine.con_mode_of0 _ _) ?k1 ?k2 ?k3 ?k4 ?k5 ?kK ?kd ?ku ?_))
  (case k1 => k_asm); (case k2 => k_asm); (case k3 => k_asm); (case k4 => k_asm); (case k5 => k_asm); (case kK => first | exact rfl | assumption); (case kd => ktr_room); (case ku => ktr_units)
  (intro r9 h9 tk9 F9 N9 hr9; (obtain ⟨t9, hr9⟩ := hr9); subst hr9; (try dsimp only); (try k_fold)))
  k_with "con argsC" => (
  (case kA => exact rfl); (case kF => exact rfl); (case kK => assumption); (case k1 => k_asm); (case k2 => k_asm); (case k3 => k_asm); (case k4 => k_asm); (case k5 => k_asm); (case k6 => k_is); (case k7 => k_is); (case k8 => ktr_room); (case k9 => first | exact BindsTo.of_eq rfl | exact binds_K (by k_in) rfl (by k_is) rfl rfl rfl); (case kB => exact rfl); (case kD => decide +kernel); (case c2 => exact rfl); (case c3 => exact rfl); (case c4 => exact rfl); k_whole; intro g' L' h' tk' cells' FG' F' N' Y' B' X' T' l1; (try k_lt l1); k_cells Y'; (try simp only [List.cons_append, List.nil_append] at N'); (try dsimp only); (try k_fold))
  k_with "call ref" => (
  k_here
  (k_dflt (first
   | ((show wpAny _ _ (call (Value.ref 158) [Value.str _ _]) _ _ _); refine' Mine.Con.useS (Mine.con_trim _ _ ?hc) ?k1 ?k2 ?k3 ?k4 ?k5 ?kK ?kd ?ku ?_)
   | ((show wpAny _ _ (call (Value.ref 205) [Value.str _ _]) _ _ _); refine' Mine.Con.useS (Mine.con_law_trimmed _ _ ?hc) ?k1 ?k2 ?k3 ?k4 ?k5 ?kK ?kd ?ku ?_)
   | ((show wpAny _ _ (call (Value.ref 144) [Value.str _ _, Value.bool _]) _ _ _); refine' Mine.Con.useS (Mine.con_quote _ _ _ ?hc) ?k1 ?k2 ?k3 ?k4 ?k5 ?kK ?kd ?ku ?_)
   | ((show wpAny _ _ (call (Value.ref 144) [Value.str _ _]) _ _ _); refine' Mine.Con.useS (Mine.con_quoteD _ _ ?hc) ?k1 ?k2 ?k3 ?k4 ?k5 ?kK ?kd ?ku ?_)
   | ((show wpAny _ _ (call (Value.ref 193) [Value.str _ _, Value.bool _]) _ _ _); refine' Mine.Con.useS (Mine.con_law_mode _ _ _ ?hc) ?k1 ?k2 ?k3 ?k4 ?k5 ?kK ?kd ?ku ?_)))
  (try (case hc => first | assumption | omega))
  (case k1 => k_asm); (case k2 => k_asm); (case k3 => k_asm); (case k4 => k_asm); (case k5 => k_asm); (case kK => first | exact rfl | assumption); (case kd => ktr_room); (case ku => ktr_units)
  (intro x9 t9 h9 tk9 e9 F9 N9; (try (first | (have z9 := Mine.trim_fact e9) | (have z9 := Mine.quote_fact e9))); (try dsimp only); (try k_fold)))
  k_with "for texts" => (k_here; (rename Fr _ _ _ _ => lF'); (with_unfolding_all refine' For_invVF lF' ?k1 ?k2 ?_; (case k1 => exact rfl); (case k2 => exact rfl); k_whole))
  k_with "call ref" => (
  k_here
  (k_dflt (first
   | ((show wpAny _ _ (call (Value.ref 165) [Value.str _ _]) _ _ _); refine' Mine.Con.useS (Mine.con_concat_part _ _ ?hc) ?k1 ?k2 ?k3 ?k4 ?k5 ?kK ?kd ?ku ?_)
   | ((show wpAny _ _ (call (Value.ref 212) [Value.str _ _]) _ _ _); refine' Mine.Con.useS (Mine.con_law_part _ _ ?hc) ?k1 ?k2 ?k3 ?k4 ?k5 ?kK ?kd ?ku ?_)
   | ((show wpAny _ _ (call (Value.ref 200) [Value.str _ _, Value.bool _]) _ _ _); refine' Mine.Con.useS (Mine.con_law_written _ _ _ ?hc) ?k1 ?k2 ?k3 ?k4 ?k5 ?kK ?kd ?ku ?_)))
  (try (case hc => first | assumption | omega))
  (case k1 => k_asm); (case k2 => k_asm); (case k3 => k_asm); (case k4 => k_asm); (case k5 => k_asm); (case kK => first | exact rfl | assumption); (case kd => ktr_room); (case ku => ktr_units)
  (intro x9 t9 h9 tk9 e9 F9 N9; (try (first | (have z9 := Mine.part_fact e9) | (have z9 := Mine.quote_fact e9))); (try dsimp only); (try k_fold)))
  k_with "call ref" => (
  k_here
  (k_dflt (first
   | ((show wpAny _ _ (call (Value.ref 151) [Value.ref _]) _ _ _); refine' Mine.Con.useS (Mine.con_join_list ?hT ?hi ?hm ?hB ?hn) ?k1 ?k2 ?k3 ?k4 ?k5 ?kK ?kd ?ku ?_)
   | ((show wpAny _ _ (call (Value.ref 172) [Value.ref _]) _ _ _); refine' Mine.Con.useS (Mine.con_concat ?hT ?hi ?hm ?hB ?hn) ?k1 ?k2 ?k3 ?k4 ?k5 ?kK ?kd ?ku ?_)
   | ((show wpAny _ _ (call (Value.ref 179) [Value.ref _]) _ _ _); refine' Mine.Con.useS (Mine.con_code_text ?hT ?hi ?hm ?hB ?hn) ?k1 ?k2 ?k3 ?k4 ?k5 ?kK ?kd ?ku ?_)))
  (case hT => first | assumption | exact ⟨_, .inl rfl⟩ | exact ⟨_, .inr rfl⟩)
  (case hi => assumption)
  (case hm => first | assumption | k_memK)
  (case hB => assumption)
  (case hn => first | assumption | omega)
  (case k1 => k_asm); (case k2 => k_asm); (case k3 => k_asm); (case k4 => k_asm); (case k5 => k_asm); (case kK => first | exact rfl | assumption); (case kd => ktr_room); (case ku => ktr_units)
  (intro x9 t9 h9 tk9 e9 F9 N9; (try dsimp only); (try k_fold)))
  k_with "binaryOp Add str str" => (
  k_here
  (with_reducible show wpAny _ _ (binaryOp Operator.Add (Value.str (Str.ofString _) _) (Value.str (Str.ofString _) _)) _ _ _)
  (refine' PyProof.Rows.SBL.add ?_ ?z)
  (case z => decide +kernel)
  (intro t9 k9 z9))
  k_with "call builtin:str.replace" => (
  k_here
  (with_reducible show wpAny _ _ (call (Value.builtin "str.replace") [Value.str _ _, Value.str _ _, Value.str _ _]) _ _ _)
  (walk_at "replace by"))
  k_with "con end1" => (
  refine Mine.end1 hret (by k_asm) (by k_asm) (by first | exact Mine.sub_all (by intro p hp; repeat (first | exact hp | refine List.mem_cons_of_mem _ ?_)) | exact Mine.sub_all (by kst_inAny)) (by k_memK)
    (by first | assumption | exact PySem.W.kst_ltOf (by first | exact And.right (by assumption) | exact And.right (And.right (by assumption)) | exact And.right (And.right (And.right (by assumption))) | exact And.right (And.right (And.right (And.right (by assumption)))))) ?_)
  trivial
namespace Mine
def Tr1 (l : List Nat) (k : Int) : Prop := (l.drop k.toNat).dropWhile isB = l.dropWhile isB
def Tr2 (l : List Nat) (a b : Int) : Prop := ((((l.drop a.toNat).take (b.toNat - a.toNat)).reverse.dropWhile isB).reverse) = trimL l
theorem tr1_s {l : List Nat} : Tr1 l 0 := rfl
theorem tr1_t {c : Str} {k : Int} (h0 : 0 ≤ k) (hk : k < c.length) (h : Tr1 c.cps.toList k) (hb : isBlankS (Txt.item c k) = true) : Tr1 c.cps.toList (k + 1) := by
  obtain ⟨n, e1, e2⟩ := item_at h0 hk
  rw [e1, isBlankS_one] at hb
  unfold Tr1 at h ⊢
  rw [e2, List.dropWhile_cons, if_pos hb] at h
  exact h
theorem tr1_len {c : Str} {k : Int} (h0 : 0 ≤ k) (h1 : ¬ k < c.length) : c.cps.toList.drop k.toNat = [] := by
  rw [List.drop_eq_nil_iff]
  have : c.length = c.cps.toList.length := by simp [PySem.Str.length]
  omega
theorem tr2_s {c : Str} {k : Int} (h : Tr1 c.cps.toList k) (e : (c.cps.toList.drop k.toNat).dropWhile isB = c.cps.toList.drop k.toNat) : Tr2 c.cps.toList k c.length := by
  unfold Tr1 at h
  unfold Tr2 trimL
  rw [List.take_of_length_le, ← h, e]
  have : c.length = c.cps.toList.length := by simp [PySem.Str.length]
  rw [List.length_drop, ← this]
  omega
theorem tr2_s1 {c : Str} {k : Int} (h0 : 0 ≤ k) (h : Tr1 c.cps.toList k) (h1 : ¬ k < c.length) : Tr2 c.cps.toList k c.length := tr2_s h (by rw [tr1_len h0 h1]; rfl)
theorem tr2_s2 {c : Str} {k : Int} (h0 : 0 ≤ k) (hk : k < c.length) (h : Tr1 c.cps.toList k) (hb : isBlankS (Txt.item c k) = false) : Tr2 c.cps.toList k c.length := by
  obtain ⟨n, e1, e2⟩ := item_at h0 hk
  rw [e1, isBlankS_one] at hb
  refine tr2_s h ?_
  rw [e2, List.dropWhile_cons, if_neg (by rw [hb]; simp)]
theorem tr2_last {c : Str} {a b : Int} (h0 : 0 ≤ a) (hab : a < b) (hb : b ≤ c.length) : ∃ n, Txt.item c (b - 1) = ⟨#[n]⟩ ∧ (c.cps.toList.drop a.toNat).take (b.toNat - a.toNat) = (c.cps.toList.drop a.toNat).take ((b - 1).toNat - a.toNat) ++ [n] := by
  have hb1 : (0 : Int) ≤ b - 1 := Int.le_trans h0 (Int.le_sub_one_of_lt hab)
  obtain ⟨n, e1, e2⟩ := Mine.item_at (x := c) hb1 (Int.lt_of_lt_of_le (Int.sub_lt_self b (by decide)) hb)
  refine ⟨n, e1, ?_⟩
  obtain ⟨a, rfl⟩ := Int.eq_ofNat_of_zero_le h0
  obtain ⟨k, hk⟩ := Int.eq_ofNat_of_zero_le hb1
  have hb : b = ((k + 1 : Nat) : Int) := by rw [Int.natCast_succ, ← hk, Int.sub_add_cancel]
  have hak : a ≤ k := Int.ofNat_le.mp (hk ▸ Int.le_sub_one_of_lt hab)
  rw [hk, Int.toNat_natCast] at e2
  rw [hk, hb, Int.toNat_natCast, Int.toNat_natCast, Int.toNat_natCast, Nat.succ_sub hak, List.take_add_one]
  have : (c.cps.toList.drop a)[k - a]? = some n := by
    rw [List.getElem?_drop, Nat.add_sub_of_le hak, ← List.head?_drop, e2]; rfl
  rw [this]; rfl
theorem tr2_t {c : Str} {a b : Int} (h0 : 0 ≤ a) (hab : a < b) (hb : b ≤ c.length) (h : Tr2 c.cps.toList a b) (hk : isBlankS (Txt.item c (b - 1)) = true) : Tr2 c.cps.toList a (b - 1) := by
  obtain ⟨n, e1, e2⟩ := tr2_last h0 hab hb
  rw [e1, isBlankS_one] at hk
  unfold Tr2 at h ⊢
  rw [e2, List.reverse_append, List.reverse_cons, List.reverse_nil, List.nil_append, List.singleton_append, List.dropWhile_cons, if_pos hk] at h
  exact h
theorem tr2_e1 {l : List Nat} {a b : Int} (hab : ¬ a < b) (h : Tr2 l a b) : (l.drop a.toNat).take (b.toNat - a.toNat) = trimL l := by
  unfold Tr2 at h
  have : b.toNat - a.toNat = 0 := by omega
  rw [this, List.take_zero] at h ⊢
  exact h
theorem tr2_e2 {c : Str} {a b : Int} (h0 : 0 ≤ a) (hab : a < b) (hb : b ≤ c.length) (h : Tr2 c.cps.toList a b) (hk : isBlankS (Txt.item c (b - 1)) = false) : (c.cps.toList.drop a.toNat).take (b.toNat - a.toNat) = trimL c.cps.toList := by
  obtain ⟨n, e1, e2⟩ := tr2_last h0 hab hb
  rw [e1, isBlankS_one] at hk
  unfold Tr2 at h
  rw [e2, List.reverse_append, List.reverse_cons, List.reverse_nil, List.nil_append, List.singleton_append, List.dropWhile_cons, if_neg (by rw [hk]; simp), List.reverse_cons, List.reverse_reverse] at h
  rw [e2]
  exact h
theorem tr_ret {c : Str} {a b : Int} {t : Tok} {r : List Nat} (h0 : 0 ≤ a ∧ a ≤ b) (hb : b ≤ c.length) (h : (c.cps.toList.drop a.toNat).take (b.toNat - a.toNat) = r) : (∃ t', Value.str (Txt.slice c (some a) (some b)) t = .str (S r) t') ∧ ([] : Led) = [] := by
  refine ⟨⟨t, ?_⟩, rfl⟩
  have hl : c.length = c.cps.toList.length := by simp [PySem.Str.length]
  have e := eq_of_beq (PyProof.Rows.slice_closes (x := c) (i := a) (j := b) ⟨h0.1, h0.2, by omega⟩)
  rw [e, show (b - a).toNat = b.toNat - a.toNat by omega, h]
  rfl
theorem con_trim {w mean mg mb news} (c : Str) (t : Tok) (hc : c.length ≤ 4096) : Con w mean mg mb 158 3 news [.str c t] (fun v tl => (∃ t', v = .str (S (trimL c.cps.toList)) t') ∧ tl = []) := by
  walk_at "con in0"
  k_dflt (refine' code_def (binds := [(Str.ofString "text", .str c t)]) ?k1 ?k2 ?k3 ?k4 ?k5 ?kA ?kF ?kK ?k6 ?k7 ?k8 ?k9 ?kB ?_ ?c2 ?c3 ?c4 ?c5; walk_at "con args")
  walk_at "steps"
  walk_at "drop"
  k_with "state" => with_reducible (first
    | exact ⟨by omega, by omega, tr1_s⟩
    | exact ⟨by omega, by omega, tr1_t (by assumption) (by assumption) (by assumption) (by assumption)⟩)
  k_while (fun _ (first : Int) => 0 ≤ first ∧ first ≤ (c.length : Int) ∧ Tr1 c.cps.toList first) (fun _ first => ((c.length : Int) - first).toNat) "first"
  walk_at "steps"
  all_goals walk_at "drop"
  k_with "state" => with_reducible (first
    | exact ⟨by omega, by omega, by omega, tr2_s1 (by assumption) (by assumption) (by assumption)⟩
    | exact ⟨by omega, by omega, by omega, tr2_s2 (by assumption) (by assumption) (by assumption) (by assumption)⟩
    | exact ⟨by omega, by omega, by omega, tr2_t (by assumption) (by assumption) (by assumption) (by assumption) (by assumption)⟩)
  all_goals k_while_given ["first"] (fun (first : Int) _ (behind : Int) => 0 ≤ first ∧ first ≤ behind ∧ behind ≤ (c.length : Int) ∧ Tr2 c.cps.toList first behind) (fun first _ behind => (behind - first).toNat) "behind"
  walk_at "steps"
  all_goals walk_at "con end"
  all_goals with_reducible (first
    | exact tr_ret (by omega) (by omega) (tr2_e2 (by assumption) (by assumption) (by assumption) (by assumption) (by assumption))
    | exact tr_ret (by omega) (by omega) (tr2_e1 (by omega) (by assumption)))
end Mine
end PartTr
section PartPt
namespace Mine
open PySem.StrLaws PySem.Builtin PySem.Builtin.Str
def backK (l : List Nat) : Nat := (l.reverse.takeWhile (· != 92)).length
def partL (l : List Nat) : List Nat :=
  if (trimL l).getLast? = some 92 then trimL l ++ (l.drop (l.length - backK l)).take 1 else trimL l
theorem tw_first {n : Nat} : ∀ (l : List Nat) (i : Nat), l[i]? = some n → (∀ j, j < i → l[j]? ≠ some n) → (l.takeWhile (· != n)).length = i
  | [], i, h, _ => by simp at h
  | c :: r, 0, h, _ => by
    have : c = n := by simpa using h
    rw [List.takeWhile_cons, if_neg (by simp [this])]; rfl
  | c :: r, i + 1, h, hb => by
    have h0 : c ≠ n := fun e => hb 0 (by omega) (by simp [e])
    rw [List.takeWhile_cons, if_pos (by simp [h0]), List.length_cons, tw_first r i (by simpa using h) (fun j hj => by have := hb (j + 1) (by omega); simpa using this)]
theorem endswith_bs (x : Str) : Txt.endswith x (Str.ofString "\\") = decide ((sg x).getLast? = some 92) := by
  rw [lit_bs]
  unfold Txt.endswith
  have hl := sg_len x
  rw [Bool.eq_iff_iff, Bool.and_eq_true, decide_eq_true_eq, decide_eq_true_eq, List.getLast?_eq_getElem?, hl]
  show (0 + 1 ≤ x.length ∧ subAt x ⟨#[92]⟩ (x.length - 1) = true) ↔ _
  constructor
  · rintro ⟨h1, h2⟩
    exact (subAt_one x 92 _).mp ⟨by show x.length - 1 + 1 ≤ x.length; omega, h2⟩
  · intro h
    refine ⟨?_, ((subAt_one x 92 _).mpr h).2⟩
    have := (List.getElem?_eq_some_iff.mp h).1
    omega
theorem rev_is (x : Str) (u : Tok) : Txt.sliceBy x none none (-1, u) = S (sg x).reverse := by
  have h := PyProof.Rows.step_rev_list x u
  rw [← S_sg (Txt.sliceBy x none none (-1, u))]
  refine congrArg S (h.trans ?_)
  have hl := sg_len x
  refine List.ext_getElem (by simp [hl]) fun i h1 h2 => ?_
  have hi : i < x.length := by simpa using h1
  rw [List.getElem_map, List.getElem_range, List.getElem_reverse]
  simp only [hl]
  have hs : x.length - 1 - i < x.cps.size := by show _ < x.length; omega
  rw [Array.getD_eq_getD_getElem?, Array.getElem?_eq_getElem hs]
  simp [sg]
theorem slice_last (x : Str) : Txt.slice x (some (-1)) none = Str.ofString "\\" ↔ (sg x).getLast? = some 92 := by
  have hl := sg_len x
  rcases Nat.eq_zero_or_pos x.length with h0 | h0
  · have e : x = S [] := by rw [← S_sg x]; congr 1; exact List.eq_nil_of_length_eq_zero (by omega)
    subst e
    rw [sg_S, lit_bs]
    constructor
    · intro h; exact absurd h (by decide +kernel)
    · intro h; cases h
  · have e := PySem.StrLaws.sliceText_from_neg (x := x) (i := -1) (by omega) (by omega)
    have e2 : Txt.slice x (some (-1)) none = S ((sg x).drop (x.length - 1)) := by
      show PySem.StrLaws.sliceText x (some (-1)) none = _
      rw [PySem.StrLaws.sliceText_neg_lo x none (by omega) (by omega)]
      have := slice_from_is x (a := -1 + (x.length : Int)) (by omega)
      rw [show (-1 + (x.length : Int)).toNat = x.length - 1 by omega] at this
      exact this
    rw [e2, lit_bs]
    have h1 : x.length - 1 < (sg x).length := by omega
    rw [List.drop_eq_getElem_cons h1, List.drop_of_length_le (by omega), List.getLast?_eq_getElem?, hl, List.getElem?_eq_getElem h1]
    constructor
    · intro h
      have := congrArg sg h
      rw [sg_S] at this
      exact congrArg some (List.cons.inj this).1
    · intro h
      rw [Option.some.inj h]; rfl
theorem last_mem {l : List Nat} (h : (trimL l).getLast? = some 92) : 92 ∈ l := by
  have h1 := List.mem_of_getLast? h
  unfold trimL at h1
  have h2 := (List.dropWhile_sublist isB).subset (List.mem_reverse.mp h1)
  exact (List.dropWhile_sublist isB).subset (List.mem_reverse.mp h2)
theorem find_is (x : Str) (n : Nat) (h : n ∈ sg x) : Txt.find x ⟨#[n]⟩ = ((sg x).takeWhile (· != n)).length := by
  unfold Txt.find
  rcases occ_head x ⟨#[n]⟩ 1 (Nat.le_refl _) with ⟨_, h1⟩ | ⟨i, r, h0, h1, h2⟩
  · obtain ⟨j, hj⟩ := List.getElem?_of_mem h
    exact absurd ((subAt_one x n j).mpr hj) (h1 j)
  · rw [h0]
    have := tw_first (sg x) i ((subAt_one x n i).mp h1) (fun j hj e => h2 j hj ((subAt_one x n j).mpr e))
    show (i : Int) = _
    omega
theorem rfind_is (x : Str) (n : Nat) (h : n ∈ sg x) : Txt.rfind x ⟨#[n]⟩ + 1 = (x.length : Int) - ((sg x).reverse.takeWhile (· != n)).length ∧ ((sg x).reverse.takeWhile (· != n)).length < x.length := by
  unfold Txt.rfind
  have hl := sg_len x
  rcases last_spec x ⟨#[n]⟩ with ⟨_, h1⟩ | ⟨i, h0, h1, h2⟩
  · obtain ⟨j, hj⟩ := List.getElem?_of_mem h
    exfalso
    have hlt := (List.getElem?_eq_some_iff.mp hj).1
    exact h1 j ((subAt_one x n j).mpr hj)
  · rw [h0]
    have hi : i + 1 ≤ x.length := h1.1
    have key := tw_first (n := n) (sg x).reverse (x.length - 1 - i) ?_ ?_
    · rw [key]
      show (i : Int) + 1 = _ ∧ _
      omega
    · rw [List.getElem?_reverse (by omega), hl, show x.length - 1 - (x.length - 1 - i) = i by omega]
      exact (subAt_one x n i).mp h1
    · intro j hj e
      rw [List.getElem?_reverse (by omega), hl] at e
      exact h2 (x.length - 1 - j) (by omega) ((subAt_one x n _).mpr e)
section
variable {x c : Str} {t : Tok}
theorem pt_end {r : Str} {l : List Nat} (e : r = S l) : (∃ t', Value.str r t = .str (S l) t') ∧ ([] : Led) = [] := ⟨⟨t, by rw [e]⟩, rfl⟩
theorem cp_no (e : x = S (trimL c.cps.toList)) (h : Txt.endswith x (Str.ofString "\\") = false) : x = S (partL c.cps.toList) := by
  rw [endswith_bs, decide_eq_false_iff_not, e, sg_S] at h
  unfold partL
  rw [if_neg h, e]
theorem cp_yes (e : x = S (trimL c.cps.toList)) (h : Txt.endswith x (Str.ofString "\\") = true) :
    x ++ Txt.slice c (some (Txt.rfind c (Str.ofString "\\") + 1)) (some (Txt.rfind c (Str.ofString "\\") + 1 + 1)) = S (partL c.cps.toList) := by
  rw [endswith_bs, decide_eq_true_eq, e, sg_S] at h
  obtain ⟨h1, h2⟩ := rfind_is c 92 (last_mem h)
  unfold partL
  rw [if_pos h, e, slice_one c (by rw [lit_bs]; omega), S_append]
  have hl : (sg c).length = c.length := sg_len c
  have h4 : ((c.length : Int) - (backK (sg c) : Int)).toNat = (sg c).length - backK (sg c) := by omega
  rw [lit_bs, h1]
  show S (_ ++ List.take 1 (List.drop ((c.length : Int) - (backK (sg c) : Int)).toNat (sg c))) = S (_ ++ List.take 1 (List.drop ((sg c).length - backK (sg c)) (sg c)))
  rw [h4]
theorem lp_no (e : x = S (trimL c.cps.toList)) (h : (Txt.slice x (some (-1)) none != Str.ofString "\\") = true) : x = S (partL c.cps.toList) := by
  have h' : ¬ (sg x).getLast? = some 92 := fun q => by rw [(slice_last x).mpr q] at h; simp at h
  rw [e, sg_S] at h'
  unfold partL
  rw [if_neg h', e]
theorem lp_h (e : x = S (trimL c.cps.toList)) (h : (Txt.slice x (some (-1)) none != Str.ofString "\\") = false) : (trimL c.cps.toList).getLast? = some 92 := by
  have h' : Txt.slice x (some (-1)) none = Str.ofString "\\" := by simpa using h
  have := (slice_last x).mp h'
  rwa [e, sg_S] at this
theorem lp_f {u : Tok} (h : (trimL c.cps.toList).getLast? = some 92) : Txt.find (Txt.sliceBy c none none (-1, u)) (Str.ofString "\\") = backK c.cps.toList := by
  rw [rev_is, lit_bs, find_is _ 92 (by rw [sg_S, List.mem_reverse]; exact last_mem h), sg_S]
  rfl
theorem lp_raise {u : Tok} (e : x = S (trimL c.cps.toList)) (h : (Txt.slice x (some (-1)) none != Str.ofString "\\") = false) (hf : Txt.find (Txt.sliceBy c none none (-1, u)) (Str.ofString "\\") = -1) : False := by
  rw [lp_f (lp_h e h)] at hf
  omega
theorem lp_yes {u : Tok} (e : x = S (trimL c.cps.toList)) (h : (Txt.slice x (some (-1)) none != Str.ofString "\\") = false) :
    x ++ Txt.slice c (some ((c.length : Int) - Txt.find (Txt.sliceBy c none none (-1, u)) (Str.ofString "\\"))) (some ((c.length : Int) - Txt.find (Txt.sliceBy c none none (-1, u)) (Str.ofString "\\") + 1)) = S (partL c.cps.toList) := by
  have h' := lp_h e h
  obtain ⟨h1, h2⟩ := rfind_is c 92 (last_mem h')
  rw [lp_f h']
  have h3 : backK c.cps.toList < c.length := h2
  unfold partL
  rw [if_pos h', e, slice_one c (by omega), S_append]
  have hl : (sg c).length = c.length := sg_len c
  have h4 : ((c.length : Int) - (backK (sg c) : Int)).toNat = (sg c).length - backK (sg c) := by
    have : backK c.cps.toList = backK (sg c) := rfl
    omega
  show S (_ ++ List.take 1 (List.drop ((c.length : Int) - (backK (sg c) : Int)).toNat (sg c))) = S (_ ++ List.take 1 (List.drop ((sg c).length - backK (sg c)) (sg c)))
  rw [h4]
end
theorem partL_len (l : List Nat) : (partL l).length ≤ l.length + 1 := by
  unfold partL
  have := trimL_len l
  split
  · rw [List.length_append, List.length_take]; omega
  · omega
theorem part_fact {x c : Str} (e : x = S (partL c.cps.toList)) : x.length ≤ c.length + 1 := by
  rw [e, S_len, ← sg_len c]
  exact partL_len _
end Mine
end PartPt
section PartCp
theorem Mine.wCp : True := by
  k_with_none
  k_with "con in" => (
  w_top off
  unfold Mine.Con
  k_fill
  intro dp un gd cn cs a ccd cl outer A₀ base h₀ L m s Q E B F X N T hk hd hu hret
  refine wpAny_call ?_
  k_dflt cell_enter)
  k_with "con in0" => (
  w_top off
  unfold Mine.Con
  k_fill
  intro dp un gd cn cs a ccd cl outer A₀ base h₀ L m s Q E B F X N T hk hd hu hret
  refine wpAny_call ?_)
  k_with "con args" => (
  (case kA => exact rfl); (case kF => exact rfl); (case kK => assumption); (case k1 => k_asm); (case k2 => k_asm); (case k3 => k_asm); (case k4 => k_asm); (case k5 => k_asm); (case k6 => k_is); (case k7 => k_is); (case k8 => ktr_room); (case k9 => first | exact BindsTo.of_eq rfl | exact binds_K (by k_in) rfl (by k_is) rfl rfl rfl); (case c5 => decide); (case kB => exact locs rfl); (case c2 => exact rfl); (case c3 => exact rfl); (case c4 => exact rfl); k_whole; intro g' L' h' FG' F' N' B' X' T'; (try dsimp only); (try k_fold))
  k_with "con end" => (
  refine Mine.end0 hret (by k_asm) (by k_asm) (by first | exact Mine.sub_all (by intro p hp; repeat (first | exact hp | refine List.mem_cons_of_mem _ ?_)) | exact Mine.sub_all (by kst_inAny)) ?_)
  k_with "con use0" => (
  (case k1 => k_asm); (case k2 => k_asm); (case k3 => k_asm); (case k4 => k_asm); (case k5 => k_asm); (case kK => first | exact rfl | assumption); (case kd => ktr_room); (case ku => ktr_units))
  k_with "call ref" => (
  k_here
  (show wpAny _ _ (call (Value.ref 52) [Value.str _ _]) _ _ _)
  (k_dflt (refine' Mine.Con.use0 (Mine.con_is_blank _ _) ?k1 ?k2 ?k3 ?k4 ?k5 ?kK ?kd ?ku ?_; (case k1 => k_asm); (case k2 => k_asm); (case k3 => k_asm); (case k4 => k_asm); (case k5 => k_asm); (case kK => first | exact rfl | assumption); (case kd => ktr_room); (case ku => ktr_units)))
  (intro r9 h9 tk9 F9 N9 hr9; subst hr9; (try dsimp only); (try k_fold)))
  k_with "step" => (first
  | (k_unfold; (try dsimp only))
  | (refine Mine.ap2 ?_; k_unfold; (try dsimp only))
  | (k_end; kc_close)
  | ((fail_if_success (with_reducible show wpAny _ _ (exec (Stmt.While _ _ _ _) _) _ _ _)); first | walk1 | (dsimp only; walk1))
  | (leave1; (try dsimp only))
  | fail "no step")
  k_with "steps" => repeat' walk_at "step"
  k_with "eval BoolOp" => (
  k_here
  (k_dflt (first
   | (refine' Mine.or_names ?k1 ?k2 ?k3 ?_; (case k1 => k_asm); (case k2 => rfl); (case k3 => rfl))
   | (refine' Mine.and_name_eq ?k1 ?k2 ?k3 ?_; (case k1 => k_asm); (case k2 => rfl); (case k3 => rfl))))
  k_whole)
  k_with "drop" => (
  (rename News _ _ _ _ => nX)
  (have nY := cb_drop (news := news) nX (by intro p hp; repeat (first | exact hp | refine List.mem_cons_of_mem _ ?_)))
  (clear nX))
  k_with "KswEnd" => (
  (rename News _ _ _ _ => nE')
  (try simp only [List.push_toArray] at nE')
  (first
    | (refine' ksw_end ⟨_,_,_,_,_,_,_⟩ ?e1 nE' ?e2 ?e3 ?e4 ?e5 ?e6 ?e7)
    | (refine' ksw_end ⟨_,_,_,_⟩ ?e1 nE' ?e2 ?e3 ?e4 ?e5 ?e6 ?e7)
    | (refine' ksw_end ⟨_,_⟩ ?e1 nE' ?e2 ?e3 ?e4 ?e5 ?e6 ?e7)
    | (refine' ksw_end ⟨_,_,_,_,_⟩ ?e1 nE' ?e2 ?e3 ?e4 ?e5 ?e6 ?e7))
  (case e1 => assumption)
  (case e2 => first | exact Mine.sub_all (by intro p hp; repeat (first | exact hp | refine List.mem_cons_of_mem _ ?_)) | kst_in)
  (case e3 => kst_facts)
  (case e4 => kst_all)
  (case e5 => ksw_same)
  (case e6 => kst_p)
  (case e7 => ksw_less))
  k_with "exec If" => refine wpAny_If ?_
  k_with "call ref" => (
  k_here
  (k_dflt (first
   | ((show wpAny _ _ (call (Value.ref 129) [Value.str _ _, Value.bool _]) _ _ _); refine' Mine.Con.useS (Mine.con_mode_of _ _ _ ?hc) ?k1 ?k2 ?k3 ?k4 ?k5 ?kK ?kd ?ku ?_)
   | ((show wpAny _ _ (call (Value.ref 136) [Value.str _ _, Value.bool _]) _ _ _); refine' Mine.Con.useS (Mine.con_escaped _ _ _) ?k1 ?k2 ?k3 ?k4 ?k5 ?kK ?kd ?ku ?_)))
  (try (case hc => first | assumption | omega))
  (case k1 => k_asm); (case k2 => k_asm); (case k3 => k_asm); (case k4 => k_asm); (case k5 => k_asm); (case kK => first | exact rfl | assumption); (case kd => ktr_room); (case ku => ktr_units)
  (intro x9 t9 h9 tk9 e9 F9 N9; (try dsimp only); (try k_fold)))
  k_with "call builtin:str.join" => (
  k_here
  (k_dflt (first
   | ((with_reducible show wpAny _ _ (call (Value.builtin "str.join") [Value.str (Str.ofString "") _, Value.ref _]) _ _ _); refine' Mine.join0_at ?k1 ?k2 ?k3 ?k4 ?k5 ?_)
   | ((with_reducible show wpAny _ _ (call (Value.builtin "str.join") [Value.str (Str.ofString " ") _, Value.ref _]) _ _ _); refine' Mine.joinB_at ?k1 ?k2 ?k3 ?k4 ?k5 ?_)))
  (case k1 => k_asm); (case k2 => k_memK); (case k3 => k_asm); (case k4 => first | assumption | exact rfl); (case k5 => walk_at "join size")
  (intro t9 k9; (try dsimp only); (try k_fold)))
  k_with "call ref" => (
  k_here
  (with_reducible show wpAny _ _ (call (Value.ref 129) [Value.str (Str.ofString "") _, Value.bool _]) _ _ _)
  (k_dflt (refine' Mine.Con.use0 (Mine.con_mode_of0 _ _) ?k1 ?k2 ?k3 ?k4 ?k5 ?kK ?kd ?ku ?_))
  (case k1 => k_asm); (case k2 => k_asm); (case k3 => k_asm); (case k4 => k_asm); (case k5 => k_asm); (case kK => first | exact rfl | assumption); (case kd => ktr_room); (case ku => ktr_units)
  (intro r9 h9 tk9 F9 N9 hr9; (obtain ⟨t9, hr9⟩ := hr9); subst hr9; (try dsimp only); (try k_fold)))
  k_with "con argsC" => (
  (case kA => exact rfl); (case kF => exact rfl); (case kK => assumption); (case k1 => k_asm); (case k2 => k_asm); (case k3 => k_asm); (case k4 => k_asm); (case k5 => k_asm); (case k6 => k_is); (case k7 => k_is); (case k8 => ktr_room); (case k9 => first | exact BindsTo.of_eq rfl | exact binds_K (by k_in) rfl (by k_is) rfl rfl rfl); (case kB => exact rfl); (case kD => decide +kernel); (case c2 => exact rfl); (case c3 => exact rfl); (case c4 => exact rfl); k_whole; intro g' L' h' tk' cells' FG' F' N' Y' B' X' T' l1; (try k_lt l1); k_cells Y'; (try simp only [List.cons_append, List.nil_append] at N'); (try dsimp only); (try k_fold))
  k_with "call ref" => (
  k_here
  (k_dflt (first
   | ((show wpAny _ _ (call (Value.ref 158) [Value.str _ _]) _ _ _); refine' Mine.Con.useS (Mine.con_trim _ _ ?hc) ?k1 ?k2 ?k3 ?k4 ?k5 ?kK ?kd ?ku ?_)
   | ((show wpAny _ _ (call (Value.ref 205) [Value.str _ _]) _ _ _); refine' Mine.Con.useS (Mine.con_law_trimmed _ _ ?hc) ?k1 ?k2 ?k3 ?k4 ?k5 ?kK ?kd ?ku ?_)
   | ((show wpAny _ _ (call (Value.ref 144) [Value.str _ _, Value.bool _]) _ _ _); refine' Mine.Con.useS (Mine.con_quote _ _ _ ?hc) ?k1 ?k2 ?k3 ?k4 ?k5 ?kK ?kd ?ku ?_)
   | ((show wpAny _ _ (call (Value.ref 144) [Value.str _ _]) _ _ _); refine' Mine.Con.useS (Mine.con_quoteD _ _ ?hc) ?k1 ?k2 ?k3 ?k4 ?k5 ?kK ?kd ?ku ?_)
   | ((show wpAny _ _ (call (Value.ref 193) [Value.str _ _, Value.bool _]) _ _ _); refine' Mine.Con.useS (Mine.con_law_mode _ _ _ ?hc) ?k1 ?k2 ?k3 ?k4 ?k5 ?kK ?kd ?ku ?_)))
  (try (case hc => first | assumption | omega))
  (case k1 => k_asm); (case k2 => k_asm); (case k3 => k_asm); (case k4 => k_asm); (case k5 => k_asm); (case kK => first | exact rfl | assumption); (case kd => ktr_room); (case ku => ktr_units)
  (intro x9 t9 h9 tk9 e9 F9 N9; (try (first | (have z9 := Mine.trim_fact e9) | (have z9 := Mine.quote_fact e9))); (try dsimp only); (try k_fold)))
  k_with "for texts" => (k_here; (rename Fr _ _ _ _ => lF'); (with_unfolding_all refine' For_invVF lF' ?k1 ?k2 ?_; (case k1 => exact rfl); (case k2 => exact rfl); k_whole))
  k_with "call ref" => (
  k_here
  (k_dflt (first
   | ((show wpAny _ _ (call (Value.ref 165) [Value.str _ _]) _ _ _); refine' Mine.Con.useS (Mine.con_concat_part _ _ ?hc) ?k1 ?k2 ?k3 ?k4 ?k5 ?kK ?kd ?ku ?_)
   | ((show wpAny _ _ (call (Value.ref 212) [Value.str _ _]) _ _ _); refine' Mine.Con.useS (Mine.con_law_part _ _ ?hc) ?k1 ?k2 ?k3 ?k4 ?k5 ?kK ?kd ?ku ?_)
   | ((show wpAny _ _ (call (Value.ref 200) [Value.str _ _, Value.bool _]) _ _ _); refine' Mine.Con.useS (Mine.con_law_written _ _ _ ?hc) ?k1 ?k2 ?k3 ?k4 ?k5 ?kK ?kd ?ku ?_)))
  (try (case hc => first | assumption | omega))
  (case k1 => k_asm); (case k2 => k_asm); (case k3 => k_asm); (case k4 => k_asm); (case k5 => k_asm); (case kK => first | exact rfl | assumption); (case kd => ktr_room); (case ku => ktr_units)
  (intro x9 t9 h9 tk9 e9 F9 N9; (try (first | (have z9 := Mine.part_fact e9) | (have z9 := Mine.quote_fact e9))); (try dsimp only); (try k_fold)))
  k_with "call ref" => (
  k_here
  (k_dflt (first
   | ((show wpAny _ _ (call (Value.ref 151) [Value.ref _]) _ _ _); refine' Mine.Con.useS (Mine.con_join_list ?hT ?hi ?hm ?hB ?hn) ?k1 ?k2 ?k3 ?k4 ?k5 ?kK ?kd ?ku ?_)
   | ((show wpAny _ _ (call (Value.ref 172) [Value.ref _]) _ _ _); refine' Mine.Con.useS (Mine.con_concat ?hT ?hi ?hm ?hB ?hn) ?k1 ?k2 ?k3 ?k4 ?k5 ?kK ?kd ?ku ?_)
   | ((show wpAny _ _ (call (Value.ref 179) [Value.ref _]) _ _ _); refine' Mine.Con.useS (Mine.con_code_text ?hT ?hi ?hm ?hB ?hn) ?k1 ?k2 ?k3 ?k4 ?k5 ?kK ?kd ?ku ?_)))
  (case hT => first | assumption | exact ⟨_, .inl rfl⟩ | exact ⟨_, .inr rfl⟩)
  (case hi => assumption)
  (case hm => first | assumption | k_memK)
  (case hB => assumption)
  (case hn => first | assumption | omega)
  (case k1 => k_asm); (case k2 => k_asm); (case k3 => k_asm); (case k4 => k_asm); (case k5 => k_asm); (case kK => first | exact rfl | assumption); (case kd => ktr_room); (case ku => ktr_units)
  (intro x9 t9 h9 tk9 e9 F9 N9; (try dsimp only); (try k_fold)))
  k_with "binaryOp Add str str" => (
  k_here
  (with_reducible show wpAny _ _ (binaryOp Operator.Add (Value.str (Str.ofString _) _) (Value.str (Str.ofString _) _)) _ _ _)
  (refine' PyProof.Rows.SBL.add ?_ ?z)
  (case z => decide +kernel)
  (intro t9 k9 z9))
  k_with "call builtin:str.replace" => (
  k_here
  (with_reducible show wpAny _ _ (call (Value.builtin "str.replace") [Value.str _ _, Value.str _ _, Value.str _ _]) _ _ _)
  (walk_at "replace by"))
  k_with "con end1" => (
  refine Mine.end1 hret (by k_asm) (by k_asm) (by first | exact Mine.sub_all (by intro p hp; repeat (first | exact hp | refine List.mem_cons_of_mem _ ?_)) | exact Mine.sub_all (by kst_inAny)) (by k_memK)
    (by first | assumption | exact PySem.W.kst_ltOf (by first | exact And.right (by assumption) | exact And.right (And.right (by assumption)) | exact And.right (And.right (And.right (by assumption))) | exact And.right (And.right (And.right (And.right (by assumption)))))) ?_)
  trivial
namespace Mine
theorem con_concat_part {w mean mg mb news} (c : Str) (t : Tok) (hc : c.length ≤ 4096) : Con w mean mg mb 165 5 news [.str c t] (fun v tl => (∃ t', v = .str (S (partL c.cps.toList)) t') ∧ tl = []) := by
  walk_at "con in0"
  k_dflt (refine' code_def (binds := [(Str.ofString "text", .str c t)]) ?k1 ?k2 ?k3 ?k4 ?k5 ?kA ?kF ?kK ?k6 ?k7 ?k8 ?k9 ?kB ?_ ?c2 ?c3 ?c4 ?c5; walk_at "con args")
  walk_at "steps"
  all_goals (first | (walk_at "con end"; with_reducible (first | exact pt_end (cp_no (by assumption) (by assumption)) | exact pt_end (cp_yes (by assumption) (by assumption)))) | (exfalso; with_reducible exact lp_raise (by assumption) (by assumption) (by assumption)))
end Mine
end PartCp
section PartIt
namespace Mine
open PySem.Spec
section
variable {prog : Program} {w : World} {A : Around} {E : Value → Shared → Prop} {s : Shared} {env : Env} {h₀ : Heap} {x : Str} {body : List Stmt} {Q : Flow → Shared → Prop}
/-- how many turns are done -/
def ticks (i : Nat) : List Int := List.replicate i 0
theorem strs_at {vs : List Value} {ss : List Str} (h : StrsAre vs ss) : ∀ (i : Nat) (v : Value), vs[i]? = some v → ∃ y t, ss[i]? = some y ∧ v = .str y t := by
  induction h with
  | nil => intro i v h; simp at h
  | cons y t _ ih =>
    intro i v h
    cases i with
    | zero => exact ⟨y, t, rfl, (by simpa using h.symm)⟩
    | succ i => exact ih i v (by simpa using h)
theorem strs_len {vs : List Value} {ss : List Str} (h : StrsAre vs ss) : vs.length = ss.length := by
  induction h with
  | nil => rfl
  | cons _ _ _ ih => rw [List.length_cons, List.length_cons, ih]
/-- a loop over an object of the ledger, from a walk over its values -/
theorem own_loop {I l : Addr} {oL : Obj} {n : Nat} {P : Nat → Value → Prop} {St : Nat → Heap → Prop} {m₀ : Str → Option Value} {news : List (Addr × Obj)} (J : Nat → (Str → Option Value) → List (Addr × Obj) → Prop)
    (W : Walks prog w A I [I, l] [I] n P St) (hl : (l, oL) ∈ news) (hI₀ : h₀.get? I = none) (hIL : env.locals ≠ I) (hnew : ∀ p ∈ news, p.1 ≠ I) (hst : St 0 s.heap)
    (F : Fr h₀ env.locals s.heap m₀) (N : News h₀ env.locals s.heap news) (hj : J 0 m₀ news)
    (turn : ∀ i v m₁ news₁ h tk own, i < n → P i v → OwnOff own (news.map (·.1)) → J i m₁ news₁ → Fr h₀ env.locals h (fun y => if y = x then some v else m₁ y) → News h₀ env.locals h (news₁ ++ own) →
      wpAny (model prog w) A (execs body env) (InvPostN h₀ env.locals (fun m' nx => (l, oL) ∈ nx ∧ J (i + 1) m' nx) own (news.map (·.1)) { s with heap := h, toks := tk } Q) E { s with heap := h, toks := tk })
    (done : ∀ m₁ news₁ h tk, J n m₁ news₁ → Fr h₀ env.locals h m₁ → News h₀ env.locals h news₁ → Q .next { s with heap := h, toks := tk }) :
    LoopAtV prog w A h₀ env x body Q E (.ref I) s := by
  refine ⟨I, _, _, n, P, St, m₀, news, (fun i m nx => nx.map (·.1) = news.map (·.1) ∧ (l, oL) ∈ nx ∧ J i m nx), rfl, W, ?_, ?_, ?_, hst, F, N, ⟨rfl, hl, hj⟩, ?_, ?_⟩
  · intro hm
    rcases List.mem_cons.mp hm with e | hm
    · exact hIL e
    · exact (N _ hl).2.1 (List.mem_singleton.mp hm).symm
  · intro b hb
    rw [List.mem_singleton.mp hb]
    exact hI₀
  · intro p hp hI
    exact hnew p hp (List.mem_singleton.mp hI)
  · rintro i v m₁ news₁ s₁ own ⟨hh, tk, rfl⟩ hin hP ⟨hadr, hl₁, hJ⟩ _ hown hget _ _ F₁ N₁
    have oldA : ∀ q : Addr × Obj, q.1 ∈ news.map (·.1) → q.1 ≠ I := fun q hq => by
      obtain ⟨r, hr, e⟩ := List.mem_map.mp hq
      rw [← e]
      exact hnew r hr
    have sep : OwnOff (own.filter fun p => decide (p.1 = I)) (news.map (·.1)) := by
      intro p hp b hb e
      have h1 : p.1 = I := by simpa using (List.mem_filter.mp hp).2
      exact oldA p (by rw [e]; exact hb) h1
    have N₂ : News h₀ env.locals hh (news₁ ++ own.filter fun p => decide (p.1 = I)) := fun p hp => N₁ p <| by
      rcases List.mem_append.mp hp with h | h
      · exact List.mem_append.mpr (.inr h)
      · exact List.mem_append.mpr (.inl (List.mem_filter.mp h).1)
    have hlo : hh.get? l = some oL := (N₁ _ (List.mem_append.mpr (.inr hl₁))).1
    have each : ∀ p ∈ own, p.1 = I ∨ p = (l, oL) := fun p hp => by
      rcases List.mem_cons.mp (hown p hp) with h | h
      · exact .inl h
      · have h1 := List.mem_singleton.mp h
        have h2 : hh.get? p.1 = some p.2 := hget p hp
        rw [h1, hlo] at h2
        exact .inr (Prod.ext h1 (Option.some.inj h2).symm)
    refine wpAny_mono (turn i v m₁ news₁ hh tk _ hin hP sep hJ F₁ N₂) (fun f s₂ p => ?_) fun _ _ e => e
    have fin : InvEndN h₀ env.locals (fun m' nx => (l, oL) ∈ nx ∧ J (i + 1) m' nx) (own.filter fun p => decide (p.1 = I)) (news.map (·.1)) { s with heap := hh, toks := tk } s₂ →
        LoopStepU h₀ env.locals [I] own (fun m nx => nx.map (·.1) = news.map (·.1) ∧ (l, oL) ∈ nx ∧ J (i + 1) m nx) { s with heap := hh, toks := tk } .next s₂ := by
      rintro ⟨h', tk', m', news', nx, e, F', N', hn, ho, ha, hm⟩
      refine ⟨rfl, h', tk', m', nx, e, F', fun p hp => ?_, fun p hp hI => ?_, ha, hm⟩
      · rcases List.mem_append.mp hp with h | h
        · rcases each p h with h1 | h1
          · exact N' p (ho p (List.mem_filter.mpr ⟨h, by simpa using h1⟩))
          · rw [h1]; exact N' _ (hn _ hm.1)
        · exact N' p (hn p h)
      · exact oldA p (by rw [← ha]; exact List.mem_map_of_mem hp) (List.mem_singleton.mp hI)
    cases f with
    | ret v => exact .ret p
    | brk => exact .brk p
    | next => exact .next (fin p)
    | cont => exact .cont (fin p)
  · rintro h' tk m' news' F' N' _ ⟨_, _, hJ⟩
    exact done m' news' h' tk hJ F' N'
abbrev tupObj (vs : List Value) (n : Nat) : Obj := { cls := .type "tuple", data := .seq vs.toArray n }
/-- a list or a tuple of texts -/
def TextsAt (l : Addr) (oL : Obj) (vs : List Value) : Prop := ∃ n, oL = PySem.W.listOf vs.toArray n ∨ oL = tupObj vs n
theorem strs_iter {σ : Type} {l : Addr} {oL : Obj} {vs : List Value} {ss : List Str} {m₀ : Str → Option Value} (Led : σ → List (Addr × Obj)) (ps : σ → List (Str × Value)) (Facts : σ → Prop) (stored : List Str) (P : Nat → σ → Prop) (c₀ : σ)
    (hh : A.handled = none) (hT : TextsAt l oL vs) (hi : StrsAre vs ss) (hl : ∀ c, (l, oL) ∈ Led c)
    (F : Fr h₀ env.locals s.heap m₀) (N : News h₀ env.locals s.heap (Led c₀)) (hf : Facts c₀) (hk : ∀ p ∈ ps c₀, m₀ p.1 = some p.2) (hp : P 0 c₀)
    (turn : ∀ (c : σ) i y t (u : Str → Option Value) h tk own, ss[i]? = some y → OwnOff own ((Led c₀).map (·.1)) → Facts c → P i c →
      Fr h₀ env.locals h (fun z => if z = x then some (.str y t) else PySem.W.kstB (fun z => if stored.contains z then u z else m₀ z) (ps c) z) → News h₀ env.locals h (Led c ++ own) →
      wpAny (model prog w) A (execs body env) (InvPostN h₀ env.locals (PySem.W.KstS Led ps Facts x stored m₀ (fun pre c => P pre.length c) (ticks (i + 1))) own ((Led c₀).map (·.1)) { s with heap := h, toks := tk } Q) E { s with heap := h, toks := tk })
    (done : ∀ (c : σ) (u : Str → Option Value) h tk, Facts c → P ss.length c → Fr h₀ env.locals h (fun y => if y = x then u y else PySem.W.kstB (fun z => if stored.contains z then u z else m₀ z) (ps c) y) → News h₀ env.locals h (Led c) → Q .next { s with heap := h, toks := tk }) :
    wpAny (model prog w) A (pyIter (.ref l)) (fun it s₂ => LoopAtV prog w A h₀ env x body Q E it s₂) E s := by
  have hlen := strs_len hi
  have hol : s.heap.get? l = some oL := (N _ (hl c₀)).1
  have hne : l ≠ s.heap.objs.size := Nat.ne_of_lt (Heap.lt_size hol)
  have main : ∀ (it : Obj) (St : Nat → Heap → Prop), Walks prog w A s.heap.objs.size [s.heap.objs.size, l] [s.heap.objs.size] vs.toArray.size (fun i v => vs.toArray[i]? = some v) St → St 0 (s.heap.push it) →
      LoopAtV prog w A h₀ env x body Q E (.ref s.heap.objs.size) { s with heap := s.heap.push it } := by
    intro it St W hst
    rw [List.size_toArray] at W
    refine own_loop (s := { s with heap := s.heap.push it }) (fun i m nx => PySem.W.KstS Led ps Facts x stored m₀ (fun pre c => P pre.length c) (ticks i) m nx) W (hl c₀) (next_is_new F) (Nat.ne_of_lt F.ns.lt)
      (fun p hp => Nat.ne_of_lt (Heap.lt_size (N p hp).1)) hst (F.push _) (fun p hp => ⟨Heap.get?_push_of_some _ (N p hp).1, (N p hp).2⟩) ⟨c₀, rfl, hf, hk, fun _ _ _ _ => rfl, by simpa [ticks] using hp⟩ ?_ ?_
    · rintro i v m₁ nx h tk own hin hP hoff ⟨c, rfl, hf', h1, h2, hp'⟩ F₁ N₁
      obtain ⟨y, t, hy, rfl⟩ := strs_at hi i v (by simpa using hP)
      refine wpAny_mono (turn c i y t m₁ h tk own hy hoff hf' (by simpa [ticks] using hp') (PySem.W.kst_fr h1 h2 F₁) N₁) (fun f s₂ p => ?_) fun _ _ e => e
      have up : InvEndN h₀ env.locals (PySem.W.KstS Led ps Facts x stored m₀ (fun pre c => P pre.length c) (ticks (i + 1))) own ((Led c₀).map (·.1)) { s with heap := h, toks := tk } s₂ →
          InvEndN h₀ env.locals (fun m' nx => (l, oL) ∈ nx ∧ PySem.W.KstS Led ps Facts x stored m₀ (fun pre c => P pre.length c) (ticks (i + 1)) m' nx) own ((Led c₀).map (·.1)) { s with heap := h, toks := tk } s₂ := by
        rintro ⟨h', tk', m', news', nx, e, F', N', hn, ho, ha, hS⟩
        refine ⟨h', tk', m', news', nx, e, F', N', hn, ho, ha, ?_, hS⟩
        obtain ⟨c', rfl, _⟩ := hS
        exact hl c'
      cases f with
      | ret v => exact p
      | brk => exact p
      | next => exact up p
      | cont => exact up p
    · rintro m₁ nx h tk ⟨c, rfl, hf', h1, h2, hp'⟩ F₁ N₁
      exact done c m₁ h tk hf' (by rw [← hlen]; simpa [ticks] using hp') (PySem.W.kst_frOut h1 h2 F₁) N₁
  obtain ⟨n, rfl | rfl⟩ := hT
  · have hls : s.heap.IsList l vs.toArray := ⟨_, hol, rfl, n, rfl⟩
    refine wpAny_pyIter_list hls (main _ _ (Walks.list hh s.heap.objs.size l hne vs.toArray) ⟨⟨_, Heap.get?_push_size _ rfl, rfl, rfl⟩, hls.at fun o e => Heap.get?_push_of_some _ e⟩)
  · have hls : s.heap.IsTuple l vs.toArray := ⟨_, hol, rfl, n, rfl⟩
    refine wpAny_pyIter_tuple hls (main _ _ (Walks.tuple hh s.heap.objs.size l hne vs.toArray) ⟨⟨_, Heap.get?_push_size _ rfl, rfl, rfl⟩, hls.at fun o e => Heap.get?_push_of_some _ e⟩)
end
end Mine
end PartIt
section PartIo
namespace Mine
open PySem.Spec
section
variable {prog : Program} {w : World} {A : Around} {E : Value → Shared → Prop} {s : Shared} {env : Env} {h₀ : Heap} {x : Str} {body : List Stmt} {Q : Flow → Shared → Prop}
/-- a loop over texts that fills one list of texts -/
theorem strs_out {l D : Addr} {oL : Obj} {vs : List Value} {ss : List Str} {rest : List (Addr × Obj)} {k B : Nat} {m₀ : Str → Option Value} (stored : List Str) (P : Nat → List Str → Prop)
    (hh : A.handled = none) (hT : TextsAt l oL vs) (hi : StrsAre vs ss) (hl : (l, oL) ∈ rest) (hB : ∀ y ∈ ss, y.length ≤ B)
    (F : Fr h₀ env.locals s.heap m₀) (N : News h₀ env.locals s.heap ((D, PySem.W.listOf #[] k) :: rest)) (hp : P 0 [])
    (turn : ∀ (us : List Value) (ws : List Str) (n : Nat) i y t (u : Str → Option Value) h tk own, PySem.W.KstMark → ss[i]? = some y → y.length ≤ B → i < ss.length → OwnOff own (D :: rest.map (·.1)) → StrsAre us ws → us.length = ws.length → P i ws →
      Fr h₀ env.locals h (fun z => if z = x then some (.str y t) else if stored.contains z then u z else m₀ z) → News h₀ env.locals h ((D, PySem.W.listOf us.toArray n) :: (rest ++ own)) →
      wpAny (model prog w) A (execs body env) (InvPostN h₀ env.locals (PySem.W.KstS (σ := List Value × List Str × Nat) (fun c => (D, PySem.W.listOf c.1.toArray c.2.2) :: rest) (fun _ => []) (fun c => StrsAre c.1 c.2.1) x stored m₀ (fun pre c => P pre.length c.2.1) (ticks (i + 1))) own (D :: rest.map (·.1)) { s with heap := h, toks := tk } Q) E { s with heap := h, toks := tk })
    (done : ∀ (us : List Value) (ws : List Str) (n : Nat) (u : Str → Option Value) h tk, PySem.W.KstMark → StrsAre us ws → us.length = ws.length → P ss.length ws → Fr h₀ env.locals h (fun y => if y = x then u y else if stored.contains y then u y else m₀ y) → News h₀ env.locals h ((D, PySem.W.listOf us.toArray n) :: rest) → Q .next { s with heap := h, toks := tk }) :
    wpAny (model prog w) A (pyIter (.ref l)) (fun it s₂ => LoopAtV prog w A h₀ env x body Q E it s₂) E s := by
  refine strs_iter (σ := List Value × List Str × Nat) (fun c => (D, PySem.W.listOf c.1.toArray c.2.2) :: rest) (fun _ => []) (fun c => StrsAre c.1 c.2.1) stored (fun i c => P i c.2.1) ([], [], k) hh hT hi (fun c => List.mem_cons_of_mem _ hl) F N .nil (fun _ h => nomatch h) hp ?_ ?_
  · rintro ⟨us, ws, n⟩ i y t u h tk own hy hoff hf hp' F' N'
    exact turn us ws n i y t u h tk own PySem.W.kstMark hy (hB y (List.mem_of_getElem? hy)) (List.getElem?_eq_some_iff.mp hy).1 hoff hf (strs_len hf) hp' F' N'
  · rintro ⟨us, ws, n⟩ u h tk hf hp' F' N'
    exact done us ws n u h tk PySem.W.kstMark hf (strs_len hf) hp' F' N'
end
end Mine
namespace Mine
section
variable {prog : Program} {w : World} {A : Around} {E : Value → Shared → Prop} {s : Shared} {env : Env} {h₀ : Heap} {x : Str} {body : List Stmt} {Q : Flow → Shared → Prop}
/-- a loop over texts that changes nothing -/
theorem strs_each {l : Addr} {oL : Obj} {vs : List Value} {ss : List Str} {news : List (Addr × Obj)} {B : Nat} {m₀ : Str → Option Value} (stored : List Str)
    (hh : A.handled = none) (hT : TextsAt l oL vs) (hi : StrsAre vs ss) (hl : (l, oL) ∈ news) (hB : ∀ y ∈ ss, y.length ≤ B)
    (F : Fr h₀ env.locals s.heap m₀) (N : News h₀ env.locals s.heap news)
    (turn : ∀ i y t (u : Str → Option Value) h tk own, PySem.W.KstMark → ss[i]? = some y → y.length ≤ B → OwnOff own (news.map (·.1)) →
      Fr h₀ env.locals h (fun z => if z = x then some (.str y t) else if stored.contains z then u z else m₀ z) → News h₀ env.locals h (news ++ own) →
      wpAny (model prog w) A (execs body env) (InvPostN h₀ env.locals (PySem.W.KstS (σ := Unit) (fun _ => news) (fun _ => []) (fun _ => True) x stored m₀ (fun _ _ => True) (ticks (i + 1))) own (news.map (·.1)) { s with heap := h, toks := tk } Q) E { s with heap := h, toks := tk })
    (done : ∀ (u : Str → Option Value) h tk, PySem.W.KstMark → Fr h₀ env.locals h (fun y => if y = x then u y else if stored.contains y then u y else m₀ y) → News h₀ env.locals h news → Q .next { s with heap := h, toks := tk }) :
    wpAny (model prog w) A (pyIter (.ref l)) (fun it s₂ => LoopAtV prog w A h₀ env x body Q E it s₂) E s := by
  refine strs_iter (σ := Unit) (fun _ => news) (fun _ => []) (fun _ => True) stored (fun _ _ => True) () hh hT hi (fun _ => hl) F N trivial (fun _ h => nomatch h) trivial ?_ ?_
  · exact fun _ i y t u h tk own hy hoff _ _ F' N' => turn i y t u h tk own PySem.W.kstMark hy (hB y (List.mem_of_getElem? hy)) hoff F' N'
  · exact fun _ u h tk _ _ F' N' => done u h tk PySem.W.kstMark F' N'
end
end Mine
end PartIo
section PartJl
theorem Mine.wJl : True := by
  k_with_none
  k_with "con in" => (
  w_top off
  unfold Mine.Con
  k_fill
  intro dp un gd cn cs a ccd cl outer A₀ base h₀ L m s Q E B F X N T hk hd hu hret
  refine wpAny_call ?_
  k_dflt cell_enter)
  k_with "con in0" => (
  w_top off
  unfold Mine.Con
  k_fill
  intro dp un gd cn cs a ccd cl outer A₀ base h₀ L m s Q E B F X N T hk hd hu hret
  refine wpAny_call ?_)
  k_with "con args" => (
  (case kA => exact rfl); (case kF => exact rfl); (case kK => assumption); (case k1 => k_asm); (case k2 => k_asm); (case k3 => k_asm); (case k4 => k_asm); (case k5 => k_asm); (case k6 => k_is); (case k7 => k_is); (case k8 => ktr_room); (case k9 => first | exact BindsTo.of_eq rfl | exact binds_K (by k_in) rfl (by k_is) rfl rfl rfl); (case c5 => decide); (case kB => exact locs rfl); (case c2 => exact rfl); (case c3 => exact rfl); (case c4 => exact rfl); k_whole; intro g' L' h' FG' F' N' B' X' T'; (try dsimp only); (try k_fold))
  k_with "con end" => (
  refine Mine.end0 hret (by k_asm) (by k_asm) (by first | exact Mine.sub_all (by intro p hp; repeat (first | exact hp | refine List.mem_cons_of_mem _ ?_)) | exact Mine.sub_all (by kst_inAny)) ?_)
  k_with "con use0" => (
  (case k1 => k_asm); (case k2 => k_asm); (case k3 => k_asm); (case k4 => k_asm); (case k5 => k_asm); (case kK => first | exact rfl | assumption); (case kd => ktr_room); (case ku => ktr_units))
  k_with "call ref" => (
  k_here
  (show wpAny _ _ (call (Value.ref 52) [Value.str _ _]) _ _ _)
  (k_dflt (refine' Mine.Con.use0 (Mine.con_is_blank _ _) ?k1 ?k2 ?k3 ?k4 ?k5 ?kK ?kd ?ku ?_; (case k1 => k_asm); (case k2 => k_asm); (case k3 => k_asm); (case k4 => k_asm); (case k5 => k_asm); (case kK => first | exact rfl | assumption); (case kd => ktr_room); (case ku => ktr_units)))
  (intro r9 h9 tk9 F9 N9 hr9; subst hr9; (try dsimp only); (try k_fold)))
  k_with "step" => (first
  | (k_unfold; (try dsimp only))
  | (refine Mine.ap2 ?_; k_unfold; (try dsimp only))
  | (k_end; kc_close)
  | ((fail_if_success (with_reducible show wpAny _ _ (exec (Stmt.While _ _ _ _) _) _ _ _)); first | walk1 | (dsimp only; walk1))
  | (leave1; (try dsimp only))
  | fail "no step")
  k_with "steps" => repeat' walk_at "step"
  k_with "eval BoolOp" => (
  k_here
  (k_dflt (first
   | (refine' Mine.or_names ?k1 ?k2 ?k3 ?_; (case k1 => k_asm); (case k2 => rfl); (case k3 => rfl))
   | (refine' Mine.and_name_eq ?k1 ?k2 ?k3 ?_; (case k1 => k_asm); (case k2 => rfl); (case k3 => rfl))))
  k_whole)
  k_with "drop" => (
  (rename News _ _ _ _ => nX)
  (have nY := cb_drop (news := news) nX (by intro p hp; repeat (first | exact hp | refine List.mem_cons_of_mem _ ?_)))
  (clear nX))
  k_with "KswEnd" => (
  (rename News _ _ _ _ => nE')
  (try simp only [List.push_toArray] at nE')
  (first
    | (refine' ksw_end ⟨_,_,_,_,_,_,_⟩ ?e1 nE' ?e2 ?e3 ?e4 ?e5 ?e6 ?e7)
    | (refine' ksw_end ⟨_,_,_,_⟩ ?e1 nE' ?e2 ?e3 ?e4 ?e5 ?e6 ?e7)
    | (refine' ksw_end ⟨_,_⟩ ?e1 nE' ?e2 ?e3 ?e4 ?e5 ?e6 ?e7)
    | (refine' ksw_end ⟨_,_,_,_,_⟩ ?e1 nE' ?e2 ?e3 ?e4 ?e5 ?e6 ?e7))
  (case e1 => assumption)
  (case e2 => first | exact Mine.sub_all (by intro p hp; repeat (first | exact hp | refine List.mem_cons_of_mem _ ?_)) | kst_in)
  (case e3 => kst_facts)
  (case e4 => kst_all)
  (case e5 => ksw_same)
  (case e6 => kst_p)
  (case e7 => ksw_less))
  k_with "exec If" => refine wpAny_If ?_
  k_with "call ref" => (
  k_here
  (k_dflt (first
   | ((show wpAny _ _ (call (Value.ref 129) [Value.str _ _, Value.bool _]) _ _ _); refine' Mine.Con.useS (Mine.con_mode_of _ _ _ ?hc) ?k1 ?k2 ?k3 ?k4 ?k5 ?kK ?kd ?ku ?_)
   | ((show wpAny _ _ (call (Value.ref 136) [Value.str _ _, Value.bool _]) _ _ _); refine' Mine.Con.useS (Mine.con_escaped _ _ _) ?k1 ?k2 ?k3 ?k4 ?k5 ?kK ?kd ?ku ?_)))
  (try (case hc => first | assumption | omega))
  (case k1 => k_asm); (case k2 => k_asm); (case k3 => k_asm); (case k4 => k_asm); (case k5 => k_asm); (case kK => first | exact rfl | assumption); (case kd => ktr_room); (case ku => ktr_units)
  (intro x9 t9 h9 tk9 e9 F9 N9; (try dsimp only); (try k_fold)))
  k_with "call builtin:str.join" => (
  k_here
  (k_dflt (first
   | ((with_reducible show wpAny _ _ (call (Value.builtin "str.join") [Value.str (Str.ofString "") _, Value.ref _]) _ _ _); refine' Mine.join0_at ?k1 ?k2 ?k3 ?k4 ?k5 ?_)
   | ((with_reducible show wpAny _ _ (call (Value.builtin "str.join") [Value.str (Str.ofString " ") _, Value.ref _]) _ _ _); refine' Mine.joinB_at ?k1 ?k2 ?k3 ?k4 ?k5 ?_)))
  (case k1 => k_asm); (case k2 => k_memK); (case k3 => k_asm); (case k4 => first | assumption | exact rfl); (case k5 => walk_at "join size")
  (intro t9 k9; (try dsimp only); (try k_fold)))
  k_with "call ref" => (
  k_here
  (with_reducible show wpAny _ _ (call (Value.ref 129) [Value.str (Str.ofString "") _, Value.bool _]) _ _ _)
  (k_dflt (refine' Mine.Con.use0 (Mine.con_mode_of0 _ _) ?k1 ?k2 ?k3 ?k4 ?k5 ?kK ?kd ?ku ?_))
  (case k1 => k_asm); (case k2 => k_asm); (case k3 => k_asm); (case k4 => k_asm); (case k5 => k_asm); (case kK => first | exact rfl | assumption); (case kd => ktr_room); (case ku => ktr_units)
  (intro r9 h9 tk9 F9 N9 hr9; (obtain ⟨t9, hr9⟩ := hr9); subst hr9; (try dsimp only); (try k_fold)))
  k_with "con argsC" => (
  (case kA => exact rfl); (case kF => exact rfl); (case kK => assumption); (case k1 => k_asm); (case k2 => k_asm); (case k3 => k_asm); (case k4 => k_asm); (case k5 => k_asm); (case k6 => k_is); (case k7 => k_is); (case k8 => ktr_room); (case k9 => first | exact BindsTo.of_eq rfl | exact binds_K (by k_in) rfl (by k_is) rfl rfl rfl); (case kB => exact rfl); (case kD => decide +kernel); (case c2 => exact rfl); (case c3 => exact rfl); (case c4 => exact rfl); k_whole; intro g' L' h' tk' cells' FG' F' N' Y' B' X' T' l1; (try k_lt l1); k_cells Y'; (try simp only [List.cons_append, List.nil_append] at N'); (try dsimp only); (try k_fold))
  k_with "call ref" => (
  k_here
  (k_dflt (first
   | ((show wpAny _ _ (call (Value.ref 158) [Value.str _ _]) _ _ _); refine' Mine.Con.useS (Mine.con_trim _ _ ?hc) ?k1 ?k2 ?k3 ?k4 ?k5 ?kK ?kd ?ku ?_)
   | ((show wpAny _ _ (call (Value.ref 205) [Value.str _ _]) _ _ _); refine' Mine.Con.useS (Mine.con_law_trimmed _ _ ?hc) ?k1 ?k2 ?k3 ?k4 ?k5 ?kK ?kd ?ku ?_)
   | ((show wpAny _ _ (call (Value.ref 144) [Value.str _ _, Value.bool _]) _ _ _); refine' Mine.Con.useS (Mine.con_quote _ _ _ ?hc) ?k1 ?k2 ?k3 ?k4 ?k5 ?kK ?kd ?ku ?_)
   | ((show wpAny _ _ (call (Value.ref 144) [Value.str _ _]) _ _ _); refine' Mine.Con.useS (Mine.con_quoteD _ _ ?hc) ?k1 ?k2 ?k3 ?k4 ?k5 ?kK ?kd ?ku ?_)
   | ((show wpAny _ _ (call (Value.ref 193) [Value.str _ _, Value.bool _]) _ _ _); refine' Mine.Con.useS (Mine.con_law_mode _ _ _ ?hc) ?k1 ?k2 ?k3 ?k4 ?k5 ?kK ?kd ?ku ?_)))
  (try (case hc => first | assumption | omega))
  (case k1 => k_asm); (case k2 => k_asm); (case k3 => k_asm); (case k4 => k_asm); (case k5 => k_asm); (case kK => first | exact rfl | assumption); (case kd => ktr_room); (case ku => ktr_units)
  (intro x9 t9 h9 tk9 e9 F9 N9; (try (first | (have z9 := Mine.trim_fact e9) | (have z9 := Mine.quote_fact e9))); (try dsimp only); (try k_fold)))
  k_with "for texts" => (k_here; (rename Fr _ _ _ _ => lF'); (with_unfolding_all refine' For_invVF lF' ?k1 ?k2 ?_; (case k1 => exact rfl); (case k2 => exact rfl); k_whole))
  k_with "call ref" => (
  k_here
  (k_dflt (first
   | ((show wpAny _ _ (call (Value.ref 165) [Value.str _ _]) _ _ _); refine' Mine.Con.useS (Mine.con_concat_part _ _ ?hc) ?k1 ?k2 ?k3 ?k4 ?k5 ?kK ?kd ?ku ?_)
   | ((show wpAny _ _ (call (Value.ref 212) [Value.str _ _]) _ _ _); refine' Mine.Con.useS (Mine.con_law_part _ _ ?hc) ?k1 ?k2 ?k3 ?k4 ?k5 ?kK ?kd ?ku ?_)
   | ((show wpAny _ _ (call (Value.ref 200) [Value.str _ _, Value.bool _]) _ _ _); refine' Mine.Con.useS (Mine.con_law_written _ _ _ ?hc) ?k1 ?k2 ?k3 ?k4 ?k5 ?kK ?kd ?ku ?_)))
  (try (case hc => first | assumption | omega))
  (case k1 => k_asm); (case k2 => k_asm); (case k3 => k_asm); (case k4 => k_asm); (case k5 => k_asm); (case kK => first | exact rfl | assumption); (case kd => ktr_room); (case ku => ktr_units)
  (intro x9 t9 h9 tk9 e9 F9 N9; (try (first | (have z9 := Mine.part_fact e9) | (have z9 := Mine.quote_fact e9))); (try dsimp only); (try k_fold)))
  k_with "call ref" => (
  k_here
  (k_dflt (first
   | ((show wpAny _ _ (call (Value.ref 151) [Value.ref _]) _ _ _); refine' Mine.Con.useS (Mine.con_join_list ?hT ?hi ?hm ?hB ?hn) ?k1 ?k2 ?k3 ?k4 ?k5 ?kK ?kd ?ku ?_)
   | ((show wpAny _ _ (call (Value.ref 172) [Value.ref _]) _ _ _); refine' Mine.Con.useS (Mine.con_concat ?hT ?hi ?hm ?hB ?hn) ?k1 ?k2 ?k3 ?k4 ?k5 ?kK ?kd ?ku ?_)
   | ((show wpAny _ _ (call (Value.ref 179) [Value.ref _]) _ _ _); refine' Mine.Con.useS (Mine.con_code_text ?hT ?hi ?hm ?hB ?hn) ?k1 ?k2 ?k3 ?k4 ?k5 ?kK ?kd ?ku ?_)))
  (case hT => first | assumption | exact ⟨_, .inl rfl⟩ | exact ⟨_, .inr rfl⟩)
  (case hi => assumption)
  (case hm => first | assumption | k_memK)
  (case hB => assumption)
  (case hn => first | assumption | omega)
  (case k1 => k_asm); (case k2 => k_asm); (case k3 => k_asm); (case k4 => k_asm); (case k5 => k_asm); (case kK => first | exact rfl | assumption); (case kd => ktr_room); (case ku => ktr_units)
  (intro x9 t9 h9 tk9 e9 F9 N9; (try dsimp only); (try k_fold)))
  k_with "binaryOp Add str str" => (
  k_here
  (with_reducible show wpAny _ _ (binaryOp Operator.Add (Value.str (Str.ofString _) _) (Value.str (Str.ofString _) _)) _ _ _)
  (refine' PyProof.Rows.SBL.add ?_ ?z)
  (case z => decide +kernel)
  (intro t9 k9 z9))
  k_with "call builtin:str.replace" => (
  k_here
  (with_reducible show wpAny _ _ (call (Value.builtin "str.replace") [Value.str _ _, Value.str _ _, Value.str _ _]) _ _ _)
  (walk_at "replace by"))
  k_with "con end1" => (
  refine Mine.end1 hret (by k_asm) (by k_asm) (by first | exact Mine.sub_all (by intro p hp; repeat (first | exact hp | refine List.mem_cons_of_mem _ ?_)) | exact Mine.sub_all (by kst_inAny)) (by k_memK)
    (by first | assumption | exact PySem.W.kst_ltOf (by first | exact And.right (by assumption) | exact And.right (And.right (by assumption)) | exact And.right (And.right (And.right (by assumption))) | exact And.right (And.right (And.right (And.right (by assumption)))))) ?_)
  trivial
namespace Mine
def quoteAll (b : Bool) : List (List Nat) → List (List Nat)
  | [] => []
  | x :: r => quoteL x b :: quoteAll false r
theorem qa_snoc : ∀ (b : Bool) (l : List (List Nat)) (x : List Nat), quoteAll b (l ++ [x]) = quoteAll b l ++ [quoteL x (if l.length = 0 then b else false)]
  | b, [], x => rfl
  | b, y :: r, x => by
    show quoteL y b :: quoteAll false (r ++ [x]) = _
    rw [qa_snoc false r x]
    simp [quoteAll]
def jlP (ss : List Str) (i : Nat) (ws : List Str) : Prop := ws.map sg = quoteAll true ((ss.take i).map sg)
theorem qa_len : ∀ (b : Bool) (l : List (List Nat)), (quoteAll b l).length = l.length
  | _, [] => rfl
  | _, x :: r => by simp [quoteAll, qa_len false r]
theorem jl_len {ss ws : List Str} {i : Nat} (h : jlP ss i ws) (hi : i < ss.length) : ws.length = i := by
  have := congrArg List.length h
  rw [List.length_map, qa_len, List.length_map, List.length_take] at this
  omega
theorem jl_turn {ss ws : List Str} {i : Nat} {y x : Str} {b : Bool} (h : jlP ss i ws) (hi : i < ss.length) (hy : ss[i]? = some y) (e : x = S (quoteL y.cps.toList b)) (hb : b = true ↔ ws.length = 0) : jlP ss (ticks (i + 1)).length (ws ++ [x]) := by
  have hl := jl_len h hi
  unfold jlP at h ⊢
  rw [show (ticks (i + 1)).length = i + 1 by simp [ticks], List.take_add_one, hy]
  show List.map sg (ws ++ [x]) = quoteAll true (List.map sg (List.take i ss ++ [y]))
  rw [List.map_append, List.map_append, List.map_cons, List.map_nil, List.map_cons, List.map_nil, qa_snoc, h, e, sg_S]
  have hb' : b = (if (List.map sg (List.take i ss)).length = 0 then true else false) := by
    rw [List.length_map, List.length_take]
    cases b with
    | true => rw [if_pos]; have := hb.mp rfl; omega
    | false => rw [if_neg]; intro h0; have : ws.length = 0 := by omega
               have := hb.mpr this; cases this
  rw [hb']
  rfl
theorem quoteL_len (l : List Nat) (b : Bool) : (quoteL l b).length ≤ 2 * l.length + 2 := by
  have := quote_fact (x := S (quoteL l b)) (c := S l) (b := b) (by simp [S])
  rw [S_len, S_len] at this
  exact this
theorem joinB_qa (B : Nat) : ∀ (b : Bool) (l : List (List Nat)), (∀ x ∈ l, x.length ≤ B) → (joinB (quoteAll b l)).length ≤ l.length * (2 * B + 3)
  | _, [], _ => by simp [quoteAll, joinB]
  | b, [x], h => by
    have h1 := h x (List.mem_singleton.mpr rfl)
    have h2 := quoteL_len x b
    simp only [quoteAll, joinB, List.length_cons, List.length_nil, Nat.zero_add, Nat.one_mul]
    omega
  | b, x :: y :: r, h => by
    have h1 := h x (List.mem_cons_self ..)
    have h2 := quoteL_len x b
    have ih := joinB_qa B false (y :: r) (fun z hz => h z (List.mem_cons_of_mem _ hz))
    have e : (joinB (quoteAll b (x :: y :: r))) = quoteL x b ++ 32 :: joinB (quoteAll false (y :: r)) := rfl
    rw [e, List.length_append, List.length_cons]
    rw [List.length_cons, Nat.succ_mul]
    omega
def joinQ (ss : List Str) : List Nat := joinB (quoteAll true (ss.map sg))
theorem joinQ_len {ss : List Str} {B : Nat} (h : ∀ y ∈ ss, y.length ≤ B) : (joinQ ss).length ≤ ss.length * (2 * B + 3) := by
  have := joinB_qa B true (ss.map sg) (by
    intro x hx
    obtain ⟨y, hy, rfl⟩ := List.mem_map.mp hx
    rw [sg_len]; exact h y hy)
  rwa [List.length_map] at this
theorem jl_end {ss ws : List Str} (h : jlP ss ss.length ws) : joinB (ws.map sg) = joinQ ss := by
  unfold jlP at h
  rw [List.take_length] at h
  rw [h]; rfl
theorem jl_size {ss ws : List Str} (h : jlP ss ss.length ws) (hB : ∀ y ∈ ss, y.length ≤ 4096) (hn : ss.length ≤ 16) : (joinB (ws.map sg)).length ≤ 1000000 := by
  rw [jl_end h]
  refine Nat.le_trans (joinQ_len hB) ?_
  refine Nat.le_trans (Nat.mul_le_mul_right _ hn) ?_
  decide
theorem Mine.wJl0 : True := by
  k_with "exec For Name Name cons nil" => walk_at "for texts"
  k_with "join size" => exact jl_size (by assumption) (by assumption) (by assumption)
  k_with "kst_facts" => (with_reducible first | exact PyProof.Rows.StrsAre.nil | exact PyProof.Rows.StrsAre.cons _ _ .nil | exact PyProof.Rows.StrsAre.append' (by assumption) (.cons _ _ .nil))
  k_with "pyIter ref" => (
  k_here
  (rename Fr _ _ _ _ => lF')
  (rename News _ _ _ _ => lN')
  (refine' Mine.strs_out [] (Mine.jlP ss) ?k1 ?k2 ?k3 ?k4 ?k5 lF' lN' ?k6 ?k7 ?k8)
  (case k1 => exact rfl)
  (case k2 => assumption)
  (case k3 => assumption)
  (case k4 => assumption)
  (case k5 => assumption)
  (case k6 => exact rfl)
  (all_goals clear lF' lN')
  (case' k7 => intro us ws n i y t u h tk own hmk hy hyB hin hoff hus hlen hP FF NN; have hw := Mine.jl_len hP hin)
  (case' k8 => intro us ws n u h tk hmk hus hlen hP FF NN)
  (all_goals (try dsimp only))
  (all_goals (try k_fold)))
  trivial
theorem con_join_list {w mean mg mb news} {l : Addr} {oL : Obj} {vs : List Value} {ss : List Str} (hT : TextsAt l oL vs) (hi : StrsAre vs ss) (hm : (l, oL) ∈ news) (hB : ∀ y ∈ ss, y.length ≤ 4096) (hn : ss.length ≤ 16) :
    Con w mean mg mb 151 8 news [.ref l] (fun v tl => (∃ t', v = .str (S (joinQ ss)) t') ∧ tl = []) := by
  walk_at "con in0"
  k_dflt (refine' code_def (binds := [(Str.ofString "items", .ref l)]) ?k1 ?k2 ?k3 ?k4 ?k5 ?kA ?kF ?kK ?k6 ?k7 ?k8 ?k9 ?kB ?_ ?c2 ?c3 ?c4 ?c5; walk_at "con args")
  k_with "state" => (exact jl_turn (by assumption) (by assumption) (by assumption) (by assumption) (by simp))
  walk_at "steps"
  all_goals walk_at "con end"
  all_goals exact pt_end (congrArg S (jl_end (by assumption)))
end Mine
end PartJl
section PartCc
theorem Mine.wCc : True := by
  k_with_none
  k_with "con in" => (
  w_top off
  unfold Mine.Con
  k_fill
  intro dp un gd cn cs a ccd cl outer A₀ base h₀ L m s Q E B F X N T hk hd hu hret
  refine wpAny_call ?_
  k_dflt cell_enter)
  k_with "con in0" => (
  w_top off
  unfold Mine.Con
  k_fill
  intro dp un gd cn cs a ccd cl outer A₀ base h₀ L m s Q E B F X N T hk hd hu hret
  refine wpAny_call ?_)
  k_with "con args" => (
  (case kA => exact rfl); (case kF => exact rfl); (case kK => assumption); (case k1 => k_asm); (case k2 => k_asm); (case k3 => k_asm); (case k4 => k_asm); (case k5 => k_asm); (case k6 => k_is); (case k7 => k_is); (case k8 => ktr_room); (case k9 => first | exact BindsTo.of_eq rfl | exact binds_K (by k_in) rfl (by k_is) rfl rfl rfl); (case c5 => decide); (case kB => exact locs rfl); (case c2 => exact rfl); (case c3 => exact rfl); (case c4 => exact rfl); k_whole; intro g' L' h' FG' F' N' B' X' T'; (try dsimp only); (try k_fold))
  k_with "con end" => (
  refine Mine.end0 hret (by k_asm) (by k_asm) (by first | exact Mine.sub_all (by intro p hp; repeat (first | exact hp | refine List.mem_cons_of_mem _ ?_)) | exact Mine.sub_all (by kst_inAny)) ?_)
  k_with "con use0" => (
  (case k1 => k_asm); (case k2 => k_asm); (case k3 => k_asm); (case k4 => k_asm); (case k5 => k_asm); (case kK => first | exact rfl | assumption); (case kd => ktr_room); (case ku => ktr_units))
  k_with "call ref" => (
  k_here
  (show wpAny _ _ (call (Value.ref 52) [Value.str _ _]) _ _ _)
  (k_dflt (refine' Mine.Con.use0 (Mine.con_is_blank _ _) ?k1 ?k2 ?k3 ?k4 ?k5 ?kK ?kd ?ku ?_; (case k1 => k_asm); (case k2 => k_asm); (case k3 => k_asm); (case k4 => k_asm); (case k5 => k_asm); (case kK => first | exact rfl | assumption); (case kd => ktr_room); (case ku => ktr_units)))
  (intro r9 h9 tk9 F9 N9 hr9; subst hr9; (try dsimp only); (try k_fold)))
  k_with "step" => (first
  | (k_unfold; (try dsimp only))
  | (refine Mine.ap2 ?_; k_unfold; (try dsimp only))
  | (k_end; kc_close)
  | ((fail_if_success (with_reducible show wpAny _ _ (exec (Stmt.While _ _ _ _) _) _ _ _)); first | walk1 | (dsimp only; walk1))
  | (leave1; (try dsimp only))
  | fail "no step")
  k_with "steps" => repeat' walk_at "step"
  k_with "eval BoolOp" => (
  k_here
  (k_dflt (first
   | (refine' Mine.or_names ?k1 ?k2 ?k3 ?_; (case k1 => k_asm); (case k2 => rfl); (case k3 => rfl))
   | (refine' Mine.and_name_eq ?k1 ?k2 ?k3 ?_; (case k1 => k_asm); (case k2 => rfl); (case k3 => rfl))))
  k_whole)
  k_with "drop" => (
  (rename News _ _ _ _ => nX)
  (have nY := cb_drop (news := news) nX (by intro p hp; repeat (first | exact hp | refine List.mem_cons_of_mem _ ?_)))
  (clear nX))
  k_with "KswEnd" => (
  (rename News _ _ _ _ => nE')
  (try simp only [List.push_toArray] at nE')
  (first
    | (refine' ksw_end ⟨_,_,_,_,_,_,_⟩ ?e1 nE' ?e2 ?e3 ?e4 ?e5 ?e6 ?e7)
    | (refine' ksw_end ⟨_,_,_,_⟩ ?e1 nE' ?e2 ?e3 ?e4 ?e5 ?e6 ?e7)
    | (refine' ksw_end ⟨_,_⟩ ?e1 nE' ?e2 ?e3 ?e4 ?e5 ?e6 ?e7)
    | (refine' ksw_end ⟨_,_,_,_,_⟩ ?e1 nE' ?e2 ?e3 ?e4 ?e5 ?e6 ?e7))
  (case e1 => assumption)
  (case e2 => first | exact Mine.sub_all (by intro p hp; repeat (first | exact hp | refine List.mem_cons_of_mem _ ?_)) | kst_in)
  (case e3 => kst_facts)
  (case e4 => kst_all)
  (case e5 => ksw_same)
  (case e6 => kst_p)
  (case e7 => ksw_less))
  k_with "exec If" => refine wpAny_If ?_
  k_with "call ref" => (
  k_here
  (k_dflt (first
   | ((show wpAny _ _ (call (Value.ref 129) [Value.str _ _, Value.bool _]) _ _ _); refine' Mine.Con.useS (Mine.con_mode_of _ _ _ ?hc) ?k1 ?k2 ?k3 ?k4 ?k5 ?kK ?kd ?ku ?_)
   | ((show wpAny _ _ (call (Value.ref 136) [Value.str _ _, Value.bool _]) _ _ _); refine' Mine.Con.useS (Mine.con_escaped _ _ _) ?k1 ?k2 ?k3 ?k4 ?k5 ?kK ?kd ?ku ?_)))
  (try (case hc => first | assumption | omega))
  (case k1 => k_asm); (case k2 => k_asm); (case k3 => k_asm); (case k4 => k_asm); (case k5 => k_asm); (case kK => first | exact rfl | assumption); (case kd => ktr_room); (case ku => ktr_units)
  (intro x9 t9 h9 tk9 e9 F9 N9; (try dsimp only); (try k_fold)))
  k_with "call builtin:str.join" => (
  k_here
  (k_dflt (first
   | ((with_reducible show wpAny _ _ (call (Value.builtin "str.join") [Value.str (Str.ofString "") _, Value.ref _]) _ _ _); refine' Mine.join0_at ?k1 ?k2 ?k3 ?k4 ?k5 ?_)
   | ((with_reducible show wpAny _ _ (call (Value.builtin "str.join") [Value.str (Str.ofString " ") _, Value.ref _]) _ _ _); refine' Mine.joinB_at ?k1 ?k2 ?k3 ?k4 ?k5 ?_)))
  (case k1 => k_asm); (case k2 => k_memK); (case k3 => k_asm); (case k4 => first | assumption | exact rfl); (case k5 => walk_at "join size")
  (intro t9 k9; (try dsimp only); (try k_fold)))
  k_with "call ref" => (
  k_here
  (with_reducible show wpAny _ _ (call (Value.ref 129) [Value.str (Str.ofString "") _, Value.bool _]) _ _ _)
  (k_dflt (refine' Mine.Con.use0 (Mine.con_mode_of0 _ _) ?k1 ?k2 ?k3 ?k4 ?k5 ?kK ?kd ?ku ?_))
  (case k1 => k_asm); (case k2 => k_asm); (case k3 => k_asm); (case k4 => k_asm); (case k5 => k_asm); (case kK => first | exact rfl | assumption); (case kd => ktr_room); (case ku => ktr_units)
  (intro r9 h9 tk9 F9 N9 hr9; (obtain ⟨t9, hr9⟩ := hr9); subst hr9; (try dsimp only); (try k_fold)))
  k_with "con argsC" => (
  (case kA => exact rfl); (case kF => exact rfl); (case kK => assumption); (case k1 => k_asm); (case k2 => k_asm); (case k3 => k_asm); (case k4 => k_asm); (case k5 => k_asm); (case k6 => k_is); (case k7 => k_is); (case k8 => ktr_room); (case k9 => first | exact BindsTo.of_eq rfl | exact binds_K (by k_in) rfl (by k_is) rfl rfl rfl); (case kB => exact rfl); (case kD => decide +kernel); (case c2 => exact rfl); (case c3 => exact rfl); (case c4 => exact rfl); k_whole; intro g' L' h' tk' cells' FG' F' N' Y' B' X' T' l1; (try k_lt l1); k_cells Y'; (try simp only [List.cons_append, List.nil_append] at N'); (try dsimp only); (try k_fold))
  k_with "call ref" => (
  k_here
  (k_dflt (first
   | ((show wpAny _ _ (call (Value.ref 158) [Value.str _ _]) _ _ _); refine' Mine.Con.useS (Mine.con_trim _ _ ?hc) ?k1 ?k2 ?k3 ?k4 ?k5 ?kK ?kd ?ku ?_)
   | ((show wpAny _ _ (call (Value.ref 205) [Value.str _ _]) _ _ _); refine' Mine.Con.useS (Mine.con_law_trimmed _ _ ?hc) ?k1 ?k2 ?k3 ?k4 ?k5 ?kK ?kd ?ku ?_)
   | ((show wpAny _ _ (call (Value.ref 144) [Value.str _ _, Value.bool _]) _ _ _); refine' Mine.Con.useS (Mine.con_quote _ _ _ ?hc) ?k1 ?k2 ?k3 ?k4 ?k5 ?kK ?kd ?ku ?_)
   | ((show wpAny _ _ (call (Value.ref 144) [Value.str _ _]) _ _ _); refine' Mine.Con.useS (Mine.con_quoteD _ _ ?hc) ?k1 ?k2 ?k3 ?k4 ?k5 ?kK ?kd ?ku ?_)
   | ((show wpAny _ _ (call (Value.ref 193) [Value.str _ _, Value.bool _]) _ _ _); refine' Mine.Con.useS (Mine.con_law_mode _ _ _ ?hc) ?k1 ?k2 ?k3 ?k4 ?k5 ?kK ?kd ?ku ?_)))
  (try (case hc => first | assumption | omega))
  (case k1 => k_asm); (case k2 => k_asm); (case k3 => k_asm); (case k4 => k_asm); (case k5 => k_asm); (case kK => first | exact rfl | assumption); (case kd => ktr_room); (case ku => ktr_units)
  (intro x9 t9 h9 tk9 e9 F9 N9; (try (first | (have z9 := Mine.trim_fact e9) | (have z9 := Mine.quote_fact e9))); (try dsimp only); (try k_fold)))
  k_with "for texts" => (k_here; (rename Fr _ _ _ _ => lF'); (with_unfolding_all refine' For_invVF lF' ?k1 ?k2 ?_; (case k1 => exact rfl); (case k2 => exact rfl); k_whole))
  k_with "call ref" => (
  k_here
  (k_dflt (first
   | ((show wpAny _ _ (call (Value.ref 165) [Value.str _ _]) _ _ _); refine' Mine.Con.useS (Mine.con_concat_part _ _ ?hc) ?k1 ?k2 ?k3 ?k4 ?k5 ?kK ?kd ?ku ?_)
   | ((show wpAny _ _ (call (Value.ref 212) [Value.str _ _]) _ _ _); refine' Mine.Con.useS (Mine.con_law_part _ _ ?hc) ?k1 ?k2 ?k3 ?k4 ?k5 ?kK ?kd ?ku ?_)
   | ((show wpAny _ _ (call (Value.ref 200) [Value.str _ _, Value.bool _]) _ _ _); refine' Mine.Con.useS (Mine.con_law_written _ _ _ ?hc) ?k1 ?k2 ?k3 ?k4 ?k5 ?kK ?kd ?ku ?_)))
  (try (case hc => first | assumption | omega))
  (case k1 => k_asm); (case k2 => k_asm); (case k3 => k_asm); (case k4 => k_asm); (case k5 => k_asm); (case kK => first | exact rfl | assumption); (case kd => ktr_room); (case ku => ktr_units)
  (intro x9 t9 h9 tk9 e9 F9 N9; (try (first | (have z9 := Mine.part_fact e9) | (have z9 := Mine.quote_fact e9))); (try dsimp only); (try k_fold)))
  k_with "call ref" => (
  k_here
  (k_dflt (first
   | ((show wpAny _ _ (call (Value.ref 151) [Value.ref _]) _ _ _); refine' Mine.Con.useS (Mine.con_join_list ?hT ?hi ?hm ?hB ?hn) ?k1 ?k2 ?k3 ?k4 ?k5 ?kK ?kd ?ku ?_)
   | ((show wpAny _ _ (call (Value.ref 172) [Value.ref _]) _ _ _); refine' Mine.Con.useS (Mine.con_concat ?hT ?hi ?hm ?hB ?hn) ?k1 ?k2 ?k3 ?k4 ?k5 ?kK ?kd ?ku ?_)
   | ((show wpAny _ _ (call (Value.ref 179) [Value.ref _]) _ _ _); refine' Mine.Con.useS (Mine.con_code_text ?hT ?hi ?hm ?hB ?hn) ?k1 ?k2 ?k3 ?k4 ?k5 ?kK ?kd ?ku ?_)))
  (case hT => first | assumption | exact ⟨_, .inl rfl⟩ | exact ⟨_, .inr rfl⟩)
  (case hi => assumption)
  (case hm => first | assumption | k_memK)
  (case hB => assumption)
  (case hn => first | assumption | omega)
  (case k1 => k_asm); (case k2 => k_asm); (case k3 => k_asm); (case k4 => k_asm); (case k5 => k_asm); (case kK => first | exact rfl | assumption); (case kd => ktr_room); (case ku => ktr_units)
  (intro x9 t9 h9 tk9 e9 F9 N9; (try dsimp only); (try k_fold)))
  k_with "binaryOp Add str str" => (
  k_here
  (with_reducible show wpAny _ _ (binaryOp Operator.Add (Value.str (Str.ofString _) _) (Value.str (Str.ofString _) _)) _ _ _)
  (refine' PyProof.Rows.SBL.add ?_ ?z)
  (case z => decide +kernel)
  (intro t9 k9 z9))
  k_with "call builtin:str.replace" => (
  k_here
  (with_reducible show wpAny _ _ (call (Value.builtin "str.replace") [Value.str _ _, Value.str _ _, Value.str _ _]) _ _ _)
  (walk_at "replace by"))
  k_with "con end1" => (
  refine Mine.end1 hret (by k_asm) (by k_asm) (by first | exact Mine.sub_all (by intro p hp; repeat (first | exact hp | refine List.mem_cons_of_mem _ ?_)) | exact Mine.sub_all (by kst_inAny)) (by k_memK)
    (by first | assumption | exact PySem.W.kst_ltOf (by first | exact And.right (by assumption) | exact And.right (And.right (by assumption)) | exact And.right (And.right (And.right (by assumption))) | exact And.right (And.right (And.right (And.right (by assumption)))))) ?_)
  trivial
namespace Mine
def partsOf (ss : List Str) : List (List Nat) := (ss.map fun y => partL (sg y)).filter fun l => !l.isEmpty
def concatQ (ss : List Str) : List Nat := joinB (partsOf ss)
def ccP (ss : List Str) (i : Nat) (ws : List Str) : Prop := ws.map sg = partsOf (ss.take i)
theorem parts_snoc (l : List Str) (y : Str) : partsOf (l ++ [y]) = partsOf l ++ (if (partL (sg y)).isEmpty then [] else [partL (sg y)]) := by
  unfold partsOf
  rw [List.map_append, List.filter_append]
  congr 1
  cases h : (partL (sg y)).isEmpty <;> simp [h]
theorem cc_len {ss ws : List Str} {i : Nat} (h : ccP ss i ws) : ws.length ≤ ss.length := by
  have := congrArg List.length h
  rw [List.length_map] at this
  rw [this]
  unfold partsOf
  refine Nat.le_trans (List.length_filter_le _ _) ?_
  rw [List.length_map, List.length_take]
  omega
theorem sg_nil {x : Str} : (x != Str.ofString "") = !(sg x).isEmpty := by
  rw [lit_em]
  obtain ⟨⟨l⟩⟩ := x
  cases l with
  | nil => decide +kernel
  | cons c r =>
    have : ((⟨⟨c :: r⟩⟩ : Str) == ⟨#[]⟩) = false := by rw [beq_eq_false_iff_ne]; intro h; cases h
    show (!((⟨⟨c :: r⟩⟩ : Str) == ⟨#[]⟩)) = _
    rw [this]; rfl
theorem cc_yes {ss ws : List Str} {i : Nat} {y x : Str} (h : ccP ss i ws) (hy : ss[i]? = some y) (e : x = S (partL y.cps.toList)) (hb : (x != Str.ofString "") = true) : ccP ss (ticks (i + 1)).length (ws ++ [x]) := by
  unfold ccP at h ⊢
  have e' : sg x = partL (sg y) := by rw [e, sg_S]; rfl
  rw [sg_nil, e'] at hb
  have hb' : (partL (sg y)).isEmpty = false := by simpa using hb
  rw [show (ticks (i + 1)).length = i + 1 by simp [ticks], List.take_add_one, hy, Option.toList_some, parts_snoc, List.map_append, h, hb', List.map_cons, List.map_nil, e']
  rfl
theorem cc_no {ss ws : List Str} {i : Nat} {y x : Str} (h : ccP ss i ws) (hy : ss[i]? = some y) (e : x = S (partL y.cps.toList)) (hb : (x != Str.ofString "") = false) : ccP ss (ticks (i + 1)).length ws := by
  unfold ccP at h ⊢
  have e' : sg x = partL (sg y) := by rw [e, sg_S]; rfl
  rw [sg_nil, e'] at hb
  have hb' : (partL (sg y)).isEmpty = true := by simpa using hb
  rw [show (ticks (i + 1)).length = i + 1 by simp [ticks], List.take_add_one, hy, Option.toList_some, parts_snoc, h, hb', if_pos rfl, List.append_nil]
theorem cc_end {ss ws : List Str} (h : ccP ss ss.length ws) : joinB (ws.map sg) = concatQ ss := by
  unfold ccP at h
  rw [List.take_length] at h
  rw [h]; rfl
theorem joinB_le (B : Nat) : ∀ l : List (List Nat), (∀ x ∈ l, x.length ≤ B) → (joinB l).length ≤ l.length * (B + 1)
  | [], _ => by simp [joinB]
  | [x], h => by have := h x (List.mem_singleton.mpr rfl); simp only [joinB, List.length_cons, List.length_nil, Nat.zero_add, Nat.one_mul]; omega
  | x :: y :: r, h => by
    have h1 := h x (List.mem_cons_self ..)
    have ih := joinB_le B (y :: r) (fun z hz => h z (List.mem_cons_of_mem _ hz))
    have e : joinB (x :: y :: r) = x ++ 32 :: joinB (y :: r) := rfl
    rw [e, List.length_append, List.length_cons, List.length_cons, Nat.succ_mul]
    omega
theorem concatQ_len {ss : List Str} {B : Nat} (h : ∀ y ∈ ss, y.length ≤ B) : (concatQ ss).length ≤ ss.length * (B + 2) := by
  have h1 : ∀ x ∈ partsOf ss, x.length ≤ B + 1 := by
    intro x hx
    obtain ⟨y, hy, rfl⟩ := List.mem_map.mp (List.mem_filter.mp hx).1
    have := partL_len (sg y)
    have := h y hy
    rw [sg_len] at *
    omega
  refine Nat.le_trans (joinB_le (B + 1) _ h1) (Nat.mul_le_mul_right _ ?_)
  unfold partsOf
  refine Nat.le_trans (List.length_filter_le _ _) ?_
  rw [List.length_map]
  exact Nat.le_refl _
theorem cc_size {ss ws : List Str} (h : ccP ss ss.length ws) (hB : ∀ y ∈ ss, y.length ≤ 4096) (hn : ss.length ≤ 16) : (joinB (ws.map sg)).length ≤ 1000000 := by
  rw [cc_end h]
  refine Nat.le_trans (concatQ_len hB) ?_
  refine Nat.le_trans (Nat.mul_le_mul_right _ hn) ?_
  decide
theorem Mine.wCc0 : True := by
  k_with "exec For Name Name cons nil" => walk_at "for texts"
  k_with "join size" => exact cc_size (by assumption) (by assumption) (by assumption)
  k_with "kst_facts" => (with_reducible first | assumption | exact PyProof.Rows.StrsAre.nil | exact PyProof.Rows.StrsAre.cons _ _ .nil | exact PyProof.Rows.StrsAre.append' (by assumption) (.cons _ _ .nil))
  k_with "pyIter ref" => (
  k_here
  (rename Fr _ _ _ _ => lF')
  (rename News _ _ _ _ => lN')
  (refine' Mine.strs_out [Str.ofString "part"] (Mine.ccP ss) ?k1 ?k2 ?k3 ?k4 ?k5 lF' lN' ?k6 ?k7 ?k8)
  (case k1 => exact rfl)
  (case k2 => assumption)
  (case k3 => assumption)
  (case k4 => assumption)
  (case k5 => assumption)
  (case k6 => exact rfl)
  (all_goals clear lF' lN')
  (case' k7 => intro us ws n i y t u h tk own hmk hy hyB hin hoff hus hlen hP FF NN; have hw := Mine.cc_len hP)
  (case' k8 => intro us ws n u h tk hmk hus hlen hP FF NN)
  (all_goals (try dsimp only))
  (all_goals (try k_fold)))
  trivial
theorem con_concat {w mean mg mb news} {l : Addr} {oL : Obj} {vs : List Value} {ss : List Str} (hT : TextsAt l oL vs) (hi : StrsAre vs ss) (hm : (l, oL) ∈ news) (hB : ∀ y ∈ ss, y.length ≤ 4096) (hn : ss.length ≤ 16) :
    Con w mean mg mb 172 8 news [.ref l] (fun v tl => (∃ t', v = .str (S (concatQ ss)) t') ∧ tl = []) := by
  walk_at "con in0"
  k_dflt (refine' code_def (binds := [(Str.ofString "items", .ref l)]) ?k1 ?k2 ?k3 ?k4 ?k5 ?kA ?kF ?kK ?k6 ?k7 ?k8 ?k9 ?kB ?_ ?c2 ?c3 ?c4 ?c5; walk_at "con args")
  k_with "state" => (first | exact cc_yes (by assumption) (by assumption) (by assumption) (by assumption) | exact cc_no (by assumption) (by assumption) (by assumption) (by assumption))
  walk_at "steps"
  all_goals walk_at "con end"
  all_goals exact pt_end (congrArg S (cc_end (by assumption)))
end Mine
end PartCc
section PartCe
theorem Mine.wCe : True := by
  k_with_none
  k_with "con in" => (
  w_top off
  unfold Mine.Con
  k_fill
  intro dp un gd cn cs a ccd cl outer A₀ base h₀ L m s Q E B F X N T hk hd hu hret
  refine wpAny_call ?_
  k_dflt cell_enter)
  k_with "con in0" => (
  w_top off
  unfold Mine.Con
  k_fill
  intro dp un gd cn cs a ccd cl outer A₀ base h₀ L m s Q E B F X N T hk hd hu hret
  refine wpAny_call ?_)
  k_with "con args" => (
  (case kA => exact rfl); (case kF => exact rfl); (case kK => assumption); (case k1 => k_asm); (case k2 => k_asm); (case k3 => k_asm); (case k4 => k_asm); (case k5 => k_asm); (case k6 => k_is); (case k7 => k_is); (case k8 => ktr_room); (case k9 => first | exact BindsTo.of_eq rfl | exact binds_K (by k_in) rfl (by k_is) rfl rfl rfl); (case c5 => decide); (case kB => exact locs rfl); (case c2 => exact rfl); (case c3 => exact rfl); (case c4 => exact rfl); k_whole; intro g' L' h' FG' F' N' B' X' T'; (try dsimp only); (try k_fold))
  k_with "con end" => (
  refine Mine.end0 hret (by k_asm) (by k_asm) (by first | exact Mine.sub_all (by intro p hp; repeat (first | exact hp | refine List.mem_cons_of_mem _ ?_)) | exact Mine.sub_all (by kst_inAny)) ?_)
  k_with "con use0" => (
  (case k1 => k_asm); (case k2 => k_asm); (case k3 => k_asm); (case k4 => k_asm); (case k5 => k_asm); (case kK => first | exact rfl | assumption); (case kd => ktr_room); (case ku => ktr_units))
  k_with "call ref" => (
  k_here
  (show wpAny _ _ (call (Value.ref 52) [Value.str _ _]) _ _ _)
  (k_dflt (refine' Mine.Con.use0 (Mine.con_is_blank _ _) ?k1 ?k2 ?k3 ?k4 ?k5 ?kK ?kd ?ku ?_; (case k1 => k_asm); (case k2 => k_asm); (case k3 => k_asm); (case k4 => k_asm); (case k5 => k_asm); (case kK => first | exact rfl | assumption); (case kd => ktr_room); (case ku => ktr_units)))
  (intro r9 h9 tk9 F9 N9 hr9; subst hr9; (try dsimp only); (try k_fold)))
  k_with "step" => (first
  | (k_unfold; (try dsimp only))
  | (refine Mine.ap2 ?_; k_unfold; (try dsimp only))
  | (k_end; kc_close)
  | ((fail_if_success (with_reducible show wpAny _ _ (exec (Stmt.While _ _ _ _) _) _ _ _)); first | walk1 | (dsimp only; walk1))
  | (leave1; (try dsimp only))
  | fail "no step")
  k_with "steps" => repeat' walk_at "step"
  k_with "eval BoolOp" => (
  k_here
  (k_dflt (first
   | (refine' Mine.or_names ?k1 ?k2 ?k3 ?_; (case k1 => k_asm); (case k2 => rfl); (case k3 => rfl))
   | (refine' Mine.and_name_eq ?k1 ?k2 ?k3 ?_; (case k1 => k_asm); (case k2 => rfl); (case k3 => rfl))))
  k_whole)
  k_with "drop" => (
  (rename News _ _ _ _ => nX)
  (have nY := cb_drop (news := news) nX (by intro p hp; repeat (first | exact hp | refine List.mem_cons_of_mem _ ?_)))
  (clear nX))
  k_with "KswEnd" => (
  (rename News _ _ _ _ => nE')
  (try simp only [List.push_toArray] at nE')
  (first
    | (refine' ksw_end ⟨_,_,_,_,_,_,_⟩ ?e1 nE' ?e2 ?e3 ?e4 ?e5 ?e6 ?e7)
    | (refine' ksw_end ⟨_,_,_,_⟩ ?e1 nE' ?e2 ?e3 ?e4 ?e5 ?e6 ?e7)
    | (refine' ksw_end ⟨_,_⟩ ?e1 nE' ?e2 ?e3 ?e4 ?e5 ?e6 ?e7)
    | (refine' ksw_end ⟨_,_,_,_,_⟩ ?e1 nE' ?e2 ?e3 ?e4 ?e5 ?e6 ?e7))
  (case e1 => assumption)
  (case e2 => first | exact Mine.sub_all (by intro p hp; repeat (first | exact hp | refine List.mem_cons_of_mem _ ?_)) | kst_in)
  (case e3 => kst_facts)
  (case e4 => kst_all)
  (case e5 => ksw_same)
  (case e6 => kst_p)
  (case e7 => ksw_less))
  k_with "exec If" => refine wpAny_If ?_
  k_with "call ref" => (
  k_here
  (k_dflt (first
   | ((show wpAny _ _ (call (Value.ref 129) [Value.str _ _, Value.bool _]) _ _ _); refine' Mine.Con.useS (Mine.con_mode_of _ _ _ ?hc) ?k1 ?k2 ?k3 ?k4 ?k5 ?kK ?kd ?ku ?_)
   | ((show wpAny _ _ (call (Value.ref 136) [Value.str _ _, Value.bool _]) _ _ _); refine' Mine.Con.useS (Mine.con_escaped _ _ _) ?k1 ?k2 ?k3 ?k4 ?k5 ?kK ?kd ?ku ?_)))
  (try (case hc => first | assumption | omega))
  (case k1 => k_asm); (case k2 => k_asm); (case k3 => k_asm); (case k4 => k_asm); (case k5 => k_asm); (case kK => first | exact rfl | assumption); (case kd => ktr_room); (case ku => ktr_units)
  (intro x9 t9 h9 tk9 e9 F9 N9; (try dsimp only); (try k_fold)))
  k_with "call builtin:str.join" => (
  k_here
  (k_dflt (first
   | ((with_reducible show wpAny _ _ (call (Value.builtin "str.join") [Value.str (Str.ofString "") _, Value.ref _]) _ _ _); refine' Mine.join0_at ?k1 ?k2 ?k3 ?k4 ?k5 ?_)
   | ((with_reducible show wpAny _ _ (call (Value.builtin "str.join") [Value.str (Str.ofString " ") _, Value.ref _]) _ _ _); refine' Mine.joinB_at ?k1 ?k2 ?k3 ?k4 ?k5 ?_)))
  (case k1 => k_asm); (case k2 => k_memK); (case k3 => k_asm); (case k4 => first | assumption | exact rfl); (case k5 => walk_at "join size")
  (intro t9 k9; (try dsimp only); (try k_fold)))
  k_with "call ref" => (
  k_here
  (with_reducible show wpAny _ _ (call (Value.ref 129) [Value.str (Str.ofString "") _, Value.bool _]) _ _ _)
  (k_dflt (refine' Mine.Con.use0 (Mine.con_mode_of0 _ _) ?k1 ?k2 ?k3 ?k4 ?k5 ?kK ?kd ?ku ?_))
  (case k1 => k_asm); (case k2 => k_asm); (case k3 => k_asm); (case k4 => k_asm); (case k5 => k_asm); (case kK => first | exact rfl | assumption); (case kd => ktr_room); (case ku => ktr_units)
  (intro r9 h9 tk9 F9 N9 hr9; (obtain ⟨t9, hr9⟩ := hr9); subst hr9; (try dsimp only); (try k_fold)))
  k_with "con argsC" => (
  (case kA => exact rfl); (case kF => exact rfl); (case kK => assumption); (case k1 => k_asm); (case k2 => k_asm); (case k3 => k_asm); (case k4 => k_asm); (case k5 => k_asm); (case k6 => k_is); (case k7 => k_is); (case k8 => ktr_room); (case k9 => first | exact BindsTo.of_eq rfl | exact binds_K (by k_in) rfl (by k_is) rfl rfl rfl); (case kB => exact rfl); (case kD => decide +kernel); (case c2 => exact rfl); (case c3 => exact rfl); (case c4 => exact rfl); k_whole; intro g' L' h' tk' cells' FG' F' N' Y' B' X' T' l1; (try k_lt l1); k_cells Y'; (try simp only [List.cons_append, List.nil_append] at N'); (try dsimp only); (try k_fold))
  k_with "call ref" => (
  k_here
  (k_dflt (first
   | ((show wpAny _ _ (call (Value.ref 158) [Value.str _ _]) _ _ _); refine' Mine.Con.useS (Mine.con_trim _ _ ?hc) ?k1 ?k2 ?k3 ?k4 ?k5 ?kK ?kd ?ku ?_)
   | ((show wpAny _ _ (call (Value.ref 205) [Value.str _ _]) _ _ _); refine' Mine.Con.useS (Mine.con_law_trimmed _ _ ?hc) ?k1 ?k2 ?k3 ?k4 ?k5 ?kK ?kd ?ku ?_)
   | ((show wpAny _ _ (call (Value.ref 144) [Value.str _ _, Value.bool _]) _ _ _); refine' Mine.Con.useS (Mine.con_quote _ _ _ ?hc) ?k1 ?k2 ?k3 ?k4 ?k5 ?kK ?kd ?ku ?_)
   | ((show wpAny _ _ (call (Value.ref 144) [Value.str _ _]) _ _ _); refine' Mine.Con.useS (Mine.con_quoteD _ _ ?hc) ?k1 ?k2 ?k3 ?k4 ?k5 ?kK ?kd ?ku ?_)
   | ((show wpAny _ _ (call (Value.ref 193) [Value.str _ _, Value.bool _]) _ _ _); refine' Mine.Con.useS (Mine.con_law_mode _ _ _ ?hc) ?k1 ?k2 ?k3 ?k4 ?k5 ?kK ?kd ?ku ?_)))
  (try (case hc => first | assumption | omega))
  (case k1 => k_asm); (case k2 => k_asm); (case k3 => k_asm); (case k4 => k_asm); (case k5 => k_asm); (case kK => first | exact rfl | assumption); (case kd => ktr_room); (case ku => ktr_units)
  (intro x9 t9 h9 tk9 e9 F9 N9; (try (first | (have z9 := Mine.trim_fact e9) | (have z9 := Mine.quote_fact e9))); (try dsimp only); (try k_fold)))
  k_with "for texts" => (k_here; (rename Fr _ _ _ _ => lF'); (with_unfolding_all refine' For_invVF lF' ?k1 ?k2 ?_; (case k1 => exact rfl); (case k2 => exact rfl); k_whole))
  k_with "call ref" => (
  k_here
  (k_dflt (first
   | ((show wpAny _ _ (call (Value.ref 165) [Value.str _ _]) _ _ _); refine' Mine.Con.useS (Mine.con_concat_part _ _ ?hc) ?k1 ?k2 ?k3 ?k4 ?k5 ?kK ?kd ?ku ?_)
   | ((show wpAny _ _ (call (Value.ref 212) [Value.str _ _]) _ _ _); refine' Mine.Con.useS (Mine.con_law_part _ _ ?hc) ?k1 ?k2 ?k3 ?k4 ?k5 ?kK ?kd ?ku ?_)
   | ((show wpAny _ _ (call (Value.ref 200) [Value.str _ _, Value.bool _]) _ _ _); refine' Mine.Con.useS (Mine.con_law_written _ _ _ ?hc) ?k1 ?k2 ?k3 ?k4 ?k5 ?kK ?kd ?ku ?_)))
  (try (case hc => first | assumption | omega))
  (case k1 => k_asm); (case k2 => k_asm); (case k3 => k_asm); (case k4 => k_asm); (case k5 => k_asm); (case kK => first | exact rfl | assumption); (case kd => ktr_room); (case ku => ktr_units)
  (intro x9 t9 h9 tk9 e9 F9 N9; (try (first | (have z9 := Mine.part_fact e9) | (have z9 := Mine.quote_fact e9))); (try dsimp only); (try k_fold)))
  k_with "call ref" => (
  k_here
  (k_dflt (first
   | ((show wpAny _ _ (call (Value.ref 151) [Value.ref _]) _ _ _); refine' Mine.Con.useS (Mine.con_join_list ?hT ?hi ?hm ?hB ?hn) ?k1 ?k2 ?k3 ?k4 ?k5 ?kK ?kd ?ku ?_)
   | ((show wpAny _ _ (call (Value.ref 172) [Value.ref _]) _ _ _); refine' Mine.Con.useS (Mine.con_concat ?hT ?hi ?hm ?hB ?hn) ?k1 ?k2 ?k3 ?k4 ?k5 ?kK ?kd ?ku ?_)
   | ((show wpAny _ _ (call (Value.ref 179) [Value.ref _]) _ _ _); refine' Mine.Con.useS (Mine.con_code_text ?hT ?hi ?hm ?hB ?hn) ?k1 ?k2 ?k3 ?k4 ?k5 ?kK ?kd ?ku ?_)))
  (case hT => first | assumption | exact ⟨_, .inl rfl⟩ | exact ⟨_, .inr rfl⟩)
  (case hi => assumption)
  (case hm => first | assumption | k_memK)
  (case hB => assumption)
  (case hn => first | assumption | omega)
  (case k1 => k_asm); (case k2 => k_asm); (case k3 => k_asm); (case k4 => k_asm); (case k5 => k_asm); (case kK => first | exact rfl | assumption); (case kd => ktr_room); (case ku => ktr_units)
  (intro x9 t9 h9 tk9 e9 F9 N9; (try dsimp only); (try k_fold)))
  k_with "binaryOp Add str str" => (
  k_here
  (with_reducible show wpAny _ _ (binaryOp Operator.Add (Value.str (Str.ofString _) _) (Value.str (Str.ofString _) _)) _ _ _)
  (refine' PyProof.Rows.SBL.add ?_ ?z)
  (case z => decide +kernel)
  (intro t9 k9 z9))
  k_with "call builtin:str.replace" => (
  k_here
  (with_reducible show wpAny _ _ (call (Value.builtin "str.replace") [Value.str _ _, Value.str _ _, Value.str _ _]) _ _ _)
  (walk_at "replace by"))
  k_with "con end1" => (
  refine Mine.end1 hret (by k_asm) (by k_asm) (by first | exact Mine.sub_all (by intro p hp; repeat (first | exact hp | refine List.mem_cons_of_mem _ ?_)) | exact Mine.sub_all (by kst_inAny)) (by k_memK)
    (by first | assumption | exact PySem.W.kst_ltOf (by first | exact And.right (by assumption) | exact And.right (And.right (by assumption)) | exact And.right (And.right (And.right (by assumption))) | exact And.right (And.right (And.right (And.right (by assumption)))))) ?_)
  trivial
namespace Mine
theorem con_code_text {w mean mg mb news} {l : Addr} {oL : Obj} {vs : List Value} {ss : List Str} (hT : ∃ n, oL = tupObj vs n) (hi : StrsAre vs ss) (hm : (l, oL) ∈ news) (hB : ∀ y ∈ ss, y.length ≤ 4096) (hn : ss.length ≤ 16) :
    Con w mean mg mb 179 10 news [.ref l] (fun v tl => (∃ t', v = .str (S (joinQ ss)) t') ∧ tl = []) := by
  obtain ⟨n, rfl⟩ := hT
  have hT' : TextsAt l (tupObj vs n) vs := ⟨n, .inr rfl⟩
  walk_at "con in0"
  k_dflt (refine' code_def (binds := [(Str.ofString "errorcode", .ref l)]) ?k1 ?k2 ?k3 ?k4 ?k5 ?kA ?kF ?kK ?k6 ?k7 ?k8 ?k9 ?kB ?_ ?c2 ?c3 ?c4 ?c5; walk_at "con args")
  walk_at "steps"
  walk_at "con end"
  exact pt_end (by assumption)
theorem con_code_textS {w mean mg mb news} (c : Str) (t : Tok) : Con w mean mg mb 179 10 news [.str c t] (fun v tl => (∃ t', v = .str c t') ∧ tl = []) := by
  walk_at "con in0"
  k_dflt (refine' code_def (binds := [(Str.ofString "errorcode", .str c t)]) ?k1 ?k2 ?k3 ?k4 ?k5 ?kA ?kF ?kK ?k6 ?k7 ?k8 ?k9 ?kB ?_ ?c2 ?c3 ?c4 ?c5; walk_at "con args")
  walk_at "steps"
  walk_at "con end"
  exact ⟨⟨_, rfl⟩, rfl⟩
end Mine
end PartCe
section PartPa
theorem Mine.wPa : True := by
  k_with_none
  k_with "con in" => (
  w_top off
  unfold Mine.Con
  k_fill
  intro dp un gd cn cs a ccd cl outer A₀ base h₀ L m s Q E B F X N T hk hd hu hret
  refine wpAny_call ?_
  k_dflt cell_enter)
  k_with "con in0" => (
  w_top off
  unfold Mine.Con
  k_fill
  intro dp un gd cn cs a ccd cl outer A₀ base h₀ L m s Q E B F X N T hk hd hu hret
  refine wpAny_call ?_)
  k_with "con args" => (
  (case kA => exact rfl); (case kF => exact rfl); (case kK => assumption); (case k1 => k_asm); (case k2 => k_asm); (case k3 => k_asm); (case k4 => k_asm); (case k5 => k_asm); (case k6 => k_is); (case k7 => k_is); (case k8 => ktr_room); (case k9 => first | exact BindsTo.of_eq rfl | exact binds_K (by k_in) rfl (by k_is) rfl rfl rfl); (case c5 => decide); (case kB => exact locs rfl); (case c2 => exact rfl); (case c3 => exact rfl); (case c4 => exact rfl); k_whole; intro g' L' h' FG' F' N' B' X' T'; (try dsimp only); (try k_fold))
  k_with "con end" => (
  refine Mine.end0 hret (by k_asm) (by k_asm) (by first | exact Mine.sub_all (by intro p hp; repeat (first | exact hp | refine List.mem_cons_of_mem _ ?_)) | exact Mine.sub_all (by kst_inAny)) ?_)
  k_with "con use0" => (
  (case k1 => k_asm); (case k2 => k_asm); (case k3 => k_asm); (case k4 => k_asm); (case k5 => k_asm); (case kK => first | exact rfl | assumption); (case kd => ktr_room); (case ku => ktr_units))
  k_with "call ref" => (
  k_here
  (show wpAny _ _ (call (Value.ref 52) [Value.str _ _]) _ _ _)
  (k_dflt (refine' Mine.Con.use0 (Mine.con_is_blank _ _) ?k1 ?k2 ?k3 ?k4 ?k5 ?kK ?kd ?ku ?_; (case k1 => k_asm); (case k2 => k_asm); (case k3 => k_asm); (case k4 => k_asm); (case k5 => k_asm); (case kK => first | exact rfl | assumption); (case kd => ktr_room); (case ku => ktr_units)))
  (intro r9 h9 tk9 F9 N9 hr9; subst hr9; (try dsimp only); (try k_fold)))
  k_with "step" => (first
  | (k_unfold; (try dsimp only))
  | (refine Mine.ap2 ?_; k_unfold; (try dsimp only))
  | (k_end; kc_close)
  | ((fail_if_success (with_reducible show wpAny _ _ (exec (Stmt.While _ _ _ _) _) _ _ _)); first | walk1 | (dsimp only; walk1))
  | (leave1; (try dsimp only))
  | fail "no step")
  k_with "steps" => repeat' walk_at "step"
  k_with "eval BoolOp" => (
  k_here
  (k_dflt (first
   | (refine' Mine.or_names ?k1 ?k2 ?k3 ?_; (case k1 => k_asm); (case k2 => rfl); (case k3 => rfl))
   | (refine' Mine.and_name_eq ?k1 ?k2 ?k3 ?_; (case k1 => k_asm); (case k2 => rfl); (case k3 => rfl))))
  k_whole)
  k_with "drop" => (
  (rename News _ _ _ _ => nX)
  (have nY := cb_drop (news := news) nX (by intro p hp; repeat (first | exact hp | refine List.mem_cons_of_mem _ ?_)))
  (clear nX))
  k_with "KswEnd" => (
  (rename News _ _ _ _ => nE')
  (try simp only [List.push_toArray] at nE')
  (first
    | (refine' ksw_end ⟨_,_,_,_,_,_,_⟩ ?e1 nE' ?e2 ?e3 ?e4 ?e5 ?e6 ?e7)
    | (refine' ksw_end ⟨_,_,_,_⟩ ?e1 nE' ?e2 ?e3 ?e4 ?e5 ?e6 ?e7)
    | (refine' ksw_end ⟨_,_⟩ ?e1 nE' ?e2 ?e3 ?e4 ?e5 ?e6 ?e7)
    | (refine' ksw_end ⟨_,_,_,_,_⟩ ?e1 nE' ?e2 ?e3 ?e4 ?e5 ?e6 ?e7))
  (case e1 => assumption)
  (case e2 => first | exact Mine.sub_all (by intro p hp; repeat (first | exact hp | refine List.mem_cons_of_mem _ ?_)) | kst_in)
  (case e3 => kst_facts)
  (case e4 => kst_all)
  (case e5 => ksw_same)
  (case e6 => kst_p)
  (case e7 => ksw_less))
  k_with "exec If" => refine wpAny_If ?_
  k_with "call ref" => (
  k_here
  (k_dflt (first
   | ((show wpAny _ _ (call (Value.ref 129) [Value.str _ _, Value.bool _]) _ _ _); refine' Mine.Con.useS (Mine.con_mode_of _ _ _ ?hc) ?k1 ?k2 ?k3 ?k4 ?k5 ?kK ?kd ?ku ?_)
   | ((show wpAny _ _ (call (Value.ref 136) [Value.str _ _, Value.bool _]) _ _ _); refine' Mine.Con.useS (Mine.con_escaped _ _ _) ?k1 ?k2 ?k3 ?k4 ?k5 ?kK ?kd ?ku ?_)))
  (try (case hc => first | assumption | omega))
  (case k1 => k_asm); (case k2 => k_asm); (case k3 => k_asm); (case k4 => k_asm); (case k5 => k_asm); (case kK => first | exact rfl | assumption); (case kd => ktr_room); (case ku => ktr_units)
  (intro x9 t9 h9 tk9 e9 F9 N9; (try dsimp only); (try k_fold)))
  k_with "call builtin:str.join" => (
  k_here
  (k_dflt (first
   | ((with_reducible show wpAny _ _ (call (Value.builtin "str.join") [Value.str (Str.ofString "") _, Value.ref _]) _ _ _); refine' Mine.join0_at ?k1 ?k2 ?k3 ?k4 ?k5 ?_)
   | ((with_reducible show wpAny _ _ (call (Value.builtin "str.join") [Value.str (Str.ofString " ") _, Value.ref _]) _ _ _); refine' Mine.joinB_at ?k1 ?k2 ?k3 ?k4 ?k5 ?_)))
  (case k1 => k_asm); (case k2 => k_memK); (case k3 => k_asm); (case k4 => first | assumption | exact rfl); (case k5 => walk_at "join size")
  (intro t9 k9; (try dsimp only); (try k_fold)))
  k_with "call ref" => (
  k_here
  (with_reducible show wpAny _ _ (call (Value.ref 129) [Value.str (Str.ofString "") _, Value.bool _]) _ _ _)
  (k_dflt (refine' Mine.Con.use0 (Mine.con_mode_of0 _ _) ?k1 ?k2 ?k3 ?k4 ?k5 ?kK ?kd ?ku ?_))
  (case k1 => k_asm); (case k2 => k_asm); (case k3 => k_asm); (case k4 => k_asm); (case k5 => k_asm); (case kK => first | exact rfl | assumption); (case kd => ktr_room); (case ku => ktr_units)
  (intro r9 h9 tk9 F9 N9 hr9; (obtain ⟨t9, hr9⟩ := hr9); subst hr9; (try dsimp only); (try k_fold)))
  k_with "con argsC" => (
  (case kA => exact rfl); (case kF => exact rfl); (case kK => assumption); (case k1 => k_asm); (case k2 => k_asm); (case k3 => k_asm); (case k4 => k_asm); (case k5 => k_asm); (case k6 => k_is); (case k7 => k_is); (case k8 => ktr_room); (case k9 => first | exact BindsTo.of_eq rfl | exact binds_K (by k_in) rfl (by k_is) rfl rfl rfl); (case kB => exact rfl); (case kD => decide +kernel); (case c2 => exact rfl); (case c3 => exact rfl); (case c4 => exact rfl); k_whole; intro g' L' h' tk' cells' FG' F' N' Y' B' X' T' l1; (try k_lt l1); k_cells Y'; (try simp only [List.cons_append, List.nil_append] at N'); (try dsimp only); (try k_fold))
  k_with "call ref" => (
  k_here
  (k_dflt (first
   | ((show wpAny _ _ (call (Value.ref 158) [Value.str _ _]) _ _ _); refine' Mine.Con.useS (Mine.con_trim _ _ ?hc) ?k1 ?k2 ?k3 ?k4 ?k5 ?kK ?kd ?ku ?_)
   | ((show wpAny _ _ (call (Value.ref 205) [Value.str _ _]) _ _ _); refine' Mine.Con.useS (Mine.con_law_trimmed _ _ ?hc) ?k1 ?k2 ?k3 ?k4 ?k5 ?kK ?kd ?ku ?_)
   | ((show wpAny _ _ (call (Value.ref 144) [Value.str _ _, Value.bool _]) _ _ _); refine' Mine.Con.useS (Mine.con_quote _ _ _ ?hc) ?k1 ?k2 ?k3 ?k4 ?k5 ?kK ?kd ?ku ?_)
   | ((show wpAny _ _ (call (Value.ref 144) [Value.str _ _]) _ _ _); refine' Mine.Con.useS (Mine.con_quoteD _ _ ?hc) ?k1 ?k2 ?k3 ?k4 ?k5 ?kK ?kd ?ku ?_)
   | ((show wpAny _ _ (call (Value.ref 193) [Value.str _ _, Value.bool _]) _ _ _); refine' Mine.Con.useS (Mine.con_law_mode _ _ _ ?hc) ?k1 ?k2 ?k3 ?k4 ?k5 ?kK ?kd ?ku ?_)))
  (try (case hc => first | assumption | omega))
  (case k1 => k_asm); (case k2 => k_asm); (case k3 => k_asm); (case k4 => k_asm); (case k5 => k_asm); (case kK => first | exact rfl | assumption); (case kd => ktr_room); (case ku => ktr_units)
  (intro x9 t9 h9 tk9 e9 F9 N9; (try (first | (have z9 := Mine.trim_fact e9) | (have z9 := Mine.quote_fact e9))); (try dsimp only); (try k_fold)))
  k_with "for texts" => (k_here; (rename Fr _ _ _ _ => lF'); (with_unfolding_all refine' For_invVF lF' ?k1 ?k2 ?_; (case k1 => exact rfl); (case k2 => exact rfl); k_whole))
  k_with "call ref" => (
  k_here
  (k_dflt (first
   | ((show wpAny _ _ (call (Value.ref 165) [Value.str _ _]) _ _ _); refine' Mine.Con.useS (Mine.con_concat_part _ _ ?hc) ?k1 ?k2 ?k3 ?k4 ?k5 ?kK ?kd ?ku ?_)
   | ((show wpAny _ _ (call (Value.ref 212) [Value.str _ _]) _ _ _); refine' Mine.Con.useS (Mine.con_law_part _ _ ?hc) ?k1 ?k2 ?k3 ?k4 ?k5 ?kK ?kd ?ku ?_)
   | ((show wpAny _ _ (call (Value.ref 200) [Value.str _ _, Value.bool _]) _ _ _); refine' Mine.Con.useS (Mine.con_law_written _ _ _ ?hc) ?k1 ?k2 ?k3 ?k4 ?k5 ?kK ?kd ?ku ?_)))
  (try (case hc => first | assumption | omega))
  (case k1 => k_asm); (case k2 => k_asm); (case k3 => k_asm); (case k4 => k_asm); (case k5 => k_asm); (case kK => first | exact rfl | assumption); (case kd => ktr_room); (case ku => ktr_units)
  (intro x9 t9 h9 tk9 e9 F9 N9; (try (first | (have z9 := Mine.part_fact e9) | (have z9 := Mine.quote_fact e9))); (try dsimp only); (try k_fold)))
  k_with "call ref" => (
  k_here
  (k_dflt (first
   | ((show wpAny _ _ (call (Value.ref 151) [Value.ref _]) _ _ _); refine' Mine.Con.useS (Mine.con_join_list ?hT ?hi ?hm ?hB ?hn) ?k1 ?k2 ?k3 ?k4 ?k5 ?kK ?kd ?ku ?_)
   | ((show wpAny _ _ (call (Value.ref 172) [Value.ref _]) _ _ _); refine' Mine.Con.useS (Mine.con_concat ?hT ?hi ?hm ?hB ?hn) ?k1 ?k2 ?k3 ?k4 ?k5 ?kK ?kd ?ku ?_)
   | ((show wpAny _ _ (call (Value.ref 179) [Value.ref _]) _ _ _); refine' Mine.Con.useS (Mine.con_code_text ?hT ?hi ?hm ?hB ?hn) ?k1 ?k2 ?k3 ?k4 ?k5 ?kK ?kd ?ku ?_)))
  (case hT => first | assumption | exact ⟨_, .inl rfl⟩ | exact ⟨_, .inr rfl⟩)
  (case hi => assumption)
  (case hm => first | assumption | k_memK)
  (case hB => assumption)
  (case hn => first | assumption | omega)
  (case k1 => k_asm); (case k2 => k_asm); (case k3 => k_asm); (case k4 => k_asm); (case k5 => k_asm); (case kK => first | exact rfl | assumption); (case kd => ktr_room); (case ku => ktr_units)
  (intro x9 t9 h9 tk9 e9 F9 N9; (try dsimp only); (try k_fold)))
  k_with "binaryOp Add str str" => (
  k_here
  (with_reducible show wpAny _ _ (binaryOp Operator.Add (Value.str (Str.ofString _) _) (Value.str (Str.ofString _) _)) _ _ _)
  (refine' PyProof.Rows.SBL.add ?_ ?z)
  (case z => decide +kernel)
  (intro t9 k9 z9))
  k_with "call builtin:str.replace" => (
  k_here
  (with_reducible show wpAny _ _ (call (Value.builtin "str.replace") [Value.str _ _, Value.str _ _, Value.str _ _]) _ _ _)
  (walk_at "replace by"))
  k_with "con end1" => (
  refine Mine.end1 hret (by k_asm) (by k_asm) (by first | exact Mine.sub_all (by intro p hp; repeat (first | exact hp | refine List.mem_cons_of_mem _ ?_)) | exact Mine.sub_all (by kst_inAny)) (by k_memK)
    (by first | assumption | exact PySem.W.kst_ltOf (by first | exact And.right (by assumption) | exact And.right (And.right (by assumption)) | exact And.right (And.right (And.right (by assumption))) | exact And.right (And.right (And.right (And.right (by assumption)))))) ?_)
  trivial
namespace Mine
theorem con_check_behind {w mean mg mb news} (c : Str) (t : Tok) (k : Int) (u : Tok) (wh : Str) (v : Tok) (hc : c.length ≤ 4096) (h0 : 0 ≤ k) (hb : k < (c.length : Int) → isBlankS (Txt.item c k) = true) : Con w mean mg mb 87 3 news [.str c t, .int k u, .str wh v] (fun r tl => r = .none ∧ tl = []) := by
  by_cases hk : k < (c.length : Int)
  · have hb' := hb hk
    clear hb
    walk_at "con in0"
    k_dflt (refine' code_def (binds := [(Str.ofString "text", .str c t), (Str.ofString "at", .int k u), (Str.ofString "what", .str wh v)]) ?k1 ?k2 ?k3 ?k4 ?k5 ?kA ?kF ?kK ?k6 ?k7 ?k8 ?k9 ?kB ?_ ?c2 ?c3 ?c4 ?c5; walk_at "con args")
    walk_at "steps"
    walk_at "con end"
    exact ⟨rfl, rfl⟩
  · clear hb
    walk_at "con in0"
    k_dflt (refine' code_def (binds := [(Str.ofString "text", .str c t), (Str.ofString "at", .int k u), (Str.ofString "what", .str wh v)]) ?k1 ?k2 ?k3 ?k4 ?k5 ?kA ?kF ?kK ?k6 ?k7 ?k8 ?k9 ?kB ?_ ?c2 ?c3 ?c4 ?c5; walk_at "con args")
    walk_at "steps"
    walk_at "con end"
    exact ⟨rfl, rfl⟩
theorem end1 {h₀ h' : Heap} {L a : Addr} {o : Obj} {m : Str → Option Value} {news news' : Led} {Out : Value → Led → Prop} {s : Shared} {Q : Value → Shared → Prop} {r : Value} {tk' : Nat}
    (hret : ∀ r tl h' tk', Fr h₀ L h' m → News h₀ L h' (news ++ tl) → (∀ q ∈ news, ∀ p ∈ tl, q.1 < p.1) → Out r tl → Q r { s with heap := h', toks := tk' })
    (F : Fr h₀ L h' m) (N : News h₀ L h' news') (hs : ∀ p ∈ news, p ∈ news') (hm : (a, o) ∈ news') (hlt : ∀ q ∈ news, q.1 < a) (ho : Out r [(a, o)]) : Q r { s with heap := h', toks := tk' } :=
  hret r [(a, o)] h' tk' F (fun p hp => by
    rcases List.mem_append.mp hp with h | h
    · exact N p (hs p h)
    · exact List.mem_singleton.mp h ▸ N _ hm) (fun q hq p hp => List.mem_singleton.mp hp ▸ hlt q hq) ho
/-- a pair of a text and a place, left behind -/
def PairOut (x : Str) (e : Int) (r : Value) (tl : Led) : Prop := ∃ a t' u', r = .ref a ∧ tl = [(a, { cls := .type "tuple", data := .seq #[.str x t', .int e u'] })]
theorem Con.useP {w : World} {mean : ExcName → Option Value} {mg mb : Str → Option Value} {f : Addr} {k : Nat} {news : Led} {vs : List Value} {x : Str} {e : Int}
    (C : Con w mean mg mb f k news vs (PairOut x e))
    {dp un : Nat} {gd : Option (List Code)} {cn : Str} {cs : Scope} {a : Addr} {ccd : Value} {cl : List (Str × Addr)} {outer : List Env} {A₀ : Around} {base h₀ : Heap} {L : Addr} {m : Str → Option Value} {s : Shared} {Q E : Value → Shared → Prop}
    (B : Below A₀ base outer h₀) (F : Fr h₀ L s.heap m) (X : (hd.heap_39 w.params).In h₀) (N : News h₀ L s.heap news) (T : Top hd.view_39 LO mean mg mb h₀) (hk : cs.kind = .function) (hd : dp + k < recursionLimit) (hu : un + 8 * k < cLine)
    (ret : ∀ y a t' u' h' tk', y = x → Fr h₀ L h' m → News h₀ L h' ((a, { cls := .type "tuple", data := .seq #[.str y t', .int e u'] }) :: news) → (∀ q ∈ news, q.1 < a) → Q (.ref a) { s with heap := h', toks := tk' }) :
    wpAny (model PySem.Challenge.rw_np0133_01.row.prog w) (ktrTop dp un gd cn cs L a ccd cl outer) (call (.ref f) vs) Q E s := by
  refine C _ _ _ _ _ _ _ _ _ _ _ _ _ _ _ _ _ B F X N T hk hd hu ?_
  rintro r tl h' tk' F' N' hlt ⟨a, t', u', rfl, rfl⟩
  refine ret x a t' u' h' tk' rfl F' (fun p hp => ?_) (fun q hq => hlt q hq _ (List.mem_singleton.mpr rfl))
  rcases List.mem_cons.mp hp with h | h
  · exact N' p (List.mem_append.mpr (.inr (List.mem_singleton.mpr h)))
  · exact N' p (List.mem_append.mpr (.inl h))
/-- what a sign behind a backslash stands for -/
def unesc (n : Nat) : Nat := if n = 102 then 12 else if n = 110 then 10 else if n = 114 then 13 else if n = 116 then 9 else if n = 118 then 11 else n
/-- a sign that quote sets behind a backslash -/
def simple (n : Nat) : Bool := [93, 91, 36, 59, 32, 92, 34, 123, 125, 35, 102, 110, 114, 116, 118].contains n
theorem bs_facts {n : Nat} (h : simple n = true) : ((⟨#[n]⟩ : Str) == Str.ofString "") = false ∧ ((⟨#[n]⟩ : Str) == Str.ofString "\n") = false ∧ ([Str.ofString "x", Str.ofString "u", Str.ofString "U"].any fun x => x == (⟨#[n]⟩ : Str)) = false ∧
    ([Str.ofString "0", Str.ofString "1", Str.ofString "2", Str.ofString "3", Str.ofString "4", Str.ofString "5", Str.ofString "6", Str.ofString "7"].any fun x => x == (⟨#[n]⟩ : Str)) = false ∧
    ((0 ≤ Txt.find (Str.ofString "abfnrtv") ⟨#[n]⟩ ∧ Txt.find (Str.ofString "abfnrtv") ⟨#[n]⟩ < 7 ∧ Txt.item (Str.ofString "\x07\x08\x0c\n\x0d\t\x0b") (Txt.find (Str.ofString "abfnrtv") ⟨#[n]⟩) = ⟨#[unesc n]⟩) ∨ (Txt.find (Str.ofString "abfnrtv") ⟨#[n]⟩ = -1 ∧ unesc n = n)) := by
  have h' : n ∈ [93, 91, 36, 59, 32, 92, 34, 123, 125, 35, 102, 110, 114, 116, 118] := by simpa [simple] using h
  simp only [List.mem_cons, List.not_mem_nil, or_false] at h'
  rcases h' with h | h | h | h | h | h | h | h | h | h | h | h | h | h | h <;> subst h <;> decide +kernel
theorem bs_slice {c : Str} {k : Int} {n : Nat} {r : List Nat} (h0 : 0 ≤ k) (h : (sg c).drop k.toNat = 92 :: n :: r) : Txt.slice c (some (k + 1)) (some (k + 2)) = ⟨#[n]⟩ := by
  rw [slice_is c (by omega) (by omega), show (k + 2).toNat - (k + 1).toNat = 1 by omega, show (k + 1).toNat = k.toNat + 1 by omega, ← List.drop_drop, h]
  rfl
theorem Mine.wPa0 : True := by
  k_with "storeName" => (k_here; (rename (Txt.slice _ _ _ = PySem.Str.mk _) => hsl); rw [hsl])
  trivial
theorem con_backslash {w mean mg mb news} (c : Str) (t : Tok) (k : Int) (u : Tok) (n : Nat) (r : List Nat) (hc : c.length ≤ 4096) (h0 : 0 ≤ k) (hd : (sg c).drop k.toNat = 92 :: n :: r) (hs : simple n = true) :
    Con w mean mg mb 80 3 news [.str c t, .int k u] (PairOut ⟨#[unesc n]⟩ (k + 2)) := by
  obtain ⟨f1, f2, f3, f4, f5⟩ := bs_facts hs
  have hsl := bs_slice h0 hd
  rcases f5 with ⟨g1, g2, g3⟩ | ⟨g1, g2⟩
  · walk_at "con in0"
    k_dflt (refine' code_def (binds := [(Str.ofString "text", .str c t), (Str.ofString "at", .int k u)]) ?k1 ?k2 ?k3 ?k4 ?k5 ?kA ?kF ?kK ?k6 ?k7 ?k8 ?k9 ?kB ?_ ?c2 ?c3 ?c4 ?c5; walk_at "con args")
    walk_at "steps"
    walk_at "con end1"
    rw [← g3]
    exact ⟨_, _, _, rfl, rfl⟩
  · walk_at "con in0"
    k_dflt (refine' code_def (binds := [(Str.ofString "text", .str c t), (Str.ofString "at", .int k u)]) ?k1 ?k2 ?k3 ?k4 ?k5 ?kA ?kF ?kK ?k6 ?k7 ?k8 ?k9 ?kB ?_ ?c2 ?c3 ?c4 ?c5; walk_at "con args")
    walk_at "steps"
    walk_at "con end1"
    rw [g2]
    exact ⟨_, _, _, rfl, rfl⟩
end Mine
end PartPa
section PartPb
theorem Mine.wPb : True := by
  k_with_none
  k_with "con in" => (
  w_top off
  unfold Mine.Con
  k_fill
  intro dp un gd cn cs a ccd cl outer A₀ base h₀ L m s Q E B F X N T hk hd hu hret
  refine wpAny_call ?_
  k_dflt cell_enter)
  k_with "con in0" => (
  w_top off
  unfold Mine.Con
  k_fill
  intro dp un gd cn cs a ccd cl outer A₀ base h₀ L m s Q E B F X N T hk hd hu hret
  refine wpAny_call ?_)
  k_with "con args" => (
  (case kA => exact rfl); (case kF => exact rfl); (case kK => assumption); (case k1 => k_asm); (case k2 => k_asm); (case k3 => k_asm); (case k4 => k_asm); (case k5 => k_asm); (case k6 => k_is); (case k7 => k_is); (case k8 => ktr_room); (case k9 => first | exact BindsTo.of_eq rfl | exact binds_K (by k_in) rfl (by k_is) rfl rfl rfl); (case c5 => decide); (case kB => exact locs rfl); (case c2 => exact rfl); (case c3 => exact rfl); (case c4 => exact rfl); k_whole; intro g' L' h' FG' F' N' B' X' T'; (try dsimp only); (try k_fold))
  k_with "con end" => (
  refine Mine.end0 hret (by k_asm) (by k_asm) (by first | exact Mine.sub_all (by intro p hp; repeat (first | exact hp | refine List.mem_cons_of_mem _ ?_)) | exact Mine.sub_all (by kst_inAny)) ?_)
  k_with "con use0" => (
  (case k1 => k_asm); (case k2 => k_asm); (case k3 => k_asm); (case k4 => k_asm); (case k5 => k_asm); (case kK => first | exact rfl | assumption); (case kd => ktr_room); (case ku => ktr_units))
  k_with "call ref" => (
  k_here
  (show wpAny _ _ (call (Value.ref 52) [Value.str _ _]) _ _ _)
  (k_dflt (refine' Mine.Con.use0 (Mine.con_is_blank _ _) ?k1 ?k2 ?k3 ?k4 ?k5 ?kK ?kd ?ku ?_; (case k1 => k_asm); (case k2 => k_asm); (case k3 => k_asm); (case k4 => k_asm); (case k5 => k_asm); (case kK => first | exact rfl | assumption); (case kd => ktr_room); (case ku => ktr_units)))
  (intro r9 h9 tk9 F9 N9 hr9; subst hr9; (try dsimp only); (try k_fold)))
  k_with "step" => (first
  | (k_unfold; (try dsimp only))
  | (refine Mine.ap2 ?_; k_unfold; (try dsimp only))
  | (k_end; kc_close)
  | ((fail_if_success (with_reducible show wpAny _ _ (exec (Stmt.While _ _ _ _) _) _ _ _)); first | walk1 | (dsimp only; walk1))
  | (leave1; (try dsimp only))
  | fail "no step")
  k_with "steps" => repeat' walk_at "step"
  k_with "eval BoolOp" => (
  k_here
  (k_dflt (first
   | (refine' Mine.or_names ?k1 ?k2 ?k3 ?_; (case k1 => k_asm); (case k2 => rfl); (case k3 => rfl))
   | (refine' Mine.and_name_eq ?k1 ?k2 ?k3 ?_; (case k1 => k_asm); (case k2 => rfl); (case k3 => rfl))))
  k_whole)
  k_with "drop" => (
  (rename News _ _ _ _ => nX)
  (have nY := cb_drop (news := news) nX (by intro p hp; repeat (first | exact hp | refine List.mem_cons_of_mem _ ?_)))
  (clear nX))
  k_with "KswEnd" => (
  (rename News _ _ _ _ => nE')
  (try simp only [List.push_toArray] at nE')
  (first
    | (refine' ksw_end ⟨_,_,_,_,_,_,_⟩ ?e1 nE' ?e2 ?e3 ?e4 ?e5 ?e6 ?e7)
    | (refine' ksw_end ⟨_,_,_,_⟩ ?e1 nE' ?e2 ?e3 ?e4 ?e5 ?e6 ?e7)
    | (refine' ksw_end ⟨_,_⟩ ?e1 nE' ?e2 ?e3 ?e4 ?e5 ?e6 ?e7)
    | (refine' ksw_end ⟨_,_,_,_,_⟩ ?e1 nE' ?e2 ?e3 ?e4 ?e5 ?e6 ?e7))
  (case e1 => assumption)
  (case e2 => first | exact Mine.sub_all (by intro p hp; repeat (first | exact hp | refine List.mem_cons_of_mem _ ?_)) | kst_in)
  (case e3 => kst_facts)
  (case e4 => kst_all)
  (case e5 => ksw_same)
  (case e6 => kst_p)
  (case e7 => ksw_less))
  k_with "exec If" => refine wpAny_If ?_
  k_with "call ref" => (
  k_here
  (k_dflt (first
   | ((show wpAny _ _ (call (Value.ref 129) [Value.str _ _, Value.bool _]) _ _ _); refine' Mine.Con.useS (Mine.con_mode_of _ _ _ ?hc) ?k1 ?k2 ?k3 ?k4 ?k5 ?kK ?kd ?ku ?_)
   | ((show wpAny _ _ (call (Value.ref 136) [Value.str _ _, Value.bool _]) _ _ _); refine' Mine.Con.useS (Mine.con_escaped _ _ _) ?k1 ?k2 ?k3 ?k4 ?k5 ?kK ?kd ?ku ?_)))
  (try (case hc => first | assumption | omega))
  (case k1 => k_asm); (case k2 => k_asm); (case k3 => k_asm); (case k4 => k_asm); (case k5 => k_asm); (case kK => first | exact rfl | assumption); (case kd => ktr_room); (case ku => ktr_units)
  (intro x9 t9 h9 tk9 e9 F9 N9; (try dsimp only); (try k_fold)))
  k_with "call builtin:str.join" => (
  k_here
  (k_dflt (first
   | ((with_reducible show wpAny _ _ (call (Value.builtin "str.join") [Value.str (Str.ofString "") _, Value.ref _]) _ _ _); refine' Mine.join0_at ?k1 ?k2 ?k3 ?k4 ?k5 ?_)
   | ((with_reducible show wpAny _ _ (call (Value.builtin "str.join") [Value.str (Str.ofString " ") _, Value.ref _]) _ _ _); refine' Mine.joinB_at ?k1 ?k2 ?k3 ?k4 ?k5 ?_)))
  (case k1 => k_asm); (case k2 => k_memK); (case k3 => k_asm); (case k4 => first | assumption | exact rfl); (case k5 => walk_at "join size")
  (intro t9 k9; (try dsimp only); (try k_fold)))
  k_with "call ref" => (
  k_here
  (with_reducible show wpAny _ _ (call (Value.ref 129) [Value.str (Str.ofString "") _, Value.bool _]) _ _ _)
  (k_dflt (refine' Mine.Con.use0 (Mine.con_mode_of0 _ _) ?k1 ?k2 ?k3 ?k4 ?k5 ?kK ?kd ?ku ?_))
  (case k1 => k_asm); (case k2 => k_asm); (case k3 => k_asm); (case k4 => k_asm); (case k5 => k_asm); (case kK => first | exact rfl | assumption); (case kd => ktr_room); (case ku => ktr_units)
  (intro r9 h9 tk9 F9 N9 hr9; (obtain ⟨t9, hr9⟩ := hr9); subst hr9; (try dsimp only); (try k_fold)))
  k_with "con argsC" => (
  (case kA => exact rfl); (case kF => exact rfl); (case kK => assumption); (case k1 => k_asm); (case k2 => k_asm); (case k3 => k_asm); (case k4 => k_asm); (case k5 => k_asm); (case k6 => k_is); (case k7 => k_is); (case k8 => ktr_room); (case k9 => first | exact BindsTo.of_eq rfl | exact binds_K (by k_in) rfl (by k_is) rfl rfl rfl); (case kB => exact rfl); (case kD => decide +kernel); (case c2 => exact rfl); (case c3 => exact rfl); (case c4 => exact rfl); k_whole; intro g' L' h' tk' cells' FG' F' N' Y' B' X' T' l1; (try k_lt l1); k_cells Y'; (try simp only [List.cons_append, List.nil_append] at N'); (try dsimp only); (try k_fold))
  k_with "call ref" => (
  k_here
  (k_dflt (first
   | ((show wpAny _ _ (call (Value.ref 158) [Value.str _ _]) _ _ _); refine' Mine.Con.useS (Mine.con_trim _ _ ?hc) ?k1 ?k2 ?k3 ?k4 ?k5 ?kK ?kd ?ku ?_)
   | ((show wpAny _ _ (call (Value.ref 205) [Value.str _ _]) _ _ _); refine' Mine.Con.useS (Mine.con_law_trimmed _ _ ?hc) ?k1 ?k2 ?k3 ?k4 ?k5 ?kK ?kd ?ku ?_)
   | ((show wpAny _ _ (call (Value.ref 144) [Value.str _ _, Value.bool _]) _ _ _); refine' Mine.Con.useS (Mine.con_quote _ _ _ ?hc) ?k1 ?k2 ?k3 ?k4 ?k5 ?kK ?kd ?ku ?_)
   | ((show wpAny _ _ (call (Value.ref 144) [Value.str _ _]) _ _ _); refine' Mine.Con.useS (Mine.con_quoteD _ _ ?hc) ?k1 ?k2 ?k3 ?k4 ?k5 ?kK ?kd ?ku ?_)
   | ((show wpAny _ _ (call (Value.ref 193) [Value.str _ _, Value.bool _]) _ _ _); refine' Mine.Con.useS (Mine.con_law_mode _ _ _ ?hc) ?k1 ?k2 ?k3 ?k4 ?k5 ?kK ?kd ?ku ?_)))
  (try (case hc => first | assumption | omega))
  (case k1 => k_asm); (case k2 => k_asm); (case k3 => k_asm); (case k4 => k_asm); (case k5 => k_asm); (case kK => first | exact rfl | assumption); (case kd => ktr_room); (case ku => ktr_units)
  (intro x9 t9 h9 tk9 e9 F9 N9; (try (first | (have z9 := Mine.trim_fact e9) | (have z9 := Mine.quote_fact e9))); (try dsimp only); (try k_fold)))
  k_with "for texts" => (k_here; (rename Fr _ _ _ _ => lF'); (with_unfolding_all refine' For_invVF lF' ?k1 ?k2 ?_; (case k1 => exact rfl); (case k2 => exact rfl); k_whole))
  k_with "call ref" => (
  k_here
  (k_dflt (first
   | ((show wpAny _ _ (call (Value.ref 165) [Value.str _ _]) _ _ _); refine' Mine.Con.useS (Mine.con_concat_part _ _ ?hc) ?k1 ?k2 ?k3 ?k4 ?k5 ?kK ?kd ?ku ?_)
   | ((show wpAny _ _ (call (Value.ref 212) [Value.str _ _]) _ _ _); refine' Mine.Con.useS (Mine.con_law_part _ _ ?hc) ?k1 ?k2 ?k3 ?k4 ?k5 ?kK ?kd ?ku ?_)
   | ((show wpAny _ _ (call (Value.ref 200) [Value.str _ _, Value.bool _]) _ _ _); refine' Mine.Con.useS (Mine.con_law_written _ _ _ ?hc) ?k1 ?k2 ?k3 ?k4 ?k5 ?kK ?kd ?ku ?_)))
  (try (case hc => first | assumption | omega))
  (case k1 => k_asm); (case k2 => k_asm); (case k3 => k_asm); (case k4 => k_asm); (case k5 => k_asm); (case kK => first | exact rfl | assumption); (case kd => ktr_room); (case ku => ktr_units)
  (intro x9 t9 h9 tk9 e9 F9 N9; (try (first | (have z9 := Mine.part_fact e9) | (have z9 := Mine.quote_fact e9))); (try dsimp only); (try k_fold)))
  k_with "call ref" => (
  k_here
  (k_dflt (first
   | ((show wpAny _ _ (call (Value.ref 151) [Value.ref _]) _ _ _); refine' Mine.Con.useS (Mine.con_join_list ?hT ?hi ?hm ?hB ?hn) ?k1 ?k2 ?k3 ?k4 ?k5 ?kK ?kd ?ku ?_)
   | ((show wpAny _ _ (call (Value.ref 172) [Value.ref _]) _ _ _); refine' Mine.Con.useS (Mine.con_concat ?hT ?hi ?hm ?hB ?hn) ?k1 ?k2 ?k3 ?k4 ?k5 ?kK ?kd ?ku ?_)
   | ((show wpAny _ _ (call (Value.ref 179) [Value.ref _]) _ _ _); refine' Mine.Con.useS (Mine.con_code_text ?hT ?hi ?hm ?hB ?hn) ?k1 ?k2 ?k3 ?k4 ?k5 ?kK ?kd ?ku ?_)))
  (case hT => first | assumption | exact ⟨_, .inl rfl⟩ | exact ⟨_, .inr rfl⟩)
  (case hi => assumption)
  (case hm => first | assumption | k_memK)
  (case hB => assumption)
  (case hn => first | assumption | omega)
  (case k1 => k_asm); (case k2 => k_asm); (case k3 => k_asm); (case k4 => k_asm); (case k5 => k_asm); (case kK => first | exact rfl | assumption); (case kd => ktr_room); (case ku => ktr_units)
  (intro x9 t9 h9 tk9 e9 F9 N9; (try dsimp only); (try k_fold)))
  k_with "binaryOp Add str str" => (
  k_here
  (with_reducible show wpAny _ _ (binaryOp Operator.Add (Value.str (Str.ofString _) _) (Value.str (Str.ofString _) _)) _ _ _)
  (refine' PyProof.Rows.SBL.add ?_ ?z)
  (case z => decide +kernel)
  (intro t9 k9 z9))
  k_with "call builtin:str.replace" => (
  k_here
  (with_reducible show wpAny _ _ (call (Value.builtin "str.replace") [Value.str _ _, Value.str _ _, Value.str _ _]) _ _ _)
  (walk_at "replace by"))
  k_with "con end1" => (
  refine Mine.end1 hret (by k_asm) (by k_asm) (by first | exact Mine.sub_all (by intro p hp; repeat (first | exact hp | refine List.mem_cons_of_mem _ ?_)) | exact Mine.sub_all (by kst_inAny)) (by k_memK)
    (by first | assumption | exact PySem.W.kst_ltOf (by first | exact And.right (by assumption) | exact And.right (And.right (by assumption)) | exact And.right (And.right (And.right (by assumption))) | exact And.right (And.right (And.right (And.right (by assumption)))))) ?_)
  trivial
namespace Mine
/-- where the brace closes that stands d deep -/
def brk (d : Nat) (l : List Nat) : Option Nat :=
  match l with
  | [] => none
  | c :: r =>
    if c = 92 then (brk d (r.drop 1)).map (· + 2)
    else if c = 123 then (brk (d + 1) r).map (· + 1)
    else if c = 125 then (if d = 1 then some 0 else (brk (d - 1) r).map (· + 1))
    else (brk d r).map (· + 1)
termination_by l.length
decreasing_by all_goals first | (simp_wf; done) | (simp_wf; omega) | (simp only [List.length_drop, List.length_cons]; omega)
theorem brk_nil (d : Nat) : brk d [] = none := by rw [brk]
theorem brk_cons (d c : Nat) (r : List Nat) : brk d (c :: r) = if c = 92 then (brk d (r.drop 1)).map (· + 2)
    else if c = 123 then (brk (d + 1) r).map (· + 1)
    else if c = 125 then (if d = 1 then some 0 else (brk (d - 1) r).map (· + 1))
    else (brk d r).map (· + 1) := by rw [brk]
def brkP (c : Str) (e d k : Int) : Prop := ∃ j : Nat, brk d.toNat ((sg c).drop k.toNat) = some j ∧ k + j = e
section
variable {c : Str} {e d k : Int}
theorem b_end (h1 : ¬ k < c.length) (h : brkP c e d k) (h0 : 0 ≤ k) : False := by
  obtain ⟨j, h, _⟩ := h
  rw [List.drop_of_length_le (by rw [sg_len]; omega), brk_nil] at h
  cases h
theorem b_at (h0 : 0 ≤ k) (hk : k < c.length) : ∃ n, Txt.item c k = ⟨#[n]⟩ ∧ (sg c).drop k.toNat = n :: (sg c).drop (k + 1).toNat := item_at h0 hk
theorem b_one {n m : Nat} : ((⟨#[n]⟩ : Str) == ⟨#[m]⟩) = true ↔ n = m := by rw [one_eq]; simp
theorem b_bs (h0 : 0 ≤ k) (hk : k < c.length) (h : brkP c e d k) (a : (Txt.item c k == Str.ofString "\\") = true) : brkP c e d (k + 1 + 1) ∧ k + 1 + 1 ≤ (c.length : Int) := by
  obtain ⟨j, h, he⟩ := h
  obtain ⟨n, e1, e2⟩ := b_at h0 hk
  rw [e1, lit_bs, b_one] at a
  subst a
  rw [e2, brk_cons, if_pos rfl, List.drop_drop] at h
  cases hq : brk d.toNat ((sg c).drop ((k + 1).toNat + 1)) with
  | none => rw [hq] at h; cases h
  | some i =>
    rw [hq] at h
    have hi : i + 2 = j := by simpa using h
    have hl : (k + 1).toNat + 1 ≤ (sg c).length := by
      rcases Nat.lt_or_ge (sg c).length ((k + 1).toNat + 1) with hl | hl
      · rw [List.drop_of_length_le (by omega), brk_nil] at hq; cases hq
      · exact hl
    rw [sg_len] at hl
    refine ⟨⟨i, ?_, by omega⟩, by omega⟩
    rw [show (k + 1 + 1).toNat = (k + 1).toNat + 1 by omega]
    exact hq
theorem b_ob (h0 : 0 ≤ k) (hk : k < c.length) (hd : 1 ≤ d) (h : brkP c e d k) (a1 : (Txt.item c k == Str.ofString "\\") = false) (a : (Txt.item c k == Str.ofString "{") = true) : brkP c e (d + 1) (k + 1) := by
  obtain ⟨j, h, he⟩ := h
  obtain ⟨n, e1, e2⟩ := b_at h0 hk
  rw [e1, lit_ob, b_one] at a
  subst a
  rw [e2, brk_cons, if_neg (by decide), if_pos rfl] at h
  cases hq : brk (d.toNat + 1) ((sg c).drop (k + 1).toNat) with
  | none => rw [hq] at h; cases h
  | some i =>
    rw [hq] at h
    have hi : i + 1 = j := by simpa using h
    refine ⟨i, ?_, by omega⟩
    rw [show (d + 1).toNat = d.toNat + 1 by omega]
    exact hq
theorem b_cb (h0 : 0 ≤ k) (hk : k < c.length) (hd : 1 ≤ d) (h : brkP c e d k) (a1 : (Txt.item c k == Str.ofString "\\") = false) (a : (Txt.item c k == Str.ofString "}") = true) (hn : ¬ d - 1 = 0) : brkP c e (d - 1) (k + 1) := by
  obtain ⟨j, h, he⟩ := h
  obtain ⟨n, e1, e2⟩ := b_at h0 hk
  rw [e1, lit_cb, b_one] at a
  subst a
  rw [e2, brk_cons, if_neg (by decide), if_neg (by decide), if_pos rfl, if_neg (by omega)] at h
  cases hq : brk (d.toNat - 1) ((sg c).drop (k + 1).toNat) with
  | none => rw [hq] at h; cases h
  | some i =>
    rw [hq] at h
    have hi : i + 1 = j := by simpa using h
    refine ⟨i, ?_, by omega⟩
    rw [show (d - 1).toNat = d.toNat - 1 by omega]
    exact hq
theorem b_cb0 (h0 : 0 ≤ k) (hk : k < c.length) (hd : 1 ≤ d) (h : brkP c e d k) (a1 : (Txt.item c k == Str.ofString "\\") = false) (a : (Txt.item c k == Str.ofString "}") = true) (hn : d - 1 = 0) : k = e := by
  obtain ⟨j, h, he⟩ := h
  obtain ⟨n, e1, e2⟩ := b_at h0 hk
  rw [e1, lit_cb, b_one] at a
  subst a
  rw [e2, brk_cons, if_neg (by decide), if_neg (by decide), if_pos rfl, if_pos (by omega)] at h
  have : 0 = j := by simpa using h
  omega
theorem b_no (h0 : 0 ≤ k) (hk : k < c.length) (h : brkP c e d k) (a1 : (Txt.item c k == Str.ofString "\\") = false) (a2 : (Txt.item c k == Str.ofString "{") = false) (a3 : (Txt.item c k == Str.ofString "}") = false) : brkP c e d (k + 1) := by
  obtain ⟨j, h, he⟩ := h
  obtain ⟨n, e1, e2⟩ := b_at h0 hk
  rw [e1, lit_bs, one_eq, beq_eq_false_iff_ne] at a1
  rw [e1, lit_ob, one_eq, beq_eq_false_iff_ne] at a2
  rw [e1, lit_cb, one_eq, beq_eq_false_iff_ne] at a3
  rw [e2, brk_cons, if_neg a1, if_neg a2, if_neg a3] at h
  cases hq : brk d.toNat ((sg c).drop (k + 1).toNat) with
  | none => rw [hq] at h; cases h
  | some i =>
    rw [hq] at h
    have hi : i + 1 = j := by simpa using h
    exact ⟨i, hq, by omega⟩
end
theorem br_ret {c : Str} {f e k : Int} {j : Nat} {t u : Tok} {a : Addr} (h0 : 0 ≤ f) (h1 : f + (j : Int) = e) (h2 : k = e) : PairOut (S (((sg c).drop f.toNat).take j)) (e + 1) (.ref a) [(a, { cls := .type "tuple", data := .seq #[.str (Txt.slice c (some f) (some k)) t, .int (k + 1) u] })] := by
  subst h2
  rw [slice_is c h0 (by omega), show k.toNat - f.toNat = j by omega]
  exact ⟨_, _, _, rfl, rfl⟩
theorem Mine.wPb0 : True := by
  k_with "exec Raise some none" => (exfalso; exact b_end (by assumption) (by assumption) (by assumption))
  k_with "call ref" => (
  k_here
  (with_reducible show wpAny _ _ (call (Value.ref 87) [Value.str _ _, Value.int _ _, Value.str _ _]) _ _ _)
  (have hE := b_cb0 (by assumption) (by assumption) (by assumption) (by assumption) (by assumption) (by assumption) (by assumption))
  (k_dflt (refine' Mine.Con.use0 (Mine.con_check_behind _ _ _ _ _ _ ?hc ?h0 ?hb) ?k1 ?k2 ?k3 ?k4 ?k5 ?kK ?kd ?ku ?_))
  (case hc => assumption)
  (case h0 => omega)
  (case hb => rw [hE]; assumption)
  (case k1 => k_asm); (case k2 => k_asm); (case k3 => k_asm); (case k4 => k_asm); (case k5 => k_asm); (case kK => first | exact rfl | assumption); (case kd => ktr_room); (case ku => ktr_units)
  (intro r9 h9 tk9 F9 N9 hr9; subst hr9; (try dsimp only); (try k_fold)))
  trivial
theorem con_braced {w mean mg mb news} (c : Str) (t : Tok) (f : Int) (u : Tok) (j : Nat) (hc : c.length ≤ 4096) (h0 : 0 ≤ f) (hl : f ≤ c.length) (hb : brk 1 ((sg c).drop f.toNat) = some j) (hB : f + j + 1 < (c.length : Int) → isBlankS (Txt.item c (f + j + 1)) = true) :
    Con w mean mg mb 94 5 news [.str c t, .int f u] (PairOut (S (((sg c).drop f.toNat).take j)) (f + j + 1)) := by
  have hp : brkP c (f + j) 1 f := ⟨j, hb, rfl⟩
  generalize hE0 : f + (j : Int) = e at hp hB ⊢
  walk_at "con in0"
  k_dflt (refine' code_def (binds := [(Str.ofString "text", .str c t), (Str.ofString "first", .int f u)]) ?k1 ?k2 ?k3 ?k4 ?k5 ?kA ?kF ?kK ?k6 ?k7 ?k8 ?k9 ?kB ?_ ?c2 ?c3 ?c4 ?c5; walk_at "con args")
  walk_at "steps"
  k_with "state" => (first
    | exact ⟨by omega, by omega, by omega, by assumption⟩
    | exact ⟨by omega, by omega, (b_bs (by assumption) (by assumption) (by assumption) (by assumption)).2, (b_bs (by assumption) (by assumption) (by assumption) (by assumption)).1⟩
    | exact ⟨by omega, by omega, by omega, b_ob (by assumption) (by assumption) (by assumption) (by assumption) (by assumption) (by assumption)⟩
    | exact ⟨by omega, by omega, by omega, b_cb (by assumption) (by assumption) (by assumption) (by assumption) (by assumption) (by assumption) (by assumption)⟩
    | exact ⟨by omega, by omega, by omega, b_no (by assumption) (by assumption) (by assumption) (by assumption) (by assumption) (by assumption)⟩)
  k_while (fun _ (depth at' : Int) => 1 ≤ depth ∧ 0 ≤ at' ∧ at' ≤ (c.length : Int) ∧ brkP c e depth at') (fun _ depth at' => ((c.length : Int) - at').toNat) "depth" "at"
  walk_at "steps"
  walk_at "con end1"
  exact br_ret h0 hE0 hE
end Mine
end PartPb
section PartPc
theorem Mine.wPc : True := by
  k_with_none
  k_with "con in" => (
  w_top off
  unfold Mine.Con
  k_fill
  intro dp un gd cn cs a ccd cl outer A₀ base h₀ L m s Q E B F X N T hk hd hu hret
  refine wpAny_call ?_
  k_dflt cell_enter)
  k_with "con in0" => (
  w_top off
  unfold Mine.Con
  k_fill
  intro dp un gd cn cs a ccd cl outer A₀ base h₀ L m s Q E B F X N T hk hd hu hret
  refine wpAny_call ?_)
  k_with "con args" => (
  (case kA => exact rfl); (case kF => exact rfl); (case kK => assumption); (case k1 => k_asm); (case k2 => k_asm); (case k3 => k_asm); (case k4 => k_asm); (case k5 => k_asm); (case k6 => k_is); (case k7 => k_is); (case k8 => ktr_room); (case k9 => first | exact BindsTo.of_eq rfl | exact binds_K (by k_in) rfl (by k_is) rfl rfl rfl); (case c5 => decide); (case kB => exact locs rfl); (case c2 => exact rfl); (case c3 => exact rfl); (case c4 => exact rfl); k_whole; intro g' L' h' FG' F' N' B' X' T'; (try dsimp only); (try k_fold))
  k_with "con end" => (
  refine Mine.end0 hret (by k_asm) (by k_asm) (by first | exact Mine.sub_all (by intro p hp; repeat (first | exact hp | refine List.mem_cons_of_mem _ ?_)) | exact Mine.sub_all (by kst_inAny)) ?_)
  k_with "con use0" => (
  (case k1 => k_asm); (case k2 => k_asm); (case k3 => k_asm); (case k4 => k_asm); (case k5 => k_asm); (case kK => first | exact rfl | assumption); (case kd => ktr_room); (case ku => ktr_units))
  k_with "call ref" => (
  k_here
  (show wpAny _ _ (call (Value.ref 52) [Value.str _ _]) _ _ _)
  (k_dflt (refine' Mine.Con.use0 (Mine.con_is_blank _ _) ?k1 ?k2 ?k3 ?k4 ?k5 ?kK ?kd ?ku ?_; (case k1 => k_asm); (case k2 => k_asm); (case k3 => k_asm); (case k4 => k_asm); (case k5 => k_asm); (case kK => first | exact rfl | assumption); (case kd => ktr_room); (case ku => ktr_units)))
  (intro r9 h9 tk9 F9 N9 hr9; subst hr9; (try dsimp only); (try k_fold)))
  k_with "step" => (first
  | (k_unfold; (try dsimp only))
  | (refine Mine.ap2 ?_; k_unfold; (try dsimp only))
  | (k_end; kc_close)
  | ((fail_if_success (with_reducible show wpAny _ _ (exec (Stmt.While _ _ _ _) _) _ _ _)); first | walk1 | (dsimp only; walk1))
  | (leave1; (try dsimp only))
  | fail "no step")
  k_with "steps" => repeat' walk_at "step"
  k_with "eval BoolOp" => (
  k_here
  (k_dflt (first
   | (refine' Mine.or_names ?k1 ?k2 ?k3 ?_; (case k1 => k_asm); (case k2 => rfl); (case k3 => rfl))
   | (refine' Mine.and_name_eq ?k1 ?k2 ?k3 ?_; (case k1 => k_asm); (case k2 => rfl); (case k3 => rfl))))
  k_whole)
  k_with "drop" => (
  (rename News _ _ _ _ => nX)
  (have nY := cb_drop (news := news) nX (by intro p hp; repeat (first | exact hp | refine List.mem_cons_of_mem _ ?_)))
  (clear nX))
  k_with "KswEnd" => (
  (rename News _ _ _ _ => nE')
  (try simp only [List.push_toArray] at nE')
  (first
    | (refine' ksw_end ⟨_,_,_,_,_,_,_⟩ ?e1 nE' ?e2 ?e3 ?e4 ?e5 ?e6 ?e7)
    | (refine' ksw_end ⟨_,_,_,_⟩ ?e1 nE' ?e2 ?e3 ?e4 ?e5 ?e6 ?e7)
    | (refine' ksw_end ⟨_,_⟩ ?e1 nE' ?e2 ?e3 ?e4 ?e5 ?e6 ?e7)
    | (refine' ksw_end ⟨_,_,_,_,_⟩ ?e1 nE' ?e2 ?e3 ?e4 ?e5 ?e6 ?e7))
  (case e1 => assumption)
  (case e2 => first | exact Mine.sub_all (by intro p hp; repeat (first | exact hp | refine List.mem_cons_of_mem _ ?_)) | kst_in)
  (case e3 => kst_facts)
  (case e4 => kst_all)
  (case e5 => ksw_same)
  (case e6 => kst_p)
  (case e7 => ksw_less))
  k_with "exec If" => refine wpAny_If ?_
  k_with "call ref" => (
  k_here
  (k_dflt (first
   | ((show wpAny _ _ (call (Value.ref 129) [Value.str _ _, Value.bool _]) _ _ _); refine' Mine.Con.useS (Mine.con_mode_of _ _ _ ?hc) ?k1 ?k2 ?k3 ?k4 ?k5 ?kK ?kd ?ku ?_)
   | ((show wpAny _ _ (call (Value.ref 136) [Value.str _ _, Value.bool _]) _ _ _); refine' Mine.Con.useS (Mine.con_escaped _ _ _) ?k1 ?k2 ?k3 ?k4 ?k5 ?kK ?kd ?ku ?_)))
  (try (case hc => first | assumption | omega))
  (case k1 => k_asm); (case k2 => k_asm); (case k3 => k_asm); (case k4 => k_asm); (case k5 => k_asm); (case kK => first | exact rfl | assumption); (case kd => ktr_room); (case ku => ktr_units)
  (intro x9 t9 h9 tk9 e9 F9 N9; (try dsimp only); (try k_fold)))
  k_with "call builtin:str.join" => (
  k_here
  (k_dflt (first
   | ((with_reducible show wpAny _ _ (call (Value.builtin "str.join") [Value.str (Str.ofString "") _, Value.ref _]) _ _ _); refine' Mine.join0_at ?k1 ?k2 ?k3 ?k4 ?k5 ?_)
   | ((with_reducible show wpAny _ _ (call (Value.builtin "str.join") [Value.str (Str.ofString " ") _, Value.ref _]) _ _ _); refine' Mine.joinB_at ?k1 ?k2 ?k3 ?k4 ?k5 ?_)))
  (case k1 => k_asm); (case k2 => k_memK); (case k3 => k_asm); (case k4 => first | assumption | exact rfl); (case k5 => walk_at "join size")
  (intro t9 k9; (try dsimp only); (try k_fold)))
  k_with "call ref" => (
  k_here
  (with_reducible show wpAny _ _ (call (Value.ref 129) [Value.str (Str.ofString "") _, Value.bool _]) _ _ _)
  (k_dflt (refine' Mine.Con.use0 (Mine.con_mode_of0 _ _) ?k1 ?k2 ?k3 ?k4 ?k5 ?kK ?kd ?ku ?_))
  (case k1 => k_asm); (case k2 => k_asm); (case k3 => k_asm); (case k4 => k_asm); (case k5 => k_asm); (case kK => first | exact rfl | assumption); (case kd => ktr_room); (case ku => ktr_units)
  (intro r9 h9 tk9 F9 N9 hr9; (obtain ⟨t9, hr9⟩ := hr9); subst hr9; (try dsimp only); (try k_fold)))
  k_with "con argsC" => (
  (case kA => exact rfl); (case kF => exact rfl); (case kK => assumption); (case k1 => k_asm); (case k2 => k_asm); (case k3 => k_asm); (case k4 => k_asm); (case k5 => k_asm); (case k6 => k_is); (case k7 => k_is); (case k8 => ktr_room); (case k9 => first | exact BindsTo.of_eq rfl | exact binds_K (by k_in) rfl (by k_is) rfl rfl rfl); (case kB => exact rfl); (case kD => decide +kernel); (case c2 => exact rfl); (case c3 => exact rfl); (case c4 => exact rfl); k_whole; intro g' L' h' tk' cells' FG' F' N' Y' B' X' T' l1; (try k_lt l1); k_cells Y'; (try simp only [List.cons_append, List.nil_append] at N'); (try dsimp only); (try k_fold))
  k_with "call ref" => (
  k_here
  (k_dflt (first
   | ((show wpAny _ _ (call (Value.ref 158) [Value.str _ _]) _ _ _); refine' Mine.Con.useS (Mine.con_trim _ _ ?hc) ?k1 ?k2 ?k3 ?k4 ?k5 ?kK ?kd ?ku ?_)
   | ((show wpAny _ _ (call (Value.ref 205) [Value.str _ _]) _ _ _); refine' Mine.Con.useS (Mine.con_law_trimmed _ _ ?hc) ?k1 ?k2 ?k3 ?k4 ?k5 ?kK ?kd ?ku ?_)
   | ((show wpAny _ _ (call (Value.ref 144) [Value.str _ _, Value.bool _]) _ _ _); refine' Mine.Con.useS (Mine.con_quote _ _ _ ?hc) ?k1 ?k2 ?k3 ?k4 ?k5 ?kK ?kd ?ku ?_)
   | ((show wpAny _ _ (call (Value.ref 144) [Value.str _ _]) _ _ _); refine' Mine.Con.useS (Mine.con_quoteD _ _ ?hc) ?k1 ?k2 ?k3 ?k4 ?k5 ?kK ?kd ?ku ?_)
   | ((show wpAny _ _ (call (Value.ref 193) [Value.str _ _, Value.bool _]) _ _ _); refine' Mine.Con.useS (Mine.con_law_mode _ _ _ ?hc) ?k1 ?k2 ?k3 ?k4 ?k5 ?kK ?kd ?ku ?_)))
  (try (case hc => first | assumption | omega))
  (case k1 => k_asm); (case k2 => k_asm); (case k3 => k_asm); (case k4 => k_asm); (case k5 => k_asm); (case kK => first | exact rfl | assumption); (case kd => ktr_room); (case ku => ktr_units)
  (intro x9 t9 h9 tk9 e9 F9 N9; (try (first | (have z9 := Mine.trim_fact e9) | (have z9 := Mine.quote_fact e9))); (try dsimp only); (try k_fold)))
  k_with "for texts" => (k_here; (rename Fr _ _ _ _ => lF'); (with_unfolding_all refine' For_invVF lF' ?k1 ?k2 ?_; (case k1 => exact rfl); (case k2 => exact rfl); k_whole))
  k_with "call ref" => (
  k_here
  (k_dflt (first
   | ((show wpAny _ _ (call (Value.ref 165) [Value.str _ _]) _ _ _); refine' Mine.Con.useS (Mine.con_concat_part _ _ ?hc) ?k1 ?k2 ?k3 ?k4 ?k5 ?kK ?kd ?ku ?_)
   | ((show wpAny _ _ (call (Value.ref 212) [Value.str _ _]) _ _ _); refine' Mine.Con.useS (Mine.con_law_part _ _ ?hc) ?k1 ?k2 ?k3 ?k4 ?k5 ?kK ?kd ?ku ?_)
   | ((show wpAny _ _ (call (Value.ref 200) [Value.str _ _, Value.bool _]) _ _ _); refine' Mine.Con.useS (Mine.con_law_written _ _ _ ?hc) ?k1 ?k2 ?k3 ?k4 ?k5 ?kK ?kd ?ku ?_)))
  (try (case hc => first | assumption | omega))
  (case k1 => k_asm); (case k2 => k_asm); (case k3 => k_asm); (case k4 => k_asm); (case k5 => k_asm); (case kK => first | exact rfl | assumption); (case kd => ktr_room); (case ku => ktr_units)
  (intro x9 t9 h9 tk9 e9 F9 N9; (try (first | (have z9 := Mine.part_fact e9) | (have z9 := Mine.quote_fact e9))); (try dsimp only); (try k_fold)))
  k_with "call ref" => (
  k_here
  (k_dflt (first
   | ((show wpAny _ _ (call (Value.ref 151) [Value.ref _]) _ _ _); refine' Mine.Con.useS (Mine.con_join_list ?hT ?hi ?hm ?hB ?hn) ?k1 ?k2 ?k3 ?k4 ?k5 ?kK ?kd ?ku ?_)
   | ((show wpAny _ _ (call (Value.ref 172) [Value.ref _]) _ _ _); refine' Mine.Con.useS (Mine.con_concat ?hT ?hi ?hm ?hB ?hn) ?k1 ?k2 ?k3 ?k4 ?k5 ?kK ?kd ?ku ?_)
   | ((show wpAny _ _ (call (Value.ref 179) [Value.ref _]) _ _ _); refine' Mine.Con.useS (Mine.con_code_text ?hT ?hi ?hm ?hB ?hn) ?k1 ?k2 ?k3 ?k4 ?k5 ?kK ?kd ?ku ?_)))
  (case hT => first | assumption | exact ⟨_, .inl rfl⟩ | exact ⟨_, .inr rfl⟩)
  (case hi => assumption)
  (case hm => first | assumption | k_memK)
  (case hB => assumption)
  (case hn => first | assumption | omega)
  (case k1 => k_asm); (case k2 => k_asm); (case k3 => k_asm); (case k4 => k_asm); (case k5 => k_asm); (case kK => first | exact rfl | assumption); (case kd => ktr_room); (case ku => ktr_units)
  (intro x9 t9 h9 tk9 e9 F9 N9; (try dsimp only); (try k_fold)))
  k_with "binaryOp Add str str" => (
  k_here
  (with_reducible show wpAny _ _ (binaryOp Operator.Add (Value.str (Str.ofString _) _) (Value.str (Str.ofString _) _)) _ _ _)
  (refine' PyProof.Rows.SBL.add ?_ ?z)
  (case z => decide +kernel)
  (intro t9 k9 z9))
  k_with "call builtin:str.replace" => (
  k_here
  (with_reducible show wpAny _ _ (call (Value.builtin "str.replace") [Value.str _ _, Value.str _ _, Value.str _ _]) _ _ _)
  (walk_at "replace by"))
  k_with "con end1" => (
  refine Mine.end1 hret (by k_asm) (by k_asm) (by first | exact Mine.sub_all (by intro p hp; repeat (first | exact hp | refine List.mem_cons_of_mem _ ?_)) | exact Mine.sub_all (by kst_inAny)) (by k_memK)
    (by first | assumption | exact PySem.W.kst_ltOf (by first | exact And.right (by assumption) | exact And.right (And.right (by assumption)) | exact And.right (And.right (And.right (by assumption))) | exact And.right (And.right (And.right (And.right (by assumption)))))) ?_)
  trivial
namespace Mine
/-- a bare word, and what it stands for -/
inductive Word : List Nat → List Nat → Prop
  | nil : Word [] []
  | plain {n : Nat} {el y : List Nat} : n ≠ 92 → isB n = false → Word el y → Word (n :: el) (n :: y)
  | esc {m : Nat} {el y : List Nat} : simple m = true → Word el y → Word (92 :: m :: el) (unesc m :: y)
def atEnd (r : List Nat) : Prop := r = [] ∨ ∃ n r', r = n :: r' ∧ isB n = true
def bareP (c : Str) (e : Int) (x : List Nat) (k : Int) (out : List Str) : Prop := ∃ el y r, (sg c).drop k.toNat = el ++ r ∧ Word el y ∧ out.flatMap sg ++ y = x ∧ k + el.length = e ∧ atEnd r
section
variable {c : Str} {e k : Int} {x : List Nat} {out : List Str}
theorem w_len {el y : List Nat} (h : Word el y) : y.length ≤ el.length := by
  induction h with
  | nil => exact Nat.le_refl _
  | plain _ _ _ ih => simp only [List.length_cons]; omega
  | esc _ _ ih => simp only [List.length_cons]; omega
theorem ba_end1 (h0 : 0 ≤ k) (h1 : ¬ k < c.length) (h : bareP c e x k out) : out.flatMap sg = x ∧ k = e := by
  obtain ⟨el, y, r, h2, h3, h4, h5, _⟩ := h
  rw [List.drop_of_length_le (by rw [sg_len]; omega)] at h2
  have h6 : el = [] := (List.append_eq_nil_iff.mp h2.symm).1
  subst h6
  cases h3
  simp at h4 h5
  exact ⟨h4, h5⟩
theorem ba_end2 (h0 : 0 ≤ k) (h1 : k < c.length) (hb : isBlankS (Txt.item c k) = true) (h : bareP c e x k out) : out.flatMap sg = x ∧ k = e := by
  obtain ⟨el, y, r, h2, h3, h4, h5, _⟩ := h
  obtain ⟨n, e1, e2⟩ := item_at h0 h1
  rw [e1, isBlankS_one] at hb
  have e2' : (sg c).drop k.toNat = n :: (sg c).drop (k + 1).toNat := e2
  rw [e2'] at h2
  cases h3 with
  | nil => simp at h4 h5; exact ⟨h4, h5⟩
  | plain h6 h7 h8 => have := (List.cons.inj h2).1; rw [← this, hb] at h7; cases h7
  | esc h6 h8 => have := (List.cons.inj h2).1; rw [this] at hb; exact absurd hb (by decide)
theorem ba_bs (h0 : 0 ≤ k) (h1 : k < c.length) (hb : isBlankS (Txt.item c k) = false) (a : (Txt.item c k == Str.ofString "\\") = true) (h : bareP c e x k out) :
    ∃ m r, (sg c).drop k.toNat = 92 :: m :: r ∧ simple m = true ∧ ∀ z, z = (⟨#[unesc m]⟩ : Str) → bareP c e x (k + 2) (out ++ [z]) ∧ k + 2 ≤ c.length := by
  obtain ⟨el, y, r, h2, h3, h4, h5, h6⟩ := h
  obtain ⟨n, e1, e2⟩ := item_at h0 h1
  have e2' : (sg c).drop k.toNat = n :: (sg c).drop (k + 1).toNat := e2
  rw [e1, lit_bs, one_eq, beq_iff_eq] at a
  subst a
  have h2' := h2
  rw [e2'] at h2
  cases h3 with
  | nil =>
    exfalso
    rcases h6 with h6 | ⟨n', r', h6, h7⟩
    · rw [h6] at h2; cases h2
    · rw [h6] at h2; have := (List.cons.inj h2).1; rw [← this] at h7; exact absurd h7 (by decide)
  | plain h7 h8 h9 => exact absurd (List.cons.inj h2).1.symm h7
  | esc h7 h9 =>
    rename_i m el y
    refine ⟨m, el ++ r, h2', h7, fun z hz => ⟨⟨el, y, r, ?_, h9, ?_, ?_, h6⟩, ?_⟩⟩
    · rw [show (k + 2).toNat = k.toNat + 2 by omega, ← List.drop_drop, h2']; rfl
    · rw [hz, List.flatMap_append, ← h4, List.append_assoc]; rfl
    · simp only [List.length_cons] at h5; omega
    · have := congrArg List.length h2'
      simp only [List.length_drop, List.length_cons, List.length_append, sg_len] at this
      omega
theorem ba_pl (h0 : 0 ≤ k) (h1 : k < c.length) (hb : isBlankS (Txt.item c k) = false) (a : (Txt.item c k == Str.ofString "\\") = false) (h : bareP c e x k out) : bareP c e x (k + 1) (out ++ [Txt.item c k]) := by
  obtain ⟨el, y, r, h2, h3, h4, h5, h6⟩ := h
  obtain ⟨n, e1, e2⟩ := item_at h0 h1
  have e2' : (sg c).drop k.toNat = n :: (sg c).drop (k + 1).toNat := e2
  rw [e1, lit_bs, one_eq, beq_eq_false_iff_ne] at a
  rw [e1, isBlankS_one] at hb
  rw [e2'] at h2
  cases h3 with
  | nil =>
    exfalso
    rcases h6 with h6 | ⟨n', r', h6, h7⟩
    · rw [h6] at h2; cases h2
    · rw [h6] at h2; have := (List.cons.inj h2).1; rw [← this, hb] at h7; cases h7
  | esc h7 h9 => exact absurd (List.cons.inj h2).1 a
  | plain h7 h8 h9 =>
    rename_i n' el y
    obtain ⟨h10, h11⟩ := List.cons.inj h2
    subst h10
    refine ⟨el, y, r, h11, h9, ?_, ?_, h6⟩
    · rw [e1, List.flatMap_append, ← h4, List.append_assoc]; rfl
    · simp only [List.length_cons] at h5; omega
end
theorem ba_sz {e k : Int} {x : List Nat} {out : List Str} (h : out.flatMap sg = x ∧ k = e) (hx : x.length ≤ 4096) : (out.flatMap sg).length ≤ 1000000 := by rw [h.1]; omega
theorem ba_ret {e k : Int} {x : List Nat} {out : List Str} {t u : Tok} {a : Addr} (h : out.flatMap sg = x ∧ k = e) : PairOut (S x) e (.ref a) [(a, { cls := .type "tuple", data := .seq #[.str (S (out.flatMap sg)) t, .int k u] })] := by
  rw [h.1, h.2]
  exact ⟨_, _, _, rfl, rfl⟩
theorem Mine.wPc0 : True := by
  k_with "join size" => first | exact ba_sz (ba_end1 (by assumption) (by assumption) (by assumption)) (by assumption) | exact ba_sz (ba_end2 (by assumption) (by assumption) (by assumption) (by assumption)) (by assumption)
  k_with "kst_facts" => (with_reducible first | assumption | exact PyProof.Rows.StrsAre.nil | exact PyProof.Rows.StrsAre.cons _ _ .nil | exact PyProof.Rows.StrsAre.append' (by assumption) (.cons _ _ .nil))
  k_with "call ref" => (
  k_here
  (with_reducible show wpAny _ _ (call (Value.ref 80) [Value.str _ _, Value.int _ _]) _ _ _)
  (have hE := ba_bs (by assumption) (by assumption) (by assumption) (by assumption) (by assumption))
  (obtain ⟨m', r', hd', hs', hE⟩ := hE)
  (k_dflt (refine' Mine.Con.useP (Mine.con_backslash _ _ _ _ _ _ ?hc ?h0 hd' hs') ?k1 ?k2 ?k3 ?k4 ?k5 ?kK ?kd ?ku ?_))
  (case hc => assumption)
  (case h0 => omega)
  (case k1 => k_asm); (case k2 => k_asm); (case k3 => k_asm); (case k4 => k_asm); (case k5 => k_asm); (case kK => first | exact rfl | assumption); (case kd => ktr_room); (case ku => ktr_units)
  (intro y9 a9 t9 u9 h9 tk9 e9 F9 N9 l9; have hE' := hE y9 e9; (obtain ⟨hE1, hE2⟩ := hE'); clear hE; (k_lt l9); (try dsimp only); (try k_fold)))
  trivial
theorem con_bare {w mean mg mb news} (c : Str) (t : Tok) (f : Int) (u : Tok) (x : List Nat) (e : Int) (hc : c.length ≤ 4096) (h0 : 0 ≤ f) (hl : f ≤ c.length) (hx : x.length ≤ 4096) (hp : bareP c e x f []) :
    Con w mean mg mb 108 5 news [.str c t, .int f u] (PairOut (S x) e) := by
  walk_at "con in0"
  k_dflt (refine' code_def (binds := [(Str.ofString "text", .str c t), (Str.ofString "at", .int f u)]) ?k1 ?k2 ?k3 ?k4 ?k5 ?kA ?kF ?kK ?k6 ?k7 ?k8 ?k9 ?kB ?_ ?c2 ?c3 ?c4 ?c5; walk_at "con args")
  walk_at "steps"
  k_with "state" => (refine ⟨by omega, by omega, by simp only [List.length_append, List.length_cons, List.length_nil]; omega, ?_⟩; with_reducible (first | exact hp | exact hE1 | exact ba_pl (by assumption) (by assumption) (by assumption) (by assumption) (by assumption)))
  k_while (fun _ (out : List Str) (at' : Int) => 0 ≤ at' ∧ at' ≤ (c.length : Int) ∧ (out.length : Int) ≤ at' ∧ bareP c e x at' out) (fun _ out at' => ((c.length : Int) - at').toNat) "out$" "at"
  walk_at "steps"
  all_goals walk_at "con end1"
  all_goals (first | exact ba_ret (ba_end1 (by assumption) (by assumption) (by assumption)) | exact ba_ret (ba_end2 (by assumption) (by assumption) (by assumption) (by assumption)))
end Mine
end PartPc
section PartPd
theorem Mine.wPd : True := by
  k_with_none
  k_with "con in" => (
  w_top off
  unfold Mine.Con
  k_fill
  intro dp un gd cn cs a ccd cl outer A₀ base h₀ L m s Q E B F X N T hk hd hu hret
  refine wpAny_call ?_
  k_dflt cell_enter)
  k_with "con in0" => (
  w_top off
  unfold Mine.Con
  k_fill
  intro dp un gd cn cs a ccd cl outer A₀ base h₀ L m s Q E B F X N T hk hd hu hret
  refine wpAny_call ?_)
  k_with "con args" => (
  (case kA => exact rfl); (case kF => exact rfl); (case kK => assumption); (case k1 => k_asm); (case k2 => k_asm); (case k3 => k_asm); (case k4 => k_asm); (case k5 => k_asm); (case k6 => k_is); (case k7 => k_is); (case k8 => ktr_room); (case k9 => first | exact BindsTo.of_eq rfl | exact binds_K (by k_in) rfl (by k_is) rfl rfl rfl); (case c5 => decide); (case kB => exact locs rfl); (case c2 => exact rfl); (case c3 => exact rfl); (case c4 => exact rfl); k_whole; intro g' L' h' FG' F' N' B' X' T'; (try dsimp only); (try k_fold))
  k_with "con end" => (
  refine Mine.end0 hret (by k_asm) (by k_asm) (by first | exact Mine.sub_all (by intro p hp; repeat (first | exact hp | refine List.mem_cons_of_mem _ ?_)) | exact Mine.sub_all (by kst_inAny)) ?_)
  k_with "con use0" => (
  (case k1 => k_asm); (case k2 => k_asm); (case k3 => k_asm); (case k4 => k_asm); (case k5 => k_asm); (case kK => first | exact rfl | assumption); (case kd => ktr_room); (case ku => ktr_units))
  k_with "call ref" => (
  k_here
  (show wpAny _ _ (call (Value.ref 52) [Value.str _ _]) _ _ _)
  (k_dflt (refine' Mine.Con.use0 (Mine.con_is_blank _ _) ?k1 ?k2 ?k3 ?k4 ?k5 ?kK ?kd ?ku ?_; (case k1 => k_asm); (case k2 => k_asm); (case k3 => k_asm); (case k4 => k_asm); (case k5 => k_asm); (case kK => first | exact rfl | assumption); (case kd => ktr_room); (case ku => ktr_units)))
  (intro r9 h9 tk9 F9 N9 hr9; subst hr9; (try dsimp only); (try k_fold)))
  k_with "step" => (first
  | (k_unfold; (try dsimp only))
  | (refine Mine.ap2 ?_; k_unfold; (try dsimp only))
  | (k_end; kc_close)
  | ((fail_if_success (with_reducible show wpAny _ _ (exec (Stmt.While _ _ _ _) _) _ _ _)); first | walk1 | (dsimp only; walk1))
  | (leave1; (try dsimp only))
  | fail "no step")
  k_with "steps" => repeat' walk_at "step"
  k_with "eval BoolOp" => (
  k_here
  (k_dflt (first
   | (refine' Mine.or_names ?k1 ?k2 ?k3 ?_; (case k1 => k_asm); (case k2 => rfl); (case k3 => rfl))
   | (refine' Mine.and_name_eq ?k1 ?k2 ?k3 ?_; (case k1 => k_asm); (case k2 => rfl); (case k3 => rfl))))
  k_whole)
  k_with "drop" => (
  (rename News _ _ _ _ => nX)
  (have nY := cb_drop (news := news) nX (by intro p hp; repeat (first | exact hp | refine List.mem_cons_of_mem _ ?_)))
  (clear nX))
  k_with "KswEnd" => (
  (rename News _ _ _ _ => nE')
  (try simp only [List.push_toArray] at nE')
  (first
    | (refine' ksw_end ⟨_,_,_,_,_,_,_⟩ ?e1 nE' ?e2 ?e3 ?e4 ?e5 ?e6 ?e7)
    | (refine' ksw_end ⟨_,_,_,_⟩ ?e1 nE' ?e2 ?e3 ?e4 ?e5 ?e6 ?e7)
    | (refine' ksw_end ⟨_,_⟩ ?e1 nE' ?e2 ?e3 ?e4 ?e5 ?e6 ?e7)
    | (refine' ksw_end ⟨_,_,_,_,_⟩ ?e1 nE' ?e2 ?e3 ?e4 ?e5 ?e6 ?e7))
  (case e1 => assumption)
  (case e2 => first | exact Mine.sub_all (by intro p hp; repeat (first | exact hp | refine List.mem_cons_of_mem _ ?_)) | kst_in)
  (case e3 => kst_facts)
  (case e4 => kst_all)
  (case e5 => ksw_same)
  (case e6 => kst_p)
  (case e7 => ksw_less))
  k_with "exec If" => refine wpAny_If ?_
  k_with "call ref" => (
  k_here
  (k_dflt (first
   | ((show wpAny _ _ (call (Value.ref 129) [Value.str _ _, Value.bool _]) _ _ _); refine' Mine.Con.useS (Mine.con_mode_of _ _ _ ?hc) ?k1 ?k2 ?k3 ?k4 ?k5 ?kK ?kd ?ku ?_)
   | ((show wpAny _ _ (call (Value.ref 136) [Value.str _ _, Value.bool _]) _ _ _); refine' Mine.Con.useS (Mine.con_escaped _ _ _) ?k1 ?k2 ?k3 ?k4 ?k5 ?kK ?kd ?ku ?_)))
  (try (case hc => first | assumption | omega))
  (case k1 => k_asm); (case k2 => k_asm); (case k3 => k_asm); (case k4 => k_asm); (case k5 => k_asm); (case kK => first | exact rfl | assumption); (case kd => ktr_room); (case ku => ktr_units)
  (intro x9 t9 h9 tk9 e9 F9 N9; (try dsimp only); (try k_fold)))
  k_with "call builtin:str.join" => (
  k_here
  (k_dflt (first
   | ((with_reducible show wpAny _ _ (call (Value.builtin "str.join") [Value.str (Str.ofString "") _, Value.ref _]) _ _ _); refine' Mine.join0_at ?k1 ?k2 ?k3 ?k4 ?k5 ?_)
   | ((with_reducible show wpAny _ _ (call (Value.builtin "str.join") [Value.str (Str.ofString " ") _, Value.ref _]) _ _ _); refine' Mine.joinB_at ?k1 ?k2 ?k3 ?k4 ?k5 ?_)))
  (case k1 => k_asm); (case k2 => k_memK); (case k3 => k_asm); (case k4 => first | assumption | exact rfl); (case k5 => walk_at "join size")
  (intro t9 k9; (try dsimp only); (try k_fold)))
  k_with "call ref" => (
  k_here
  (with_reducible show wpAny _ _ (call (Value.ref 129) [Value.str (Str.ofString "") _, Value.bool _]) _ _ _)
  (k_dflt (refine' Mine.Con.use0 (Mine.con_mode_of0 _ _) ?k1 ?k2 ?k3 ?k4 ?k5 ?kK ?kd ?ku ?_))
  (case k1 => k_asm); (case k2 => k_asm); (case k3 => k_asm); (case k4 => k_asm); (case k5 => k_asm); (case kK => first | exact rfl | assumption); (case kd => ktr_room); (case ku => ktr_units)
  (intro r9 h9 tk9 F9 N9 hr9; (obtain ⟨t9, hr9⟩ := hr9); subst hr9; (try dsimp only); (try k_fold)))
  k_with "con argsC" => (
  (case kA => exact rfl); (case kF => exact rfl); (case kK => assumption); (case k1 => k_asm); (case k2 => k_asm); (case k3 => k_asm); (case k4 => k_asm); (case k5 => k_asm); (case k6 => k_is); (case k7 => k_is); (case k8 => ktr_room); (case k9 => first | exact BindsTo.of_eq rfl | exact binds_K (by k_in) rfl (by k_is) rfl rfl rfl); (case kB => exact rfl); (case kD => decide +kernel); (case c2 => exact rfl); (case c3 => exact rfl); (case c4 => exact rfl); k_whole; intro g' L' h' tk' cells' FG' F' N' Y' B' X' T' l1; (try k_lt l1); k_cells Y'; (try simp only [List.cons_append, List.nil_append] at N'); (try dsimp only); (try k_fold))
  k_with "call ref" => (
  k_here
  (k_dflt (first
   | ((show wpAny _ _ (call (Value.ref 158) [Value.str _ _]) _ _ _); refine' Mine.Con.useS (Mine.con_trim _ _ ?hc) ?k1 ?k2 ?k3 ?k4 ?k5 ?kK ?kd ?ku ?_)
   | ((show wpAny _ _ (call (Value.ref 205) [Value.str _ _]) _ _ _); refine' Mine.Con.useS (Mine.con_law_trimmed _ _ ?hc) ?k1 ?k2 ?k3 ?k4 ?k5 ?kK ?kd ?ku ?_)
   | ((show wpAny _ _ (call (Value.ref 144) [Value.str _ _, Value.bool _]) _ _ _); refine' Mine.Con.useS (Mine.con_quote _ _ _ ?hc) ?k1 ?k2 ?k3 ?k4 ?k5 ?kK ?kd ?ku ?_)
   | ((show wpAny _ _ (call (Value.ref 144) [Value.str _ _]) _ _ _); refine' Mine.Con.useS (Mine.con_quoteD _ _ ?hc) ?k1 ?k2 ?k3 ?k4 ?k5 ?kK ?kd ?ku ?_)
   | ((show wpAny _ _ (call (Value.ref 193) [Value.str _ _, Value.bool _]) _ _ _); refine' Mine.Con.useS (Mine.con_law_mode _ _ _ ?hc) ?k1 ?k2 ?k3 ?k4 ?k5 ?kK ?kd ?ku ?_)))
  (try (case hc => first | assumption | omega))
  (case k1 => k_asm); (case k2 => k_asm); (case k3 => k_asm); (case k4 => k_asm); (case k5 => k_asm); (case kK => first | exact rfl | assumption); (case kd => ktr_room); (case ku => ktr_units)
  (intro x9 t9 h9 tk9 e9 F9 N9; (try (first | (have z9 := Mine.trim_fact e9) | (have z9 := Mine.quote_fact e9))); (try dsimp only); (try k_fold)))
  k_with "for texts" => (k_here; (rename Fr _ _ _ _ => lF'); (with_unfolding_all refine' For_invVF lF' ?k1 ?k2 ?_; (case k1 => exact rfl); (case k2 => exact rfl); k_whole))
  k_with "call ref" => (
  k_here
  (k_dflt (first
   | ((show wpAny _ _ (call (Value.ref 165) [Value.str _ _]) _ _ _); refine' Mine.Con.useS (Mine.con_concat_part _ _ ?hc) ?k1 ?k2 ?k3 ?k4 ?k5 ?kK ?kd ?ku ?_)
   | ((show wpAny _ _ (call (Value.ref 212) [Value.str _ _]) _ _ _); refine' Mine.Con.useS (Mine.con_law_part _ _ ?hc) ?k1 ?k2 ?k3 ?k4 ?k5 ?kK ?kd ?ku ?_)
   | ((show wpAny _ _ (call (Value.ref 200) [Value.str _ _, Value.bool _]) _ _ _); refine' Mine.Con.useS (Mine.con_law_written _ _ _ ?hc) ?k1 ?k2 ?k3 ?k4 ?k5 ?kK ?kd ?ku ?_)))
  (try (case hc => first | assumption | omega))
  (case k1 => k_asm); (case k2 => k_asm); (case k3 => k_asm); (case k4 => k_asm); (case k5 => k_asm); (case kK => first | exact rfl | assumption); (case kd => ktr_room); (case ku => ktr_units)
  (intro x9 t9 h9 tk9 e9 F9 N9; (try (first | (have z9 := Mine.part_fact e9) | (have z9 := Mine.quote_fact e9))); (try dsimp only); (try k_fold)))
  k_with "call ref" => (
  k_here
  (k_dflt (first
   | ((show wpAny _ _ (call (Value.ref 151) [Value.ref _]) _ _ _); refine' Mine.Con.useS (Mine.con_join_list ?hT ?hi ?hm ?hB ?hn) ?k1 ?k2 ?k3 ?k4 ?k5 ?kK ?kd ?ku ?_)
   | ((show wpAny _ _ (call (Value.ref 172) [Value.ref _]) _ _ _); refine' Mine.Con.useS (Mine.con_concat ?hT ?hi ?hm ?hB ?hn) ?k1 ?k2 ?k3 ?k4 ?k5 ?kK ?kd ?ku ?_)
   | ((show wpAny _ _ (call (Value.ref 179) [Value.ref _]) _ _ _); refine' Mine.Con.useS (Mine.con_code_text ?hT ?hi ?hm ?hB ?hn) ?k1 ?k2 ?k3 ?k4 ?k5 ?kK ?kd ?ku ?_)))
  (case hT => first | assumption | exact ⟨_, .inl rfl⟩ | exact ⟨_, .inr rfl⟩)
  (case hi => assumption)
  (case hm => first | assumption | k_memK)
  (case hB => assumption)
  (case hn => first | assumption | omega)
  (case k1 => k_asm); (case k2 => k_asm); (case k3 => k_asm); (case k4 => k_asm); (case k5 => k_asm); (case kK => first | exact rfl | assumption); (case kd => ktr_room); (case ku => ktr_units)
  (intro x9 t9 h9 tk9 e9 F9 N9; (try dsimp only); (try k_fold)))
  k_with "binaryOp Add str str" => (
  k_here
  (with_reducible show wpAny _ _ (binaryOp Operator.Add (Value.str (Str.ofString _) _) (Value.str (Str.ofString _) _)) _ _ _)
  (refine' PyProof.Rows.SBL.add ?_ ?z)
  (case z => decide +kernel)
  (intro t9 k9 z9))
  k_with "call builtin:str.replace" => (
  k_here
  (with_reducible show wpAny _ _ (call (Value.builtin "str.replace") [Value.str _ _, Value.str _ _, Value.str _ _]) _ _ _)
  (walk_at "replace by"))
  k_with "con end1" => (
  refine Mine.end1 hret (by k_asm) (by k_asm) (by first | exact Mine.sub_all (by intro p hp; repeat (first | exact hp | refine List.mem_cons_of_mem _ ?_)) | exact Mine.sub_all (by kst_inAny)) (by k_memK)
    (by first | assumption | exact PySem.W.kst_ltOf (by first | exact And.right (by assumption) | exact And.right (And.right (by assumption)) | exact And.right (And.right (And.right (by assumption))) | exact And.right (And.right (And.right (And.right (by assumption)))))) ?_)
  trivial
namespace Mine
theorem Mine.wPd0 : True := by
  k_with "exec If" => (exfalso; (have hq9 := hbl _ (by assumption) (by assumption)); simp_all; done)
  trivial
theorem con_find_none {w mean mg mb news} (c : Str) (t : Tok) (k : Int) (u : Tok) (hc : c.length ≤ 4096) (h0 : 0 ≤ k) (hk : k ≤ c.length) (hbl : ∀ i : Int, k ≤ i → i < c.length → isBlankS (Txt.item c i) = true) :
    Con w mean mg mb 115 8 news [.str c t, .int k u] (fun r tl => r = .none ∧ tl = []) := by
  walk_at "con in0"
  k_dflt (refine' code_def (binds := [(Str.ofString "text", .str c t), (Str.ofString "at", .int k u)]) ?k1 ?k2 ?k3 ?k4 ?k5 ?kA ?kF ?kK ?k6 ?k7 ?k8 ?k9 ?kB ?_ ?c2 ?c3 ?c4 ?c5; walk_at "con args")
  walk_at "steps"
  k_with "state" => (exact ⟨by omega, by omega, by omega⟩)
  k_while (fun _ (at' : Int) => 0 ≤ at' ∧ k ≤ at' ∧ at' ≤ (c.length : Int)) (fun _ at' => ((c.length : Int) - at').toNat) "at"
  walk_at "steps"
  all_goals (first | (walk_at "con end"; exact ⟨rfl, rfl⟩))
end Mine
namespace Mine
theorem f_no {c : Str} {k i q : Int} (hbl : ∀ i : Int, k ≤ i → i < q → isBlankS (Txt.item c i) = true) (h1 : k ≤ i) (h2 : i ≤ q) (hb : isBlankS (Txt.item c i) = false) : i = q := by
  rcases Int.lt_or_eq_of_le h2 with h | h
  · rw [hbl i h1 h] at hb; cases hb
  · exact h
theorem f_yes {c : Str} {i q : Int} (hn : isBlankS (Txt.item c q) = false) (h2 : i ≤ q) (hb : isBlankS (Txt.item c i) = true) : i + 1 ≤ q := by
  rcases Int.lt_or_eq_of_le h2 with h | h
  · omega
  · rw [h, hn] at hb; cases hb
theorem fp_ret {x y : Str} {e : Int} {t u : Tok} {a : Addr} (h : y = x) : PairOut x e (.ref a) [(a, { cls := .type "tuple", data := .seq #[.str y t, .int e u] })] := by
  subst h
  exact ⟨_, _, _, rfl, rfl⟩
theorem Mine.wPd1 : True := by
  k_with "exec If" => (exfalso; omega)
  k_with "exec If" => ((have hq9 := f_no hbl (by assumption) (by assumption) (by assumption)); clear hbl; subst hq9)
  k_with "call ref" => (
  k_here
  (with_reducible show wpAny _ _ (call (Value.ref 94) [Value.str _ _, Value.int _ _]) _ _ _)
  (k_dflt (refine' Mine.Con.useP (Mine.con_braced _ _ _ _ _ ?hc ?h0 ?hl ?hb ?hB) ?k1 ?k2 ?k3 ?k4 ?k5 ?kK ?kd ?ku ?_))
  (case hc => assumption)
  (case h0 => omega)
  (case hl => omega)
  (case hb => assumption)
  (case hB => assumption)
  (case k1 => k_asm); (case k2 => k_asm); (case k3 => k_asm); (case k4 => k_asm); (case k5 => k_asm); (case kK => first | exact rfl | assumption); (case kd => ktr_room); (case ku => ktr_units)
  (intro y9 a9 t9 u9 h9 tk9 e9 F9 N9 l9; (try (k_lt l9)); (try dsimp only); (try k_fold)))
  k_with "call ref" => (
  k_here
  (with_reducible show wpAny _ _ (call (Value.ref 108) [Value.str _ _, Value.int _ _]) _ _ _)
  (k_dflt (refine' Mine.Con.useP (Mine.con_bare _ _ _ _ _ _ ?hc ?h0 ?hl ?hx ?hp) ?k1 ?k2 ?k3 ?k4 ?k5 ?kK ?kd ?ku ?_))
  (case hc => assumption)
  (case h0 => omega)
  (case hl => omega)
  (case hx => assumption)
  (case hp => assumption)
  (case k1 => k_asm); (case k2 => k_asm); (case k3 => k_asm); (case k4 => k_asm); (case k5 => k_asm); (case kK => first | exact rfl | assumption); (case kd => ktr_room); (case ku => ktr_units)
  (intro y9 a9 t9 u9 h9 tk9 e9 F9 N9 l9; (try (k_lt l9)); (try dsimp only); (try k_fold)))
  trivial
theorem con_find_braced {w mean mg mb news} (c : Str) (t : Tok) (k : Int) (u : Tok) (q : Int) (j : Nat) (hc : c.length ≤ 4096) (h0 : 0 ≤ k) (hkq : k ≤ q) (hq : q < c.length) (hbl : ∀ i : Int, k ≤ i → i < q → isBlankS (Txt.item c i) = true)
    (hnb : isBlankS (Txt.item c q) = false) (hob : (Txt.item c q == Str.ofString "{") = true) (hb : brk 1 ((sg c).drop (q + 1).toNat) = some j) (hB : q + 1 + j + 1 < (c.length : Int) → isBlankS (Txt.item c (q + 1 + j + 1)) = true) :
    Con w mean mg mb 115 8 news [.str c t, .int k u] (PairOut (S (((sg c).drop (q + 1).toNat).take j)) (q + 1 + j + 1)) := by
  walk_at "con in0"
  k_dflt (refine' code_def (binds := [(Str.ofString "text", .str c t), (Str.ofString "at", .int k u)]) ?k1 ?k2 ?k3 ?k4 ?k5 ?kA ?kF ?kK ?k6 ?k7 ?k8 ?k9 ?kB ?_ ?c2 ?c3 ?c4 ?c5; walk_at "con args")
  walk_at "steps"
  k_with "state" => (refine ⟨by omega, by omega, ?_⟩; first | omega | exact f_yes (by assumption) (by assumption) (by assumption))
  k_while (fun _ (at' : Int) => 0 ≤ at' ∧ k ≤ at' ∧ at' ≤ q) (fun _ at' => ((c.length : Int) - at').toNat) "at"
  walk_at "steps"
  walk_at "con end1"
  exact fp_ret (by assumption)
theorem con_find_bare {w mean mg mb news} (c : Str) (t : Tok) (k : Int) (u : Tok) (q : Int) (x : List Nat) (e : Int) (hc : c.length ≤ 4096) (h0 : 0 ≤ k) (hkq : k ≤ q) (hq : q < c.length) (hbl : ∀ i : Int, k ≤ i → i < q → isBlankS (Txt.item c i) = true)
    (hnb : isBlankS (Txt.item c q) = false) (hob : (Txt.item c q == Str.ofString "{") = false) (hdq : (Txt.item c q == Str.ofString "\"") = false) (hx : x.length ≤ 4096) (hp : bareP c e x q []) :
    Con w mean mg mb 115 8 news [.str c t, .int k u] (PairOut (S x) e) := by
  walk_at "con in0"
  k_dflt (refine' code_def (binds := [(Str.ofString "text", .str c t), (Str.ofString "at", .int k u)]) ?k1 ?k2 ?k3 ?k4 ?k5 ?kA ?kF ?kK ?k6 ?k7 ?k8 ?k9 ?kB ?_ ?c2 ?c3 ?c4 ?c5; walk_at "con args")
  walk_at "steps"
  k_with "state" => (refine ⟨by omega, by omega, ?_⟩; first | omega | exact f_yes (by assumption) (by assumption) (by assumption))
  k_while (fun _ (at' : Int) => 0 ≤ at' ∧ k ≤ at' ∧ at' ≤ q) (fun _ at' => ((c.length : Int) - at').toNat) "at"
  walk_at "steps"
  walk_at "con end1"
  exact fp_ret (by assumption)
end Mine
end PartPd
section PartPe
namespace Mine
/-- the elements that lie from a place on -/
inductive Reads (c : Str) : Int → List (List Nat) → Prop
  | nil {k : Int} : 0 ≤ k → k ≤ c.length → (∀ i : Int, k ≤ i → i < c.length → isBlankS (Txt.item c i) = true) → Reads c k []
  | braced {k q : Int} {j : Nat} {xs : List (List Nat)} : 0 ≤ k → k ≤ q → q < c.length → (∀ i : Int, k ≤ i → i < q → isBlankS (Txt.item c i) = true) → isBlankS (Txt.item c q) = false → (Txt.item c q == Str.ofString "{") = true →
      brk 1 ((sg c).drop (q + 1).toNat) = some j → (q + 1 + j + 1 < (c.length : Int) → isBlankS (Txt.item c (q + 1 + j + 1)) = true) → Reads c (q + 1 + j + 1) xs → Reads c k (((sg c).drop (q + 1).toNat).take j :: xs)
  | bare {k q e : Int} {x : List Nat} {xs : List (List Nat)} : 0 ≤ k → k ≤ q → q < c.length → (∀ i : Int, k ≤ i → i < q → isBlankS (Txt.item c i) = true) → isBlankS (Txt.item c q) = false → (Txt.item c q == Str.ofString "{") = false → (Txt.item c q == Str.ofString "\"") = false →
      x.length ≤ 4096 → bareP c e x q [] → Reads c e xs → Reads c k (x :: xs)
theorem Con.mono {w : World} {mean : ExcName → Option Value} {mg mb : Str → Option Value} {f : Addr} {k : Nat} {news : Led} {vs : List Value} {Out Out' : Value → Led → Prop} (C : Con w mean mg mb f k news vs Out) (h : ∀ r tl, Out r tl → Out' r tl) : Con w mean mg mb f k news vs Out' := by
  intro dp un gd cn cs a ccd cl outer A₀ base h₀ L m s Q E B F X N T hk hd hu hret
  exact C dp un gd cn cs a ccd cl outer A₀ base h₀ L m s Q E B F X N T hk hd hu (fun r tl h' tk' F' N' hl ho => hret r tl h' tk' F' N' hl (h r tl ho))
def FindOut (c : Str) (xs : List (List Nat)) (r : Value) (tl : Led) : Prop := (xs = [] ∧ r = .none ∧ tl = []) ∨ ∃ x e xs', xs = x :: xs' ∧ Reads c e xs' ∧ PairOut (S x) e r tl
theorem con_find {w mean mg mb news} (c : Str) (t : Tok) (k : Int) (u : Tok) (xs : List (List Nat)) (hc : c.length ≤ 4096) (h : Reads c k xs) : Con w mean mg mb 115 8 news [.str c t, .int k u] (FindOut c xs) := by
  cases h with
  | nil h0 h1 h2 => exact (con_find_none c t k u hc h0 h1 h2).mono fun r tl ho => .inl ⟨rfl, ho.1, ho.2⟩
  | braced h0 h1 h2 h3 h4 h5 h6 h7 h8 => exact (con_find_braced c t k u _ _ hc h0 h1 h2 h3 h4 h5 h6 h7).mono fun r tl ho => .inr ⟨_, _, _, rfl, h8, ho⟩
  | bare h0 h1 h2 h3 h4 h5 h6 h7 h8 h9 => exact (con_find_bare c t k u _ _ _ hc h0 h1 h2 h3 h4 h5 h6 h7 h8).mono fun r tl ho => .inr ⟨_, _, _, rfl, h9, ho⟩
theorem Con.useF {w : World} {mean : ExcName → Option Value} {mg mb : Str → Option Value} {f : Addr} {k : Nat} {news : Led} {vs : List Value} {c : Str} {xs : List (List Nat)}
    (C : Con w mean mg mb f k news vs (FindOut c xs))
    {dp un : Nat} {gd : Option (List Code)} {cn : Str} {cs : Scope} {a : Addr} {ccd : Value} {cl : List (Str × Addr)} {outer : List Env} {A₀ : Around} {base h₀ : Heap} {L : Addr} {m : Str → Option Value} {s : Shared} {Q E : Value → Shared → Prop}
    (B : Below A₀ base outer h₀) (F : Fr h₀ L s.heap m) (X : (hd.heap_39 w.params).In h₀) (N : News h₀ L s.heap news) (T : Top hd.view_39 LO mean mg mb h₀) (hk : cs.kind = .function) (hd : dp + k < recursionLimit) (hu : un + 8 * k < cLine)
    (ret0 : ∀ h' tk', xs = [] → Fr h₀ L h' m → News h₀ L h' news → Q .none { s with heap := h', toks := tk' })
    (ret1 : ∀ x e xs' a t' u' h' tk', xs = x :: xs' → Reads c e xs' → Fr h₀ L h' m → News h₀ L h' ((a, { cls := .type "tuple", data := .seq #[.str (S x) t', .int e u'] }) :: news) → (∀ q ∈ news, q.1 < a) → Q (.ref a) { s with heap := h', toks := tk' }) :
    wpAny (model PySem.Challenge.rw_np0133_01.row.prog w) (ktrTop dp un gd cn cs L a ccd cl outer) (call (.ref f) vs) Q E s := by
  refine C _ _ _ _ _ _ _ _ _ _ _ _ _ _ _ _ _ B F X N T hk hd hu ?_
  rintro r tl h' tk' F' N' hlt (⟨hx, rfl, rfl⟩ | ⟨x, e, xs', hx, hr, a, t', u', rfl, rfl⟩)
  · rw [List.append_nil] at N'
    exact ret0 h' tk' hx F' N'
  · refine ret1 x e xs' a t' u' h' tk' hx hr F' (fun p hp => ?_) (fun q hq => hlt q hq _ (List.mem_singleton.mpr rfl))
    rcases List.mem_cons.mp hp with h | h
    · exact N' p (List.mem_append.mpr (.inr (List.mem_singleton.mpr h)))
    · exact N' p (List.mem_append.mpr (.inl h))
/-- the pair that is at hand: its place, its text, where it ends, two tokens -/
abbrev Pend := Option (Addr × List Nat × Int × Tok × Tok)
abbrev SlS := List Value × List Str × Nat × Pend
def slLed (l : Addr) (rest : Led) : SlS → Led
  | (us, _, n, none) => (l, PySem.W.listOf us.toArray n) :: rest
  | (us, _, n, some (a, x, e, t, u)) => (a, { cls := .type "tuple", data := .seq #[.str (S x) t, .int e u] }) :: (l, PySem.W.listOf us.toArray n) :: rest
def slVal : Pend → Value
  | none => .none
  | some (a, _) => .ref a
def slP (c : Str) (xs : List (List Nat)) (l : Addr) (rest : Led) : SlS → Prop
  | (_, ws, _, none) => ws.map sg = xs
  | (_, ws, _, some (a, x, e, _, _)) => (∃ r, Reads c e r ∧ ws.map sg ++ x :: r = xs) ∧ l < a ∧ ∀ q ∈ rest, q.1 < a
def slM (xs : List (List Nat)) : SlS → Nat
  | (_, _, _, none) => 0
  | (_, ws, _, some _) => 1 + (xs.length - ws.length)
section
variable {prog : Program} {w : World} {A : Around} {E : Value → Shared → Prop} {Q : Flow → Shared → Prop} {s : Shared} {env : Env} {h₀ : Heap} {L l : Addr} {rest : Led}
theorem sl_while {test : Expr} {body : List Stmt} {pos : Pos} {m₀ : Str → Option Value} (c : Str) (xs : List (List Nat)) (k : Nat) (pend : Pend)
    (F : Fr h₀ L s.heap m₀) (N : News h₀ L s.heap (slLed l rest ([], [], k, pend))) (hk : m₀ (Str.ofString "found") = some (slVal pend)) (hp : slP c xs l rest ([], [], k, pend))
    (t0 : ∀ (us : List Value) (ws : List Str) (n : Nat) (u : Str → Option Value) h tk, PySem.W.KstMark → StrsAre us ws → us.length = ws.length → ws.map sg = xs →
      Fr h₀ L h (fun z => if z = Str.ofString "found" then some .none else if ([] : List Str).contains z then u z else m₀ z) → News h₀ L h ((l, PySem.W.listOf us.toArray n) :: rest) →
      wpAny (model prog w) A (isTrue test env (eval test env)) (fun b s₂ =>
        if b = true then wpAny (model prog w) A (execs body env) (PySem.W.KswPost h₀ L s (slLed l rest) (fun c => [(Str.ofString "found", slVal c.2.2.2)]) (fun c => StrsAre c.1 c.2.1) [] m₀ (slP c xs l rest) (slM xs) Q (us, ws, n, none)) E s₂ else Q .next s₂) E { s with heap := h, toks := tk })
    (t1 : ∀ (us : List Value) (ws : List Str) (n : Nat) (a : Addr) (x : List Nat) (e : Int) (t v : Tok) (r : List (List Nat)) (u : Str → Option Value) h tk, PySem.W.KstMark → StrsAre us ws → us.length = ws.length → Reads c e r → ws.map sg ++ x :: r = xs → ws.length < xs.length → @LT.lt Nat _ l a ∧ PySem.W.AllLt a rest →
      Fr h₀ L h (fun z => if z = Str.ofString "found" then some (.ref a) else if ([] : List Str).contains z then u z else m₀ z) → News h₀ L h ((a, { cls := .type "tuple", data := .seq #[.str (S x) t, .int e v] }) :: (l, PySem.W.listOf us.toArray n) :: rest) →
      wpAny (model prog w) A (isTrue test env (eval test env)) (fun b s₂ =>
        if b = true then wpAny (model prog w) A (execs body env) (PySem.W.KswPost h₀ L s (slLed l rest) (fun c => [(Str.ofString "found", slVal c.2.2.2)]) (fun c => StrsAre c.1 c.2.1) [] m₀ (slP c xs l rest) (slM xs) Q (us, ws, n, some (a, x, e, t, v))) E s₂ else Q .next s₂) E { s with heap := h, toks := tk })
    (hE : PassesOwn (model prog w) A env E := by passes_own) :
    wpAny (model prog w) A (exec (.While test body [] pos) env) Q E s := by
  refine PySem.W.ksw_while (σ := SlS) (slLed l rest) (fun c => [(Str.ofString "found", slVal c.2.2.2)]) (fun c => StrsAre c.1 c.2.1) [] (slP c xs l rest) (slM xs) ([], [], k, pend) F N .nil (fun p hp => by rw [List.mem_singleton.mp hp]; exact hk) hp ?_ hE
  rintro ⟨us, ws, n, pend⟩ u h tk hf hp' F' N'
  cases pend with
  | none => exact t0 us ws n u h tk PySem.W.kstMark hf (strs_len hf) hp' F' N'
  | some p =>
    obtain ⟨a, x, e, t, v⟩ := p
    obtain ⟨⟨r, hr, hx⟩, hl, ho⟩ := hp'
    refine t1 us ws n a x e t v r u h tk PySem.W.kstMark hf (strs_len hf) hr hx ?_ ⟨hl, PySem.W.allLt_of ho⟩ F' N'
    have := congrArg List.length hx
    simp only [List.length_append, List.length_map, List.length_cons] at this
    omega
end
end Mine
end PartPe
section PartPf
theorem Mine.wPf : True := by
  k_with_none
  k_with "con in" => (
  w_top off
  unfold Mine.Con
  k_fill
  intro dp un gd cn cs a ccd cl outer A₀ base h₀ L m s Q E B F X N T hk hd hu hret
  refine wpAny_call ?_
  k_dflt cell_enter)
  k_with "con in0" => (
  w_top off
  unfold Mine.Con
  k_fill
  intro dp un gd cn cs a ccd cl outer A₀ base h₀ L m s Q E B F X N T hk hd hu hret
  refine wpAny_call ?_)
  k_with "con args" => (
  (case kA => exact rfl); (case kF => exact rfl); (case kK => assumption); (case k1 => k_asm); (case k2 => k_asm); (case k3 => k_asm); (case k4 => k_asm); (case k5 => k_asm); (case k6 => k_is); (case k7 => k_is); (case k8 => ktr_room); (case k9 => first | exact BindsTo.of_eq rfl | exact binds_K (by k_in) rfl (by k_is) rfl rfl rfl); (case c5 => decide); (case kB => exact locs rfl); (case c2 => exact rfl); (case c3 => exact rfl); (case c4 => exact rfl); k_whole; intro g' L' h' FG' F' N' B' X' T'; (try dsimp only); (try k_fold))
  k_with "con end" => (
  refine Mine.end0 hret (by k_asm) (by k_asm) (by first | exact Mine.sub_all (by intro p hp; repeat (first | exact hp | refine List.mem_cons_of_mem _ ?_)) | exact Mine.sub_all (by kst_inAny)) ?_)
  k_with "con use0" => (
  (case k1 => k_asm); (case k2 => k_asm); (case k3 => k_asm); (case k4 => k_asm); (case k5 => k_asm); (case kK => first | exact rfl | assumption); (case kd => ktr_room); (case ku => ktr_units))
  k_with "call ref" => (
  k_here
  (show wpAny _ _ (call (Value.ref 52) [Value.str _ _]) _ _ _)
  (k_dflt (refine' Mine.Con.use0 (Mine.con_is_blank _ _) ?k1 ?k2 ?k3 ?k4 ?k5 ?kK ?kd ?ku ?_; (case k1 => k_asm); (case k2 => k_asm); (case k3 => k_asm); (case k4 => k_asm); (case k5 => k_asm); (case kK => first | exact rfl | assumption); (case kd => ktr_room); (case ku => ktr_units)))
  (intro r9 h9 tk9 F9 N9 hr9; subst hr9; (try dsimp only); (try k_fold)))
  k_with "step" => (first
  | (k_unfold; (try dsimp only))
  | (refine Mine.ap2 ?_; k_unfold; (try dsimp only))
  | (k_end; kc_close)
  | ((fail_if_success (with_reducible show wpAny _ _ (exec (Stmt.While _ _ _ _) _) _ _ _)); first | walk1 | (dsimp only; walk1))
  | (leave1; (try dsimp only))
  | fail "no step")
  k_with "steps" => repeat' walk_at "step"
  k_with "eval BoolOp" => (
  k_here
  (k_dflt (first
   | (refine' Mine.or_names ?k1 ?k2 ?k3 ?_; (case k1 => k_asm); (case k2 => rfl); (case k3 => rfl))
   | (refine' Mine.and_name_eq ?k1 ?k2 ?k3 ?_; (case k1 => k_asm); (case k2 => rfl); (case k3 => rfl))))
  k_whole)
  k_with "drop" => (
  (rename News _ _ _ _ => nX)
  (have nY := cb_drop (news := news) nX (by intro p hp; repeat (first | exact hp | refine List.mem_cons_of_mem _ ?_)))
  (clear nX))
  k_with "KswEnd" => (
  (rename News _ _ _ _ => nE')
  (try simp only [List.push_toArray] at nE')
  (first
    | (refine' ksw_end ⟨_,_,_,_,_,_,_⟩ ?e1 nE' ?e2 ?e3 ?e4 ?e5 ?e6 ?e7)
    | (refine' ksw_end ⟨_,_,_,_⟩ ?e1 nE' ?e2 ?e3 ?e4 ?e5 ?e6 ?e7)
    | (refine' ksw_end ⟨_,_⟩ ?e1 nE' ?e2 ?e3 ?e4 ?e5 ?e6 ?e7)
    | (refine' ksw_end ⟨_,_,_,_,_⟩ ?e1 nE' ?e2 ?e3 ?e4 ?e5 ?e6 ?e7))
  (case e1 => assumption)
  (case e2 => first | exact Mine.sub_all (by intro p hp; repeat (first | exact hp | refine List.mem_cons_of_mem _ ?_)) | kst_in)
  (case e3 => kst_facts)
  (case e4 => kst_all)
  (case e5 => ksw_same)
  (case e6 => kst_p)
  (case e7 => ksw_less))
  k_with "exec If" => refine wpAny_If ?_
  k_with "call ref" => (
  k_here
  (k_dflt (first
   | ((show wpAny _ _ (call (Value.ref 129) [Value.str _ _, Value.bool _]) _ _ _); refine' Mine.Con.useS (Mine.con_mode_of _ _ _ ?hc) ?k1 ?k2 ?k3 ?k4 ?k5 ?kK ?kd ?ku ?_)
   | ((show wpAny _ _ (call (Value.ref 136) [Value.str _ _, Value.bool _]) _ _ _); refine' Mine.Con.useS (Mine.con_escaped _ _ _) ?k1 ?k2 ?k3 ?k4 ?k5 ?kK ?kd ?ku ?_)))
  (try (case hc => first | assumption | omega))
  (case k1 => k_asm); (case k2 => k_asm); (case k3 => k_asm); (case k4 => k_asm); (case k5 => k_asm); (case kK => first | exact rfl | assumption); (case kd => ktr_room); (case ku => ktr_units)
  (intro x9 t9 h9 tk9 e9 F9 N9; (try dsimp only); (try k_fold)))
  k_with "call builtin:str.join" => (
  k_here
  (k_dflt (first
   | ((with_reducible show wpAny _ _ (call (Value.builtin "str.join") [Value.str (Str.ofString "") _, Value.ref _]) _ _ _); refine' Mine.join0_at ?k1 ?k2 ?k3 ?k4 ?k5 ?_)
   | ((with_reducible show wpAny _ _ (call (Value.builtin "str.join") [Value.str (Str.ofString " ") _, Value.ref _]) _ _ _); refine' Mine.joinB_at ?k1 ?k2 ?k3 ?k4 ?k5 ?_)))
  (case k1 => k_asm); (case k2 => k_memK); (case k3 => k_asm); (case k4 => first | assumption | exact rfl); (case k5 => walk_at "join size")
  (intro t9 k9; (try dsimp only); (try k_fold)))
  k_with "call ref" => (
  k_here
  (with_reducible show wpAny _ _ (call (Value.ref 129) [Value.str (Str.ofString "") _, Value.bool _]) _ _ _)
  (k_dflt (refine' Mine.Con.use0 (Mine.con_mode_of0 _ _) ?k1 ?k2 ?k3 ?k4 ?k5 ?kK ?kd ?ku ?_))
  (case k1 => k_asm); (case k2 => k_asm); (case k3 => k_asm); (case k4 => k_asm); (case k5 => k_asm); (case kK => first | exact rfl | assumption); (case kd => ktr_room); (case ku => ktr_units)
  (intro r9 h9 tk9 F9 N9 hr9; (obtain ⟨t9, hr9⟩ := hr9); subst hr9; (try dsimp only); (try k_fold)))
  k_with "con argsC" => (
  (case kA => exact rfl); (case kF => exact rfl); (case kK => assumption); (case k1 => k_asm); (case k2 => k_asm); (case k3 => k_asm); (case k4 => k_asm); (case k5 => k_asm); (case k6 => k_is); (case k7 => k_is); (case k8 => ktr_room); (case k9 => first | exact BindsTo.of_eq rfl | exact binds_K (by k_in) rfl (by k_is) rfl rfl rfl); (case kB => exact rfl); (case kD => decide +kernel); (case c2 => exact rfl); (case c3 => exact rfl); (case c4 => exact rfl); k_whole; intro g' L' h' tk' cells' FG' F' N' Y' B' X' T' l1; (try k_lt l1); k_cells Y'; (try simp only [List.cons_append, List.nil_append] at N'); (try dsimp only); (try k_fold))
  k_with "call ref" => (
  k_here
  (k_dflt (first
   | ((show wpAny _ _ (call (Value.ref 158) [Value.str _ _]) _ _ _); refine' Mine.Con.useS (Mine.con_trim _ _ ?hc) ?k1 ?k2 ?k3 ?k4 ?k5 ?kK ?kd ?ku ?_)
   | ((show wpAny _ _ (call (Value.ref 205) [Value.str _ _]) _ _ _); refine' Mine.Con.useS (Mine.con_law_trimmed _ _ ?hc) ?k1 ?k2 ?k3 ?k4 ?k5 ?kK ?kd ?ku ?_)
   | ((show wpAny _ _ (call (Value.ref 144) [Value.str _ _, Value.bool _]) _ _ _); refine' Mine.Con.useS (Mine.con_quote _ _ _ ?hc) ?k1 ?k2 ?k3 ?k4 ?k5 ?kK ?kd ?ku ?_)
   | ((show wpAny _ _ (call (Value.ref 144) [Value.str _ _]) _ _ _); refine' Mine.Con.useS (Mine.con_quoteD _ _ ?hc) ?k1 ?k2 ?k3 ?k4 ?k5 ?kK ?kd ?ku ?_)
   | ((show wpAny _ _ (call (Value.ref 193) [Value.str _ _, Value.bool _]) _ _ _); refine' Mine.Con.useS (Mine.con_law_mode _ _ _ ?hc) ?k1 ?k2 ?k3 ?k4 ?k5 ?kK ?kd ?ku ?_)))
  (try (case hc => first | assumption | omega))
  (case k1 => k_asm); (case k2 => k_asm); (case k3 => k_asm); (case k4 => k_asm); (case k5 => k_asm); (case kK => first | exact rfl | assumption); (case kd => ktr_room); (case ku => ktr_units)
  (intro x9 t9 h9 tk9 e9 F9 N9; (try (first | (have z9 := Mine.trim_fact e9) | (have z9 := Mine.quote_fact e9))); (try dsimp only); (try k_fold)))
  k_with "for texts" => (k_here; (rename Fr _ _ _ _ => lF'); (with_unfolding_all refine' For_invVF lF' ?k1 ?k2 ?_; (case k1 => exact rfl); (case k2 => exact rfl); k_whole))
  k_with "call ref" => (
  k_here
  (k_dflt (first
   | ((show wpAny _ _ (call (Value.ref 165) [Value.str _ _]) _ _ _); refine' Mine.Con.useS (Mine.con_concat_part _ _ ?hc) ?k1 ?k2 ?k3 ?k4 ?k5 ?kK ?kd ?ku ?_)
   | ((show wpAny _ _ (call (Value.ref 212) [Value.str _ _]) _ _ _); refine' Mine.Con.useS (Mine.con_law_part _ _ ?hc) ?k1 ?k2 ?k3 ?k4 ?k5 ?kK ?kd ?ku ?_)
   | ((show wpAny _ _ (call (Value.ref 200) [Value.str _ _, Value.bool _]) _ _ _); refine' Mine.Con.useS (Mine.con_law_written _ _ _ ?hc) ?k1 ?k2 ?k3 ?k4 ?k5 ?kK ?kd ?ku ?_)))
  (try (case hc => first | assumption | omega))
  (case k1 => k_asm); (case k2 => k_asm); (case k3 => k_asm); (case k4 => k_asm); (case k5 => k_asm); (case kK => first | exact rfl | assumption); (case kd => ktr_room); (case ku => ktr_units)
  (intro x9 t9 h9 tk9 e9 F9 N9; (try (first | (have z9 := Mine.part_fact e9) | (have z9 := Mine.quote_fact e9))); (try dsimp only); (try k_fold)))
  k_with "call ref" => (
  k_here
  (k_dflt (first
   | ((show wpAny _ _ (call (Value.ref 151) [Value.ref _]) _ _ _); refine' Mine.Con.useS (Mine.con_join_list ?hT ?hi ?hm ?hB ?hn) ?k1 ?k2 ?k3 ?k4 ?k5 ?kK ?kd ?ku ?_)
   | ((show wpAny _ _ (call (Value.ref 172) [Value.ref _]) _ _ _); refine' Mine.Con.useS (Mine.con_concat ?hT ?hi ?hm ?hB ?hn) ?k1 ?k2 ?k3 ?k4 ?k5 ?kK ?kd ?ku ?_)
   | ((show wpAny _ _ (call (Value.ref 179) [Value.ref _]) _ _ _); refine' Mine.Con.useS (Mine.con_code_text ?hT ?hi ?hm ?hB ?hn) ?k1 ?k2 ?k3 ?k4 ?k5 ?kK ?kd ?ku ?_)))
  (case hT => first | assumption | exact ⟨_, .inl rfl⟩ | exact ⟨_, .inr rfl⟩)
  (case hi => assumption)
  (case hm => first | assumption | k_memK)
  (case hB => assumption)
  (case hn => first | assumption | omega)
  (case k1 => k_asm); (case k2 => k_asm); (case k3 => k_asm); (case k4 => k_asm); (case k5 => k_asm); (case kK => first | exact rfl | assumption); (case kd => ktr_room); (case ku => ktr_units)
  (intro x9 t9 h9 tk9 e9 F9 N9; (try dsimp only); (try k_fold)))
  k_with "binaryOp Add str str" => (
  k_here
  (with_reducible show wpAny _ _ (binaryOp Operator.Add (Value.str (Str.ofString _) _) (Value.str (Str.ofString _) _)) _ _ _)
  (refine' PyProof.Rows.SBL.add ?_ ?z)
  (case z => decide +kernel)
  (intro t9 k9 z9))
  k_with "call builtin:str.replace" => (
  k_here
  (with_reducible show wpAny _ _ (call (Value.builtin "str.replace") [Value.str _ _, Value.str _ _, Value.str _ _]) _ _ _)
  (walk_at "replace by"))
  k_with "con end1" => (
  refine Mine.end1 hret (by k_asm) (by k_asm) (by first | exact Mine.sub_all (by intro p hp; repeat (first | exact hp | refine List.mem_cons_of_mem _ ?_)) | exact Mine.sub_all (by kst_inAny)) (by k_memK)
    (by first | assumption | exact PySem.W.kst_ltOf (by first | exact And.right (by assumption) | exact And.right (And.right (by assumption)) | exact And.right (And.right (And.right (by assumption))) | exact And.right (And.right (And.right (And.right (by assumption)))))) ?_)
  trivial
namespace Mine
/-- a list of texts, left behind -/
def ListOut (xs : List (List Nat)) (r : Value) (tl : Led) : Prop := ∃ l us ws n, r = .ref l ∧ tl = [(l, PySem.W.listOf us.toArray n)] ∧ StrsAre us ws ∧ ws.map sg = xs
theorem Mine.wPf0 : True := by
  k_with "call ref" => (
  k_here
  (with_reducible show wpAny _ _ (call (Value.ref 115) [Value.str _ _, Value.int _ _]) _ _ _)
  (k_dflt (refine' Mine.Con.useF (Mine.con_find _ _ _ _ _ ?hc ?hR) ?k1 ?k2 ?k3 ?k4 ?k5 ?kK ?kd ?ku ?_ ?_))
  (case hc => assumption)
  (case hR => assumption)
  (case k1 => k_asm); (case k2 => k_asm); (case k3 => k_asm); (case k4 => k_asm); (case k5 => k_asm); (case kK => first | exact rfl | assumption); (case kd => ktr_room); (case ku => ktr_units)
  (all_goals first
    | (intro x9 e9 xs9 a9 t9 u9 h9 tk9 hx9 hr9 F9 N9 l9; (try (k_lt l9)))
    | (intro h9 tk9 hx9 F9 N9))
  (all_goals (try dsimp only))
  (all_goals (try k_fold)))
  k_with "sl intro" => (
  (all_goals clear lF' lN')
  (case' t0 => intro us ws n u h tk hmk hus hlen hws FF NN)
  (case' t1 => intro us ws n aa xx ee tt vv rr u h tk hmk hus hlen hrr hws hlt hal FF NN)
  (all_goals (try dsimp only))
  (all_goals (try k_fold)))
  k_with "sl intro2" => (
  (all_goals clear lF' lN')
  (case' z0 => intro us ws n u h tk hmk hus hlen hws FF NN)
  (case' z1 => intro us ws n aa xx ee tt vv rr u h tk hmk hus hlen hrr hws hlt hal FF NN)
  (all_goals (try dsimp only))
  (all_goals (try k_fold)))
  trivial
theorem sl_e0 {ws : List Str} {x : List Nat} {r xs : List (List Nat)} (h : ws.map sg ++ x :: r = xs) (hr : r = []) : (ws ++ [S x]).map sg = xs := by
  rw [← h, hr, List.map_append, List.map_cons, List.map_nil, sg_S]
theorem sl_e1 {ws : List Str} {x y : List Nat} {r r' xs : List (List Nat)} (h : ws.map sg ++ x :: r = xs) (hr : r = y :: r') : (ws ++ [S x]).map sg ++ y :: r' = xs := by
  rw [← h, hr, List.map_append, List.map_cons, List.map_nil, sg_S, List.append_assoc]
  rfl
theorem Mine.wPf1 : True := by
  k_with "sl end0" => (
  (rename News _ _ _ _ => nE')
  (try simp only [List.push_toArray] at nE')
  (refine PySem.W.ksw_end (us ++ [Value.str (S xx) tt], ws ++ [S xx], n + 1, none) (by assumption) nE' ?e2 ?e3 ?e4 ?e5 ?e6 ?e7)
  (case e2 => exact fun p hp => List.mem_cons_of_mem _ hp)
  (case e3 => exact hus.append' (.cons _ _ .nil))
  (case e4 => kst_all)
  (case e5 => ksw_same)
  (case e6 => exact sl_e0 hws hx9)
  (case e7 => (dsimp only [slM]; omega)))
  k_with "sl end1" => (
  (rename News _ _ _ _ => nE')
  (try simp only [List.push_toArray] at nE')
  (refine PySem.W.ksw_end (us ++ [Value.str (S xx) tt], ws ++ [S xx], n + 1, some (a9, x9, e9, t9, u9)) (by assumption) nE' ?f2 ?f3 ?f4 ?f5 ?f6 ?f7)
  (case f2 => exact fun p hp => (List.mem_cons.mp hp).elim (fun h => h ▸ List.mem_cons_self ..) (fun h => List.mem_cons_of_mem _ (List.mem_cons_of_mem _ h)))
  (case f3 => exact hus.append' (.cons _ _ .nil))
  (case f4 => kst_all)
  (case f5 => ksw_same)
  (case f6 => exact ⟨⟨xs9, hr9, sl_e1 hws hx9⟩, l9.2.1, PySem.W.kst_ltOf l9.2.2⟩)
  (case f7 => (dsimp only [slM]; rw [List.length_append, List.length_cons, List.length_nil]; omega)))
  trivial
theorem con_split {w mean mg mb news} (c : Str) (t : Tok) (xs : List (List Nat)) (hc : c.length ≤ 4096) (hn : xs.length ≤ 16) (hr : Reads c 0 xs) : Con w mean mg mb 122 10 news [.str c t] (ListOut xs) := by
  walk_at "con in0"
  k_dflt (refine' code_def (binds := [(Str.ofString "text", .str c t)]) ?k1 ?k2 ?k3 ?k4 ?k5 ?kA ?kF ?kK ?k6 ?k7 ?k8 ?k9 ?kB ?_ ?c2 ?c3 ?c4 ?c5; walk_at "con args")
  walk_at "steps"
  all_goals (rename Fr _ _ _ _ => lF'; rename News _ _ _ _ => lN')
  all_goals first
    | (refine' sl_while c xs 0 (some (a9, x9, e9, t9, u9)) lF' lN' rfl ⟨⟨xs9, hr9, hx9.symm⟩, l9.1, PySem.W.kst_ltOf l9.2⟩ ?z0 ?z1; walk_at "sl intro2")
    | (refine' sl_while c xs 0 none lF' lN' rfl (hx9.symm) ?t0 ?t1; walk_at "sl intro")
  all_goals walk_at "steps"
  all_goals first
    | (walk_at "con end1"; exact ⟨_, us, ws, n, rfl, rfl, hus, hws⟩)
    | ((show PySem.W.KswEnd _ _ _ _ _ _ _ _ _ _ _ _); walk_at "sl end0")
    | ((show PySem.W.KswEnd _ _ _ _ _ _ _ _ _ _ _ _); walk_at "sl end1")
end Mine
end PartPf
section PartQd
theorem Mine.wQd : True := by
  k_with_none
  k_with "con in" => (
  w_top off
  unfold Mine.Con
  k_fill
  intro dp un gd cn cs a ccd cl outer A₀ base h₀ L m s Q E B F X N T hk hd hu hret
  refine wpAny_call ?_
  k_dflt cell_enter)
  k_with "con in0" => (
  w_top off
  unfold Mine.Con
  k_fill
  intro dp un gd cn cs a ccd cl outer A₀ base h₀ L m s Q E B F X N T hk hd hu hret
  refine wpAny_call ?_)
  k_with "con args" => (
  (case kA => exact rfl); (case kF => exact rfl); (case kK => assumption); (case k1 => k_asm); (case k2 => k_asm); (case k3 => k_asm); (case k4 => k_asm); (case k5 => k_asm); (case k6 => k_is); (case k7 => k_is); (case k8 => ktr_room); (case k9 => first | exact BindsTo.of_eq rfl | exact binds_K (by k_in) rfl (by k_is) rfl rfl rfl); (case c5 => decide); (case kB => exact locs rfl); (case c2 => exact rfl); (case c3 => exact rfl); (case c4 => exact rfl); k_whole; intro g' L' h' FG' F' N' B' X' T'; (try dsimp only); (try k_fold))
  k_with "con end" => (
  refine Mine.end0 hret (by k_asm) (by k_asm) (by first | exact Mine.sub_all (by intro p hp; repeat (first | exact hp | refine List.mem_cons_of_mem _ ?_)) | exact Mine.sub_all (by kst_inAny)) ?_)
  k_with "con use0" => (
  (case k1 => k_asm); (case k2 => k_asm); (case k3 => k_asm); (case k4 => k_asm); (case k5 => k_asm); (case kK => first | exact rfl | assumption); (case kd => ktr_room); (case ku => ktr_units))
  k_with "call ref" => (
  k_here
  (show wpAny _ _ (call (Value.ref 52) [Value.str _ _]) _ _ _)
  (k_dflt (refine' Mine.Con.use0 (Mine.con_is_blank _ _) ?k1 ?k2 ?k3 ?k4 ?k5 ?kK ?kd ?ku ?_; (case k1 => k_asm); (case k2 => k_asm); (case k3 => k_asm); (case k4 => k_asm); (case k5 => k_asm); (case kK => first | exact rfl | assumption); (case kd => ktr_room); (case ku => ktr_units)))
  (intro r9 h9 tk9 F9 N9 hr9; subst hr9; (try dsimp only); (try k_fold)))
  k_with "step" => (first
  | (k_unfold; (try dsimp only))
  | (refine Mine.ap2 ?_; k_unfold; (try dsimp only))
  | (k_end; kc_close)
  | ((fail_if_success (with_reducible show wpAny _ _ (exec (Stmt.While _ _ _ _) _) _ _ _)); first | walk1 | (dsimp only; walk1))
  | (leave1; (try dsimp only))
  | fail "no step")
  k_with "steps" => repeat' walk_at "step"
  k_with "eval BoolOp" => (
  k_here
  (k_dflt (first
   | (refine' Mine.or_names ?k1 ?k2 ?k3 ?_; (case k1 => k_asm); (case k2 => rfl); (case k3 => rfl))
   | (refine' Mine.and_name_eq ?k1 ?k2 ?k3 ?_; (case k1 => k_asm); (case k2 => rfl); (case k3 => rfl))))
  k_whole)
  k_with "drop" => (
  (rename News _ _ _ _ => nX)
  (have nY := cb_drop (news := news) nX (by intro p hp; repeat (first | exact hp | refine List.mem_cons_of_mem _ ?_)))
  (clear nX))
  k_with "KswEnd" => (
  (rename News _ _ _ _ => nE')
  (try simp only [List.push_toArray] at nE')
  (first
    | (refine' ksw_end ⟨_,_,_,_,_,_,_⟩ ?e1 nE' ?e2 ?e3 ?e4 ?e5 ?e6 ?e7)
    | (refine' ksw_end ⟨_,_,_,_⟩ ?e1 nE' ?e2 ?e3 ?e4 ?e5 ?e6 ?e7)
    | (refine' ksw_end ⟨_,_⟩ ?e1 nE' ?e2 ?e3 ?e4 ?e5 ?e6 ?e7)
    | (refine' ksw_end ⟨_,_,_,_,_⟩ ?e1 nE' ?e2 ?e3 ?e4 ?e5 ?e6 ?e7))
  (case e1 => assumption)
  (case e2 => first | exact Mine.sub_all (by intro p hp; repeat (first | exact hp | refine List.mem_cons_of_mem _ ?_)) | kst_in)
  (case e3 => kst_facts)
  (case e4 => kst_all)
  (case e5 => ksw_same)
  (case e6 => kst_p)
  (case e7 => ksw_less))
  k_with "exec If" => refine wpAny_If ?_
  k_with "call ref" => (
  k_here
  (k_dflt (first
   | ((show wpAny _ _ (call (Value.ref 129) [Value.str _ _, Value.bool _]) _ _ _); refine' Mine.Con.useS (Mine.con_mode_of _ _ _ ?hc) ?k1 ?k2 ?k3 ?k4 ?k5 ?kK ?kd ?ku ?_)
   | ((show wpAny _ _ (call (Value.ref 136) [Value.str _ _, Value.bool _]) _ _ _); refine' Mine.Con.useS (Mine.con_escaped _ _ _) ?k1 ?k2 ?k3 ?k4 ?k5 ?kK ?kd ?ku ?_)))
  (try (case hc => first | assumption | omega))
  (case k1 => k_asm); (case k2 => k_asm); (case k3 => k_asm); (case k4 => k_asm); (case k5 => k_asm); (case kK => first | exact rfl | assumption); (case kd => ktr_room); (case ku => ktr_units)
  (intro x9 t9 h9 tk9 e9 F9 N9; (try dsimp only); (try k_fold)))
  k_with "call builtin:str.join" => (
  k_here
  (k_dflt (first
   | ((with_reducible show wpAny _ _ (call (Value.builtin "str.join") [Value.str (Str.ofString "") _, Value.ref _]) _ _ _); refine' Mine.join0_at ?k1 ?k2 ?k3 ?k4 ?k5 ?_)
   | ((with_reducible show wpAny _ _ (call (Value.builtin "str.join") [Value.str (Str.ofString " ") _, Value.ref _]) _ _ _); refine' Mine.joinB_at ?k1 ?k2 ?k3 ?k4 ?k5 ?_)))
  (case k1 => k_asm); (case k2 => k_memK); (case k3 => k_asm); (case k4 => first | assumption | exact rfl); (case k5 => walk_at "join size")
  (intro t9 k9; (try dsimp only); (try k_fold)))
  k_with "call ref" => (
  k_here
  (with_reducible show wpAny _ _ (call (Value.ref 129) [Value.str (Str.ofString "") _, Value.bool _]) _ _ _)
  (k_dflt (refine' Mine.Con.use0 (Mine.con_mode_of0 _ _) ?k1 ?k2 ?k3 ?k4 ?k5 ?kK ?kd ?ku ?_))
  (case k1 => k_asm); (case k2 => k_asm); (case k3 => k_asm); (case k4 => k_asm); (case k5 => k_asm); (case kK => first | exact rfl | assumption); (case kd => ktr_room); (case ku => ktr_units)
  (intro r9 h9 tk9 F9 N9 hr9; (obtain ⟨t9, hr9⟩ := hr9); subst hr9; (try dsimp only); (try k_fold)))
  k_with "con argsC" => (
  (case kA => exact rfl); (case kF => exact rfl); (case kK => assumption); (case k1 => k_asm); (case k2 => k_asm); (case k3 => k_asm); (case k4 => k_asm); (case k5 => k_asm); (case k6 => k_is); (case k7 => k_is); (case k8 => ktr_room); (case k9 => first | exact BindsTo.of_eq rfl | exact binds_K (by k_in) rfl (by k_is) rfl rfl rfl); (case kB => exact rfl); (case kD => decide +kernel); (case c2 => exact rfl); (case c3 => exact rfl); (case c4 => exact rfl); k_whole; intro g' L' h' tk' cells' FG' F' N' Y' B' X' T' l1; (try k_lt l1); k_cells Y'; (try simp only [List.cons_append, List.nil_append] at N'); (try dsimp only); (try k_fold))
  k_with "call ref" => (
  k_here
  (k_dflt (first
   | ((show wpAny _ _ (call (Value.ref 158) [Value.str _ _]) _ _ _); refine' Mine.Con.useS (Mine.con_trim _ _ ?hc) ?k1 ?k2 ?k3 ?k4 ?k5 ?kK ?kd ?ku ?_)
   | ((show wpAny _ _ (call (Value.ref 205) [Value.str _ _]) _ _ _); refine' Mine.Con.useS (Mine.con_law_trimmed _ _ ?hc) ?k1 ?k2 ?k3 ?k4 ?k5 ?kK ?kd ?ku ?_)
   | ((show wpAny _ _ (call (Value.ref 144) [Value.str _ _, Value.bool _]) _ _ _); refine' Mine.Con.useS (Mine.con_quote _ _ _ ?hc) ?k1 ?k2 ?k3 ?k4 ?k5 ?kK ?kd ?ku ?_)
   | ((show wpAny _ _ (call (Value.ref 144) [Value.str _ _]) _ _ _); refine' Mine.Con.useS (Mine.con_quoteD _ _ ?hc) ?k1 ?k2 ?k3 ?k4 ?k5 ?kK ?kd ?ku ?_)
   | ((show wpAny _ _ (call (Value.ref 193) [Value.str _ _, Value.bool _]) _ _ _); refine' Mine.Con.useS (Mine.con_law_mode _ _ _ ?hc) ?k1 ?k2 ?k3 ?k4 ?k5 ?kK ?kd ?ku ?_)))
  (try (case hc => first | assumption | omega))
  (case k1 => k_asm); (case k2 => k_asm); (case k3 => k_asm); (case k4 => k_asm); (case k5 => k_asm); (case kK => first | exact rfl | assumption); (case kd => ktr_room); (case ku => ktr_units)
  (intro x9 t9 h9 tk9 e9 F9 N9; (try (first | (have z9 := Mine.trim_fact e9) | (have z9 := Mine.quote_fact e9))); (try dsimp only); (try k_fold)))
  k_with "for texts" => (k_here; (rename Fr _ _ _ _ => lF'); (with_unfolding_all refine' For_invVF lF' ?k1 ?k2 ?_; (case k1 => exact rfl); (case k2 => exact rfl); k_whole))
  k_with "call ref" => (
  k_here
  (k_dflt (first
   | ((show wpAny _ _ (call (Value.ref 165) [Value.str _ _]) _ _ _); refine' Mine.Con.useS (Mine.con_concat_part _ _ ?hc) ?k1 ?k2 ?k3 ?k4 ?k5 ?kK ?kd ?ku ?_)
   | ((show wpAny _ _ (call (Value.ref 212) [Value.str _ _]) _ _ _); refine' Mine.Con.useS (Mine.con_law_part _ _ ?hc) ?k1 ?k2 ?k3 ?k4 ?k5 ?kK ?kd ?ku ?_)
   | ((show wpAny _ _ (call (Value.ref 200) [Value.str _ _, Value.bool _]) _ _ _); refine' Mine.Con.useS (Mine.con_law_written _ _ _ ?hc) ?k1 ?k2 ?k3 ?k4 ?k5 ?kK ?kd ?ku ?_)))
  (try (case hc => first | assumption | omega))
  (case k1 => k_asm); (case k2 => k_asm); (case k3 => k_asm); (case k4 => k_asm); (case k5 => k_asm); (case kK => first | exact rfl | assumption); (case kd => ktr_room); (case ku => ktr_units)
  (intro x9 t9 h9 tk9 e9 F9 N9; (try (first | (have z9 := Mine.part_fact e9) | (have z9 := Mine.quote_fact e9))); (try dsimp only); (try k_fold)))
  k_with "call ref" => (
  k_here
  (k_dflt (first
   | ((show wpAny _ _ (call (Value.ref 151) [Value.ref _]) _ _ _); refine' Mine.Con.useS (Mine.con_join_list ?hT ?hi ?hm ?hB ?hn) ?k1 ?k2 ?k3 ?k4 ?k5 ?kK ?kd ?ku ?_)
   | ((show wpAny _ _ (call (Value.ref 172) [Value.ref _]) _ _ _); refine' Mine.Con.useS (Mine.con_concat ?hT ?hi ?hm ?hB ?hn) ?k1 ?k2 ?k3 ?k4 ?k5 ?kK ?kd ?ku ?_)
   | ((show wpAny _ _ (call (Value.ref 179) [Value.ref _]) _ _ _); refine' Mine.Con.useS (Mine.con_code_text ?hT ?hi ?hm ?hB ?hn) ?k1 ?k2 ?k3 ?k4 ?k5 ?kK ?kd ?ku ?_)))
  (case hT => first | assumption | exact ⟨_, .inl rfl⟩ | exact ⟨_, .inr rfl⟩)
  (case hi => assumption)
  (case hm => first | assumption | k_memK)
  (case hB => assumption)
  (case hn => first | assumption | omega)
  (case k1 => k_asm); (case k2 => k_asm); (case k3 => k_asm); (case k4 => k_asm); (case k5 => k_asm); (case kK => first | exact rfl | assumption); (case kd => ktr_room); (case ku => ktr_units)
  (intro x9 t9 h9 tk9 e9 F9 N9; (try dsimp only); (try k_fold)))
  k_with "binaryOp Add str str" => (
  k_here
  (with_reducible show wpAny _ _ (binaryOp Operator.Add (Value.str (Str.ofString _) _) (Value.str (Str.ofString _) _)) _ _ _)
  (refine' PyProof.Rows.SBL.add ?_ ?z)
  (case z => decide +kernel)
  (intro t9 k9 z9))
  k_with "call builtin:str.replace" => (
  k_here
  (with_reducible show wpAny _ _ (call (Value.builtin "str.replace") [Value.str _ _, Value.str _ _, Value.str _ _]) _ _ _)
  (walk_at "replace by"))
  k_with "con end1" => (
  refine Mine.end1 hret (by k_asm) (by k_asm) (by first | exact Mine.sub_all (by intro p hp; repeat (first | exact hp | refine List.mem_cons_of_mem _ ?_)) | exact Mine.sub_all (by kst_inAny)) (by k_memK)
    (by first | assumption | exact PySem.W.kst_ltOf (by first | exact And.right (by assumption) | exact And.right (And.right (by assumption)) | exact And.right (And.right (And.right (by assumption))) | exact And.right (And.right (And.right (And.right (by assumption)))))) ?_)
  trivial
namespace Mine
theorem Mine.wQd0 : True := by
  k_with "kst_facts" => (with_reducible first | exact PyProof.Rows.StrsAre.nil | exact PyProof.Rows.StrsAre.cons _ _ .nil | exact PyProof.Rows.StrsAre.append' (by assumption) (.cons _ _ .nil))
  k_with "join size" => exact q_len (by assumption)
  trivial
theorem con_quoteD1 {w mean mg mb news} (c : Str) (t : Tok) (hc : c.length ≤ 4096) (hne : 1 ≤ c.length) : Con w mean mg mb 144 5 news [.str c t] (fun v tl => (∃ t', v = .str (S (quoteL c.cps.toList false)) t') ∧ tl = []) := by
  walk_at "con in0"
  k_dflt (refine' code_def (binds := [(Str.ofString "element", .str c t), (Str.ofString "is_hash", .bool false)]) ?k1 ?k2 ?k3 ?k4 ?k5 ?kA ?kF ?kK ?k6 ?k7 ?k8 ?k9 ?kB ?_ ?c2 ?c3 ?c4 ?c5; walk_at "con args")
  k_with "state" => ((refine ⟨?_, by simp only [List.length_append, List.length_cons, List.length_nil]; omega⟩); with_reducible (first | exact q_s0 rfl | exact q_turn (by assumption) (by assumption)))
  k_with "pyIter str" => k_state (fun pre (out : List Str) => out.flatMap sg = qR x9 c false pre ∧ out.length ≤ pre.length + 1) "out$"
  walk_at "steps"
  all_goals walk_at "con end"
  all_goals with_reducible (first
    | exact qe_none (by assumption) (by assumption)
    | exact qe_brace (by assumption) (by assumption) (by assumption)
    | exact qe_esc hne (by assumption) (by assumption) (by assumption))
theorem con_quoteD0 {w mean mg mb news} (t : Tok) : Con w mean mg mb 144 5 news [.str (Str.ofString "") t] (fun v tl => (∃ t', v = .str (S (quoteL [] false)) t') ∧ tl = []) := by
  walk_at "con in0"
  k_dflt (refine' code_def (binds := [(Str.ofString "element", .str (Str.ofString "") t), (Str.ofString "is_hash", .bool false)]) ?k1 ?k2 ?k3 ?k4 ?k5 ?kA ?kF ?kK ?k6 ?k7 ?k8 ?k9 ?kB ?_ ?c2 ?c3 ?c4 ?c5; walk_at "con args")
  walk_at "steps"
  all_goals walk_at "con end"
  all_goals exact ⟨⟨_, by rw [q0_end false]⟩, rfl⟩
theorem con_quoteD {w mean mg mb news} (c : Str) (t : Tok) (hc : c.length ≤ 4096) : Con w mean mg mb 144 5 news [.str c t] (fun v tl => (∃ t', v = .str (S (quoteL c.cps.toList false)) t') ∧ tl = []) := by
  rcases Nat.eq_zero_or_pos c.length with h0 | h0
  · have : c = Str.ofString "" := by
      obtain ⟨a⟩ := c
      have : a = #[] := Array.eq_empty_of_size_eq_zero h0
      subst this; decide +kernel
    subst this
    exact con_quoteD0 t
  · exact con_quoteD1 c t hc h0
end Mine
end PartQd
section PartCg
namespace Mine
open PySem.Spec PySem.Calls PyProof.Rows.LCg
section
variable {prog : Program} {w : World} {A : Around} {E : Value → Shared → Prop} {s : Shared} {h₀ : Heap} {L : Addr} {m : Str → Option Value} {env : Env}
/-- what a turn of a comprehension leaves: its value, nothing else -/
def TurnEnd (h₀ : Heap) (L : Addr) (m : Str → Option Value) (s₁ : Shared) (all : List (Addr × Obj)) (J : Value → Prop) (y : Value) (s₂ : Shared) : Prop :=
  ∃ h' tk, s₂ = { s₁ with heap := h', toks := tk } ∧ Fr h₀ L h' m ∧ News h₀ L h' all ∧ J y
theorem turn_end {s₁ : Shared} {all all' : List (Addr × Obj)} {J : Value → Prop} {y : Value} {h' : Heap} {tk : Nat} (F : Fr h₀ L h' m) (N : News h₀ L h' all') (hs : ∀ p ∈ all, p ∈ all') (hJ : J y) : TurnEnd h₀ L m s₁ all J y { s₁ with heap := h', toks := tk } :=
  ⟨h', tk, rfl, F, fun p hp => N p (hs p hp), hJ⟩
/-- a clause's test, if there is one, then its value -/
def TestThen (prog : Program) (w : World) (A : Around) (ifs : List PySem.Expr) (elt : PySem.Expr) (env : Env) (E : Value → Shared → Prop) (T : Value → Shared → Prop) (N : Shared → Prop) (s : Shared) : Prop :=
  match ifs with
  | [] => wpAny (model prog w) A (eval elt env) T E s
  | c :: _ => wpAny (model prog w) A (isTrue c env (eval c env)) (fun ok s' => if ok = true then wpAny (model prog w) A (eval elt env) T E s' else N s') E s
theorem TestThen.mono {ifs : List PySem.Expr} {elt : PySem.Expr} {T T' : Value → Shared → Prop} {N N' : Shared → Prop} (h : TestThen prog w A ifs elt env E T N s) (h1 : ∀ v s, T v s → T' v s) (h2 : ∀ s, N s → N' s) : TestThen prog w A ifs elt env E T' N' s := by
  cases ifs with
  | nil => exact wpAny_mono h (fun v s => h1 v s) fun _ _ e => e
  | cons c r =>
    refine wpAny_mono h (fun ok s' h' => ?_) fun _ _ e => e
    cases ok with
    | true => simp only [if_true] at h' ⊢; exact wpAny_mono h' (fun v s => h1 v s) fun _ _ e => e
    | false => simp only [Bool.false_eq_true, if_false] at h' ⊢; exact h2 _ h'
theorem cg_loop {elt target iter : PySem.Expr} {ifs : List PySem.Expr} {scope : Scope} {pos : Pos} {it acc : Value} {R : Result → Shared → Prop} (hifs : ifs = [] ∨ ∃ c, ifs = [c]) (I : Nat → Shared → Prop)
    (turn : ∀ n s, I n s → wpAny (model prog w) A (pyNext it) (fun r s₁ => match r with
      | none => R (.ok .next) s₁
      | some v => wpAny (model prog w) A (letOwnedTupleGo target it v) (fun _ s₀ => wpAny (model prog w) A (assign target env v) (fun _ s₂ =>
          TestThen prog w A ifs elt env (notedBy (model prog w) A env fun e s' => R (.error e) s') (fun x s₄ => wpAny (model prog w) A (call (.builtin "list.append") [acc, x]) (fun _ s₅ => ∃ m, m < n ∧ I m s₅) (notedBy (model prog w) A env fun e s' => R (.error e) s') s₄) (fun s₃ => ∃ m, m < n ∧ I m s₃) s₂)
          (notedBy (model prog w) A env fun e s' => R (.error e) s') s₀) (notedBy (model prog w) A env fun e s' => R (.error e) s') s₁) (notedBy (model prog w) A env fun e s' => R (.error e) s') s)
    (n : Nat) (h : I n s) : codeAny (model prog w) A (.compLoop (.ListComp elt [⟨target, iter, ifs, 0⟩] scope pos) 0 it acc env) R s := by
  rcases hifs with rfl | ⟨c, rfl⟩
  · exact PySem.W.kcp_loop I turn n h
  · exact PySem.W.kct_loop I turn n h
theorem objs_of : ∀ (wr : List Addr) {h : Heap}, (∀ b ∈ wr, ∃ o, h.get? b = some o) → ∃ own : List (Addr × Obj), own.map (·.1) = wr ∧ ∀ p ∈ own, h.get? p.1 = some p.2
  | [], _, _ => ⟨[], rfl, fun _ h => nomatch h⟩
  | b :: r, h, hl => by
    obtain ⟨o, ho⟩ := hl b (List.mem_cons_self ..)
    obtain ⟨own, e, hg⟩ := objs_of r fun b hb => hl b (List.mem_cons_of_mem _ hb)
    refine ⟨(b, o) :: own, by rw [List.map_cons, e], fun p hp => ?_⟩
    rcases List.mem_cons.mp hp with rfl | hp
    · exact ho
    · exact hg p hp
/-- a comprehension with at most one test, from the turns of its iterator -/
theorem cg_block {elt target iter : PySem.Expr} {ifs : List PySem.Expr} {scope : Scope} {cl : List (Str × Addr)} {pos : Pos} {s₂ : Shared} {I : Addr} {fp wr : List Addr} {n : Nat} {P Md : Nat → Value → Heap → Prop} {St : Nat → Heap → Prop} {news : List (Addr × Obj)} {R : Nat → (Str → Option Value) → Prop}
    {RR : Value → Addr → Result → Shared → Prop} (J : Nat → List Value → Prop)
    (hifs : ifs = [] ∨ ∃ c, ifs = [c]) (W : PySem.W.KTurns prog w A target I fp wr n P Md St) (hself : ∀ i (s : Shared) (Q : Value → Shared → Prop) (E : Value → Shared → Prop), St i s.heap → Q (.ref I) s → wpAny (model prog w) A (pyIter (.ref I)) Q E s)
    (live : ∀ i h, St i h → ∀ b ∈ wr, ∃ o, h.get? b = some o) (hsz : n ≤ sizeLine) (hcell : ∀ y ∈ scope.names, y.2 ≠ .cell) (hkind : scope.kind = .function)
    (hfp : ∀ b ∈ fp, b < s₂.heap.objs.size) (hwr : ∀ b ∈ wr, h₀.get? b = none) (hLw : L ∉ wr) (off : ∀ p ∈ news, p.1 ∉ wr) (hst : St 0 s₂.heap)
    (hkeep : ∀ b ∈ fp, b ∈ wr ∨ (∃ o, h₀.get? b = some o) ∨ ∃ o, (b, o) ∈ news) (F : Fr h₀ L s₂.heap m) (N : News h₀ L s₂.heap news)
    (asg : ∀ i v C (h : Heap) tk m' (Q : Unit → Shared → Prop) (E' : Value → Shared → Prop), P i v h → h.Ns C m' →
      (∀ h' tk' m₂, h'.Ns C m₂ → R i m₂ → (∀ b o, b ≠ C → h.get? b = some o → h'.get? b = some o) → Q () { s₂ with heap := h', toks := tk' }) →
      wpAny (model prog w) A (assign target (compEnvC scope cl C env) v) Q E' { s₂ with heap := h, toks := tk })
    (hJ : J 0 [])
    (turn : ∀ i ys own C oC D m₂ h tk (E' : Value → Shared → Prop), i < n → J i ys → R i m₂ → own.map (·.1) = wr → NsObj oC m₂ → Fr h₀ L h m → News h₀ L h (own ++ (C, oC) :: (D, lst ys) :: news) →
      TestThen prog w A ifs elt (compEnvC scope cl C env) E' (TurnEnd h₀ L m { s₂ with heap := h, toks := tk } (own ++ (C, oC) :: (D, lst ys) :: news) (fun y => J (i + 1) (ys ++ [y])))
        (TurnEnd h₀ L m { s₂ with heap := h, toks := tk } (own ++ (C, oC) :: (D, lst ys) :: news) (fun _ => J (i + 1) ys) .none) { s₂ with heap := h, toks := tk })
    (hRR : ∀ D C h tk m' ys, Fr h₀ L h m → News h₀ L h ((D, lst ys) :: news) → (∀ p ∈ news, p.1 < D) → h.Ns C m' → h₀.get? C = none → h₀.get? D = none → C ≠ L → D ≠ L → C ≠ D → (∀ p ∈ news, p.1 ≠ C) → J n ys → RR (.ref D) C (.ok .next) { s₂ with heap := h, toks := tk }) :
    wpAny (model prog w) A (newList []) (fun acc s₃ => wpAny (model prog w) A (newFunctionEnv scope env.globals cl [] env.qual none .none (some env)) (fun cenv s₄ =>
      codeAny (model prog w) A (.compStart (.ListComp elt [⟨target, iter, ifs, 0⟩] scope pos) 0 (.ref I) acc { cenv with scope := relabel scope env }) (RR acc cenv.locals) s₄) E s₃) E s₂ := by
  refine wpAny_newObj_type (wpAny_newFunctionEnv hcell (by intro y hy; simp at hy) (fun h₁ hns₁ hsb₁ => ?_) hkind)
  dsimp only at hns₁ hsb₁ ⊢
  generalize hH2 : s₂.heap.push { cls := .type "list", dict := none, data := .seq ([] : List Value).toArray } = H2 at hns₁ hsb₁ ⊢
  have hC : H2.objs.size = s₂.heap.objs.size + 1 := by rw [← hH2, Heap.size_push]
  have hDC : s₂.heap.objs.size ≠ H2.objs.size := by rw [hC]; exact Nat.ne_of_lt (Nat.lt_succ_self _)
  have below : ∀ b, b < s₂.heap.objs.size → b ≠ H2.objs.size ∧ b ≠ s₂.heap.objs.size := fun b hb => ⟨by rw [hC]; exact Nat.ne_of_lt (Nat.lt_succ_of_lt hb), Nat.ne_of_lt hb⟩
  have hDf : s₂.heap.objs.size ∉ fp := fun hm => Nat.lt_irrefl _ (hfp _ hm)
  have hCf : H2.objs.size ∉ fp := fun hm => by have := hfp _ hm; rw [hC] at this; exact Nat.lt_irrefl _ (Nat.lt_of_succ_lt this)
  have old : ∀ b o, s₂.heap.get? b = some o → h₁.get? b = some o := fun b o e => hsb₁.extBut b o (below b (Heap.lt_size e)).1 (Heap.get?_push_of_some _ (hH2 ▸ Heap.get?_push_of_some _ e))
  have hacc : h₁.get? s₂.heap.objs.size = some (lst []) := hsb₁.extBut _ _ hDC (Heap.get?_push_of_some _ (hH2 ▸ Heap.get?_push_size _ rfl))
  have hst₁ : St 0 h₁ := W.frame _ _ _ hst fun b _ o e => old b o e
  have fresh : ∀ a, s₂.heap.objs.size ≤ a → s₂.heap.get? a = none := fun a ha => by
    cases e : s₂.heap.get? a with
    | none => rfl
    | some o' => exact absurd (Heap.lt_size e) (Nat.not_lt.mpr ha)
  have fresh₀ : ∀ a, s₂.heap.objs.size ≤ a → h₀.get? a = none := fun a ha => by
    cases e : h₀.get? a with
    | none => rfl
    | some o' => have := F.keep a o' e; rw [fresh a ha] at this; cases this
  have hD₀ : h₀.get? s₂.heap.objs.size = none := fresh₀ _ (Nat.le_refl _)
  have hC₀ : h₀.get? H2.objs.size = none := fresh₀ _ (by rw [hC]; exact Nat.le_succ _)
  have hLlt : L < s₂.heap.objs.size := F.ns.lt
  have hDL : s₂.heap.objs.size ≠ L := Ne.symm (below L hLlt).2
  have hCL : H2.objs.size ≠ L := Ne.symm (below L hLlt).1
  have hCw : H2.objs.size ∉ wr := fun h => hCf (W.sub _ h)
  have hDw : s₂.heap.objs.size ∉ wr := fun h => hDf (W.sub _ h)
  have old₀ : ∀ b o, h₀.get? b = some o → b ∉ wr := fun b o e hb => by rw [hwr b hb] at e; cases e
  have offn : ∀ p ∈ news, p.1 < s₂.heap.objs.size := fun p hp => Heap.lt_size (N p hp).1
  have loop : ∀ s₃ : Shared, s₃ = { s₂ with heap := h₁, toks := s₂.toks + ([] : List (Str × Value)).length } →
      codeAny (model prog w) A (.compLoop (.ListComp elt [⟨target, iter, ifs, 0⟩] scope pos) 0 (.ref I) (.ref s₂.heap.objs.size) (compEnvC scope cl H2.objs.size env))
        (RR (.ref s₂.heap.objs.size) H2.objs.size) s₃ := by
    rintro s₃ rfl
    refine cg_loop hifs
      (fun k s' => ∃ h' tk i ys m', s' = { s₂ with heap := h', toks := tk } ∧ i ≤ n ∧ k = n + 1 - i ∧ ys.length ≤ i ∧ St i h' ∧ Fr h₀ L h' m ∧ h'.Ns H2.objs.size m' ∧ News h₀ L h' ((s₂.heap.objs.size, lst ys) :: news) ∧ J i ys) ?_ (n + 1)
      ⟨h₁, _, 0, [], _, rfl, Nat.zero_le _, rfl, Nat.le_refl _, hst₁, F.keeps old, hns₁, fun p hp => ?_, hJ⟩
    · rintro k s' ⟨h', tk, i, ys, m', rfl, hi, rfl, hyl, hst', F', hn', N', hJ'⟩
      have N'' : News h₀ L h' news := fun p hp => N' p (List.mem_cons_of_mem _ hp)
      have next : ∀ h₅ : Heap, (∀ b o, b ∉ wr → h'.get? b = some o → h₅.get? b = some o) → Fr h₀ L h₅ m ∧ News h₀ L h₅ ((s₂.heap.objs.size, lst ys) :: news) ∧ h₅.Ns H2.objs.size m' := fun h₅ hk₅ =>
        ⟨⟨F'.ns.at' fun o e => hk₅ _ o hLw e, fun b o e => hk₅ b o (old₀ b o e) (F'.keep b o e), F'.above⟩,
          fun p hp => ⟨hk₅ _ _ (by rcases List.mem_cons.mp hp with rfl | hp; exact hDw; exact off p hp) (N' p hp).1, (N' p hp).2⟩, hn'.at' fun o e => hk₅ _ o hCw e⟩
      by_cases hlt : i < n
      · refine W.item i _ _ _ hlt hst' fun v h₂ tk₂ hMd hk₂ => ?_
        refine W.go i v _ _ _ hMd fun h₃ hP hst₃ hk₃ => ?_
        obtain ⟨F₃, N₃, hn₃⟩ := next h₃ fun b o hb e => hk₃ b o hb (hk₂ b o hb e)
        refine asg i v H2.objs.size h₃ tk₂ m' _ _ hP hn₃ fun h₄ tk₄ m₂ hn₄ hR hk₄ => ?_
        have hst₄ : St (i + 1) h₄ := W.frame _ _ _ hst₃ fun b hb o e => hk₄ b o (fun q => hCf (q ▸ hb)) e
        obtain ⟨oC, heC, hoC⟩ := ns_obj hn₄
        obtain ⟨own, how, hown⟩ := objs_of wr (live _ _ hst₄)
        have F₄ : Fr h₀ L h₄ m := ⟨F₃.ns.at' fun o e => hk₄ _ o (Ne.symm hCL) e, fun b o e => hk₄ b o (fun q => by rw [q, hC₀] at e; cases e) (F₃.keep b o e), F₃.above⟩
        have N₄ : News h₀ L h₄ (own ++ (H2.objs.size, oC) :: (s₂.heap.objs.size, lst ys) :: news) := fun p hp => by
          rcases List.mem_append.mp hp with hp | hp
          · have hw : p.1 ∈ wr := by rw [← how]; exact List.mem_map_of_mem hp
            exact ⟨hown p hp, fun q => hLw (q ▸ hw), hwr _ hw⟩
          rcases List.mem_cons.mp hp with rfl | hp
          · exact ⟨heC, hCL, hC₀⟩
          · refine ⟨hk₄ _ _ ?_ (N₃ p hp).1, (N₃ p hp).2⟩
            rcases List.mem_cons.mp hp with rfl | hp
            · exact hDC
            · exact (below _ (offn p hp)).1
        have fin : ∀ (ys' : List Value) (h₅ : Heap) (tk₅ : Nat), ys'.length ≤ i + 1 → Fr h₀ L h₅ m → News h₀ L h₅ (own ++ (H2.objs.size, oC) :: (s₂.heap.objs.size, lst ys') :: news) → J (i + 1) ys' →
            ∃ q', q' < n + 1 - i ∧ (∃ h' tk i ys m', ({ s₂ with heap := h₅, toks := tk₅ } : Shared) = { s₂ with heap := h', toks := tk } ∧ i ≤ n ∧ q' = n + 1 - i ∧ ys.length ≤ i ∧ St i h' ∧ Fr h₀ L h' m ∧ h'.Ns H2.objs.size m' ∧ News h₀ L h' ((s₂.heap.objs.size, lst ys) :: news) ∧ J i ys) := by
          intro ys' h₅ tk₅ hl F₅ N₅ hJ₅
          refine ⟨n + 1 - (i + 1), by omega, h₅, tk₅, i + 1, ys', m₂, rfl, hlt, rfl, hl, W.frame _ _ _ hst₄ fun b hb o e => ?_, F₅, hoC.ns (N₅ _ (List.mem_append.mpr (.inr List.mem_cons_self))).1, fun p hp => N₅ p (List.mem_append.mpr (.inr (List.mem_cons_of_mem _ hp))), hJ₅⟩
          rcases hkeep b hb with hb | ⟨o', ho'⟩ | ⟨o', ho'⟩
          · rw [← how] at hb
            obtain ⟨p, hp, rfl⟩ := List.mem_map.mp hb
            have e2 := hown p hp
            rw [e] at e2
            rw [Option.some.inj e2]
            exact (N₅ p (List.mem_append.mpr (.inl hp))).1
          · have e2 := F₄.keep b o' ho'
            rw [e] at e2
            rw [Option.some.inj e2]
            exact F₅.keep b o' ho'
          · have e2 := (N₄ _ (List.mem_append.mpr (.inr (List.mem_cons_of_mem _ (List.mem_cons_of_mem _ ho'))))).1
            have e3 : h₄.get? b = some o' := e2
            rw [e] at e3
            rw [Option.some.inj e3]
            exact (N₅ _ (List.mem_append.mpr (.inr (List.mem_cons_of_mem _ (List.mem_cons_of_mem _ ho'))))).1
        refine TestThen.mono (turn i ys own H2.objs.size oC s₂.heap.objs.size m₂ h₄ tk₄ _ hlt hJ' hR how hoC F₄ N₄) ?_ ?_
        · rintro y _ ⟨h₅, tk₅, rfl, F₅, N₅, hJ₅⟩
          have zD := (N₅ (s₂.heap.objs.size, lst ys) (List.mem_append.mpr (.inr (List.mem_cons_of_mem _ List.mem_cons_self)))).1
          refine append_at (hsz := by show ys.toArray.size ≤ sizeLine; rw [List.size_toArray]; exact Nat.le_trans hyl (Nat.le_trans hi hsz)) zD fun h₆ hs₆ hD₆ => ?_
          refine fin (ys ++ [y]) h₆ _ (by rw [List.length_append, List.length_singleton]; exact Nat.succ_le_succ hyl) (F₅.change hs₆ hDL hD₀) (fun p hp => ?_) hJ₅
          rcases List.mem_append.mp hp with hp | hp
          · have z := N₅ p (List.mem_append.mpr (.inl hp))
            refine ⟨hs₆.extBut _ _ (fun q => hDw ?_) z.1, z.2⟩
            rw [← how, ← q]; exact List.mem_map_of_mem hp
          rcases List.mem_cons.mp hp with rfl | hp
          · have z := N₅ (H2.objs.size, oC) (List.mem_append.mpr (.inr List.mem_cons_self))
            exact ⟨hs₆.extBut _ oC (Ne.symm hDC) z.1, hCL, hC₀⟩
          rcases List.mem_cons.mp hp with rfl | hp
          · exact ⟨hD₆.trans (congrArg some (lst_snoc ys y)), hDL, hD₀⟩
          · have z := N₅ p (List.mem_append.mpr (.inr (List.mem_cons_of_mem _ (List.mem_cons_of_mem _ hp))))
            exact ⟨hs₆.extBut _ _ (below _ (offn p hp)).2 z.1, z.2⟩
        · rintro _ ⟨h₅, tk₅, rfl, F₅, N₅, hJ₅⟩
          exact fin ys h₅ tk₅ (Nat.le_succ_of_le hyl) F₅ N₅ hJ₅
      · obtain rfl : i = n := Nat.le_antisymm hi (Nat.not_lt.mp hlt)
        refine W.done _ _ _ hst' fun h₂ tk₂ hk₂ => ?_
        obtain ⟨F₂, N₂, hn₂⟩ := next h₂ hk₂
        exact hRR _ _ h₂ tk₂ _ ys F₂ N₂ offn hn₂ hC₀ hD₀ hCL hDL (Ne.symm hDC) (fun p hp => (below _ (offn p hp)).1) hJ'
    · rcases List.mem_cons.mp hp with rfl | hp
      · exact ⟨hacc, hDL, hD₀⟩
      · exact ⟨old _ _ (N p hp).1, (N p hp).2⟩
  exact codeAny_compStart_list (loop _ rfl) (hself 0 _ _ _ hst₁ (loop _ rfl))
end
end Mine
end PartCg
section PartCh
namespace Mine
open PySem.Spec PySem.Calls PyProof.Rows.LCg
section
variable {prog : Program} {w : World} {A : Around} {E : Value → Shared → Prop} {s : Shared} {h₀ : Heap} {L : Addr} {m : Str → Option Value} {env : Env}
/-- what a comprehension wants of its source -/
def CgSrc (prog : Program) (w : World) (A : Around) (h₀ : Heap) (L : Addr) (m : Str → Option Value) (env : Env) (target iter : PySem.Expr) (ifs : List PySem.Expr) (elt : PySem.Expr) (scope : Scope) (cl : List (Str × Addr)) (pos : Pos) (E : Value → Shared → Prop) (Fin : Shared → List Value → List (Addr × Obj) → Prop) (xv : Value) (s₁ : Shared) : Prop :=
  ∀ RR : Value → Addr → Result → Shared → Prop,
    (∀ D C h tk m' ys news, Fr h₀ L h m → News h₀ L h ((D, lst ys) :: news) → (∀ p ∈ news, p.1 < D) → h.Ns C m' → h₀.get? C = none → h₀.get? D = none → C ≠ L → D ≠ L → C ≠ D → (∀ p ∈ news, p.1 ≠ C) → Fin s₁ ys news → RR (.ref D) C (.ok .next) { s₁ with heap := h, toks := tk }) →
    wpAny (model prog w) A (pyIter xv) (fun it s₂ => wpAny (model prog w) A (newList []) (fun acc s₃ => wpAny (model prog w) A (newFunctionEnv scope env.globals cl [] env.qual none .none (some env)) (fun cenv s₄ =>
      codeAny (model prog w) A (.compStart (.ListComp elt [⟨target, iter, ifs, 0⟩] scope pos) 0 it acc { cenv with scope := relabel scope env }) (RR acc cenv.locals) s₄) E s₃) E s₂) E s₁
def CgE (h₀ : Heap) (L : Addr) (m : Str → Option Value) (Q : Value → Shared → Prop) (s : Shared) (ys : List Value) (news : List (Addr × Obj)) : Prop :=
  ∀ D h tk, Fr h₀ L h m → News h₀ L h ((D, PySem.W.listOf ys.toArray ys.length) :: news) → (∀ p ∈ news, p.1 < D) → Q (.ref D) { s with heap := h, toks := tk }
def CgA (h₀ : Heap) (L : Addr) (m : Str → Option Value) (y : Str) (Q : Flow → Shared → Prop) (s : Shared) (ys : List Value) (news : List (Addr × Obj)) : Prop :=
  ∀ D h tk, Fr h₀ L h (fun z => if z = y then some (.ref D) else m z) → News h₀ L h ((D, PySem.W.listOf ys.toArray ys.length) :: news) → (∀ p ∈ news, p.1 < D) → Q .next { s with heap := h, toks := tk }
theorem cg_eval {elt target iter : PySem.Expr} {ifs : List PySem.Expr} {scope : Scope} {cl : List (Str × Addr)} {pos : Pos} {Q : Value → Shared → Prop} (_F₀ : Fr h₀ L s.heap m)
    (hclos : closureFor scope env = pure cl) (hkind : scope.kind = .function)
    (hnames : ∀ y ∈ scope.names, y.2 = .local → scope.names.lookup y.1 = some .local)
    (h : wpAny (model prog w) A (eval iter env) (CgSrc prog w A h₀ L m env target iter ifs elt scope cl pos E (CgE h₀ L m Q)) E s)
    (hs : ∀ x, foldedSetIterable iter env x = pure x := by intro _; rfl) :
    wpAny (model prog w) A (eval (.ListComp elt [⟨target, iter, ifs, 0⟩] scope pos) env) Q E s := by
  rw [eval_ListComp]
  refine wpAny_comprehension_free (use := none) rfl hs hclos hkind hnames (wpAny_mono h (fun xv s₁ h₁ => ?_) fun _ _ e => e)
  refine h₁ _ fun D C h tk m' ys news F' N' o1 hn hC₀ hD₀ hCL hDL hCD offC fin => ?_
  refine ⟨m', hn, fun h'' hs'' => fin D h'' tk (F'.change hs'' hCL hC₀) (fun p hp => ?_) o1⟩
  refine ⟨hs''.extBut _ _ ?_ (N' p hp).1, (N' p hp).2⟩
  rcases List.mem_cons.mp hp with rfl | hp
  · exact Ne.symm hCD
  · exact offC p hp
theorem cg_assign {elt target iter : PySem.Expr} {ifs : List PySem.Expr} {y : Str} {py : Pos} {scope : Scope} {cl : List (Str × Addr)} {pos spos : Pos} {Q : Flow → Shared → Prop} (_F₀ : Fr h₀ L s.heap m) (hLe : env.locals = L)
    (hsw : swapsWith (.ListComp elt [⟨target, iter, ifs, 0⟩] scope pos) (some (.Name y py)) spos.line env = pure true)
    (hclos : closureFor scope env = pure cl) (hkind : scope.kind = .function)
    (hnames : ∀ z ∈ scope.names, z.2 = .local → scope.names.lookup z.1 = some .local)
    (hy : env.kindOf y = some .local) (hp : (env.scope.kind == .class || (env.scope.kind == .module && env.locals != env.globals)) = false)
    (h : wpAny (model prog w) A (eval iter env) (CgSrc prog w A h₀ L m env target iter ifs elt scope cl pos E (CgA h₀ L m y Q)) E s)
    (hs : ∀ x, foldedSetIterable iter env x = pure x := by intro _; rfl) :
    wpAny (model prog w) A (exec (.Assign [.Name y py] (.ListComp elt [⟨target, iter, ifs, 0⟩] scope pos) spos) env) Q E s := by
  subst hLe
  rw [exec_Assign_Name_used _ _ _ _ hsw]
  refine wpAny_bind (wpAny_standAt (wpAny_bind ?_))
  show wpAny _ A (do let _ ← comprehension (.ListComp elt [⟨target, iter, ifs, 0⟩] scope pos) scope env _ (newList []) false (eval iter env) (some (assign (.Name y py) env))) _ _ s
  refine wpAny_bind (wpAny_mono (wpAny_comprehension_free (use := some (assign (.Name y py) env)) (Q := fun _ s' => Q .next s') rfl hs hclos hkind hnames
    (wpAny_mono h (fun xv s₁ h₁ => ?_) fun _ _ e => e)) (fun _ s' hq => wpAny_pure (wpAny_pure hq)) fun _ _ e => e)
  refine h₁ _ fun D C h' tk m' ys news' F' N' o1 hn hC₀ hD₀ hCL hDL hCD offC fin => ?_
  show wpAny _ A (assign (.Name y py) env (.ref D)) _ _ _
  refine wpAny_assign_Name (wpAny_storeName_local hy F'.ns (fun h₂ hn₂ hs₂ => ?_) hp)
  have hL₀ : h₀.get? env.locals = none := Heap.get?_none_of_le F'.above
  have F₂ : Fr h₀ env.locals h₂ (fun z => if z = y then some (.ref D) else m z) := ⟨hn₂, fun b o e => hs₂.extBut b o (fun q => by rw [q, hL₀] at e; cases e) (F'.keep b o e), F'.above⟩
  refine ⟨m', hn.sameBut hs₂ hCL, fun h'' hs'' => fin D h'' _ (F₂.change hs'' hCL hC₀) (fun p hp => ?_) o1⟩
  have z : h₂.get? p.1 = some p.2 := hs₂.extBut _ _ (N' p hp).2.1 (N' p hp).1
  refine ⟨hs''.extBut _ _ ?_ z, (N' p hp).2⟩
  rcases List.mem_cons.mp hp with rfl | hp
  · exact Ne.symm hCD
  · exact offC p hp
theorem tup_asg {a b : Str} {pa pb tp : Pos} {kk : Nat} {scope : Scope} {cl : List (Str × Addr)} {C T : Addr} {x y : Value} {m' : Str → Option Value} {Q : Unit → Shared → Prop} {E' : Value → Shared → Prop} (hh : A.handled = none) (hkind : scope.kind = .function) (hxa : scope.names.lookup a = some .local) (hxb : scope.names.lookup b = some .local) (hab : ¬ a = b)
    (ht : s.heap.IsTuple T #[x, y]) (hn : s.heap.Ns C m')
    (h : ∀ h' tk' m₂, h'.Ns C m₂ → (m₂ a = some x ∧ m₂ b = some y) → (∀ c o, c ≠ C → s.heap.get? c = some o → h'.get? c = some o) → Q () { s with heap := h', toks := tk' }) :
    wpAny (model prog w) A (assign (.Tuple [.Name a pa, .Name b pb] kk tp) (compEnvC scope cl C env) (.ref T)) Q E' s := by
  refine PySem.W.kcp_assign (env := compEnvC scope cl C env) hh ht (lookup_relabel_local hxa) (lookup_relabel_local hxb) (by simp [compEnvC, relabel, hkind]) hn ?_
  intro h' tk hn' hk
  refine h h' tk (fun z => if z = b then some y else if z = a then some x else m' z) hn' ⟨?_, ?_⟩ hk
  · show (if a = b then some y else if a = a then some x else m' a) = some x
    rw [if_neg hab, if_pos rfl]
  · show (if b = b then some y else if b = a then some x else m' b) = some y
    rw [if_pos rfl]
theorem name_asg {a : Str} {pa : Pos} {scope : Scope} {cl : List (Str × Addr)} {C : Addr} {x : Value} {m' : Str → Option Value} {Q : Unit → Shared → Prop} {E' : Value → Shared → Prop} (hkind : scope.kind = .function) (hxa : scope.names.lookup a = some .local) (hn : s.heap.Ns C m')
    (h : ∀ h' tk' m₂, h'.Ns C m₂ → m₂ a = some x → (∀ c o, c ≠ C → s.heap.get? c = some o → h'.get? c = some o) → Q () { s with heap := h', toks := tk' }) :
    wpAny (model prog w) A (assign (.Name a pa) (compEnvC scope cl C env) x) Q E' s := by
  refine wpAny_assign_Name (wpAny_storeName_local (lookup_relabel_local hxa) hn (fun h₃ hn₃ hs₃ => ?_) (by simp [compEnvC, relabel, hkind]))
  refine h h₃ _ (fun z => if z = a then some x else m' z) hn₃ ?_ fun c o hc e => hs₃.extBut c o hc e
  show (if a = a then some x else m' a) = some x
  rw [if_pos rfl]
theorem nil_own : ∀ {own : List (Addr × Obj)}, own.map (·.1) = [] → own = []
  | [], _ => rfl
  | _ :: _, h => nomatch h
theorem cons_own : ∀ {a : Addr} {r : List Addr} {own : List (Addr × Obj)}, own.map (·.1) = a :: r → ∃ oa own', own = (a, oa) :: own' ∧ own'.map (·.1) = r
  | _, _, [], h => nomatch h
  | a, r, p :: own, h => by
    rw [List.map_cons] at h
    have h1 := (List.cons.inj h).1
    have h2 := (List.cons.inj h).2
    exact ⟨p.2, own, by rw [← h1], h2⟩
theorem one_own {a : Addr} {own : List (Addr × Obj)} (h : own.map (·.1) = [a]) : ∃ oa, own = [(a, oa)] := by
  obtain ⟨oa, own', e, h'⟩ := cons_own h
  exact ⟨oa, by rw [e, nil_own h']⟩
theorem two_own {a b : Addr} {own : List (Addr × Obj)} (h : own.map (·.1) = [a, b]) : ∃ oa ob, own = [(a, oa), (b, ob)] := by
  obtain ⟨oa, own', e, h'⟩ := cons_own h
  obtain ⟨ob, e'⟩ := one_own h'
  exact ⟨oa, ob, by rw [e, e']⟩
section pairs
variable {elt iter : PySem.Expr} {ifs : List PySem.Expr} {a b : Str} {pa pb tp : Pos} {kk : Nat} {scope : Scope} {cl : List (Str × Addr)} {pos : Pos} {news : List (Addr × Obj)} {Fin : Shared → List Value → List (Addr × Obj) → Prop} {E₀ : Value → Shared → Prop}
/-- pairs of a place and what stands there -/
theorem cg_pairs {e it : Addr} {fp : List Addr} {n : Nat} {P : Nat → Value → Prop} {St : Nat → Heap → Prop} {Pt : Nat → Array Value → Prop} {Mid : Nat → Addr → Heap → Prop} (J : Nat → List Value → Prop)
    (hh : A.handled = none) (hifs : ifs = [] ∨ ∃ c, ifs = [c]) (W : WalksT prog w A e fp [e, it] n Pt St Mid) (hPt : ∀ i vals, Pt i vals → ∃ t v, P i v ∧ vals = #[.int i t, v]) (live : ∀ i h, St i h → ∀ b ∈ [e, it], ∃ o, h.get? b = some o)
    (hsz : n ≤ sizeLine) (hcell : ∀ y ∈ scope.names, y.2 ≠ .cell) (hkind : scope.kind = .function) (hxa : scope.names.lookup a = some .local) (hxb : scope.names.lookup b = some .local) (hab : ¬ a = b)
    (hfp : ∀ b ∈ fp, b < s.heap.objs.size) (hwr : ∀ b ∈ [e, it], h₀.get? b = none) (hLw : L ∉ [e, it]) (off : ∀ p ∈ news, p.1 ∉ [e, it]) (hst : St 0 s.heap)
    (hkeep : ∀ b ∈ fp, b ∈ [e, it] ∨ (∃ o, h₀.get? b = some o) ∨ ∃ o, (b, o) ∈ news) (F : Fr h₀ L s.heap m) (N : News h₀ L s.heap news) (hJ : J 0 [])
    (turn : ∀ i ys v t e oe it oi C oC D m₂ h tk (E' : Value → Shared → Prop), i < n → P i v → J i ys → m₂ a = some (.int i t) → m₂ b = some v → NsObj oC m₂ → Fr h₀ L h m → News h₀ L h ((e, oe) :: (it, oi) :: (C, oC) :: (D, lst ys) :: news) →
      TestThen prog w A ifs elt (compEnvC scope cl C env) E' (TurnEnd h₀ L m { s with heap := h, toks := tk } ((e, oe) :: (it, oi) :: (C, oC) :: (D, lst ys) :: news) (fun y => J (i + 1) (ys ++ [y])))
        (TurnEnd h₀ L m { s with heap := h, toks := tk } ((e, oe) :: (it, oi) :: (C, oC) :: (D, lst ys) :: news) (fun _ => J (i + 1) ys) .none) { s with heap := h, toks := tk })
    (fin : ∀ ys, J n ys → Fin s ys news) : CgSrc prog w A h₀ L m env (.Tuple [.Name a pa, .Name b pb] kk tp) iter ifs elt scope cl pos E₀ Fin (.ref e) s := by
  intro RR hRR
  refine W.self 0 _ _ _ hst ?_
  refine cg_block (R := fun i m₂ => ∃ t v, P i v ∧ m₂ a = some (.int i t) ∧ m₂ b = some v) J hifs (PySem.W.KTurns.ofWalksU W.toU) W.self live hsz hcell hkind hfp hwr hLw off hst hkeep F N ?_ hJ ?_ ?_
  · rintro i v C h tk m' Q E' ⟨T, vals, rfl, hP, hT⟩ hn hQ
    obtain ⟨t, v, hv, rfl⟩ := hPt i vals hP
    exact tup_asg (s := { s with heap := h, toks := tk }) hh hkind hxa hxb hab hT hn fun h' tk' m₂ hn' hx hk => hQ h' tk' m₂ hn' ⟨t, v, hv, hx.1, hx.2⟩ hk
  · rintro i ys own C oC D m₂ h tk E' hi hJ' ⟨t, v, hv, hxa', hxb'⟩ how hC F' N'
    obtain ⟨oe, oi, rfl⟩ := two_own how
    exact turn i ys v t e oe it oi C oC D m₂ h tk E' hi hv hJ' hxa' hxb' hC F' N'
  · intro D C h tk m' ys F' N' o1 hn hC₀ hD₀ hCL hDL hCD offC hJ'
    exact hRR D C h tk m' ys news F' N' o1 hn hC₀ hD₀ hCL hDL hCD offC (fin ys hJ')
theorem cg_enum_str {x : Str} {t₀ : Tok} (J : Nat → List Value → Prop)
    (hh : A.handled = none) (hifs : ifs = [] ∨ ∃ c, ifs = [c]) (hsz : x.cps.size ≤ sizeLine) (hcell : ∀ y ∈ scope.names, y.2 ≠ .cell) (hkind : scope.kind = .function) (hxa : scope.names.lookup a = some .local) (hxb : scope.names.lookup b = some .local) (hab : ¬ a = b)
    (F : Fr h₀ L s.heap m) (N : News h₀ L s.heap news) (hJ : J 0 [])
    (turn : ∀ i ys c u t e oe it oi C oC D m₂ h tk (E' : Value → Shared → Prop), x.cps[i]? = some c → J i ys → m₂ a = some (.int i t) → m₂ b = some (.str ⟨#[c]⟩ u) → NsObj oC m₂ → Fr h₀ L h m → News h₀ L h ((e, oe) :: (it, oi) :: (C, oC) :: (D, lst ys) :: news) →
      TestThen prog w A ifs elt (compEnvC scope cl C env) E' (TurnEnd h₀ L m { s with heap := h, toks := tk } ((e, oe) :: (it, oi) :: (C, oC) :: (D, lst ys) :: news) (fun y => J (i + 1) (ys ++ [y])))
        (TurnEnd h₀ L m { s with heap := h, toks := tk } ((e, oe) :: (it, oi) :: (C, oC) :: (D, lst ys) :: news) (fun _ => J (i + 1) ys) .none) { s with heap := h, toks := tk })
    (fin : ∀ g ys, J x.cps.size ys → Fin { s with heap := g } ys news) : wpAny (model prog w) A (call (.type "enumerate") [.str x t₀]) (CgSrc prog w A h₀ L m env (.Tuple [.Name a pa, .Name b pb] kk tp) iter ifs elt scope cl pos E₀ Fin) E s := by
  have hLs : L < s.heap.objs.size := F.ns.lt
  have hab' : h₀.objs.size ≤ L := F.above
  refine call_enumerate_str fun h' he hit hsz' hk => ?_
  have F' : Fr h₀ L h' m := ⟨F.ns.keeps hk, fun b o e => hk b o (F.keep b o e), F.above⟩
  have N' : News h₀ L h' news := fun p hp => ⟨hk _ _ (N p hp).1, (N p hp).2⟩
  have nw : ∀ b ∈ [s.heap.objs.size + 1, s.heap.objs.size], s.heap.objs.size ≤ b := fun b hb => by
    rcases List.mem_cons.mp hb with rfl | hb
    · exact Nat.le_succ _
    · rw [List.mem_singleton.mp hb]; exact Nat.le_refl _
  have hlt : ∀ b ∈ [s.heap.objs.size + 1, s.heap.objs.size], b < h'.objs.size := fun b hb => by
    rw [hsz']
    rcases List.mem_cons.mp hb with rfl | hb
    · exact Nat.lt_succ_self _
    · rw [List.mem_singleton.mp hb]; exact Nat.lt_succ_of_lt (Nat.lt_succ_self _)
  have main : ∀ (P : Nat → Value → Prop) (St : Nat → Heap → Prop) (D : Draws prog w A.in1 s.heap.objs.size [s.heap.objs.size] x.cps.size P St), (∀ i v, P i v → ∃ c u, x.cps[i]? = some c ∧ v = Value.str ⟨#[c]⟩ u) → St 0 h' → CgSrc prog w A h₀ L m env (.Tuple [.Name a pa, .Name b pb] kk tp) iter ifs elt scope cl pos E₀ Fin (.ref (s.heap.objs.size + 1)) { s with heap := h' } := by
    intro P St D hP hst
    refine cg_pairs (s := { s with heap := h' }) (P := P) J hh hifs (WalksT.enumerateD D (s.heap.objs.size + 1) (Nat.succ_ne_self _) (fun hm => Nat.succ_ne_self _ (List.mem_singleton.mp hm)) (by simp)) (fun i vals hp => by obtain ⟨t, v, h1, h2⟩ := hp; exact ⟨t, v, h1, h2⟩)
      (fun i h st b hb => ?_) hsz hcell hkind hxa hxb hab hlt (fun b hb => Heap.get?_none_of_le (Nat.le_trans hab' (Nat.le_trans (Nat.le_of_lt hLs) (nw b hb)))) (fun hm => absurd (nw L hm) (Nat.not_le.mpr hLs))
      (fun p hp hm => absurd (nw _ hm) (Nat.not_le.mpr (Heap.lt_size (N p hp).1))) ⟨⟨_, he⟩, hst⟩ (fun b hb => .inl hb) F' N' hJ ?_ (fin h')
    · obtain ⟨⟨old, he'⟩, hs'⟩ := st
      rcases List.mem_cons.mp hb with rfl | hb
      · exact ⟨_, he'⟩
      · rw [List.mem_singleton.mp hb]; exact D.live _ _ hs'
    · intro i ys v t e oe it oi C oC D m₂ h tk E' hi hv hJ' ha hb hC F'' N''
      obtain ⟨c, u, hc, rfl⟩ := hP i v hv
      exact turn i ys c u t e oe it oi C oC D m₂ h tk E' hc hJ' ha hb hC F'' N''
  cases ha : x.cps.all (· < 128)
  · have hit' : h'.IsStrIter s.heap.objs.size "str_iterator" x t₀ 0 := by simpa [strIterType, ha] using hit
    exact main _ _ (Draws.strWide (A := A.in1) hh s.heap.objs.size x t₀) (fun _ _ h => h) hit'
  · have hit' : h'.IsStrIter s.heap.objs.size "str_ascii_iterator" x t₀ 0 := by simpa [strIterType, ha] using hit
    exact main _ _ (Draws.strAscii (A := A.in1) hh s.heap.objs.size x t₀) (fun _ _ h => h) hit'
theorem cg_enum_list {l : Addr} {vs : List Value} {k : Nat} {ss : List Str} (J : Nat → List Value → Prop)
    (hh : A.handled = none) (hifs : ifs = [] ∨ ∃ c, ifs = [c]) (hm : (l, PySem.W.listOf vs.toArray k) ∈ news) (hi : StrsAre vs ss) (hsz : ss.length ≤ sizeLine) (hcell : ∀ y ∈ scope.names, y.2 ≠ .cell) (hkind : scope.kind = .function) (hxa : scope.names.lookup a = some .local) (hxb : scope.names.lookup b = some .local) (hab : ¬ a = b)
    (F : Fr h₀ L s.heap m) (N : News h₀ L s.heap news) (hJ : J 0 [])
    (turn : ∀ i ys y u t e oe it oi C oC D m₂ h tk (E' : Value → Shared → Prop), ss[i]? = some y → J i ys → m₂ a = some (.int i t) → m₂ b = some (.str y u) → NsObj oC m₂ → Fr h₀ L h m → News h₀ L h ((e, oe) :: (it, oi) :: (C, oC) :: (D, lst ys) :: news) →
      TestThen prog w A ifs elt (compEnvC scope cl C env) E' (TurnEnd h₀ L m { s with heap := h, toks := tk } ((e, oe) :: (it, oi) :: (C, oC) :: (D, lst ys) :: news) (fun y => J (i + 1) (ys ++ [y])))
        (TurnEnd h₀ L m { s with heap := h, toks := tk } ((e, oe) :: (it, oi) :: (C, oC) :: (D, lst ys) :: news) (fun _ => J (i + 1) ys) .none) { s with heap := h, toks := tk })
    (fin : ∀ g ys, J ss.length ys → Fin { s with heap := g } ys news) : wpAny (model prog w) A (call (.type "enumerate") [.ref l]) (CgSrc prog w A h₀ L m env (.Tuple [.Name a pa, .Name b pb] kk tp) iter ifs elt scope cl pos E₀ Fin) E s := by
  have hLs : L < s.heap.objs.size := F.ns.lt
  have hab' : h₀.objs.size ≤ L := F.above
  have hlen := strs_len hi
  have hls : s.heap.IsList l vs.toArray := News.isList N hm
  have hl2 : l < s.heap.objs.size := Heap.lt_size (N _ hm).1
  refine call_enumerate_list hls fun h' he hit hsz' hk => ?_
  have F' : Fr h₀ L h' m := ⟨F.ns.keeps hk, fun b o e => hk b o (F.keep b o e), F.above⟩
  have N' : News h₀ L h' news := fun p hp => ⟨hk _ _ (N p hp).1, (N p hp).2⟩
  have nw : ∀ b ∈ [s.heap.objs.size + 1, s.heap.objs.size], s.heap.objs.size ≤ b := fun b hb => by
    rcases List.mem_cons.mp hb with rfl | hb
    · exact Nat.le_succ _
    · rw [List.mem_singleton.mp hb]; exact Nat.le_refl _
  have W := WalksT.enumerate (prog := prog) (w := w) (A := A) hh (s.heap.objs.size + 1) s.heap.objs.size l (Nat.succ_ne_self _) (Nat.ne_of_lt (Nat.lt_succ_of_lt hl2)) (Nat.ne_of_lt hl2) vs.toArray
  have hsize : vs.toArray.size = ss.length := by rw [List.size_toArray, hlen]
  rw [hsize] at W
  refine cg_pairs (s := { s with heap := h' }) (P := fun i v => vs.toArray[i]? = some v) J hh hifs W (fun i vals hp => by obtain ⟨t, v, h1, h2⟩ := hp; exact ⟨t, v, h1, h2⟩)
    (fun i h st b hb => ?_) hsz hcell hkind hxa hxb hab (fun b hb => ?_) (fun b hb => Heap.get?_none_of_le (Nat.le_trans hab' (Nat.le_trans (Nat.le_of_lt hLs) (nw b hb)))) (fun hm => absurd (nw L hm) (Nat.not_le.mpr hLs))
    (fun p hp hm => absurd (nw _ hm) (Nat.not_le.mpr (Heap.lt_size (N p hp).1))) ⟨⟨_, he⟩, hit, hls.at fun o e => hk l o e⟩ (fun b hb => ?_) F' N' hJ ?_ (fin h')
  · obtain ⟨⟨old, he'⟩, ⟨o, ho, _⟩, _⟩ := st
    rcases List.mem_cons.mp hb with rfl | hb
    · exact ⟨_, he'⟩
    · rw [List.mem_singleton.mp hb]; exact ⟨o, ho⟩
  · show b < h'.objs.size
    rw [hsz']
    rcases List.mem_cons.mp hb with rfl | hb
    · exact Nat.lt_succ_self _
    rcases List.mem_cons.mp hb with rfl | hb
    · exact Nat.lt_succ_of_lt (Nat.lt_succ_self _)
    · rw [List.mem_singleton.mp hb]; exact Nat.lt_succ_of_lt (Nat.lt_succ_of_lt hl2)
  · rcases List.mem_cons.mp hb with rfl | hb
    · exact .inl (by simp)
    rcases List.mem_cons.mp hb with rfl | hb
    · exact .inl (by simp)
    · rw [List.mem_singleton.mp hb]; exact .inr (.inr ⟨_, hm⟩)
  · intro i ys v t e oe it oi C oC D m₂ h tk E' hi' hv hJ' ha hb hC F'' N''
    obtain ⟨y, u, hy, rfl⟩ := strs_at hi i v (by simpa using hv)
    exact turn i ys y u t e oe it oi C oC D m₂ h tk E' hy hJ' ha hb hC F'' N''
end pairs
section names
variable {elt iter : PySem.Expr} {ifs : List PySem.Expr} {a : Str} {pa : Pos} {scope : Scope} {cl : List (Str × Addr)} {pos : Pos} {news : List (Addr × Obj)} {Fin : Shared → List Value → List (Addr × Obj) → Prop} {E₀ : Value → Shared → Prop}
/-- the signs of a text -/
theorem cg_str {x : Str} {t₀ : Tok} (J : Nat → List Value → Prop)
    (hh : A.handled = none) (hifs : ifs = [] ∨ ∃ c, ifs = [c]) (hsz : x.cps.size ≤ sizeLine) (hcell : ∀ y ∈ scope.names, y.2 ≠ .cell) (hkind : scope.kind = .function) (hxa : scope.names.lookup a = some .local)
    (F : Fr h₀ L s.heap m) (N : News h₀ L s.heap news) (hJ : J 0 [])
    (turn : ∀ i ys c u I oI C oC D m₂ h tk (E' : Value → Shared → Prop), x.cps[i]? = some c → J i ys → m₂ a = some (.str ⟨#[c]⟩ u) → NsObj oC m₂ → Fr h₀ L h m → News h₀ L h ((I, oI) :: (C, oC) :: (D, lst ys) :: news) →
      TestThen prog w A ifs elt (compEnvC scope cl C env) E' (TurnEnd h₀ L m { s with heap := h, toks := tk } ((I, oI) :: (C, oC) :: (D, lst ys) :: news) (fun y => J (i + 1) (ys ++ [y])))
        (TurnEnd h₀ L m { s with heap := h, toks := tk } ((I, oI) :: (C, oC) :: (D, lst ys) :: news) (fun _ => J (i + 1) ys) .none) { s with heap := h, toks := tk })
    (fin : ∀ ys, J x.cps.size ys → Fin s ys news) : CgSrc prog w A h₀ L m env (.Name a pa) iter ifs elt scope cl pos E₀ Fin (.str x t₀) s := by
  intro RR hRR
  have hLs : L < s.heap.objs.size := F.ns.lt
  have hab' : h₀.objs.size ≤ L := F.above
  have main : ∀ (o : Obj) (St : Nat → Heap → Prop), Walks prog w A s.heap.objs.size [s.heap.objs.size] [s.heap.objs.size] x.cps.size (SignAt x) St → (∀ i h, St i h → ∃ o, h.get? s.heap.objs.size = some o) → St 0 (s.heap.push o) →
      wpAny (model prog w) A (newList []) (fun acc s₃ => wpAny (model prog w) A (newFunctionEnv scope env.globals cl [] env.qual none .none (some env)) (fun cenv s₄ =>
      codeAny (model prog w) A (.compStart (.ListComp elt [⟨.Name a pa, iter, ifs, 0⟩] scope pos) 0 (.ref s.heap.objs.size) acc { cenv with scope := relabel scope env }) (RR acc cenv.locals) s₄) E₀ s₃) E₀ { s with heap := s.heap.push o } := by
    intro o St W hl hst
    have hg : ∀ i v (s : Shared) (Q : Unit → Shared → Prop) (E : Value → Shared → Prop), St i s.heap → Q () s → wpAny (model prog w) A (letOwnedTupleGo (.Name a pa) (.ref s.heap.objs.size) v) Q E s := fun i v s Q E _ hq => wpAny_pure hq
    refine cg_block (s₂ := { s with heap := s.heap.push o }) (R := fun i m₂ => ∃ v, SignAt x i v ∧ m₂ a = some v) J hifs (PySem.W.KTurns.ofWalks W (fun i v s Q E _ hq => wpAny_pure hq)) W.self (fun i h st b hb => by rw [List.mem_singleton.mp hb]; exact hl i h st) hsz hcell hkind
      (fun b hb => by rw [List.mem_singleton.mp hb]; show _ < (s.heap.push o).objs.size; rw [Heap.size_push]; exact Nat.lt_succ_self _) (fun b hb => by rw [List.mem_singleton.mp hb]; exact next_is_new F) (fun hm => absurd hLs (by rw [List.mem_singleton.mp hm]; exact Nat.lt_irrefl _))
      (fun p hp hm => absurd (Heap.lt_size (N p hp).1) (by rw [List.mem_singleton.mp hm]; exact Nat.lt_irrefl _)) hst (fun b hb => .inl hb) (F.push _) (fun p hp => ⟨Heap.get?_push_of_some _ (N p hp).1, (N p hp).2⟩) ?_ hJ ?_ ?_
    · rintro i v C h tk m' Q E' hP hn hQ
      exact name_asg (s := { s with heap := h, toks := tk }) hkind hxa hn fun h' tk' m₂ hn' hx hk => hQ h' tk' m₂ hn' ⟨v, hP, hx⟩ hk
    · rintro i ys own C oC D m₂ h tk E' hi hJ' ⟨v, hv, hx⟩ how hC F' N'
      obtain ⟨oI, rfl⟩ := one_own how
      obtain ⟨c, u, hc, rfl⟩ := hv
      exact turn i ys c u _ oI C oC D m₂ h tk E' hc hJ' hx hC F' N'
    · intro D C h tk m' ys F' N' o1 hn hC₀ hD₀ hCL hDL hCD offC hJ'
      exact hRR D C h tk m' ys news F' N' o1 hn hC₀ hD₀ hCL hDL hCD offC (fin ys hJ')
  cases ha : x.cps.all (· < 128)
  · exact wpAny_pyIter_wide ha (main _ _ (Walks.strWide hh _ x t₀) (fun i h st => by obtain ⟨o, ho, _⟩ := st; exact ⟨o, ho⟩) ⟨_, Heap.get?_push_size _ rfl, rfl, rfl⟩)
  · exact wpAny_pyIter_ascii ha (main _ _ (Walks.strAscii hh _ x t₀) (fun i h st => by obtain ⟨o, ho, _⟩ := st; exact ⟨o, ho⟩) ⟨_, Heap.get?_push_size _ rfl, rfl, rfl⟩)
end names
end
end Mine
end PartCh
section PartTm
theorem Mine.wTm : True := by
  k_with_none
  k_with "con in" => (
  w_top off
  unfold Mine.Con
  k_fill
  intro dp un gd cn cs a ccd cl outer A₀ base h₀ L m s Q E B F X N T hk hd hu hret
  refine wpAny_call ?_
  k_dflt cell_enter)
  k_with "con in0" => (
  w_top off
  unfold Mine.Con
  k_fill
  intro dp un gd cn cs a ccd cl outer A₀ base h₀ L m s Q E B F X N T hk hd hu hret
  refine wpAny_call ?_)
  k_with "con args" => (
  (case kA => exact rfl); (case kF => exact rfl); (case kK => assumption); (case k1 => k_asm); (case k2 => k_asm); (case k3 => k_asm); (case k4 => k_asm); (case k5 => k_asm); (case k6 => k_is); (case k7 => k_is); (case k8 => ktr_room); (case k9 => first | exact BindsTo.of_eq rfl | exact binds_K (by k_in) rfl (by k_is) rfl rfl rfl); (case c5 => decide); (case kB => exact locs rfl); (case c2 => exact rfl); (case c3 => exact rfl); (case c4 => exact rfl); k_whole; intro g' L' h' FG' F' N' B' X' T'; (try dsimp only); (try k_fold))
  k_with "con end" => (
  refine Mine.end0 hret (by k_asm) (by k_asm) (by first | exact Mine.sub_all (by intro p hp; repeat (first | exact hp | refine List.mem_cons_of_mem _ ?_)) | exact Mine.sub_all (by kst_inAny)) ?_)
  k_with "con use0" => (
  (case k1 => k_asm); (case k2 => k_asm); (case k3 => k_asm); (case k4 => k_asm); (case k5 => k_asm); (case kK => first | exact rfl | assumption); (case kd => ktr_room); (case ku => ktr_units))
  k_with "call ref" => (
  k_here
  (show wpAny _ _ (call (Value.ref 52) [Value.str _ _]) _ _ _)
  (k_dflt (refine' Mine.Con.use0 (Mine.con_is_blank _ _) ?k1 ?k2 ?k3 ?k4 ?k5 ?kK ?kd ?ku ?_; (case k1 => k_asm); (case k2 => k_asm); (case k3 => k_asm); (case k4 => k_asm); (case k5 => k_asm); (case kK => first | exact rfl | assumption); (case kd => ktr_room); (case ku => ktr_units)))
  (intro r9 h9 tk9 F9 N9 hr9; subst hr9; (try dsimp only); (try k_fold)))
  k_with "step" => (first
  | (k_unfold; (try dsimp only))
  | (refine Mine.ap2 ?_; k_unfold; (try dsimp only))
  | (k_end; kc_close)
  | ((fail_if_success (with_reducible show wpAny _ _ (exec (Stmt.While _ _ _ _) _) _ _ _)); first | walk1 | (dsimp only; walk1))
  | (leave1; (try dsimp only))
  | fail "no step")
  k_with "steps" => repeat' walk_at "step"
  k_with "eval BoolOp" => (
  k_here
  (k_dflt (first
   | (refine' Mine.or_names ?k1 ?k2 ?k3 ?_; (case k1 => k_asm); (case k2 => rfl); (case k3 => rfl))
   | (refine' Mine.and_name_eq ?k1 ?k2 ?k3 ?_; (case k1 => k_asm); (case k2 => rfl); (case k3 => rfl))))
  k_whole)
  k_with "drop" => (
  (rename News _ _ _ _ => nX)
  (have nY := cb_drop (news := news) nX (by intro p hp; repeat (first | exact hp | refine List.mem_cons_of_mem _ ?_)))
  (clear nX))
  k_with "KswEnd" => (
  (rename News _ _ _ _ => nE')
  (try simp only [List.push_toArray] at nE')
  (first
    | (refine' ksw_end ⟨_,_,_,_,_,_,_⟩ ?e1 nE' ?e2 ?e3 ?e4 ?e5 ?e6 ?e7)
    | (refine' ksw_end ⟨_,_,_,_⟩ ?e1 nE' ?e2 ?e3 ?e4 ?e5 ?e6 ?e7)
    | (refine' ksw_end ⟨_,_⟩ ?e1 nE' ?e2 ?e3 ?e4 ?e5 ?e6 ?e7)
    | (refine' ksw_end ⟨_,_,_,_,_⟩ ?e1 nE' ?e2 ?e3 ?e4 ?e5 ?e6 ?e7))
  (case e1 => assumption)
  (case e2 => first | exact Mine.sub_all (by intro p hp; repeat (first | exact hp | refine List.mem_cons_of_mem _ ?_)) | kst_in)
  (case e3 => kst_facts)
  (case e4 => kst_all)
  (case e5 => ksw_same)
  (case e6 => kst_p)
  (case e7 => ksw_less))
  k_with "exec If" => refine wpAny_If ?_
  k_with "call ref" => (
  k_here
  (k_dflt (first
   | ((show wpAny _ _ (call (Value.ref 129) [Value.str _ _, Value.bool _]) _ _ _); refine' Mine.Con.useS (Mine.con_mode_of _ _ _ ?hc) ?k1 ?k2 ?k3 ?k4 ?k5 ?kK ?kd ?ku ?_)
   | ((show wpAny _ _ (call (Value.ref 136) [Value.str _ _, Value.bool _]) _ _ _); refine' Mine.Con.useS (Mine.con_escaped _ _ _) ?k1 ?k2 ?k3 ?k4 ?k5 ?kK ?kd ?ku ?_)))
  (try (case hc => first | assumption | omega))
  (case k1 => k_asm); (case k2 => k_asm); (case k3 => k_asm); (case k4 => k_asm); (case k5 => k_asm); (case kK => first | exact rfl | assumption); (case kd => ktr_room); (case ku => ktr_units)
  (intro x9 t9 h9 tk9 e9 F9 N9; (try dsimp only); (try k_fold)))
  k_with "call builtin:str.join" => (
  k_here
  (k_dflt (first
   | ((with_reducible show wpAny _ _ (call (Value.builtin "str.join") [Value.str (Str.ofString "") _, Value.ref _]) _ _ _); refine' Mine.join0_at ?k1 ?k2 ?k3 ?k4 ?k5 ?_)
   | ((with_reducible show wpAny _ _ (call (Value.builtin "str.join") [Value.str (Str.ofString " ") _, Value.ref _]) _ _ _); refine' Mine.joinB_at ?k1 ?k2 ?k3 ?k4 ?k5 ?_)))
  (case k1 => k_asm); (case k2 => k_memK); (case k3 => k_asm); (case k4 => first | assumption | exact rfl); (case k5 => walk_at "join size")
  (intro t9 k9; (try dsimp only); (try k_fold)))
  k_with "call ref" => (
  k_here
  (with_reducible show wpAny _ _ (call (Value.ref 129) [Value.str (Str.ofString "") _, Value.bool _]) _ _ _)
  (k_dflt (refine' Mine.Con.use0 (Mine.con_mode_of0 _ _) ?k1 ?k2 ?k3 ?k4 ?k5 ?kK ?kd ?ku ?_))
  (case k1 => k_asm); (case k2 => k_asm); (case k3 => k_asm); (case k4 => k_asm); (case k5 => k_asm); (case kK => first | exact rfl | assumption); (case kd => ktr_room); (case ku => ktr_units)
  (intro r9 h9 tk9 F9 N9 hr9; (obtain ⟨t9, hr9⟩ := hr9); subst hr9; (try dsimp only); (try k_fold)))
  k_with "con argsC" => (
  (case kA => exact rfl); (case kF => exact rfl); (case kK => assumption); (case k1 => k_asm); (case k2 => k_asm); (case k3 => k_asm); (case k4 => k_asm); (case k5 => k_asm); (case k6 => k_is); (case k7 => k_is); (case k8 => ktr_room); (case k9 => first | exact BindsTo.of_eq rfl | exact binds_K (by k_in) rfl (by k_is) rfl rfl rfl); (case kB => exact rfl); (case kD => decide +kernel); (case c2 => exact rfl); (case c3 => exact rfl); (case c4 => exact rfl); k_whole; intro g' L' h' tk' cells' FG' F' N' Y' B' X' T' l1; (try k_lt l1); k_cells Y'; (try simp only [List.cons_append, List.nil_append] at N'); (try dsimp only); (try k_fold))
  k_with "call ref" => (
  k_here
  (k_dflt (first
   | ((show wpAny _ _ (call (Value.ref 158) [Value.str _ _]) _ _ _); refine' Mine.Con.useS (Mine.con_trim _ _ ?hc) ?k1 ?k2 ?k3 ?k4 ?k5 ?kK ?kd ?ku ?_)
   | ((show wpAny _ _ (call (Value.ref 205) [Value.str _ _]) _ _ _); refine' Mine.Con.useS (Mine.con_law_trimmed _ _ ?hc) ?k1 ?k2 ?k3 ?k4 ?k5 ?kK ?kd ?ku ?_)
   | ((show wpAny _ _ (call (Value.ref 144) [Value.str _ _, Value.bool _]) _ _ _); refine' Mine.Con.useS (Mine.con_quote _ _ _ ?hc) ?k1 ?k2 ?k3 ?k4 ?k5 ?kK ?kd ?ku ?_)
   | ((show wpAny _ _ (call (Value.ref 144) [Value.str _ _]) _ _ _); refine' Mine.Con.useS (Mine.con_quoteD _ _ ?hc) ?k1 ?k2 ?k3 ?k4 ?k5 ?kK ?kd ?ku ?_)
   | ((show wpAny _ _ (call (Value.ref 193) [Value.str _ _, Value.bool _]) _ _ _); refine' Mine.Con.useS (Mine.con_law_mode _ _ _ ?hc) ?k1 ?k2 ?k3 ?k4 ?k5 ?kK ?kd ?ku ?_)))
  (try (case hc => first | assumption | omega))
  (case k1 => k_asm); (case k2 => k_asm); (case k3 => k_asm); (case k4 => k_asm); (case k5 => k_asm); (case kK => first | exact rfl | assumption); (case kd => ktr_room); (case ku => ktr_units)
  (intro x9 t9 h9 tk9 e9 F9 N9; (try (first | (have z9 := Mine.trim_fact e9) | (have z9 := Mine.quote_fact e9))); (try dsimp only); (try k_fold)))
  k_with "for texts" => (k_here; (rename Fr _ _ _ _ => lF'); (with_unfolding_all refine' For_invVF lF' ?k1 ?k2 ?_; (case k1 => exact rfl); (case k2 => exact rfl); k_whole))
  k_with "call ref" => (
  k_here
  (k_dflt (first
   | ((show wpAny _ _ (call (Value.ref 165) [Value.str _ _]) _ _ _); refine' Mine.Con.useS (Mine.con_concat_part _ _ ?hc) ?k1 ?k2 ?k3 ?k4 ?k5 ?kK ?kd ?ku ?_)
   | ((show wpAny _ _ (call (Value.ref 212) [Value.str _ _]) _ _ _); refine' Mine.Con.useS (Mine.con_law_part _ _ ?hc) ?k1 ?k2 ?k3 ?k4 ?k5 ?kK ?kd ?ku ?_)
   | ((show wpAny _ _ (call (Value.ref 200) [Value.str _ _, Value.bool _]) _ _ _); refine' Mine.Con.useS (Mine.con_law_written _ _ _ ?hc) ?k1 ?k2 ?k3 ?k4 ?k5 ?kK ?kd ?ku ?_)))
  (try (case hc => first | assumption | omega))
  (case k1 => k_asm); (case k2 => k_asm); (case k3 => k_asm); (case k4 => k_asm); (case k5 => k_asm); (case kK => first | exact rfl | assumption); (case kd => ktr_room); (case ku => ktr_units)
  (intro x9 t9 h9 tk9 e9 F9 N9; (try (first | (have z9 := Mine.part_fact e9) | (have z9 := Mine.quote_fact e9))); (try dsimp only); (try k_fold)))
  k_with "call ref" => (
  k_here
  (k_dflt (first
   | ((show wpAny _ _ (call (Value.ref 151) [Value.ref _]) _ _ _); refine' Mine.Con.useS (Mine.con_join_list ?hT ?hi ?hm ?hB ?hn) ?k1 ?k2 ?k3 ?k4 ?k5 ?kK ?kd ?ku ?_)
   | ((show wpAny _ _ (call (Value.ref 172) [Value.ref _]) _ _ _); refine' Mine.Con.useS (Mine.con_concat ?hT ?hi ?hm ?hB ?hn) ?k1 ?k2 ?k3 ?k4 ?k5 ?kK ?kd ?ku ?_)
   | ((show wpAny _ _ (call (Value.ref 179) [Value.ref _]) _ _ _); refine' Mine.Con.useS (Mine.con_code_text ?hT ?hi ?hm ?hB ?hn) ?k1 ?k2 ?k3 ?k4 ?k5 ?kK ?kd ?ku ?_)))
  (case hT => first | assumption | exact ⟨_, .inl rfl⟩ | exact ⟨_, .inr rfl⟩)
  (case hi => assumption)
  (case hm => first | assumption | k_memK)
  (case hB => assumption)
  (case hn => first | assumption | omega)
  (case k1 => k_asm); (case k2 => k_asm); (case k3 => k_asm); (case k4 => k_asm); (case k5 => k_asm); (case kK => first | exact rfl | assumption); (case kd => ktr_room); (case ku => ktr_units)
  (intro x9 t9 h9 tk9 e9 F9 N9; (try dsimp only); (try k_fold)))
  k_with "binaryOp Add str str" => (
  k_here
  (with_reducible show wpAny _ _ (binaryOp Operator.Add (Value.str (Str.ofString _) _) (Value.str (Str.ofString _) _)) _ _ _)
  (refine' PyProof.Rows.SBL.add ?_ ?z)
  (case z => decide +kernel)
  (intro t9 k9 z9))
  k_with "call builtin:str.replace" => (
  k_here
  (with_reducible show wpAny _ _ (call (Value.builtin "str.replace") [Value.str _ _, Value.str _ _, Value.str _ _]) _ _ _)
  (walk_at "replace by"))
  k_with "con end1" => (
  refine Mine.end1 hret (by k_asm) (by k_asm) (by first | exact Mine.sub_all (by intro p hp; repeat (first | exact hp | refine List.mem_cons_of_mem _ ?_)) | exact Mine.sub_all (by kst_inAny)) (by k_memK)
    (by first | assumption | exact PySem.W.kst_ltOf (by first | exact And.right (by assumption) | exact And.right (And.right (by assumption)) | exact And.right (And.right (And.right (by assumption))) | exact And.right (And.right (And.right (And.right (by assumption)))))) ?_)
  trivial
namespace Mine
def plcs : List Nat → Nat → List Int
  | [], _ => []
  | x :: r, k => if isB x then plcs r (k + 1) else (k : Int) :: plcs r (k + 1)
theorem plcs_snoc : ∀ (l : List Nat) (x k : Nat), plcs (l ++ [x]) k = plcs l k ++ (if isB x then [] else [((k + l.length : Nat) : Int)])
  | [], x, k => by
    show plcs [x] k = _
    unfold plcs
    by_cases h : isB x
    · simp [h, plcs]
    · simp [h, plcs]
  | y :: r, x, k => by
    have ih := plcs_snoc r x (k + 1)
    rw [List.cons_append]
    unfold plcs
    rw [ih]
    have e : k + 1 + r.length = k + (y :: r).length := by rw [List.length_cons]; omega
    rw [e]
    by_cases h : isB y
    · rw [if_pos h, if_pos h]
    · rw [if_neg h, if_neg h, List.cons_append]
theorem plcs_first : ∀ (l : List Nat) (k : Nat) (x : Int) (r : List Int), plcs l k = x :: r → ∃ j, x = ((k + j : Nat) : Int) ∧ l.dropWhile isB = l.drop j ∧ plcs (l.drop j) (k + j) = x :: r
  | [], _, _, _, h => nomatch h
  | y :: t, k, x, r, h => by
    unfold plcs at h
    by_cases hy : isB y
    · rw [if_pos hy] at h
      obtain ⟨j, h1, h2, h3⟩ := plcs_first t (k + 1) x r h
      refine ⟨j + 1, by rw [h1]; omega, ?_, ?_⟩
      · rw [List.dropWhile_cons_of_pos hy, h2, List.drop_succ_cons]
      · rw [List.drop_succ_cons, show k + (j + 1) = k + 1 + j by omega]; exact h3
    · rw [if_neg hy] at h
      refine ⟨0, by rw [← (List.cons.inj h).1]; rfl, by rw [List.dropWhile_cons_of_neg hy]; rfl, ?_⟩
      show plcs (y :: t) k = _
      unfold plcs
      rw [if_neg hy, h]
theorem plcs_nil : ∀ (l : List Nat) (k : Nat), plcs l k = [] → l.dropWhile isB = []
  | [], _, _ => rfl
  | y :: t, k, h => by
    unfold plcs at h
    by_cases hy : isB y
    · rw [if_pos hy] at h
      rw [List.dropWhile_cons_of_pos hy, plcs_nil t (k + 1) h]
    · rw [if_neg hy] at h; cases h
theorem plcs_last (l : List Nat) (k : Nat) : ∀ (x : Int), (plcs l k).getLast? = some x → ∃ j, x = ((k + j : Nat) : Int) ∧ j < l.length ∧ (l.reverse.dropWhile isB).reverse = l.take (j + 1) := by
  intro x
  induction h : l.length generalizing l x with
  | zero =>
    have e : l = [] := List.length_eq_zero_iff.mp h
    subst e
    intro h; cases h
  | succ n ih =>
    intro hx
    have hne : l ≠ [] := by intro e; rw [e] at h; cases h
    obtain ⟨l', y, rfl⟩ : ∃ l' y, l = l' ++ [y] := ⟨l.dropLast, l.getLast hne, (List.dropLast_concat_getLast hne).symm⟩
    have hl : l'.length = n := by simpa using h
    rw [plcs_snoc] at hx
    by_cases hy : isB y
    · rw [if_pos hy, List.append_nil] at hx
      obtain ⟨j, h1, h2, h3⟩ := ih l' x hl hx
      refine ⟨j, h1, by omega, ?_⟩
      rw [List.reverse_append, List.reverse_cons, List.reverse_nil, List.nil_append, List.singleton_append, List.dropWhile_cons_of_pos hy, h3, List.take_append_of_le_length (by omega)]
    · rw [if_neg hy] at hx
      have e : x = ((k + l'.length : Nat) : Int) := by simpa using hx.symm
      refine ⟨l'.length, e, by omega, ?_⟩
      rw [List.reverse_append, List.reverse_cons, List.reverse_nil, List.nil_append, List.singleton_append, List.dropWhile_cons_of_neg hy, List.reverse_cons, List.reverse_reverse, List.take_of_length_le (by simp)]
theorem trim_places {x : Str} {ns : List Int} {p q : Int} (h : ns = plcs x.cps.toList 0) (hp : ns[0]? = some p) (hq : ns.getLast? = some q) : Txt.slice x (some p) (some (q + 1)) = S (trimL x.cps.toList) := by
  subst h
  have hne : ∃ r, plcs x.cps.toList 0 = p :: r := by
    cases e : plcs x.cps.toList 0 with
    | nil => rw [e] at hp; cases hp
    | cons a r => rw [e] at hp; simp at hp; exact ⟨r, by rw [hp]⟩
  obtain ⟨r, hr⟩ := hne
  obtain ⟨j, h1, h2, h3⟩ := plcs_first _ _ _ _ hr
  rw [hr, ← h3] at hq
  obtain ⟨i, h4, h5, h6⟩ := plcs_last _ _ _ hq
  rw [slice_is x (by omega) (by omega)]
  show S (((x.cps.toList).drop p.toNat).take _) = _
  have e1 : p.toNat = j := by omega
  have e2 : (q + 1).toNat - p.toNat = i + 1 := by omega
  rw [e1] at e2 ⊢
  rw [e2, trimL, h2, h6]
theorem trim_none {x : Str} (h : plcs x.cps.toList 0 = []) : (Str.ofString "") = S (trimL x.cps.toList) := by
  unfold trimL
  rw [plcs_nil _ _ h]
  decide +kernel
theorem lt_turn {l : List Nat} {c i : Nat} (hi : l[i]? = some c) : plcs (l.take (i + 1)) 0 = plcs (l.take i) 0 ++ (if isB c then [] else [(i : Int)]) := by
  have hlt : i < l.length := by
    rcases Nat.lt_or_ge i l.length with h | h
    · exact h
    · rw [List.getElem?_eq_none h] at hi; cases hi
  rw [List.take_add_one, hi]
  show plcs (List.take i l ++ [c]) 0 = _
  rw [plcs_snoc, List.length_take, Nat.min_eq_left (by omega), Nat.zero_add]
section
variable {prog : Program} {w : World} {A : Around} {E : Value → Shared → Prop} {s : Shared} {h₀ : Heap} {L D d : Addr} {news : List (Addr × Obj)} {value slice : PySem.Expr} {vs : List Value} {ns : List Int} {n k : Nat} {u : Tok} {Q : Value → Shared → Prop}
theorem ne_nil_ints (N : News h₀ L s.heap news) (hm : (D, PySem.W.listOf vs.toArray n) ∈ news) (hd : (d, PySem.W.listOf (List.toArray []) k) ∈ news) (hi : IntsAre vs ns) (hu : A.units + 64 < cLine) (h : Q (.bool (!decide (ns = []))) s) :
    wpAny (model prog w) A (compareOp .NotEq (.ref D) (.ref d)) Q E s :=
  PySem.W.ke_ne_ints (News.isList N hm) (News.isList N hd) hi .nil hu h
theorem first_int (N : News h₀ L s.heap news) (hm : (D, PySem.W.listOf vs.toArray n) ∈ news) (hi : IntsAre vs ns) (hne : ns ≠ []) (h : ∀ p t, ns[0]? = some p → Q (.int p t) s)
    (hs : subscripted slice false (.ref D) (.int 0 u) = operate [.ref D, .int 0 u] (getItem (.ref D) (.int 0 u)) := by with_unfolding_all rfl) (hg : ∀ r, letTemporaryGo value (.ref D) r = pure () := by intro _; with_unfolding_all rfl) :
    wpAny (model prog w) A (subscriptTail value slice (.ref D) (.int 0 u)) Q E s := by
  cases hi with
  | nil => exact absurd rfl hne
  | cons p t hi => exact PySem.W.kim_list (l := _) N hm rfl rfl (Int.le_refl _) (by decide) rfl (h p t rfl) hs hg
theorem last_int {kx : Int} (N : News h₀ L s.heap news) (hm : (D, PySem.W.listOf vs.toArray n) ∈ news) (hi : IntsAre vs ns) (hne : ns ≠ []) (hk : kx = -1) (h : ∀ p t, ns.getLast? = some p → Q (.int p t) s)
    (hs : subscripted slice false (.ref D) (.int kx u) = operate [.ref D, .int kx u] (getItem (.ref D) (.int kx u)) := by with_unfolding_all rfl) (hg : ∀ r, letTemporaryGo value (.ref D) r = pure () := by intro _; with_unfolding_all rfl) :
    wpAny (model prog w) A (subscriptTail value slice (.ref D) (.int kx u)) Q E s := by
  subst hk
  have hl := IntsAre.length hi
  have hpos : 0 < ns.length := List.length_pos_iff.mpr hne
  have hg' : ns[ns.length - 1]? = some (ns.getLast hne) := by
    rw [← List.getLast?_eq_getElem?, List.getLast?_eq_some_getLast hne]
  obtain ⟨t, ht⟩ := IntsAre.get hi _ _ hg'
  refine PySem.W.kim_back (l := vs) N hm rfl rfl (by decide) (by omega) (by decide) ?_ (h _ t (List.getLast?_eq_some_getLast hne)) hs hg
  rw [show ((-1 : Int) + (vs.length : Int)).toNat = ns.length - 1 by omega]
  exact ht
end
end Mine
theorem Mine.wTm0 : True := by
  k_with "exec Assign cons ListComp" => (k_here; k_dflt (refine Mine.cg_assign (_F₀ := by k_asm) (by rfl) (by with_unfolding_all rfl) (by with_unfolding_all rfl) (by rfl) (by decide) (by rfl) (by rfl) ?_))
  k_with "call type:enumerate" => (
  k_here
  (k_dflt (
    (refine' Mine.cg_enum_str (fun i ys => IntsAre ys (Mine.plcs (c.cps.toList.take i) 0)) ?k1 ?k2 ?k3 ?k4 ?k5 ?k6 ?k7 ?k8 ?k9 ?k10 ?k11 ?turn ?fin)
    (case k1 => exact rfl)
    (case k2 => exact .inr ⟨_, rfl⟩)
    (case k3 => exact Nat.le_trans hc (by decide))
    (case k4 => decide)
    (case k5 => rfl)
    (case k6 => rfl)
    (case k7 => rfl)
    (case k8 => decide)
    (case k9 => k_asm)
    (case k10 => k_asm)
    (case k11 => exact .nil)
    (case' turn => intro i' ys' c' u' t' e' oe' it' oi' C' oC' D' m' h' tk' E' hi' hJ' hx' hy' hC' F' N')
    (case' fin => intro g' ys' hJ'; unfold Mine.CgA; intro D' h' tk' F' N' o1'; (try (k_lt o1')); (try dsimp only at hJ'); rw [show List.take c.cps.size c.cps.toList = c.cps.toList from List.take_of_length_le (Nat.le_of_eq (by simp))] at hJ')
    (all_goals (try unfold Mine.TestThen))
    (all_goals (try dsimp only))
    (all_goals (try k_fold)))))
  k_with "TurnEnd" => (refine Mine.turn_end (by k_asm) (by k_asm) (by first | exact Mine.sub_all (by intro p hp; repeat (first | exact hp | refine List.mem_cons_of_mem _ ?_)) | exact Mine.sub_all (by kst_inAny)) ?_)
  k_with "compareOp NotEq ref ref" => (k_here; k_dflt (refine' Mine.ne_nil_ints ?k1 ?k2 ?k3 ?k4 ?k5 ?_; (case k1 => k_asm); (case k2 => k_memK); (case k3 => k_memK); (case k4 => assumption); (case k5 => first | ktr_units | (ktr_unf; ktr_units) | ke_room)))
  k_with "subscriptTail Name Constant ref int" => (
  k_here
  (k_dflt (refine' Mine.first_int ?k1 ?k2 ?k3 ?k4 ?_))
  (case k1 => k_asm)
  (case k2 => k_memK)
  (case k3 => assumption)
  (case k4 => assumption)
  (intro p' t' hp'; (try dsimp only); (try k_fold)))
  k_with "subscriptTail Name UnaryOp ref int" => (
  k_here
  (k_dflt (refine' Mine.last_int ?k1 ?k2 ?k3 ?k4 ?k5 ?_))
  (case k1 => k_asm)
  (case k2 => k_memK)
  (case k3 => assumption)
  (case k4 => assumption)
  (case k5 => decide)
  (intro q' t' hq'; (try dsimp only); (try k_fold)))
  trivial
namespace Mine
theorem blank_none {n : Nat} : (PySem.Builtin.Str.occurrences (Str.ofString " \t\n\x0b\x0c\x0d") ⟨#[n]⟩ 0 (Str.ofString " \t\n\x0b\x0c\x0d").length 1).isEmpty = !isB n := by
  rw [empty_one, show (Str.ofString " \t\n\x0b\x0c\x0d").cps.toList = [32, 9, 10, 11, 12, 13] by decide +kernel]
  congr 1
  by_cases h : n ∈ [32, 9, 10, 11, 12, 13]
  · rw [decide_eq_true h, isB_mem.mpr h]
  · rw [decide_eq_false h, (false_iff_of isB_mem).mpr h]
theorem blank_out {n : Nat} (h : (PySem.Builtin.Str.occurrences (Str.ofString " \t\n\x0b\x0c\x0d") ⟨#[n]⟩ 0 (Str.ofString " \t\n\x0b\x0c\x0d").length 1).isEmpty = true) : isB n = false := by
  rwa [blank_none, Bool.not_eq_true'] at h
theorem blank_in {n : Nat} (h : (PySem.Builtin.Str.occurrences (Str.ofString " \t\n\x0b\x0c\x0d") ⟨#[n]⟩ 0 (Str.ofString " \t\n\x0b\x0c\x0d").length 1).isEmpty = false) : isB n = true := by
  rwa [blank_none, Bool.not_eq_false'] at h
theorem cps_get {c : Str} {i n : Nat} (h : c.cps[i]? = some n) : c.cps.toList[i]? = some n := by simpa using h
theorem lt_in {c : Str} {ys : List Value} {i n : Nat} {t : Tok} (hi : c.cps[i]? = some n) (hJ : IntsAre ys (plcs (c.cps.toList.take i) 0)) (h : (PySem.Builtin.Str.occurrences (Str.ofString " \t\n\x0b\x0c\x0d") ⟨#[n]⟩ 0 (Str.ofString " \t\n\x0b\x0c\x0d").length 1).isEmpty = true) :
    IntsAre (ys ++ [.int i t]) (plcs (c.cps.toList.take (i + 1)) 0) := by
  rw [lt_turn (cps_get hi), blank_out h]
  exact IntsAre.append hJ (.cons _ t .nil)
theorem lt_out {c : Str} {ys : List Value} {i n : Nat} (hi : c.cps[i]? = some n) (hJ : IntsAre ys (plcs (c.cps.toList.take i) 0)) (h : (PySem.Builtin.Str.occurrences (Str.ofString " \t\n\x0b\x0c\x0d") ⟨#[n]⟩ 0 (Str.ofString " \t\n\x0b\x0c\x0d").length 1).isEmpty = false) :
    IntsAre ys (plcs (c.cps.toList.take (i + 1)) 0) := by
  rw [lt_turn (cps_get hi), blank_in h]
  simpa using hJ
theorem tx_end {x y : Str} {t : Tok} (e : x = y) : (∃ t', Value.str x t = .str y t') ∧ ([] : Led) = [] := e ▸ ⟨⟨t, rfl⟩, rfl⟩
theorem con_law_trimmed {w mean mg mb news} (c : Str) (t : Tok) (hc : c.length ≤ 4096) : Con w mean mg mb 205 12 news [.str c t] (fun v tl => (∃ t', v = .str (S (trimL c.cps.toList)) t') ∧ tl = []) := by
  walk_at "con in0"
  k_dflt (refine' code_def (binds := [(Str.ofString "text", .str c t)]) ?k1 ?k2 ?k3 ?k4 ?k5 ?kA ?kF ?kK ?k6 ?k7 ?k8 ?k9 ?kB ?_ ?c2 ?c3 ?c4 ?c5; walk_at "con args")
  walk_at "steps"
  all_goals first
    | exact lt_in (by assumption) (by assumption) (by assumption)
    | exact lt_out (by assumption) (by assumption) (by assumption)
    | walk_at "con end"
  all_goals first
    | exact tx_end (trim_none (by assumption))
    | exact tx_end (trim_places rfl (by assumption) (by assumption))
end Mine
end PartTm
section PartCd
namespace Mine
section
variable {prog : Program} {w : World} {A₀ A : Around} {E : Value → Shared → Prop} {s : Shared} {base h₀ : Heap} {L : Addr} {m : Str → Option Value} {news : List (Addr × Obj)} {K : PySem.W.Frag} {p : Program} {loose : List Str} {mean : ExcName → Option Value} {mg mb : Str → Option Value}
/-- a frame with cells: when the first name that is bound is a local, tokens have been given out -/
theorem env_cells1 {M : Model} {scope : Scope} {globals : Addr} {n : Str} {v : Value} {r : List (Str × Value)} {qual : Str} {func : Option Addr} {code : Value} {builtins : Addr} {Q : Env → Shared → Prop}
    (hk : scope.kind = .function) (hn : scope.names.lookup n = some .local)
    (hkind : ∀ x ∈ r, scope.names.lookup x.1 = some .local ∨ (scope.names.lookup x.1 = some .cell ∧ ((cellsFrom (s.heap.objs.size + 1) scope.names []).lookup x.1).isSome = true))
    (hQ : ∀ env, env = newEnv scope s.heap.objs.size globals (cellsFrom (s.heap.objs.size + 1) scope.names []) qual func code none builtins →
      ∀ s', InCallC s env.locals (bindL env.kindOf ((n, v) :: r) fun _ => none) env.cells (bindC env.kindOf ((n, v) :: r) fun _ => none) s' → 1 ≤ s'.toks → Q env s') :
    wpAny M A (newFunctionEnv scope globals [] ((n, v) :: r) qual func code none builtins) Q E s := by
  simp only [newFunctionEnv, Option.isSome_none, Bool.false_eq_true, if_false]
  refine wpAny_bind (wpAny_alloc ?_)
  refine wpAny_bind (wpAny_layCells _ (fun name kind cells => by cases hkc : kind == NameKind.cell <;> simp [hkc]) _ _ _ _ ?_)
  have ok := cellsFrom_ok scope.names (s.heap.push { cls := .type "frame", data := .dict #[] }) (s.heap.objs.size + 1) [] ⟨fun _ _ hm => (nomatch hm), List.Pairwise.nil⟩ (by rw [Heap.size_push]; exact Nat.le_refl _)
  rw [Heap.size_push] at ok
  rw [show ({ s with heap := s.heap.push { cls := .type "frame", data := .dict #[] } } : Shared).heap.objs.size = s.heap.objs.size + 1 from Heap.size_push ..]
  refine wpAny_bind ?_
  have hL : (newEnv scope s.heap.objs.size globals (cellsFrom (s.heap.objs.size + 1) scope.names []) qual func code none builtins).kindOf n = some .local := hn
  have x₀ : InCallC s (newEnv scope s.heap.objs.size globals (cellsFrom (s.heap.objs.size + 1) scope.names []) qual func code none builtins).locals (fun _ => none)
      (newEnv scope s.heap.objs.size globals (cellsFrom (s.heap.objs.size + 1) scope.names []) qual func code none builtins).cells (fun _ => none) { s with heap := pushCells (s.heap.push { cls := .type "frame", data := .dict #[] }) scope.names } :=
    ⟨⟨⟨_, _, rfl⟩, (Heap.Ns.new s.heap (.type "frame")).keeps (pushCells_keeps _ _), fun b o e => pushCells_keeps _ _ b o (Heap.get?_push_of_some _ e), Nat.le_refl _⟩,
      fun n c hc => (ok.empty n c (mem_of_lookup hc)).1, ok.apart, fun n c hm => (ok.empty n c hm).2⟩
  rw [List.forIn_cons]
  refine wpAny_bind (wpAny_bind (wpAny_storeName_local hL x₀.toInCall.ns (fun h' hn' hs' => ?_) (by show (scope.kind == .class || (scope.kind == .module && _)) = false; rw [hk]; rfl)))
  have x₁ : InCallC s (newEnv scope s.heap.objs.size globals (cellsFrom (s.heap.objs.size + 1) scope.names []) qual func code none builtins).locals (fun y => if y = n then some v else none)
      (newEnv scope s.heap.objs.size globals (cellsFrom (s.heap.objs.size + 1) scope.names []) qual func code none builtins).cells (fun _ => none) { s with heap := h', toks := s.toks + 1 } := by
    refine ⟨⟨⟨h', _, rfl⟩, hn', fun b o e => ?_, x₀.toInCall.fresh⟩, fun k c hc => ?_, x₀.apart, x₀.above⟩
    · exact hs'.extBut b o (Nat.ne_of_lt (Nat.lt_of_lt_of_le (Heap.lt_size e) x₀.toInCall.fresh)) (x₀.toInCall.keep b o e)
    · exact (x₀.cell k c hc).sameBut hs' (Nat.ne_of_gt (x₀.above k c (mem_of_lookup hc)))
  refine wpAny_pure (wpAny_with_toks (n := 1) (Nat.le_add_left 1 s.toks) (wpAny_bindParams (s₀ := s) _ (fun _ _ _ => rfl) hk r _ _ _ _ x₁ hkind fun s' x => ?_))
  intro ht
  refine wpAny_pure (hQ _ rfl s' ?_ ht)
  unfold bindL bindC
  rw [if_pos hL, if_pos hL]
  exact x
theorem callX_cells1 {env : Env} {outer : List Env} {R : Result → Shared → Prop} {name qual : Str} {params : Arguments} {body : List Stmt} {scope : Scope} {dV kV doc pm cdv ct : Value} {an : Option Addr} {fo : Obj} {f : Addr} {args : Args} {n₁ : Str} {v₁ : Value} {r : List (Str × Value)}
    (B : Below A₀ base outer h₀) (F : Fr h₀ L s.heap m) (N : News h₀ L s.heap news) (hlim : h₀.NoLimit) (hA : A.frames = some (env :: outer)) (hf : env.frame = some L) (hke : env.scope.kind = .function)
    (ho : s.heap.get? f = some fo) (hd : fo.data = .func (fnX name qual params body scope [] dV kV doc pm an cdv ct)) (hcd : s.heap.CodeRec cdv qual) (hroom : A.depth < recursionLimit)
    (hbind : BindsTo s (fnX name qual params body scope [] dV kV doc pm an cdv ct) args ((n₁, v₁) :: r)) (hn₁ : scope.names.lookup n₁ = some .local)
    (hkind : ∀ n, ∀ x ∈ (n₁, v₁) :: r, scope.names.lookup x.1 = some .local ∨ (scope.names.lookup x.1 = some .cell ∧ ((cellsFrom n scope.names []).lookup x.1).isSome = true))
    (hnd : ((cellsFrom 0 scope.names []).map (·.1)).Nodup)
    (h : ∀ g L' h₁ tk cells, 1 ≤ tk → Fr h₀ L g m → Fr g L' h₁ (bindL (envOfC qual scope L' f cdv).kindOf ((n₁, v₁) :: r) fun _ => none) → News g L' h₁ (cells ++ news) →
      CellsAre (bindC (envOfC qual scope L' f cdv).kindOf ((n₁, v₁) :: r) fun _ => none) (cellsFrom (L' + 1) scope.names []) cells → Below A base (env :: outer) g → h₀.StaysIn g → (∀ p ∈ news, p.1 < L') →
      wpAny (model prog w) (A.deeper (envOfC qual scope L' f cdv)) (execs body (envOfC qual scope L' f cdv))
        (fun fl s' => LeaveK h₀ L m g R (match fl with | .ret v => v | _ => .none) s')
        (fun e s' => wpAny (model prog w) (A.deeper (envOfC qual scope L' f cdv)) (leaving (envOfC qual scope L' f cdv) e) (fun _ s'' => R (.error e) s'') (fun e' s'' => R (.error e') s'') s')
        { s with heap := h₁, toks := tk })
    (hco : scope.isCoroutine = false) (hgen : scope.isGenerator = false) (hk : scope.kind = .function) : codeAny (model prog w) A (.call (.ref f) args) R s := by
  obtain ⟨FG, BG, st, lv⟩ := groundX (R := R) B F N hA hf hke
  refine codeAny_call_function hroom ho hd hco hgen rfl hcd (hbind _ _ _ _ ?_)
  refine env_cells1 hk hn₁ (fun x hx => hkind _ x (List.mem_cons_of_mem _ hx)) fun env' he s' x ht => ?_
  subst he
  refine ⟨(hlim.keeps F.keep).keeps x.toInCall.keep, codeAny_func ?_⟩
  obtain ⟨h₁, tk, rfl, _⟩ := x.done
  have hk₁ := x.toInCall.keep
  obtain ⟨cells, NC, Y⟩ := Cl.news (h₀ := s.heap) (Nat.le_refl _) fun n c hm => ⟨x.cell n c (lookup_of_mem_nodup (cellsFrom_names scope.names 0 (s.heap.objs.size + 1) [] [] rfl ▸ hnd) hm), x.above n c hm⟩
  refine wpAny_mono (h _ s.heap.objs.size h₁ tk cells ht FG ⟨x.toInCall.ns, fun b o e => hk₁ b o (of_hideAll _ e), Nat.le_of_eq (hideAll_size _ _)⟩ (fun p hp => ?_) Y BG st (fun p hp => Heap.lt_size (N p hp).1)) (fun fl s' hl => lv _ _ hl) fun _ _ y => y
  rcases List.mem_append.mp hp with hp | hp
  · refine ⟨(NC p hp).1, (NC p hp).2.1, ?_⟩
    cases q : (hideAll s.heap (news.map (·.1))).get? p.1 with
    | none => rfl
    | some o => have := of_hideAll _ q; rw [(NC p hp).2.2] at this; cases this
  · exact ⟨hk₁ _ _ (N p hp).1, Nat.ne_of_lt (Heap.lt_size (N p hp).1), hideAll_none _ (List.mem_map_of_mem hp)⟩
theorem code_defC1 {env : Env} {outer : List Env} {R : Result → Shared → Prop} {name qual : Str} {params : Arguments} {body : List Stmt} {scope : Scope} {dV kV doc pm cdv ct oc : Value} {an od : Option Addr} {osl : Array (Option Value)} {f : Addr} {args : Args} {n₁ : Str} {v₁ : Value} {r : List (Str × Value)}
    (B : Below A₀ base outer h₀) (F : Fr h₀ L s.heap m) (X₀ : K.In h₀) (N : News h₀ L s.heap news) (T : Top p loose mean mg mb h₀) (hA : A.frames = some (env :: outer)) (hf : env.frame = some L) (hke : env.scope.kind = .function)
    (ho : K.lookup f = some ⟨oc, od, .func (fnOf name qual params body scope dV kV doc pm an cdv ct), osl⟩) (hcd : codeIn K cdv qual = true) (hroom : A.depth < recursionLimit)
    (hbind : BindsTo s (fnOf name qual params body scope dV kV doc pm an cdv ct) args ((n₁, v₁) :: r)) (hkind : (((n₁, v₁) :: r).all fun y => scope.names.lookup y.1 == some .local || scope.names.lookup y.1 == some .cell) = true)
    (hnd : ((cellsFrom 0 scope.names []).map (·.1)).Nodup)
    (h : ∀ g L' h₁ tk cells, 1 ≤ tk → Fr h₀ L g m → Fr g L' h₁ (bindL (envOfC qual scope L' f cdv).kindOf ((n₁, v₁) :: r) fun _ => none) → News g L' h₁ (cells ++ news) →
      CellsAre (bindC (envOfC qual scope L' f cdv).kindOf ((n₁, v₁) :: r) fun _ => none) (cellsFrom (L' + 1) scope.names []) cells → Below A base (env :: outer) g → K.In g → Top p loose mean mg mb g → (∀ p ∈ news, p.1 < L') →
      wpAny (model prog w) (A.deeper (envOfC qual scope L' f cdv)) (execs body (envOfC qual scope L' f cdv))
        (fun fl s' => LeaveK h₀ L m g R (match fl with | .ret v => v | _ => .none) s')
        (fun e s' => wpAny (model prog w) (A.deeper (envOfC qual scope L' f cdv)) (leaving (envOfC qual scope L' f cdv) e) (fun _ s'' => R (.error e) s'') (fun e' s'' => R (.error e') s'') s')
        { s with heap := h₁, toks := tk })
    (hn₁ : scope.names.lookup n₁ = some .local) (hco : scope.isCoroutine = false) (hgen : scope.isGenerator = false) (hk : scope.kind = .function) : codeAny (model prog w) A (.call (.ref f) args) R s :=
  callX_cells1 B F N T.nolimit hA hf hke ((X₀.keeps F.keep) _ _ ho) rfl (codeRec_of (X₀.keeps F.keep) hcd) hroom hbind hn₁ (kindsX hkind) hnd (fun g L' h₁ tk cells ht FG F' N' Y B' st l => h g L' h₁ tk cells ht FG F' N' Y B' (X₀.keeps st) (T.keeps st) l) hco hgen hk
end
end Mine
end PartCd
section PartEt
namespace Mine
section
variable {prog : Program} {w : World} {A : Around} {E : Value → Shared → Prop} {s : Shared} {a b : Addr} {xs ys : List Value} {ss ts : List Str} {Q : Value → Shared → Prop}
/-- a list against an empty one -/
theorem ne_nil_list (ha : s.heap.IsList a xs.toArray) (hb : s.heap.IsList b (List.toArray [])) (hu : A.units < cLine) (h1 : xs = [] → Q (.bool false) s) (h2 : xs ≠ [] → Q (.bool true) s) :
    wpAny (model prog w) A (compareOp .NotEq (.ref a) (.ref b)) Q E s := by
  by_cases hx : xs = []
  · subst hx
    exact SeqAt.RcNeAt.lists (e := fun _ => true) ha hb rfl hu (fun j h1 => absurd h1 (by simp)) prog w E Q (h1 rfl)
  · refine SeqAt.RcNeAt.lists_lengths ha hb ?_ hu prog w E Q (h2 hx)
    have : 0 < xs.length := List.length_pos_iff.mpr hx
    simp only [List.size_toArray, List.length_nil, bne_iff_ne]
    omega
theorem strs_get : ∀ {vs : List Value} {ss : List Str}, StrsAre vs ss → ∀ (i : Nat) (v : Value), vs[i]? = some v → ∃ y t, ss[i]? = some y ∧ v = .str y t := fun h => strs_at h
theorem eq_texts_same (ha : s.heap.IsList a xs.toArray) (hb : s.heap.IsList b ys.toArray) (hi : StrsAre xs ss) (hj : StrsAre ys ts) (he : ss = ts) (hu : A.units < cLine) (h : Q (.bool true) s) :
    wpAny (model prog w) A (compareOp .Eq (.ref a) (.ref b)) Q E s := by
  subst he
  have l1 := strs_len hi
  have l2 := strs_len hj
  have key : ∀ k : Bool, k = true → Q (.bool k) s := fun k hk => hk ▸ h
  refine SeqAt.RcAt.lists (e := fun _ => true) ha hb (by rw [List.size_toArray, List.size_toArray, l1, l2]) hu (fun j h1 h2 => ?_) prog w E Q (key _ (List.all_eq_true.mpr fun _ _ => rfl))
  rw [List.size_toArray] at h1 h2
  obtain ⟨x, t, hx, ex⟩ := strs_at hi j xs[j] (List.getElem?_eq_getElem h1)
  obtain ⟨y, u, hy, ey⟩ := strs_at hj j ys[j] (List.getElem?_eq_getElem h2)
  have e1 : x = y := by rw [hx] at hy; exact Option.some.inj hy
  subst e1
  have e2 : xs.toArray[j] = xs[j] := by simp
  have e3 : ys.toArray[j] = ys[j] := by simp
  rw [e2, e3, ex, ey]
  have := SeqAt.EqAt.str_str (A := A.in1) (s := s) x t x u
  rwa [beq_self_eq_true] at this
end
end Mine
end PartEt
section PartLq
namespace Mine
/-- the text with each pair \\ \{ \} taken out -/
def bare1 (l : List Nat) : List Nat :=
  match l with
  | [] => []
  | c :: r => if c = 92 ∧ (r.head? = some 92 ∨ r.head? = some 123 ∨ r.head? = some 125) then 112 :: bare1 (r.drop 1) else c :: bare1 r
termination_by l.length
decreasing_by all_goals first | (simp_wf; done) | (simp_wf; omega) | (simp only [List.length_drop, List.length_cons]; omega)
theorem bare1_nil : bare1 [] = [] := by rw [bare1]
theorem bare1_cons (c : Nat) (r : List Nat) : bare1 (c :: r) = if c = 92 ∧ (r.head? = some 92 ∨ r.head? = some 123 ∨ r.head? = some 125) then 112 :: bare1 (r.drop 1) else c :: bare1 r := by rw [bare1]
theorem bare1_ne {c : Nat} (r : List Nat) (h : c ≠ 92) : bare1 (c :: r) = c :: bare1 r := by rw [bare1_cons, if_neg (fun q => h q.1)]
theorem bare1_pair {r : List Nat} (h : r.head? = some 92 ∨ r.head? = some 123 ∨ r.head? = some 125) : bare1 (92 :: r) = 112 :: bare1 (r.drop 1) := by rw [bare1_cons, if_pos ⟨rfl, h⟩]
theorem bare1_bs {r : List Nat} (h : ¬ (r.head? = some 92 ∨ r.head? = some 123 ∨ r.head? = some 125)) : bare1 (92 :: r) = 92 :: bare1 r := by rw [bare1_cons, if_neg (fun q => h q.2)]
def repl3 (l : List Nat) : List Nat := replL [92, 125] [112] (replL [92, 123] [112] (replL [92, 92] [112] l))
theorem repl_head (k : Nat) (hk : k ≠ 112) : ∀ (b : Nat) (r : List Nat), b ≠ 92 → (replL [92, k] [112] (b :: r)) = b :: replL [92, k] [112] r := fun b r hb => by
  rw [repl_two, if_neg (fun h => hb h.1)]
theorem repl3_plain (c : Nat) (r : List Nat) (h : c ≠ 92) : repl3 (c :: r) = c :: repl3 r := by
  unfold repl3
  rw [repl_head 92 (by decide) c r h, repl_head 123 (by decide) _ _ h, repl_head 125 (by decide) _ _ h]
theorem repl3_nil : repl3 [] = [] := by unfold repl3; rw [replL_nil, replL_nil, replL_nil]
theorem repl3_end : repl3 [92] = [92] := by
  unfold repl3
  rw [repl_two, if_neg (by simp), replL_nil, repl_two, if_neg (by simp), replL_nil, repl_two, if_neg (by simp), replL_nil]
theorem repl3_bs (r : List Nat) : repl3 (92 :: 92 :: r) = 112 :: repl3 r := by
  unfold repl3
  rw [repl_two, if_pos ⟨rfl, rfl⟩]
  show replL [92, 125] [112] (replL [92, 123] [112] (112 :: replL [92, 92] [112] r)) = _
  rw [repl_head 123 (by decide) _ _ (by decide), repl_head 125 (by decide) _ _ (by decide)]
theorem repl3_ob (r : List Nat) : repl3 (92 :: 123 :: r) = 112 :: repl3 r := by
  unfold repl3
  rw [repl_two, if_neg (by simp), repl_head 92 (by decide) _ _ (by decide), repl_two, if_pos ⟨rfl, rfl⟩]
  show replL [92, 125] [112] (112 :: replL [92, 123] [112] (replL [92, 92] [112] r)) = _
  rw [repl_head 125 (by decide) _ _ (by decide)]
theorem repl3_cb (r : List Nat) : repl3 (92 :: 125 :: r) = 112 :: repl3 r := by
  unfold repl3
  rw [repl_two, if_neg (by simp), repl_head 92 (by decide) _ _ (by decide), repl_two, if_neg (by simp), repl_head 123 (by decide) _ _ (by decide), repl_two, if_pos ⟨rfl, rfl⟩]
  rfl
theorem repl3_other (c : Nat) (r : List Nat) (h1 : c ≠ 92) (h2 : c ≠ 123) (h3 : c ≠ 125) : repl3 (92 :: c :: r) = 92 :: repl3 (c :: r) := by
  have e := repl3_plain c r h1
  rw [e]
  unfold repl3
  rw [repl_two, if_neg (by simp [h1]), repl_head 92 (by decide) _ _ h1, repl_two, if_neg (by simp [h2]), repl_head 123 (by decide) _ _ h1, repl_two, if_neg (by simp [h3]), repl_head 125 (by decide) _ _ h1]
theorem repl3_is : ∀ (n : Nat) (l : List Nat), l.length ≤ n → repl3 l = bare1 l
  | _, [], _ => by rw [repl3_nil, bare1_nil]
  | 0, c :: r, h => by simp at h
  | n + 1, c :: r, h => by
    have hr : r.length ≤ n := by simpa using h
    rw [bare1_cons]
    by_cases hc : c = 92
    · subst hc
      cases r with
      | nil => rw [if_neg (by simp), bare1_nil, repl3_end]
      | cons q r =>
        have hr' : r.length ≤ n := by simp at hr; omega
        by_cases h1 : q = 92
        · subst h1; rw [if_pos ⟨rfl, by simp⟩, repl3_bs]; show 112 :: repl3 r = 112 :: bare1 r; rw [repl3_is n r hr']
        by_cases h2 : q = 123
        · subst h2; rw [if_pos ⟨rfl, by simp⟩, repl3_ob]; show 112 :: repl3 r = 112 :: bare1 r; rw [repl3_is n r hr']
        by_cases h3 : q = 125
        · subst h3; rw [if_pos ⟨rfl, by simp⟩, repl3_cb]; show 112 :: repl3 r = 112 :: bare1 r; rw [repl3_is n r hr']
        rw [if_neg (by simp [h1, h2, h3]), repl3_other q r h1 h2 h3, repl3_is n (q :: r) hr]
    · rw [if_neg (fun q => hc q.1), repl3_plain c r hc, repl3_is n r hr]
def bal (b : List Nat) : Int := (b.count 123 : Int) - b.count 125
/-- a brace closes too early, or a backslash stands last or ahead of a newline -/
def bad (d : Int) : List Nat → Bool
  | [] => false
  | c :: r => if c = 123 then bad (d + 1) r else if c = 125 then (decide (d - 1 < 0) || bad (d - 1) r) else if c = 92 then (decide (r = [] ∨ r.head? = some 10) || bad d r) else bad d r
def isM (c : Nat) : Bool := c == 93 || c == 34
def isBr (c : Nat) : Bool := c == 91 || c == 36 || c == 59 || c == 92 || isB c
theorem isBr_mem {n : Nat} : isBr n = true ↔ n ∈ [91, 36, 59, 92, 32, 9, 10, 11, 12, 13] := by
  simp only [isBr, isB, Bool.or_eq_true, beq_iff_eq, List.mem_cons, List.not_mem_nil, or_false, or_assoc]
theorem bal_cons (c : Nat) (r : List Nat) : bal (c :: r) = (if c = 123 then 1 else if c = 125 then -1 else 0) + bal r := by
  unfold bal
  rw [List.count_cons, List.count_cons]
  by_cases h1 : c = 123
  · subst h1; simp; omega
  by_cases h2 : c = 125
  · subst h2; simp; omega
  simp [h1, h2]
theorem scan_is (H : Bool) : ∀ (n : Nat) (l : List Nat), l.length ≤ n → ∀ (d : Int) (ib wb we : Bool), modeScan H l d ib wb we =
    if bad d (bare1 l) = true then Str.ofString "escape" else modeEnd H (d + bal (bare1 l)) (ib || l.any isM || l.any isBr) (wb || l.any isBr) (we || l.any isM)
  | _, [], _, d, ib, wb, we => by
    rw [scan_nil, bare1_nil, if_neg (by simp [bad])]
    simp [bal]
  | 0, c :: r, h, _, _, _, _ => by simp at h
  | n + 1, c :: r, h, d, ib, wb, we => by
    have hr : r.length ≤ n := by simpa using h
    have hr1 : (r.drop 1).length ≤ n := by rw [List.length_drop]; omega
    rw [scan_cons]
    by_cases h1 : c = 123
    · subst h1
      rw [if_pos rfl, scan_is H n r hr, bare1_ne r (by decide)]
      simp only [bad, if_pos, bal_cons, List.any_cons, show isM 123 = false from rfl, show isBr 123 = false from by decide, Bool.false_or]
      rw [show d + 1 + bal (bare1 r) = d + (1 + bal (bare1 r)) by omega]
    rw [if_neg h1]
    by_cases h2 : c = 125
    · subst h2
      rw [if_pos rfl, bare1_ne r (by decide)]
      simp only [bad, bal_cons, List.any_cons, show isM 125 = false from rfl, show isBr 125 = false from by decide, Bool.false_or, if_neg (show ¬ (125 = 123) by decide), if_pos, Bool.or_eq_true, decide_eq_true_eq]
      by_cases h3 : d - 1 < 0
      · rw [if_pos h3, if_pos (.inl h3)]
      · rw [if_neg h3, scan_is H n r hr]
        by_cases h4 : bad (d - 1) (bare1 r) = true
        · rw [if_pos h4, if_pos (.inr h4)]
        · rw [if_neg h4, if_neg (by simp [h3, h4]), show d - 1 + bal (bare1 r) = d + (-1 + bal (bare1 r)) by omega]
    rw [if_neg h2]
    by_cases h3 : c = 93 ∨ c = 34
    · have hc92 : c ≠ 92 := by omega
      rw [if_pos h3, scan_is H n r hr, bare1_ne r hc92]
      have hm : isM c = true := by unfold isM; rcases h3 with h3 | h3 <;> simp [h3]
      have hb : isBr c = false := by rcases h3 with h3 | h3 <;> (subst h3; decide)
      simp only [bad, bal_cons, List.any_cons, hm, hb, if_neg h1, if_neg h2, if_neg hc92, Bool.true_or, Bool.or_true, Bool.false_or, Int.zero_add]
    rw [if_neg h3]
    have hm : isM c = false := by unfold isM; simp; omega
    by_cases h4 : c = 92
    · subst h4
      rw [if_pos rfl]
      have hb : isBr 92 = true := by decide
      by_cases h5 : r = [] ∨ r.head? = some 10
      · rw [if_pos h5, bare1_bs (by rcases h5 with h5 | h5 <;> simp [h5])]
        have hbr : bare1 r = [] ∨ (bare1 r).head? = some 10 := by
          rcases h5 with h5 | h5
          · exact .inl (by rw [h5, bare1_nil])
          · cases r with
            | nil => cases h5
            | cons q r =>
              have : q = 10 := by simpa using h5
              subst this
              exact .inr (by rw [bare1_ne r (by decide)]; rfl)
        rw [if_pos]
        simp [bad, hbr]
      · rw [if_neg h5]
        by_cases h6 : r.head? = some 123 ∨ r.head? = some 125 ∨ r.head? = some 92
        · rw [if_pos h6, scan_is H n (r.drop 1) hr1, bare1_pair (by rcases h6 with h6 | h6 | h6 <;> simp [h6])]
          obtain ⟨q, r', rfl⟩ : ∃ q r', r = q :: r' := by cases r with | nil => simp at h5 | cons q r' => exact ⟨q, r', rfl⟩
          have hq : q = 123 ∨ q = 125 ∨ q = 92 := by simpa using h6
          have hqm : isM q = false := by rcases hq with hq | hq | hq <;> (subst hq; decide)
          simp only [bad, bal_cons, List.any_cons, hm, hb, hqm, List.drop_succ_cons, List.drop_zero, Bool.true_or, Bool.or_true, Bool.false_or, if_neg (show ¬ (112 = 123) by decide), if_neg (show ¬ (112 = 125) by decide), if_neg (show ¬ (112 = 92) by decide), Int.zero_add]
        · rw [if_neg h6, scan_is H n r hr, bare1_bs (by intro h7; exact h6 (by rcases h7 with h7 | h7 | h7 <;> simp [h7]))]
          have hbr : ¬ (bare1 r = [] ∨ (bare1 r).head? = some 10) := by
            obtain ⟨q, r', rfl⟩ : ∃ q r', r = q :: r' := by cases r with | nil => simp at h5 | cons q r' => exact ⟨q, r', rfl⟩
            have hq10 : q ≠ 10 := by simpa using h5
            have hq92 : q ≠ 92 := by intro e; exact h6 (by simp [e])
            rw [bare1_ne r' hq92]
            simp [hq10]
          simp only [bad, bal_cons, List.any_cons, hm, hb, Bool.true_or, Bool.or_true, Bool.false_or, if_neg (show ¬ (92 = 123) by decide), if_neg (show ¬ (92 = 125) by decide), if_pos, Int.zero_add, decide_eq_false hbr]
    rw [if_neg h4, bare1_ne r h4]
    by_cases h5 : c = 91 ∨ c = 36 ∨ c = 59 ∨ isB c = true
    · have hb : isBr c = true := by unfold isBr; rcases h5 with h5 | h5 | h5 | h5 <;> simp [h5]
      rw [if_pos h5, scan_is H n r hr]
      simp only [bad, bal_cons, List.any_cons, hm, hb, if_neg h1, if_neg h2, if_neg h4, Bool.true_or, Bool.or_true, Bool.false_or, Int.zero_add]
    · have hb : isBr c = false := by
        unfold isBr
        simp only [not_or] at h5
        simp [h5.1, h5.2.1, h5.2.2.1, h4]
        simpa using h5.2.2.2
      rw [if_neg h5, scan_is H n r hr]
      simp only [bad, bal_cons, List.any_cons, hm, hb, if_neg h1, if_neg h2, if_neg h4, Bool.false_or, Int.zero_add]
end Mine
namespace Mine
theorem bad_iff : ∀ (b : List Nat) (d : Int), 0 ≤ d → (bad d b = true ↔ (∃ k, 0 < k ∧ k ≤ b.length ∧ d + bal (b.take k) < 0) ∨ ∃ i, b[i]? = some 92 ∧ (b ++ [10])[i + 1]? = some 10)
  | [], d, hd => by
    constructor
    · intro h; simp [bad] at h
    · rintro (⟨k, h1, h2, _⟩ | ⟨i, h, _⟩)
      · simp at h2; omega
      · simp at h
  | c :: r, d, hd => by
    have key : ∀ e : Int, e = (if c = 123 then 1 else if c = 125 then -1 else 0) → ((∃ k, 0 < k ∧ k ≤ (c :: r).length ∧ d + bal ((c :: r).take k) < 0) ↔ (d + e < 0 ∨ ∃ k, 0 < k ∧ k ≤ r.length ∧ (d + e) + bal (r.take k) < 0)) := by
      intro e he
      constructor
      · rintro ⟨k, h1, h2, h3⟩
        obtain ⟨j, rfl⟩ : ∃ j, k = j + 1 := ⟨k - 1, by omega⟩
        rw [List.take_succ_cons, bal_cons, ← he] at h3
        rcases Nat.eq_zero_or_pos j with h0 | h0
        · subst h0; left; simp [bal] at h3; omega
        · right; exact ⟨j, h0, by simpa using h2, by omega⟩
      · rintro (h | ⟨k, h1, h2, h3⟩)
        · exact ⟨1, by omega, by simp, by rw [List.take_succ_cons, bal_cons, ← he, List.take_zero]; simp [bal]; omega⟩
        · exact ⟨k + 1, by omega, by simpa using h2, by rw [List.take_succ_cons, bal_cons, ← he]; omega⟩
    have key2 : (∃ i, (c :: r)[i]? = some 92 ∧ ((c :: r) ++ [10])[i + 1]? = some 10) ↔ ((c = 92 ∧ (r = [] ∨ r.head? = some 10)) ∨ ∃ i, r[i]? = some 92 ∧ (r ++ [10])[i + 1]? = some 10) := by
      constructor
      · rintro ⟨i, h1, h2⟩
        cases i with
        | zero =>
          left
          refine ⟨by simpa using h1, ?_⟩
          cases r with
          | nil => exact .inl rfl
          | cons q r => right; simpa using h2
        | succ i => right; exact ⟨i, by simpa using h1, by simpa using h2⟩
      · rintro (⟨h1, h2⟩ | ⟨i, h1, h2⟩)
        · refine ⟨0, by simp [h1], ?_⟩
          rcases h2 with h2 | h2
          · subst h2; rfl
          · cases r with
            | nil => cases h2
            | cons q r => simpa using h2
        · exact ⟨i + 1, by simpa using h1, by simpa using h2⟩
    rw [key _ rfl, key2]
    by_cases h1 : c = 123
    · subst h1
      simp only [bad, if_pos]
      rw [bad_iff r (d + 1) (by omega)]
      constructor
      · rintro (h | h)
        · exact .inl (.inr h)
        · exact .inr (.inr h)
      · rintro ((h | h) | (h | h))
        · omega
        · exact .inl h
        · exact absurd h.1 (by decide)
        · exact .inr h
    by_cases h2 : c = 125
    · subst h2
      simp only [bad, if_neg h1, if_pos, Bool.or_eq_true, decide_eq_true_eq]
      by_cases h3 : d - 1 < 0
      · constructor
        · intro _; left; left; omega
        · intro _; exact .inl h3
      · rw [bad_iff r (d - 1) (by omega)]
        constructor
        · rintro (h | h | h)
          · exact absurd h h3
          · exact .inl (.inr h)
          · exact .inr (.inr h)
        · rintro ((h | h) | (h | h))
          · omega
          · exact .inr (.inl h)
          · exact absurd h.1 (by decide)
          · exact .inr (.inr h)
    simp only [if_neg h1, if_neg h2, Int.add_zero]
    by_cases h3 : c = 92
    · subst h3
      simp only [bad, if_neg h1, if_neg h2, if_pos, Bool.or_eq_true, decide_eq_true_eq]
      rw [bad_iff r d hd]
      constructor
      · rintro (h | h | h)
        · exact .inr (.inl ⟨by trivial, h⟩)
        · exact .inl (.inr h)
        · exact .inr (.inr h)
      · rintro ((h | h) | (h | h))
        · omega
        · exact .inr (.inl h)
        · exact .inl h.2
        · exact .inr (.inr h)
    · simp only [bad, if_neg h1, if_neg h2, if_neg h3]
      rw [bad_iff r d hd]
      constructor
      · rintro (h | h)
        · exact .inl (.inr h)
        · exact .inr (.inr h)
      · rintro ((h | h) | (h | h))
        · omega
        · exact .inl h
        · exact absurd h.1 h3
        · exact .inr h
end Mine
end PartLq
section PartMx
namespace Mine
open PySem.StrLaws PySem.Builtin PySem.Builtin.Str
def fB (x : Str) (k' : Int) : Int := if (Txt.slice x none (some k')).length ≤ x.length then Txt.count (Txt.slice x none (some k')) (Str.ofString "{") - Txt.count (Txt.slice x none (some k')) (Str.ofString "}") else k'
theorem cnt_count (c : Nat) : ∀ l : List Nat, cnt c l = (l.count c : Int)
  | [] => by rw [cnt_nil]; rfl
  | n :: r => by
    rw [cnt_cons, cnt_count c r, List.count_cons]
    by_cases h : n = c
    · subst h; simp; omega
    · simp [h]
theorem fB_is (x : Str) {k : Int} (h0 : 0 ≤ k) : fB x k = bal ((sg x).take k.toNat) := by
  unfold fB
  rw [slice_to_is x h0, if_pos (by rw [S_len, List.length_take, sg_len]; exact Nat.min_le_right _ _)]
  have e1 : Str.ofString "{" = ⟨#[123]⟩ := by decide +kernel
  have e2 : Str.ofString "}" = ⟨#[125]⟩ := by decide +kernel
  rw [e1, e2, count_cnt, count_cnt, cnt_count, cnt_count]
  show ((sg (S _)).count 123 : Int) - ((sg (S _)).count 125 : Int) = _
  rw [sg_S]
  rfl
theorem bare_of {c x1 x2 x3 : Str} (e1 : x1 = S (replL (sg (Str.ofString "\\\\")) (sg (Str.ofString "p")) (sg c))) (e2 : x2 = S (replL (sg (Str.ofString "\\{")) (sg (Str.ofString "p")) (sg x1))) (e3 : x3 = S (replL (sg (Str.ofString "\\}")) (sg (Str.ofString "p")) (sg x2))) :
    sg x3 = bare1 c.cps.toList := by
  have a1 : sg (Str.ofString "\\\\") = [92, 92] := by decide +kernel
  have a2 : sg (Str.ofString "\\{") = [92, 123] := by decide +kernel
  have a3 : sg (Str.ofString "\\}") = [92, 125] := by decide +kernel
  have a4 : sg (Str.ofString "p") = [112] := by decide +kernel
  rw [a1, a4] at e1
  rw [a2, a4] at e2
  rw [a3, a4] at e3
  rw [e3, e2, e1, sg_S, sg_S, sg_S]
  exact repl3_is _ (sg c) (Nat.le_refl _)
theorem take2_iff (l : List Nat) (i a b : Nat) : (l.drop i).take 2 = [a, b] ↔ l[i]? = some a ∧ l[i + 1]? = some b := by
  have h0 : l[i]? = (l.drop i)[0]? := by rw [List.getElem?_drop, Nat.add_zero]
  have h1 : l[i + 1]? = (l.drop i)[1]? := by rw [List.getElem?_drop]
  rw [h0, h1]
  match l.drop i with
  | [] => simp
  | [p] => simp
  | p :: q :: r => simp
theorem nl_iff (x : Str) : (occurrences (x ++ Str.ofString "\n") (Str.ofString "\\\n") 0 (x ++ Str.ofString "\n").length 1).isEmpty = false ↔ ∃ i, (sg x)[i]? = some 92 ∧ (sg x ++ [10])[i + 1]? = some 10 := by
  have hf := found_iff (x ++ Str.ofString "\n") (Str.ofString "\\\n")
  have e0 : sg (x ++ Str.ofString "\n") = sg x ++ [10] := by rw [sg_app]; congr 1
  have ey : sg (Str.ofString "\\\n") = [92, 10] := by decide +kernel
  have key : ∀ i, (i + (Str.ofString "\\\n").length ≤ (x ++ Str.ofString "\n").length ∧ subAt (x ++ Str.ofString "\n") (Str.ofString "\\\n") i = true) ↔ ((sg x)[i]? = some 92 ∧ (sg x ++ [10])[i + 1]? = some 10) := by
    intro i
    have h := at_iff (x ++ Str.ofString "\n") (Str.ofString "\\\n") i
    rw [e0, ey] at h
    refine Iff.trans h ?_
    show (i + 2 ≤ (sg x ++ [10]).length ∧ ((sg x ++ [10]).drop i).take 2 = [92, 10]) ↔ _
    rw [take2_iff, List.length_append, List.length_singleton]
    constructor
    · rintro ⟨h1, h2, h3⟩
      rw [List.getElem?_append_left (by omega)] at h2
      exact ⟨h2, h3⟩
    · rintro ⟨h2, h3⟩
      have hlt : i < (sg x).length := by
        rcases Nat.lt_or_ge i (sg x).length with h | h
        · exact h
        · rw [List.getElem?_eq_none h] at h2; cases h2
      exact ⟨by omega, by rw [List.getElem?_append_left hlt]; exact h2, h3⟩
  constructor
  · intro h
    obtain ⟨i, hi⟩ := hf.mp (by rw [h]; rfl)
    exact ⟨i, (key i).mp hi⟩
  · rintro ⟨i, hi⟩
    have := hf.mpr ⟨i, (key i).mpr hi⟩
    simpa using this
theorem mode_esc {l : List Nat} (H : Bool) (h : bad 0 (bare1 l) = true ∨ 0 < bal (bare1 l)) : modeOf l H = Str.ofString "escape" := by
  cases l with
  | nil =>
    rw [bare1_nil] at h
    rcases h with h | h
    · simp [bad] at h
    · simp [bal] at h
  | cons n r =>
    show modeScan _ (n :: r) 0 _ _ _ = _
    rw [scan_is _ _ (n :: r) (Nat.le_refl _)]
    by_cases hb : bad 0 (bare1 (n :: r)) = true
    · rw [if_pos hb]
    · rw [if_neg hb]
      have h' := h.resolve_left hb
      unfold modeEnd
      rw [if_pos (by omega)]
theorem mode_rest {n : Nat} {r : List Nat} (H : Bool) (hb : ¬ bad 0 (bare1 (n :: r)) = true) (h0 : bal (bare1 (n :: r)) = 0) :
    modeOf (n :: r) H = if (n = 123 ∨ n = 34) ∨ (H = true ∧ n = 35) ∨ (n :: r).any isBr = true then Str.ofString "brace" else if (n :: r).any isM = true then Str.ofString "mask" else Str.ofString "none" := by
  show modeScan _ (n :: r) 0 _ _ _ = _
  rw [scan_is _ _ (n :: r) (Nat.le_refl _), if_neg hb, h0]
  unfold modeEnd
  rw [if_neg (by omega)]
  generalize (n :: r).any isBr = B
  generalize (n :: r).any isM = M
  by_cases h1 : n = 123 ∨ n = 34
  · have e : (n == 123 || n == 34) = true := by rcases h1 with h1 | h1 <;> simp [h1]
    have hR : (if (n = 123 ∨ n = 34) ∨ (H = true ∧ n = 35) ∨ B = true then Str.ofString "brace" else if M = true then Str.ofString "mask" else Str.ofString "none") = Str.ofString "brace" := if_pos (.inl h1)
    rw [hR, e]
    simp
  have e1 : (n == 123 || n == 34) = false := by
    rw [Bool.or_eq_false_iff]; exact ⟨by simpa using fun h => h1 (.inl h), by simpa using fun h => h1 (.inr h)⟩
  rw [e1]
  by_cases h2 : H = true ∧ n = 35
  · obtain ⟨rfl, rfl⟩ := h2
    cases B <;> cases M <;> simp
  have e2 : (H && n == 35) = false := by
    cases H with
    | false => rfl
    | true => simpa using fun h => h2 ⟨rfl, h⟩
  rw [e2]
  cases B <;> cases M <;> simp [h1, h2]
section
variable {c x : Str} {M q : Int} {H : Bool}
theorem rk_at {k : Nat} (h : k ≤ x.length) : bal ((sg x).take k) ∈ List.map (fB x) (PySem.W.rangeKs 0 ((x.length : Int) + 1 - 0).toNat) := by
  refine List.mem_map.mpr ⟨(k : Int), List.mem_map.mpr ⟨k, List.mem_range.mpr (by omega), by omega⟩, ?_⟩
  rw [fB_is x (by omega)]; rfl
theorem rk_last (h : (List.map (fB x) (PySem.W.rangeKs 0 ((x.length : Int) + 1 - 0).toNat)).getLast? = some q) : q = bal (sg x) := by
  have e : ((x.length : Int) + 1 - 0).toNat = x.length + 1 := by omega
  rw [e] at h
  unfold PySem.W.rangeKs at h
  rw [List.range_succ, List.map_append, List.map_append, List.map_cons, List.map_cons, List.map_nil, List.map_nil, List.getLast?_append] at h
  simp only [List.getLast?_singleton, Option.some_or, Option.some.injEq] at h
  rw [← h, fB_is x (by omega)]
  congr 1
  rw [List.take_of_length_le]
  rw [sg_len]; omega
theorem m_low (hx : sg x = bare1 c.cps.toList) (hM : M ∈ List.map (fB x) (PySem.W.rangeKs 0 ((x.length : Int) + 1 - 0).toNat)) (h : M < 0) : Str.ofString "escape" = modeOf c.cps.toList H := by
  obtain ⟨k, hk, rfl⟩ := List.mem_map.mp hM
  have := PySem.W.mem_rangeKs hk
  rw [fB_is x this.1, hx] at h
  have hl : x.length = (bare1 c.cps.toList).length := by rw [← sg_len, hx]
  refine (mode_esc H (.inl ((bad_iff _ 0 (Int.le_refl _)).mpr (.inl ⟨k.toNat, ?_, by omega, by omega⟩)))).symm
  rcases Nat.eq_zero_or_pos k.toNat with h0 | h0
  · rw [h0] at h; simp [bal] at h
  · exact h0
theorem m_last (hx : sg x = bare1 c.cps.toList) (hM2 : ∀ a : Int, a ∈ List.map (fB x) (PySem.W.rangeKs 0 ((x.length : Int) + 1 - 0).toNat) → M ≤ a) (hM : ¬ M < 0) (hq : (List.map (fB x) (PySem.W.rangeKs 0 ((x.length : Int) + 1 - 0).toNat)).getLast? = some q) (hne : q ≠ 0) :
    Str.ofString "escape" = modeOf c.cps.toList H := by
  have e := rk_last hq
  have h1 := hM2 _ (rk_at (Nat.le_refl x.length))
  rw [List.take_of_length_le (by rw [sg_len]; exact Nat.le_refl _), ← e] at h1
  refine (mode_esc H (.inr ?_)).symm
  rw [← hx, ← e]
  omega
theorem m_nl (hx : sg x = bare1 c.cps.toList) (h : (occurrences (x ++ Str.ofString "\n") (Str.ofString "\\\n") 0 (x ++ Str.ofString "\n").length 1).isEmpty = false) : Str.ofString "escape" = modeOf c.cps.toList H := by
  have h' := (nl_iff x).mp h
  rw [hx] at h'
  exact (mode_esc H (.inl ((bad_iff _ 0 (Int.le_refl _)).mpr (.inr h')))).symm
theorem m_ok (hx : sg x = bare1 c.cps.toList) (hM2 : ∀ a : Int, a ∈ List.map (fB x) (PySem.W.rangeKs 0 ((x.length : Int) + 1 - 0).toNat) → M ≤ a) (hM : ¬ M < 0) (hq : (List.map (fB x) (PySem.W.rangeKs 0 ((x.length : Int) + 1 - 0).toNat)).getLast? = some q) (h0 : q = 0)
    (h : (occurrences (x ++ Str.ofString "\n") (Str.ofString "\\\n") 0 (x ++ Str.ofString "\n").length 1).isEmpty = true) : ¬ bad 0 (bare1 c.cps.toList) = true ∧ bal (bare1 c.cps.toList) = 0 := by
  refine ⟨fun hb => ?_, by rw [← hx, ← rk_last hq, h0]⟩
  rcases (bad_iff _ 0 (Int.le_refl _)).mp hb with ⟨k, h1, h2, h3⟩ | h3
  · rw [← hx] at h2 h3
    rw [sg_len] at h2
    have := hM2 _ (rk_at h2)
    omega
  · rw [← hx] at h3
    have := (nl_iff x).mpr h3
    rw [h] at this; cases this
theorem m_empty (h : (c == Str.ofString "") = true) : Str.ofString "brace" = modeOf c.cps.toList H := by
  have e := beq_iff_eq.mp h
  subst e
  have e : (Str.ofString "").cps.toList = [] := by decide +kernel
  rw [e]
  rfl
theorem m_head (hp : 1 ≤ c.length) : ∃ n r, c.cps.toList = n :: r ∧ Txt.item c 0 = ⟨#[n]⟩ := by
  obtain ⟨n, h1, h2⟩ := item_at (x := c) (k := 0) (Int.le_refl _) (by omega)
  exact ⟨n, _, by simpa using h2, h1⟩
theorem in_qb (n : Nat) : (occurrences (Str.ofString "{\"") ⟨#[n]⟩ 0 (Str.ofString "{\"").length 1).isEmpty = false ↔ (n = 123 ∨ n = 34) := by
  rw [empty_one]
  have e : (Str.ofString "{\"").cps.toList = [123, 34] := by decide +kernel
  rw [e]
  by_cases h : n = 123 <;> simp [h]
theorem is_hash_iff (n : Nat) : ((⟨#[n]⟩ : Str) == Str.ofString "#") = true ↔ n = 35 := by
  have e : Str.ofString "#" = ⟨#[35]⟩ := by decide +kernel
  rw [e, one_beq, beq_iff_eq]
  exact eq_comm
theorem m_brace1 (ok : ¬ bad 0 (bare1 c.cps.toList) = true ∧ bal (bare1 c.cps.toList) = 0) (hp : 1 ≤ c.length) (h : (occurrences (Str.ofString "{\"") (Txt.item c 0) 0 (Str.ofString "{\"").length 1).isEmpty = false) : Str.ofString "brace" = modeOf c.cps.toList H := by
  obtain ⟨n, r, e1, e2⟩ := m_head hp
  rw [e2] at h
  rw [e1] at ok ⊢
  rw [mode_rest H ok.1 ok.2, if_pos (.inl ((in_qb n).mp h))]
theorem m_brace2 (ok : ¬ bad 0 (bare1 c.cps.toList) = true ∧ bal (bare1 c.cps.toList) = 0) (hp : 1 ≤ c.length) (hH : H = true) (h : (Txt.item c 0 == Str.ofString "#") = true) : Str.ofString "brace" = modeOf c.cps.toList H := by
  obtain ⟨n, r, e1, e2⟩ := m_head hp
  rw [e2] at h
  rw [e1] at ok ⊢
  rw [mode_rest H ok.1 ok.2, if_pos (.inr (.inl ⟨hH, (is_hash_iff n).mp h⟩))]
theorem m_brace3 {ys : List Value} (ok : ¬ bad 0 (bare1 c.cps.toList) = true ∧ bal (bare1 c.cps.toList) = 0) (hp : 1 ≤ c.length) (hJ : ys = [] ↔ c.cps.toList.any isBr = false) (h : ys ≠ []) : Str.ofString "brace" = modeOf c.cps.toList H := by
  obtain ⟨n, r, e1, e2⟩ := m_head hp
  have hb : c.cps.toList.any isBr = true := by
    cases e : c.cps.toList.any isBr with
    | true => rfl
    | false => exact absurd (hJ.mpr e) h
  rw [e1] at ok hb ⊢
  rw [mode_rest H ok.1 ok.2, if_pos (.inr (.inr hb))]
theorem m_any : c.cps.toList.any isM = true ↔ ((occurrences c (Str.ofString "]") 0 c.length 1).isEmpty = false ∨ (occurrences c (Str.ofString "\"") 0 c.length 1).isEmpty = false) := by
  have a1 : Str.ofString "]" = ⟨#[93]⟩ := by decide +kernel
  have a2 : Str.ofString "\"" = ⟨#[34]⟩ := by decide +kernel
  rw [a1, a2, empty_one, empty_one, List.any_eq_true]
  simp only [Bool.not_eq_false', decide_eq_true_eq, isM, Bool.or_eq_true, beq_iff_eq]
  constructor
  · rintro ⟨k, hk, rfl | rfl⟩
    · exact .inl hk
    · exact .inr hk
  · rintro (h | h)
    · exact ⟨_, h, .inl rfl⟩
    · exact ⟨_, h, .inr rfl⟩
theorem m_tail {ys : List Value} (ok : ¬ bad 0 (bare1 c.cps.toList) = true ∧ bal (bare1 c.cps.toList) = 0) (hp : 1 ≤ c.length) (h1 : (occurrences (Str.ofString "{\"") (Txt.item c 0) 0 (Str.ofString "{\"").length 1).isEmpty = true) (h2 : ¬ (H = true ∧ (Txt.item c 0 == Str.ofString "#") = true)) (hJ : ys = [] ↔ c.cps.toList.any isBr = false) (h : ys = []) :
    modeOf c.cps.toList H = if c.cps.toList.any isM = true then Str.ofString "mask" else Str.ofString "none" := by
  obtain ⟨n, r, e1, e2⟩ := m_head hp
  rw [e2] at h1 h2
  have hb := hJ.mp h
  rw [e1] at ok hb ⊢
  rw [mode_rest H ok.1 ok.2, if_neg]
  rintro (h3 | ⟨h3, h4⟩ | h3)
  · rw [(in_qb n).mpr h3] at h1; cases h1
  · exact h2 ⟨h3, (is_hash_iff n).mpr h4⟩
  · rw [hb] at h3; cases h3
theorem br_none {n : Nat} : (occurrences (Str.ofString "[$;\\ \t\n\x0b\x0c\x0d") ⟨#[n]⟩ 0 (Str.ofString "[$;\\ \t\n\x0b\x0c\x0d").length 1).isEmpty = !isBr n := by
  rw [empty_one, show (Str.ofString "[$;\\ \t\n\x0b\x0c\x0d").cps.toList = [91, 36, 59, 92, 32, 9, 10, 11, 12, 13] by decide +kernel]
  congr 1
  by_cases h : n ∈ [91, 36, 59, 92, 32, 9, 10, 11, 12, 13]
  · rw [decide_eq_true h, isBr_mem.mpr h]
  · rw [decide_eq_false h, (false_iff_of isBr_mem).mpr h]
theorem any_turn {i n : Nat} (hi : c.cps[i]? = some n) : (c.cps.toList.take (i + 1)).any isBr = ((c.cps.toList.take i).any isBr || isBr n) := by
  rw [List.take_add_one, cps_get hi]
  show List.any (List.take i c.cps.toList ++ [n]) isBr = _
  rw [List.any_append, List.any_cons, List.any_nil, Bool.or_false]
theorem br_in {ys : List Value} {i n : Nat} (hi : c.cps[i]? = some n) (hJ : ys = [] ↔ (c.cps.toList.take i).any isBr = false) (h : (occurrences (Str.ofString "[$;\\ \t\n\x0b\x0c\x0d") ⟨#[n]⟩ 0 (Str.ofString "[$;\\ \t\n\x0b\x0c\x0d").length 1).isEmpty = true) : ys = [] ↔ (c.cps.toList.take (i + 1)).any isBr = false := by
  rw [br_none, Bool.not_eq_true'] at h
  rw [any_turn hi, h, Bool.or_false]
  exact hJ
theorem br_out {ys : List Value} {y : Value} {i n : Nat} (hi : c.cps[i]? = some n) (h : (occurrences (Str.ofString "[$;\\ \t\n\x0b\x0c\x0d") ⟨#[n]⟩ 0 (Str.ofString "[$;\\ \t\n\x0b\x0c\x0d").length 1).isEmpty = false) : ys ++ [y] = [] ↔ (c.cps.toList.take (i + 1)).any isBr = false := by
  rw [br_none, Bool.not_eq_false'] at h
  rw [any_turn hi, h, Bool.or_true]
  exact ⟨fun q => absurd (List.append_eq_nil_iff.mp q).2 (by intro z; cases z), fun q => by cases q⟩
end
end Mine
end PartMx
section PartCm
namespace Mine
open PySem.Spec
section
variable {prog : Program} {w : World} {A : Around} {h₀ : Heap} {L : Addr} {m : Str → Option Value} {env : Env} {elt ct : PySem.Expr} {x : Str} {scope : Scope} {cl : List (Str × Addr)} {s : Shared} {S : List (Addr × Obj) → Prop} {P : Nat → Value → Prop} {Fin : List Value → List (Addr × Obj) → Prop} {news : List (Addr × Obj)}
/-- what a turn of a comprehension leaves: nothing but a text of which R holds -/
def TextEnd (news : List (Addr × Obj)) (R : Str → Prop) (y : Value) (news' : List (Addr × Obj)) : Prop := news' = news ∧ ∃ r t, y = .str r t ∧ R r
theorem strs_snoc {vs : List Value} {ss : List Str} {y : Str} {t : Tok} (h : StrsAre vs ss) : StrsAre (vs ++ [.str y t]) (ss ++ [y]) := h.append' (.cons y t .nil)
/-- a comprehension of texts without a test, by what holds of each -/
theorem comp_any {n : Nat} (R : Nat → Str → Prop)
    (turn : ∀ i v I oI C oC D m₂ ys h tk (E' : Value → Shared → Prop), i < n → P i v → LCg.NsObj oC m₂ → m₂ x = some v → Fr h₀ L h m → News h₀ L h ((I, oI) :: (C, oC) :: (D, LCg.lst ys) :: news) → LCg.Off3 I C D news → ((@Ne Nat I C) ∧ (@Ne Nat I D) ∧ (@Ne Nat C D)) →
      wpAny (model prog w) A (eval elt (compEnvC scope cl C env)) (LCg.CompEnd h₀ L m { s with heap := h, toks := tk } I oI C oC D (LCg.lst ys) S (TextEnd news (R i))) E' { s with heap := h, toks := tk })
    (fin : ∀ ys ws, StrsAre ys ws → ws.length = n → (∀ i r, ws[i]? = some r → R i r) → Fin ys news) : LCg.CompRest prog w A h₀ L m env elt x scope cl s S P Fin n 0 [] news := by
  have key : ∀ (j i : Nat) (ys : List Value) (ws : List Str), i + j = n → ws.length = i → StrsAre ys ws → (∀ i r, ws[i]? = some r → R i r) → LCg.CompRest prog w A h₀ L m env elt x scope cl s S P Fin j i ys news := by
    intro j
    induction j with
    | zero => exact fun i ys ws hi hw hy hR => LCg.CompRest.zero (fin ys ws hy (by omega) hR)
    | succ j ih =>
      intro i ys ws hi hw hy hR
      refine LCg.CompRest.succ ?_
      intro v I oI C oC D m₂ h tk E' hv hC hx F N off ne
      refine wpAny_mono (turn i v I oI C oC D m₂ ys h tk E' (by omega) hv hC hx F N off ne) (fun y s₂ hq => ?_) fun _ _ e => e
      obtain ⟨h', tk', nw, e, F', N', off', hS, rfl, r, t, rfl, hr⟩ := hq
      refine ⟨h', tk', nw, e, F', N', off', hS, ih (i + 1) _ (ws ++ [r]) (by omega) (by simp [hw]) (strs_snoc hy) fun i' r' h' => ?_⟩
      by_cases hlt : i' < ws.length
      · rw [List.getElem?_append_left hlt] at h'; exact hR i' r' h'
      · rw [List.getElem?_append_right (by omega)] at h'
        have h0 : i' - ws.length = 0 := by
          rcases Nat.eq_zero_or_pos (i' - ws.length) with h0 | h0
          · exact h0
          · rw [List.getElem?_eq_none (by simp; omega)] at h'; cases h'
        rw [h0] at h'
        have e1 : r = r' := by simpa using h'
        have e2 : i' = i := by omega
        rw [e2, ← e1]
        exact hr
  exact key n 0 [] [] (by omega) rfl .nil (fun i r h => by simp at h)
theorem comp_end {I C D : Addr} {oI oC oD : Obj} {R : Str → Prop} {y : Str} {t : Tok} {h' : Heap} {tk : Nat} {s₁ : Shared} (F : Fr h₀ L h' m) (N : News h₀ L h' ((I, oI) :: (C, oC) :: (D, oD) :: news)) (off : LCg.Off3 I C D news) (hS : S news) (hR : R y) :
    LCg.CompEnd h₀ L m s₁ I oI C oC D oD S (TextEnd news R) (.str y t) { s₁ with heap := h', toks := tk } := ⟨h', tk, news, rfl, F, N, off, hS, rfl, y, t, rfl, hR⟩
theorem src_mem {l : Addr} {its : Array Value} {n : Nat} (h : (l, PySem.W.listOf its n) ∈ news) : LCg.SrcAt h₀ l its news := .inr ⟨_, h, rfl, n, rfl⟩
theorem ints_at {vs : List Value} {ns : List Int} (hi : IntsAre vs ns) {i : Nat} {v : Value} (h : vs.toArray[i]? = some v) : ∃ k t, v = .int k t := by
  obtain ⟨k, t, e, _⟩ := IntsAre.at hi i v (by simpa using h)
  exact ⟨k, t, e⟩
end
/-- the contract of law_text, used: some short text -/
theorem Con.useX {w : World} {mean : ExcName → Option Value} {mg mb : Str → Option Value} {f : Addr} {k : Nat} {news : Led} {vs : List Value} {bb : Nat}
    (C : Con w mean mg mb f k news vs (fun v tl => (∃ x t', v = .str x t' ∧ x.length ≤ bb) ∧ tl = []))
    {dp un : Nat} {gd : Option (List Code)} {cn : Str} {cs : Scope} {a : Addr} {ccd : Value} {cl : List (Str × Addr)} {outer : List Env} {A₀ : Around} {base h₀ : Heap} {L : Addr} {m : Str → Option Value} {s : Shared} {Q E : Value → Shared → Prop}
    (B : Below A₀ base outer h₀) (F : Fr h₀ L s.heap m) (X : (hd.heap_39 w.params).In h₀) (N : News h₀ L s.heap news) (T : Top hd.view_39 LO mean mg mb h₀) (hk : cs.kind = .function) (hd : dp + k < recursionLimit) (hu : un + 8 * k < cLine)
    (ret : ∀ x t' h' tk', x.length ≤ bb → Fr h₀ L h' m → News h₀ L h' news → Q (.str x t') { s with heap := h', toks := tk' }) :
    wpAny (model PySem.Challenge.rw_np0133_01.row.prog w) (ktrTop dp un gd cn cs L a ccd cl outer) (call (.ref f) vs) Q E s :=
  C.use0 B F X N T hk hd hu (by rintro r h' tk' F' N' ⟨x, t', rfl, hx⟩; exact ret x t' h' tk' hx F' N')
end Mine
namespace Mine
section
variable {prog : Program} {w : World} {A : Around} {E : Value → Shared → Prop} {s : Shared} {h₀ : Heap} {L D b l : Addr} {m : Str → Option Value} {news : List (Addr × Obj)} {Q : Value → Shared → Prop}
/-- a list of texts made out of a written tuple of texts -/
theorem list_ofK {K : PySem.W.Frag} {o : Obj} {vs : List Value} {n : Nat} {ss : List Str} (F : Fr h₀ L s.heap m) (N : News h₀ L s.heap news) (X : K.In h₀) (hk : K.lookup l = some o) (hc : o.cls = .type "tuple") (hd : o.data = .seq vs.toArray n) (hi : StrsAre vs ss)
    (h : ∀ D c h', Fr h₀ L h' m → News h₀ L h' ((D, PySem.W.listOf vs.toArray c) :: news) → (∀ q ∈ news, q.1 < D) → StrsAre vs ss → Q (.ref D) { s with heap := h' }) (hsz : vs.toArray.size ≤ sizeLine) : wpAny (model prog w) A (call (.type "list") [.ref l]) Q E s :=
  PySem.W.list_copyKT F N ⟨o, (X.keeps F.keep) _ _ hk, hc, n, hd⟩ (fun D c h' F' N' l1 => h D c h' F' N' l1 hi) hsz
/-- two lists of texts, one behind the other -/
theorem add_texts {vs us : List Value} {n k : Nat} {ss ts : List Str} (F : Fr h₀ L s.heap m) (N : News h₀ L s.heap news) (ha : (D, PySem.W.listOf vs.toArray n) ∈ news) (hb : (b, PySem.W.listOf us.toArray k) ∈ news) (hi : StrsAre vs ss) (hj : StrsAre us ts)
    (h : ∀ d ws h', Fr h₀ L h' m → News h₀ L h' ((d, PySem.W.listOf (List.toArray ws) 0) :: news) → (∀ q ∈ news, q.1 < d) → StrsAre ws (ss ++ ts) → Q (.ref d) { s with heap := h' }) (hsz : ss.length + ts.length ≤ 1000) : wpAny (model prog w) A (binaryOp .Add (.ref D) (.ref b)) Q E s := by
  refine PySem.W.kmk_add_lit (zs := vs ++ us) F N (News.isList N ha) (News.isList N hb) (by simp) (fun d h' F' N' l1 => h d (vs ++ us) h' F' N' l1 (hi.append' hj)) ?_
  have h1 := strs_len hi
  have h2 := strs_len hj
  simp only [List.size_toArray, PySem.sizeLine_eq, h1, h2]
  omega
end
end Mine
end PartCm
section PartMw
theorem Mine.wMw : True := by
  k_with_none
  k_with "con in" => (
  w_top off
  unfold Mine.Con
  k_fill
  intro dp un gd cn cs a ccd cl outer A₀ base h₀ L m s Q E B F X N T hk hd hu hret
  refine wpAny_call ?_
  k_dflt cell_enter)
  k_with "con in0" => (
  w_top off
  unfold Mine.Con
  k_fill
  intro dp un gd cn cs a ccd cl outer A₀ base h₀ L m s Q E B F X N T hk hd hu hret
  refine wpAny_call ?_)
  k_with "con args" => (
  (case kA => exact rfl); (case kF => exact rfl); (case kK => assumption); (case k1 => k_asm); (case k2 => k_asm); (case k3 => k_asm); (case k4 => k_asm); (case k5 => k_asm); (case k6 => k_is); (case k7 => k_is); (case k8 => ktr_room); (case k9 => first | exact BindsTo.of_eq rfl | exact binds_K (by k_in) rfl (by k_is) rfl rfl rfl); (case c5 => decide); (case kB => exact locs rfl); (case c2 => exact rfl); (case c3 => exact rfl); (case c4 => exact rfl); k_whole; intro g' L' h' FG' F' N' B' X' T'; (try dsimp only); (try k_fold))
  k_with "con end" => (
  refine Mine.end0 hret (by k_asm) (by k_asm) (by first | exact Mine.sub_all (by intro p hp; repeat (first | exact hp | refine List.mem_cons_of_mem _ ?_)) | exact Mine.sub_all (by kst_inAny)) ?_)
  k_with "con use0" => (
  (case k1 => k_asm); (case k2 => k_asm); (case k3 => k_asm); (case k4 => k_asm); (case k5 => k_asm); (case kK => first | exact rfl | assumption); (case kd => ktr_room); (case ku => ktr_units))
  k_with "call ref" => (
  k_here
  (show wpAny _ _ (call (Value.ref 52) [Value.str _ _]) _ _ _)
  (k_dflt (refine' Mine.Con.use0 (Mine.con_is_blank _ _) ?k1 ?k2 ?k3 ?k4 ?k5 ?kK ?kd ?ku ?_; (case k1 => k_asm); (case k2 => k_asm); (case k3 => k_asm); (case k4 => k_asm); (case k5 => k_asm); (case kK => first | exact rfl | assumption); (case kd => ktr_room); (case ku => ktr_units)))
  (intro r9 h9 tk9 F9 N9 hr9; subst hr9; (try dsimp only); (try k_fold)))
  k_with "step" => (first
  | (k_unfold; (try dsimp only))
  | (refine Mine.ap2 ?_; k_unfold; (try dsimp only))
  | (k_end; kc_close)
  | ((fail_if_success (with_reducible show wpAny _ _ (exec (Stmt.While _ _ _ _) _) _ _ _)); first | walk1 | (dsimp only; walk1))
  | (leave1; (try dsimp only))
  | fail "no step")
  k_with "steps" => repeat' walk_at "step"
  k_with "eval BoolOp" => (
  k_here
  (k_dflt (first
   | (refine' Mine.or_names ?k1 ?k2 ?k3 ?_; (case k1 => k_asm); (case k2 => rfl); (case k3 => rfl))
   | (refine' Mine.and_name_eq ?k1 ?k2 ?k3 ?_; (case k1 => k_asm); (case k2 => rfl); (case k3 => rfl))))
  k_whole)
  k_with "drop" => (
  (rename News _ _ _ _ => nX)
  (have nY := cb_drop (news := news) nX (by intro p hp; repeat (first | exact hp | refine List.mem_cons_of_mem _ ?_)))
  (clear nX))
  k_with "KswEnd" => (
  (rename News _ _ _ _ => nE')
  (try simp only [List.push_toArray] at nE')
  (first
    | (refine' ksw_end ⟨_,_,_,_,_,_,_⟩ ?e1 nE' ?e2 ?e3 ?e4 ?e5 ?e6 ?e7)
    | (refine' ksw_end ⟨_,_,_,_⟩ ?e1 nE' ?e2 ?e3 ?e4 ?e5 ?e6 ?e7)
    | (refine' ksw_end ⟨_,_⟩ ?e1 nE' ?e2 ?e3 ?e4 ?e5 ?e6 ?e7)
    | (refine' ksw_end ⟨_,_,_,_,_⟩ ?e1 nE' ?e2 ?e3 ?e4 ?e5 ?e6 ?e7))
  (case e1 => assumption)
  (case e2 => first | exact Mine.sub_all (by intro p hp; repeat (first | exact hp | refine List.mem_cons_of_mem _ ?_)) | kst_in)
  (case e3 => kst_facts)
  (case e4 => kst_all)
  (case e5 => ksw_same)
  (case e6 => kst_p)
  (case e7 => ksw_less))
  k_with "exec If" => refine wpAny_If ?_
  k_with "call ref" => (
  k_here
  (k_dflt (first
   | ((show wpAny _ _ (call (Value.ref 129) [Value.str _ _, Value.bool _]) _ _ _); refine' Mine.Con.useS (Mine.con_mode_of _ _ _ ?hc) ?k1 ?k2 ?k3 ?k4 ?k5 ?kK ?kd ?ku ?_)
   | ((show wpAny _ _ (call (Value.ref 136) [Value.str _ _, Value.bool _]) _ _ _); refine' Mine.Con.useS (Mine.con_escaped _ _ _) ?k1 ?k2 ?k3 ?k4 ?k5 ?kK ?kd ?ku ?_)))
  (try (case hc => first | assumption | omega))
  (case k1 => k_asm); (case k2 => k_asm); (case k3 => k_asm); (case k4 => k_asm); (case k5 => k_asm); (case kK => first | exact rfl | assumption); (case kd => ktr_room); (case ku => ktr_units)
  (intro x9 t9 h9 tk9 e9 F9 N9; (try dsimp only); (try k_fold)))
  k_with "call builtin:str.join" => (
  k_here
  (k_dflt (first
   | ((with_reducible show wpAny _ _ (call (Value.builtin "str.join") [Value.str (Str.ofString "") _, Value.ref _]) _ _ _); refine' Mine.join0_at ?k1 ?k2 ?k3 ?k4 ?k5 ?_)
   | ((with_reducible show wpAny _ _ (call (Value.builtin "str.join") [Value.str (Str.ofString " ") _, Value.ref _]) _ _ _); refine' Mine.joinB_at ?k1 ?k2 ?k3 ?k4 ?k5 ?_)))
  (case k1 => k_asm); (case k2 => k_memK); (case k3 => k_asm); (case k4 => first | assumption | exact rfl); (case k5 => walk_at "join size")
  (intro t9 k9; (try dsimp only); (try k_fold)))
  k_with "call ref" => (
  k_here
  (with_reducible show wpAny _ _ (call (Value.ref 129) [Value.str (Str.ofString "") _, Value.bool _]) _ _ _)
  (k_dflt (refine' Mine.Con.use0 (Mine.con_mode_of0 _ _) ?k1 ?k2 ?k3 ?k4 ?k5 ?kK ?kd ?ku ?_))
  (case k1 => k_asm); (case k2 => k_asm); (case k3 => k_asm); (case k4 => k_asm); (case k5 => k_asm); (case kK => first | exact rfl | assumption); (case kd => ktr_room); (case ku => ktr_units)
  (intro r9 h9 tk9 F9 N9 hr9; (obtain ⟨t9, hr9⟩ := hr9); subst hr9; (try dsimp only); (try k_fold)))
  k_with "con argsC" => (
  (case kA => exact rfl); (case kF => exact rfl); (case kK => assumption); (case k1 => k_asm); (case k2 => k_asm); (case k3 => k_asm); (case k4 => k_asm); (case k5 => k_asm); (case k6 => k_is); (case k7 => k_is); (case k8 => ktr_room); (case k9 => first | exact BindsTo.of_eq rfl | exact binds_K (by k_in) rfl (by k_is) rfl rfl rfl); (case kB => exact rfl); (case kD => decide +kernel); (case c2 => exact rfl); (case c3 => exact rfl); (case c4 => exact rfl); k_whole; intro g' L' h' tk' cells' FG' F' N' Y' B' X' T' l1; (try k_lt l1); k_cells Y'; (try simp only [List.cons_append, List.nil_append] at N'); (try dsimp only); (try k_fold))
  k_with "call ref" => (
  k_here
  (k_dflt (first
   | ((show wpAny _ _ (call (Value.ref 158) [Value.str _ _]) _ _ _); refine' Mine.Con.useS (Mine.con_trim _ _ ?hc) ?k1 ?k2 ?k3 ?k4 ?k5 ?kK ?kd ?ku ?_)
   | ((show wpAny _ _ (call (Value.ref 205) [Value.str _ _]) _ _ _); refine' Mine.Con.useS (Mine.con_law_trimmed _ _ ?hc) ?k1 ?k2 ?k3 ?k4 ?k5 ?kK ?kd ?ku ?_)
   | ((show wpAny _ _ (call (Value.ref 144) [Value.str _ _, Value.bool _]) _ _ _); refine' Mine.Con.useS (Mine.con_quote _ _ _ ?hc) ?k1 ?k2 ?k3 ?k4 ?k5 ?kK ?kd ?ku ?_)
   | ((show wpAny _ _ (call (Value.ref 144) [Value.str _ _]) _ _ _); refine' Mine.Con.useS (Mine.con_quoteD _ _ ?hc) ?k1 ?k2 ?k3 ?k4 ?k5 ?kK ?kd ?ku ?_)
   | ((show wpAny _ _ (call (Value.ref 193) [Value.str _ _, Value.bool _]) _ _ _); refine' Mine.Con.useS (Mine.con_law_mode _ _ _ ?hc) ?k1 ?k2 ?k3 ?k4 ?k5 ?kK ?kd ?ku ?_)))
  (try (case hc => first | assumption | omega))
  (case k1 => k_asm); (case k2 => k_asm); (case k3 => k_asm); (case k4 => k_asm); (case k5 => k_asm); (case kK => first | exact rfl | assumption); (case kd => ktr_room); (case ku => ktr_units)
  (intro x9 t9 h9 tk9 e9 F9 N9; (try (first | (have z9 := Mine.trim_fact e9) | (have z9 := Mine.quote_fact e9))); (try dsimp only); (try k_fold)))
  k_with "for texts" => (k_here; (rename Fr _ _ _ _ => lF'); (with_unfolding_all refine' For_invVF lF' ?k1 ?k2 ?_; (case k1 => exact rfl); (case k2 => exact rfl); k_whole))
  k_with "call ref" => (
  k_here
  (k_dflt (first
   | ((show wpAny _ _ (call (Value.ref 165) [Value.str _ _]) _ _ _); refine' Mine.Con.useS (Mine.con_concat_part _ _ ?hc) ?k1 ?k2 ?k3 ?k4 ?k5 ?kK ?kd ?ku ?_)
   | ((show wpAny _ _ (call (Value.ref 212) [Value.str _ _]) _ _ _); refine' Mine.Con.useS (Mine.con_law_part _ _ ?hc) ?k1 ?k2 ?k3 ?k4 ?k5 ?kK ?kd ?ku ?_)
   | ((show wpAny _ _ (call (Value.ref 200) [Value.str _ _, Value.bool _]) _ _ _); refine' Mine.Con.useS (Mine.con_law_written _ _ _ ?hc) ?k1 ?k2 ?k3 ?k4 ?k5 ?kK ?kd ?ku ?_)))
  (try (case hc => first | assumption | omega))
  (case k1 => k_asm); (case k2 => k_asm); (case k3 => k_asm); (case k4 => k_asm); (case k5 => k_asm); (case kK => first | exact rfl | assumption); (case kd => ktr_room); (case ku => ktr_units)
  (intro x9 t9 h9 tk9 e9 F9 N9; (try (first | (have z9 := Mine.part_fact e9) | (have z9 := Mine.quote_fact e9))); (try dsimp only); (try k_fold)))
  k_with "call ref" => (
  k_here
  (k_dflt (first
   | ((show wpAny _ _ (call (Value.ref 151) [Value.ref _]) _ _ _); refine' Mine.Con.useS (Mine.con_join_list ?hT ?hi ?hm ?hB ?hn) ?k1 ?k2 ?k3 ?k4 ?k5 ?kK ?kd ?ku ?_)
   | ((show wpAny _ _ (call (Value.ref 172) [Value.ref _]) _ _ _); refine' Mine.Con.useS (Mine.con_concat ?hT ?hi ?hm ?hB ?hn) ?k1 ?k2 ?k3 ?k4 ?k5 ?kK ?kd ?ku ?_)
   | ((show wpAny _ _ (call (Value.ref 179) [Value.ref _]) _ _ _); refine' Mine.Con.useS (Mine.con_code_text ?hT ?hi ?hm ?hB ?hn) ?k1 ?k2 ?k3 ?k4 ?k5 ?kK ?kd ?ku ?_)))
  (case hT => first | assumption | exact ⟨_, .inl rfl⟩ | exact ⟨_, .inr rfl⟩)
  (case hi => assumption)
  (case hm => first | assumption | k_memK)
  (case hB => assumption)
  (case hn => first | assumption | omega)
  (case k1 => k_asm); (case k2 => k_asm); (case k3 => k_asm); (case k4 => k_asm); (case k5 => k_asm); (case kK => first | exact rfl | assumption); (case kd => ktr_room); (case ku => ktr_units)
  (intro x9 t9 h9 tk9 e9 F9 N9; (try dsimp only); (try k_fold)))
  k_with "binaryOp Add str str" => (
  k_here
  (with_reducible show wpAny _ _ (binaryOp Operator.Add (Value.str (Str.ofString _) _) (Value.str (Str.ofString _) _)) _ _ _)
  (refine' PyProof.Rows.SBL.add ?_ ?z)
  (case z => decide +kernel)
  (intro t9 k9 z9))
  k_with "call builtin:str.replace" => (
  k_here
  (with_reducible show wpAny _ _ (call (Value.builtin "str.replace") [Value.str _ _, Value.str _ _, Value.str _ _]) _ _ _)
  (walk_at "replace by"))
  k_with "con end1" => (
  refine Mine.end1 hret (by k_asm) (by k_asm) (by first | exact Mine.sub_all (by intro p hp; repeat (first | exact hp | refine List.mem_cons_of_mem _ ?_)) | exact Mine.sub_all (by kst_inAny)) (by k_memK)
    (by first | assumption | exact PySem.W.kst_ltOf (by first | exact And.right (by assumption) | exact And.right (And.right (by assumption)) | exact And.right (And.right (And.right (by assumption))) | exact And.right (And.right (And.right (And.right (by assumption)))))) ?_)
  trivial
namespace Mine
section
variable {prog : Program} {w : World} {A : Around} {E : Value → Shared → Prop} {s : Shared} {t u v : Tok} {Q : Value → Shared → Prop}
/-- a text, a pattern replaced, opaque -/
theorem repl_at {x y z : Str} (hu : @LE.le Nat _ 1 u) (hv : @LT.lt Nat _ u v) (hs : 1 ≤ s.toks) (hyz : (y == z) = false) (hx : x.length ≤ 4096) (hy : 1 ≤ y.length) (hz : z.length ≤ y.length) (hz2 : z.length ≤ 14)
    (h : ∀ x' t' k, 1 ≤ k → x' = S (replL (sg y) (sg z) (sg x)) → x'.length ≤ 4096 → Q (.str x' t') { s with toks := k }) : wpAny (model prog w) A (call (.builtin "str.replace") [.str x t, .str y u, .str z v]) Q E s := by
  refine wpAny_with_toks (n := 1) hs (SC.replaceW (Nat.ne_of_gt hu) (Nat.ne_of_gt (Nat.lt_of_le_of_lt (Nat.zero_le _) hv)) (Nat.ne_of_lt hv) hyz (Nat.le_trans hx (by decide)) hz2 fun t' k hk => ?_)
  refine h _ t' k hk (replace_is x y z hy) ?_
  rw [replace_is x y z hy, S_len]
  have := repl_len (sg y) (sg z) (by rw [sg_len, sg_len]; exact hz) _ (sg x) (Nat.le_refl _)
  rw [sg_len] at this
  omega
end
theorem cell_off {news : List (Addr × Obj)} {L : Addr} (h : ∀ p ∈ news, p.1 < L) : ∀ p ∈ news, p.1 ≠ @HAdd.hAdd Nat Nat Nat _ L 1 := fun p hp => Nat.ne_of_lt (Nat.lt_succ_of_lt (h p hp))
end Mine
theorem Mine.wMw0 : True := by
  k_with "replace by" => (
  (k_dflt (refine' Mine.repl_at ?k1 ?k2 ?k3 ?k4 ?k5 ?k6 ?k7 ?k8 ?_))
  (case k1 => (try dsimp only); omega)
  (case k2 => (try dsimp only); omega)
  (case k3 => (try dsimp only); omega)
  (case k4 => decide +kernel)
  (case k5 => assumption)
  (case k6 => decide +kernel)
  (case k7 => decide +kernel)
  (case k8 => decide +kernel)
  (intro x9 t9 k9 hk9 e9 z9; (try dsimp only); (try k_fold)))
  k_with "k_updF" => exact UpdF.head (Mine.cell_off (by assumption))
  k_with "exec Assign cons ListComp" => (k_here; k_dflt (refine LCg.Assign_ListComp_U (F₀ := by k_asm) (by rfl) (by with_unfolding_all rfl) (by with_unfolding_all rfl) (by decide) (by rfl) (by decide) (by rfl) (by rfl) (by rfl) ?_))
  trivial
namespace Mine
theorem rk_pos (n : Nat) (f : Int → Int) : 0 < (List.map f (PySem.W.rangeKs 0 ((n : Int) + 1 - 0).toNat)).length := by
  rw [List.length_map, PySem.W.rangeKs_length]; omega
theorem rk_ne (n : Nat) (f : Int → Int) : List.map f (PySem.W.rangeKs 0 ((n : Int) + 1 - 0).toNat) ≠ [] := List.length_pos_iff.mp (rk_pos n f)
end Mine
theorem Mine.wMw1 : True := by
  k_with "call builtin:min" => (
  k_here
  (k_dflt (refine' min_list_N ?k1 ?k2 ?k3 ?k4 ?k5 ?k6 ?_))
  (case k1 => exact rfl)
  (case k2 => k_asm)
  (case k3 => k_asm)
  (case k4 => exact News.isList (by k_asm) (by k_memK))
  (case k5 => assumption)
  (case k6 => exact Mine.rk_pos _ _)
  (intro h' M' tM' kM' F' N' hM1 hM2; (try dsimp only); (try k_fold)))
  k_with "subscriptTail Name UnaryOp ref int" => (
  k_here
  (k_dflt (refine' Mine.last_int ?k1 ?k2 ?k3 ?k4 ?k5 ?_))
  (case k1 => k_asm)
  (case k2 => k_memK)
  (case k3 => assumption)
  (case k4 => exact Mine.rk_ne _ _)
  (case k5 => decide)
  (intro q' t' hq'; (try dsimp only); (try k_fold)))
  k_with "eval ListComp" => (k_here; k_dflt (refine Mine.cg_eval (_F₀ := by k_asm) (by with_unfolding_all rfl) (by rfl) (by decide) ?_))
  k_with "CgSrc" => (
  k_here
  (k_dflt (
    (refine' Mine.cg_str (fun i ys => ys = [] ↔ (c.cps.toList.take i).any Mine.isBr = false) ?k1 ?k2 ?k3 ?k4 ?k5 ?k6 ?k9 ?k10 ?k11 ?_ ?_)
    (case k1 => exact rfl)
    (case k2 => exact .inr ⟨_, rfl⟩)
    (case k3 => exact Nat.le_trans hc (by decide))
    (case k4 => decide)
    (case k5 => rfl)
    (case k6 => rfl)
    (case k9 => k_asm)
    (case k10 => k_asm)
    (case k11 => simp)
    (case' _ => intro i' ys' c' u' I' oI' C' oC' D' m' h' tk' E' hi' hJ' hy' hC' F' N')
    rotate_left
    (case' _ => intro ys' hJ'; unfold Mine.CgE; intro D' h' tk' F' N' o1'; (try (k_lt o1')); (try dsimp only at hJ'); rw [show List.take c.cps.size c.cps.toList = c.cps.toList from List.take_of_length_le (Nat.le_of_eq (by simp))] at hJ')
    (all_goals (try unfold Mine.TestThen))
    (all_goals (try dsimp only))
    (all_goals (try k_fold)))))
  k_with "TurnEnd" => (refine Mine.turn_end (by k_asm) (by k_asm) (by first | exact Mine.sub_all (by intro p hp; repeat (first | exact hp | refine List.mem_cons_of_mem _ ?_)) | exact Mine.sub_all (by kst_inAny)) ?_)
  k_with "compareOp NotEq ref ref" => (k_here; k_dflt (refine' Mine.ne_nil_list ?k1 ?k2 ?k3 ?_ ?_; (case k1 => exact News.isList (by k_asm) (by k_memK)); (case k2 => exact News.isList (by k_asm) (by k_memK)); (case k3 => first | ktr_units | (ktr_unf; ktr_units) | ke_room)); all_goals (intro hE'; (try dsimp only); (try k_fold)))
  trivial
namespace Mine
theorem con_law_mode {w mean mg mb news} (c : Str) (t : Tok) (b : Bool) (hc : c.length ≤ 4096) : Con w mean mg mb 193 12 news [.str c t, .bool b] (fun v tl => (∃ t', v = .str (modeOf c.cps.toList b) t') ∧ tl = []) := by
  walk_at "con in0"
  k_dflt (refine' code_defC1 (n₁ := Str.ofString "text") (v₁ := .str c t) (r := [(Str.ofString "is_hash", .bool b)]) ?k1 ?k2 ?k3 ?k4 ?k5 ?kA ?kF ?kK ?k6 ?k7 ?k8 ?k9 ?kB ?kD ?_ ?c1 ?c2 ?c3 ?c4; (case kA => exact rfl); (case kF => exact rfl); (case kK => assumption); (case k1 => k_asm); (case k2 => k_asm); (case k3 => k_asm); (case k4 => k_asm); (case k5 => k_asm); (case k6 => k_is); (case k7 => k_is); (case c1 => exact rfl); (case k8 => ktr_room); (case k9 => first | exact BindsTo.of_eq rfl | exact binds_K (by k_in) rfl (by k_is) rfl rfl rfl); (case kB => exact rfl); (case kD => decide +kernel); (case c2 => exact rfl); (case c3 => exact rfl); (case c4 => exact rfl); k_whole; intro g' L' h' tk' cells' ht' FG' F' N' Y' B' X' T' l1; (try k_lt l1); k_cells Y'; (try simp only [List.cons_append, List.nil_append] at N'); (try dsimp only); (try k_fold))
  walk_at "steps"
  all_goals first
    | exact br_in (by assumption) (by assumption) (by assumption)
    | exact br_out (by assumption) (by assumption)
    | walk_at "con end"
  all_goals (have hx := bare_of (by assumption) (by assumption) (by assumption))
  all_goals first
    | exact tx_end (m_low hx hM1 (by assumption))
    | exact tx_end (m_last hx hM2 (by assumption) hq' (by assumption))
    | exact tx_end (m_nl hx (by assumption))
    | exact tx_end (m_empty (by assumption))
    | (have ok := m_ok hx hM2 (by assumption) hq' (by assumption) (by assumption); first
      | exact tx_end (m_brace1 ok (by assumption) (by assumption))
      | exact tx_end (m_brace2 ok (by assumption) (by assumption) (by assumption))
      | exact tx_end (m_brace3 ok (by assumption) (by assumption) (by assumption))
      | (have hz := m_tail (H := b) ok (by assumption) (by assumption) (by simp_all) (by assumption) (by assumption); first
        | (rw [if_pos (m_any.mpr (.inl (by assumption)))] at hz; exact tx_end hz.symm)
        | (rw [if_pos (m_any.mpr (.inr (by assumption)))] at hz; exact tx_end hz.symm)
        | (rw [if_neg (by rw [m_any]; simp_all)] at hz; exact tx_end hz.symm)))
end Mine
end PartMw
section PartLr
namespace Mine
def escUp (S : List Nat) (n : Nat) : List Nat := if n ∈ S then [92, n] else [n]
def ctlR (a b : Nat) (l : List Nat) : List Nat := l.flatMap fun n => if n = a then [92, b] else [n]
theorem ctlR_is (a b : Nat) (l : List Nat) : replL [a] [92, b] l = ctlR a b l := repl_one a [92, b] l
theorem ctlR_flat (a b : Nat) (l : List Nat) (f : Nat → List Nat) : ctlR a b (l.flatMap f) = l.flatMap fun n => ctlR a b (f n) := by
  unfold ctlR
  rw [List.flatMap_assoc]
theorem up_step (S : List Nat) (n : Nat) (hn : n ∉ S) (h92 : n ≠ 92 ∨ S = []) (l : List Nat) : replL [n] [92, n] (l.flatMap (escUp S)) = l.flatMap (escUp (S ++ [n])) := by
  rw [ctlR_is, ctlR_flat]
  refine congrArg (fun f => List.flatMap f l) (funext fun m => ?_)
  unfold escUp ctlR
  by_cases h : m ∈ S
  · have h1 : n ≠ 92 := by rcases h92 with h92 | h92; · exact h92
                           · rw [h92] at h; cases h
    have h2 : m ≠ n := fun e => hn (e ▸ h)
    rw [if_pos h, if_pos (List.mem_append.mpr (.inl h))]
    simp [h2, Ne.symm h1]
  · rw [if_neg h]
    by_cases h2 : m = n
    · rw [h2, if_pos (List.mem_append.mpr (.inr (List.mem_singleton.mpr rfl)))]; simp
    · rw [if_neg (by simp [h, h2])]; simp [h2]
theorem up_nil (l : List Nat) : l.flatMap (escUp []) = l := by
  unfold escUp
  simp
def signsOf (deep : Bool) : List Nat := [92, 93, 91, 36, 59, 32, 34] ++ (if deep = true then [123, 125] else [])
def ctl5 (l : List Nat) : List Nat := ctlR 11 118 (ctlR 9 116 (ctlR 13 114 (ctlR 10 110 (ctlR 12 102 l))))
theorem ctl5_one (n : Nat) : ctl5 [n] = if n = 12 then [92, 102] else if n = 10 then [92, 110] else if n = 13 then [92, 114] else if n = 9 then [92, 116] else if n = 11 then [92, 118] else [n] := by
  by_cases h1 : n = 12
  · subst h1; decide
  by_cases h2 : n = 10
  · subst h2; decide
  by_cases h3 : n = 13
  · subst h3; decide
  by_cases h4 : n = 9
  · subst h4; decide
  by_cases h5 : n = 11
  · subst h5; decide
  simp [ctl5, ctlR, h1, h2, h3, h4, h5]
theorem ctl5_app (a b : List Nat) : ctl5 (a ++ b) = ctl5 a ++ ctl5 b := by
  unfold ctl5 ctlR
  simp only [List.flatMap_append]
theorem ctl5_flat (l : List Nat) (f : Nat → List Nat) : ctl5 (l.flatMap f) = l.flatMap fun n => ctl5 (f n) := by
  unfold ctl5
  simp only [ctlR_flat]
theorem signs_mem : ∀ deep : Bool, ∀ x ∈ signsOf deep, ctl5 [92, x] = escL x deep := by decide
theorem signs_sub (deep : Bool) : ∀ x ∈ [93, 91, 36, 59, 32, 92, 34], x ∈ signsOf deep := by revert deep; decide
theorem ctl5_escL {n : Nat} {deep : Bool} (h : n ∉ signsOf deep) : ctl5 [n] = escL n deep := by
  have h1 : ¬ (n = 93 ∨ n = 91 ∨ n = 36 ∨ n = 59 ∨ n = 32 ∨ n = 92 ∨ n = 34) := fun q => h (signs_sub deep n (by simpa only [List.mem_cons, List.not_mem_nil, or_false] using q))
  have h2 : ¬ (deep = true ∧ (n = 123 ∨ n = 125)) := by
    rintro ⟨q1, q2⟩
    subst q1
    rcases q2 with q2 | q2 <;> (subst q2; exact h (by decide))
  rw [ctl5_one]
  unfold escL
  rw [if_neg h1, if_neg h2]
theorem esc_one (n : Nat) (deep : Bool) : ctl5 (escUp (signsOf deep) n) = escL n deep := by
  unfold escUp
  by_cases h : n ∈ signsOf deep
  · rw [if_pos h, signs_mem deep n h]
  · rw [if_neg h, ctl5_escL h]
theorem esc_all (l : List Nat) (deep : Bool) : ctl5 (l.flatMap (escUp (signsOf deep))) = l.flatMap fun n => escL n deep := by
  rw [ctl5_flat]
  exact congrArg (fun f => List.flatMap f l) (funext fun n => esc_one n deep)
end Mine
end PartLr
section PartFl
namespace Mine
open PySem.Spec PySem.Calls
/-- the turns of a loop over an iterator, with the tokens that have been given out -/
structure TTurns (prog : Program) (w : World) (A : Around) (target : PySem.Expr) (I : Addr) (wr : List Addr) (n : Nat) (P Md : Nat → Value → Heap → Nat → Prop) (St : Nat → Heap → Prop) : Prop where
  frame : ∀ i h h', St i h → (∀ b ∈ wr, ∀ o, h.get? b = some o → h'.get? b = some o) → St i h'
  live : ∀ i h, St i h → ∀ b ∈ wr, ∃ o, h.get? b = some o
  item : ∀ i (s : Shared) (Q : Option Value → Shared → Prop) (E : Value → Shared → Prop), i < n → St i s.heap → 1 ≤ s.toks →
    (∀ v h' tk, 1 ≤ tk → Md i v h' tk → (∀ b o, b ∉ wr → s.heap.get? b = some o → h'.get? b = some o) → Q (some v) { s with heap := h', toks := tk }) → wpAny (model prog w) A (pyNext (.ref I)) Q E s
  go : ∀ i v (s : Shared) (Q : Unit → Shared → Prop) (E : Value → Shared → Prop), Md i v s.heap s.toks →
    (∀ h', P i v h' s.toks → St (i + 1) h' → (∀ b o, b ∉ wr → s.heap.get? b = some o → h'.get? b = some o) → Q () { s with heap := h' }) → wpAny (model prog w) A (letOwnedTupleGo target (.ref I) v) Q E s
  done : ∀ (s : Shared) (Q : Option Value → Shared → Prop) (E : Value → Shared → Prop), St n s.heap →
    (∀ h' tk, s.toks ≤ tk → (∀ b o, b ∉ wr → s.heap.get? b = some o → h'.get? b = some o) → Q none { s with heap := h', toks := tk }) → wpAny (model prog w) A (pyNext (.ref I)) Q E s
section
variable {prog : Program} {w : World} {A : Around} {E : Value → Shared → Prop} {s : Shared} {h₀ : Heap} {m : Str → Option Value} {env : Env}
/-- what a turn of a loop leaves -/
def FlEnd (h₀ : Heap) (L : Addr) (s₁ : Shared) (all : List (Addr × Obj)) (J : (Str → Option Value) → Prop) (f : Flow) (s₂ : Shared) : Prop :=
  f = .next ∧ ∃ h' tk m', s₂ = { s₁ with heap := h', toks := tk } ∧ Fr h₀ L h' m' ∧ News h₀ L h' all ∧ J m'
theorem fl_end {L : Addr} {s₁ : Shared} {all all' : List (Addr × Obj)} {J : (Str → Option Value) → Prop} {h' : Heap} {tk : Nat} {m' : Str → Option Value} (F : Fr h₀ L h' m') (N : News h₀ L h' all') (hs : ∀ p ∈ all, p ∈ all') (hJ : J m') :
    FlEnd h₀ L s₁ all J .next { s₁ with heap := h', toks := tk } := ⟨rfl, h', tk, m', rfl, F, fun p hp => N p (hs p hp), hJ⟩
theorem fl_block {target : PySem.Expr} {body : List Stmt} {I : Addr} {wr : List Addr} {n : Nat} {P Md : Nat → Value → Heap → Nat → Prop} {St : Nat → Heap → Prop} {news : List (Addr × Obj)} {R : Nat → (Str → Option Value) → (Str → Option Value) → Nat → Prop} {RR : Result → Shared → Prop}
    (J : Nat → (Str → Option Value) → Prop) (W : TTurns prog w A target I wr n P Md St) (hwr : ∀ b ∈ wr, h₀.get? b = none) (hLw : env.locals ∉ wr) (off : ∀ p ∈ news, p.1 ∉ wr) (hst : St 0 s.heap) (htk : 1 ≤ s.toks)
    (F : Fr h₀ env.locals s.heap m) (N : News h₀ env.locals s.heap news)
    (asg : ∀ i v (h : Heap) tk m' (Q : Unit → Shared → Prop) (E' : Value → Shared → Prop), P i v h tk → h.Ns env.locals m' →
      (∀ h' tk' m₂, tk ≤ tk' → h'.Ns env.locals m₂ → R i m' m₂ tk' → (∀ b o, b ≠ env.locals → h.get? b = some o → h'.get? b = some o) → Q () { s with heap := h', toks := tk' }) →
      wpAny (model prog w) A (assign target env v) Q E' { s with heap := h, toks := tk })
    (hJ : J 0 m)
    (turn : ∀ i m' m₂ own h tk (E' : Value → Shared → Prop), i < n → J i m' → R i m' m₂ tk → 1 ≤ tk → own.map (·.1) = wr → Fr h₀ env.locals h m₂ → News h₀ env.locals h (own ++ news) →
      wpAny (model prog w) A (execs body env) (FlEnd h₀ env.locals { s with heap := h, toks := tk } (own ++ news) (J (i + 1))) E' { s with heap := h, toks := tk })
    (fin : ∀ h' tk m', 1 ≤ tk → J n m' → Fr h₀ env.locals h' m' → News h₀ env.locals h' news → RR (.ok .next) { s with heap := h', toks := tk }) :
    codeAny (model prog w) A (.forLoop target (.ref I) body [] env) RR s := by
  have old₀ : ∀ b o, h₀.get? b = some o → b ∉ wr := fun b o e hb => by rw [hwr b hb] at e; cases e
  refine codeAny_forLoop_any (fun k s' => ∃ h' tk m' i, s' = { s with heap := h', toks := tk } ∧ 1 ≤ tk ∧ St i h' ∧ Fr h₀ env.locals h' m' ∧ News h₀ env.locals h' news ∧ J i m' ∧ i ≤ n ∧ k = n + 1 - i) ?_ (n + 1)
    ⟨s.heap, s.toks, m, 0, rfl, htk, hst, F, N, hJ, Nat.zero_le _, rfl⟩
  rintro k s' ⟨h', tk, m', i, rfl, htk', hst', F', N', hJ', hi, rfl⟩
  have next : ∀ h₁ : Heap, (∀ b o, b ∉ wr → h'.get? b = some o → h₁.get? b = some o) → Fr h₀ env.locals h₁ m' ∧ News h₀ env.locals h₁ news := fun h₁ hk₁ =>
    ⟨⟨F'.ns.at' fun o e => hk₁ _ o hLw e, fun b o e => hk₁ b o (old₀ b o e) (F'.keep b o e), F'.above⟩, fun p hp => ⟨hk₁ _ _ (off p hp) (N' p hp).1, (N' p hp).2⟩⟩
  by_cases hlt : i < n
  · refine W.item i _ _ _ hlt hst' htk' fun v h₁ tk₁ ht₁ hMd hk₁ => ?_
    refine W.go i v _ _ _ hMd fun h₂ hP hst₂ hk₂ => ?_
    obtain ⟨F₂, N₂⟩ := next h₂ fun b o hb e => hk₂ b o hb (hk₁ b o hb e)
    refine asg i v h₂ tk₁ m' _ _ hP F₂.ns fun h₃ tk₃ m₃ ht₃ hn₃ hR hk₃ => ?_
    have htk₃ : 1 ≤ tk₃ := Nat.le_trans ht₁ ht₃
    have hLn : ∀ b ∈ wr, b ≠ env.locals := fun b hb q => hLw (q ▸ hb)
    have hst₃ : St (i + 1) h₃ := W.frame _ _ _ hst₂ fun b hb o e => hk₃ b o (hLn b hb) e
    obtain ⟨own, how, hown⟩ := objs_of wr (W.live _ _ hst₃)
    have hL₀ : h₀.get? env.locals = none := Heap.get?_none_of_le F.above
    have F₃ : Fr h₀ env.locals h₃ m₃ := ⟨hn₃, fun b o e => hk₃ b o (fun q => by rw [q, hL₀] at e; cases e) (F₂.keep b o e), F₂.above⟩
    have N₃ : News h₀ env.locals h₃ (own ++ news) := fun p hp => by
      rcases List.mem_append.mp hp with hp | hp
      · have hw : p.1 ∈ wr := by rw [← how]; exact List.mem_map_of_mem hp
        exact ⟨hown p hp, hLn _ hw, hwr _ hw⟩
      · exact ⟨hk₃ _ _ (N₂ p hp).2.1 (N₂ p hp).1, (N₂ p hp).2⟩
    refine wpAny_with_toks (n := 1) htk₃ (wpAny_mono (turn i m' m₃ own h₃ tk₃ _ hlt hJ' hR htk₃ how F₃ N₃) (fun f s₄ h₄ => ?_) fun _ _ e _ => e)
    obtain ⟨rfl, h₄, tk₄, m₄, rfl, F₄, N₄, hJ₄⟩ := h₄
    intro ht₄
    refine ⟨n + 1 - (i + 1), by omega, h₄, tk₄, m₄, i + 1, rfl, ht₄, W.frame _ _ _ hst₃ fun b hb o e => ?_, F₄, fun p hp => N₄ p (List.mem_append.mpr (.inr hp)), hJ₄, hlt, rfl⟩
    rw [← how] at hb
    obtain ⟨p, hp, rfl⟩ := List.mem_map.mp hb
    have e2 := hown p hp
    rw [e] at e2
    rw [Option.some.inj e2]
    exact (N₄ p (List.mem_append.mpr (.inl hp))).1
  · obtain rfl : i = n := Nat.le_antisymm hi (Nat.not_lt.mp hlt)
    refine W.done _ _ _ hst' fun h₁ tk₁ ht₁ hk₁ => wpAny_execs_nil ?_
    obtain ⟨F₁, N₁⟩ := next h₁ hk₁
    exact fin h₁ tk₁ m' (Nat.le_trans htk' ht₁) hJ' F₁ N₁
theorem TTurns.ascii {a : Str} {pa : Pos} (hh : A.handled = none) (I : Addr) (x : Str) (t : Tok) : TTurns prog w A (.Name a pa) I [I] x.cps.size
    (fun i v _ tk => ∃ (c u : Nat), x.cps[i]? = some c ∧ v = .str ⟨#[c]⟩ u ∧ 1 ≤ u ∧ u < tk) (fun i v h tk => (∃ (c u : Nat), x.cps[i]? = some c ∧ v = .str ⟨#[c]⟩ u ∧ 1 ≤ u ∧ u < tk) ∧ h.IsStrIter I "str_ascii_iterator" x t (i + 1)) (fun i h => h.IsStrIter I "str_ascii_iterator" x t i) where
  frame := fun i h h' st hk => by obtain ⟨o, ho, r⟩ := st; exact ⟨o, hk I (by simp) o ho, r⟩
  live := fun i h st b hb => by obtain ⟨o, ho, _⟩ := st; rw [List.mem_singleton.mp hb]; exact ⟨o, ho⟩
  item := fun i s Q E hi st ht hQ => by
    refine wpAny_pyNext_ascii_item st (c := x.cps[i]) (by simp [hi]) fun h' hit' hs' => ?_
    exact hQ _ h' (s.toks + 1) (Nat.le_succ_of_le ht) ⟨⟨_, s.toks, by simp [hi], rfl, ht, Nat.lt_succ_self _⟩, hit'⟩ fun b o hb e => hs'.extBut b o (by simpa using hb) e
  go := fun i v s Q E hm hQ => wpAny_pure (hQ s.heap hm.1 hm.2 fun _ _ _ e => e)
  done := fun s Q E st hQ => wpAny_pyNext_ascii_end hh st (by simp) fun h' he => hQ h' s.toks (Nat.le_refl _) fun b o hb e => he b o (by simpa using hb) e
end
end Mine
end PartFl
section PartFe
namespace Mine
open PySem.Spec PySem.Calls
section
variable {prog : Program} {w : World} {A : Around} {E : Value → Shared → Prop} {s : Shared}
/-- the next pair of an enumerated ascii text: the sign's token is the next one -/
theorem enum_tok {e it : Addr} {x : Str} {t₀ : Tok} {i c : Nat} {old : Value} {Q : Value → Shared → Prop} (hit : s.heap.IsStrIter it "str_ascii_iterator" x t₀ i) (hx : x.cps[i]? = some c) (he : IsEnum s.heap e it i old) (hne : e ≠ it)
    (hQ : ∀ h', IsEnumOut h' e it ((i : Int) + 1) (.str ⟨#[c]⟩ s.toks) s.heap.objs.size → h'.IsStrIter it "str_ascii_iterator" x t₀ (i + 1) →
      h'.get? s.heap.objs.size = some { cls := .type "tuple", data := .seq #[.int i (s.toks + 1), .str ⟨#[c]⟩ s.toks] } →
      (∀ b o, b ≠ e → b ≠ it → s.heap.get? b = some o → h'.get? b = some o) → Q (.ref s.heap.objs.size) { s with heap := h', toks := s.toks + 2 }) :
    wpAny (model prog w) A (Builtin.«enumerate.__next__» ⟨[.ref e], []⟩) (fun fin s' => ∃ v, fin = .done (.ret v) ∧ Q v s') E s := by
  obtain ⟨hp, g, d, tk, os⟩ := s
  show wpAny _ _ (field (.ref e) 2 >>= _) _ _ _
  refine wpAny_bind (wpAny_field he rfl (x := .ref it) rfl ?_)
  refine wpAny_bind (wpAny_nextOf_ascii_item hit hx fun h₁ hit₁ hs₁ => ?_)
  replace hs₁ : Heap.SameBut it hp h₁ := hs₁
  have he₁ : IsEnum h₁ e it i old := (hs₁.2 e hne).trans he
  show wpAny _ _ (field (.ref e) 3 >>= _) _ _ ⟨h₁, g, d, tk + 1, os⟩
  refine wpAny_bind (wpAny_field he₁ rfl (x := rawInt i) rfl ?_)
  show wpAny _ _ (field (.ref e) 4 >>= _) _ _ ⟨h₁, g, d, tk + 1, os⟩
  refine wpAny_bind (wpAny_field he₁ rfl (x := .none) rfl ?_)
  show wpAny _ _ (mkInt i >>= _) _ _ ⟨h₁, g, d, tk + 1, os⟩
  refine wpAny_bind (wpAny_mkInt ?_)
  show wpAny _ _ (setField (.ref e) 3 (rawInt ((i : Int) + 1)) >>= _) _ _ ⟨h₁, g, d, tk + 2, os⟩
  refine wpAny_bind (wpAny_setField_rec he₁ (by simp) fun h₂ he₂ hs₂ => ?_)
  replace he₂ : IsEnum h₂ e it ((i : Int) + 1) old := he₂
  show wpAny _ _ (setField (.ref e) 4 .none >>= _) _ _ ⟨h₂, g, d, tk + 2, os⟩
  refine wpAny_bind (wpAny_setField_rec he₂ (by simp) fun h₃ he₃ hs₃ => ?_)
  replace he₃ : IsEnum h₃ e it ((i : Int) + 1) old := he₃
  have up₃ : ∀ b o, b ≠ e → h₁.get? b = some o → h₃.get? b = some o := fun b o hb q => hs₃.extBut b o hb (hs₂.extBut b o hb q)
  have z₃ : h₃.objs.size = hp.objs.size := by
    have a1 : h₃.objs.size = h₂.objs.size := hs₃.1
    have a2 : h₂.objs.size = h₁.objs.size := hs₂.1
    rw [a1, a2, hs₁.1]
  have it₃ : h₃.IsStrIter it "str_ascii_iterator" x t₀ (i + 1) := by obtain ⟨o, ho, r⟩ := hit₁; exact ⟨o, up₃ it o (Ne.symm hne) ho, r⟩
  have k₃ : ∀ b o, b ≠ e → b ≠ it → hp.get? b = some o → h₃.get? b = some o := fun b o hb hi q => up₃ b o hb (hs₁.extBut b o hi q)
  clear hs₃ hs₂ he₂ he₁ hs₁ hit₁ up₃
  show wpAny _ _ (newTuple [.int i (tk + 1), .str ⟨#[c]⟩ tk] >>= _) _ _ ⟨h₃, g, d, tk + 2, os⟩
  refine wpAny_bind (wpAny_newTuple ?_)
  have hel : e < hp.objs.size := Heap.lt_size he
  have ht₄ : (h₃.push { cls := .type "tuple", data := .seq #[.int i (tk + 1), .str ⟨#[c]⟩ tk] }).get? hp.objs.size = some { cls := .type "tuple", data := .seq #[.int i (tk + 1), .str ⟨#[c]⟩ tk] } := by rw [← z₃]; exact Heap.get?_push_size _ rfl
  have he₄ : IsEnum (h₃.push { cls := .type "tuple", data := .seq #[.int i (tk + 1), .str ⟨#[c]⟩ tk] }) e it ((i : Int) + 1) old := Heap.get?_push_of_some _ he₃
  have it₄ : (h₃.push { cls := .type "tuple", data := .seq #[.int i (tk + 1), .str ⟨#[c]⟩ tk] }).IsStrIter it "str_ascii_iterator" x t₀ (i + 1) := by obtain ⟨o, ho, r⟩ := it₃; exact ⟨o, Heap.get?_push_of_some _ ho, r⟩
  have k₄ : ∀ b o, b ≠ e → b ≠ it → hp.get? b = some o → (h₃.push { cls := .type "tuple", data := .seq #[.int i (tk + 1), .str ⟨#[c]⟩ tk] }).get? b = some o := fun b o hb hi q => Heap.get?_push_of_some _ (k₃ b o hb hi q)
  rw [z₃]
  generalize h₃.push { cls := .type "tuple", data := .seq #[.int i (tk + 1), .str ⟨#[c]⟩ tk] } = h₄ at ht₄ he₄ it₄ k₄ ⊢
  clear k₃ it₃ he₃ z₃
  show wpAny _ _ (Builtin.SmallTypes.ownedTupleIsFree (.ref e) >>= _) _ _ ⟨h₄, g, d, tk + 2, os⟩
  refine wpAny_bind ?_
  unfold Builtin.SmallTypes.ownedTupleIsFree
  refine wpAny_bind (wpAny_field he₄ rfl (x := .none) rfl (wpAny_pure ?_))
  simp only [if_true]
  refine wpAny_bind (wpAny_rule ?_)
  refine wpAny_bind (wpAny_field he₄ rfl (x := old) rfl ?_)
  refine wpAny_bind (wpAny_setField_rec he₄ (by simp) fun h₅ he₅ hs₅ => ?_)
  replace he₅ : IsEnum h₅ e it ((i : Int) + 1) (.str ⟨#[c]⟩ tk) := he₅
  show wpAny _ _ (Builtin.SmallTypes.ownedTupleHandOut (.ref e) (.ref hp.objs.size) >>= _) _ _ ⟨h₅, g, d, tk + 2, os⟩
  refine wpAny_bind ?_
  unfold Builtin.SmallTypes.ownedTupleHandOut
  refine wpAny_bind (wpAny_setField_rec he₅ (by simp) fun h₆ he₆ hs₆ => ?_)
  replace he₆ : IsEnumOut h₆ e it ((i : Int) + 1) (.str ⟨#[c]⟩ tk) hp.objs.size := he₆
  refine wpAny_setField_rec he₆ (by simp) fun h₇ he₇ hs₇ => ?_
  replace he₇ : IsEnumOut h₇ e it ((i : Int) + 1) (.str ⟨#[c]⟩ tk) hp.objs.size := he₇
  have up₇ : ∀ b o, b ≠ e → h₄.get? b = some o → h₇.get? b = some o := fun b o hb q => hs₇.extBut b o hb (hs₆.extBut b o hb (hs₅.extBut b o hb q))
  refine wpAny_bind (wpAny_letGo (wpAny_pure ⟨_, rfl, hQ h₇ he₇ ?_ ?_ ?_⟩))
  · obtain ⟨o, ho, r⟩ := it₄; exact ⟨o, up₇ it o (Ne.symm hne) ho, r⟩
  · exact up₇ _ _ (Nat.ne_of_gt hel) ht₄
  · exact fun b o hb hi q => up₇ b o hb (k₄ b o hb hi q)
theorem next_enum_tok {e it : Addr} {x : Str} {t₀ : Tok} {i c : Nat} {old : Value} {Q : Option Value → Shared → Prop} (hit : s.heap.IsStrIter it "str_ascii_iterator" x t₀ i) (hx : x.cps[i]? = some c) (he : IsEnum s.heap e it i old) (hne : e ≠ it)
    (hQ : ∀ h', IsEnumOut h' e it ((i : Int) + 1) (.str ⟨#[c]⟩ s.toks) s.heap.objs.size → h'.IsStrIter it "str_ascii_iterator" x t₀ (i + 1) →
      h'.get? s.heap.objs.size = some { cls := .type "tuple", data := .seq #[.int i (s.toks + 1), .str ⟨#[c]⟩ s.toks] } →
      (∀ b o, b ≠ e → b ≠ it → s.heap.get? b = some o → h'.get? b = some o) → Q (some (.ref s.heap.objs.size)) { s with heap := h', toks := s.toks + 2 }) :
    wpAny (model prog w) A (pyNext (.ref e)) Q E s := by
  have hT : s.TypeIs (.ref e) "enumerate" := ⟨_, he, rfl⟩
  unfold pyNext
  exact wpAny_bind (wpAny_attempt (wpAny_callSpecial?_slot (name := Str.ofString "__next__") hT F.slot_enumerate_next
    (wpAny_call_entry F.slot_enumerate_next hT F.entry_enumerate_next
      (enum_tok hit hx he hne fun h' a b c d => wpAny_pure (hQ h' a b c d)) (F.args_enumerate_next_1 _))))
theorem TTurns.enumAscii {elts : List PySem.Expr} {kk : Nat} {pos : Pos} (hh : A.handled = none) (e it : Addr) (hne : e ≠ it) (x : Str) (t₀ : Tok) : TTurns prog w A (.Tuple elts kk pos) e [e, it] x.cps.size
    (fun i v h tk => ∃ (T : Addr) (c u : Nat) (t : Tok), v = .ref T ∧ h.IsTuple T #[.int i t, .str ⟨#[c]⟩ u] ∧ x.cps[i]? = some c ∧ 1 ≤ u ∧ u < tk)
    (fun i v h tk => ∃ (T : Addr) (c u : Nat) (t : Tok), v = .ref T ∧ h.IsTuple T #[.int i t, .str ⟨#[c]⟩ u] ∧ x.cps[i]? = some c ∧ 1 ≤ u ∧ u < tk ∧ IsEnumOut h e it ((i : Int) + 1) (.str ⟨#[c]⟩ u) T ∧ h.IsStrIter it "str_ascii_iterator" x t₀ (i + 1) ∧ T ≠ e)
    (fun i h => (∃ old, IsEnum h e it i old) ∧ h.IsStrIter it "str_ascii_iterator" x t₀ i) where
  frame := fun i h h' st hk => by
    obtain ⟨⟨old, he⟩, ⟨o, ho, r⟩⟩ := st
    exact ⟨⟨old, hk e (by simp) _ he⟩, ⟨o, hk it (by simp) o ho, r⟩⟩
  live := fun i h st b hb => by
    obtain ⟨⟨old, he⟩, ⟨o, ho, _⟩⟩ := st
    rcases List.mem_cons.mp hb with rfl | hb
    · exact ⟨_, he⟩
    · rw [List.mem_singleton.mp hb]; exact ⟨o, ho⟩
  item := fun i s Q E hi st ht hQ => by
    obtain ⟨⟨old, he⟩, hit⟩ := st
    refine next_enum_tok hit (c := x.cps[i]) (by simp [hi]) he hne fun h' ho hit' hT hk => ?_
    exact hQ _ h' (s.toks + 2) (Nat.le_trans ht (Nat.le_add_right _ _)) ⟨_, _, s.toks, _, rfl, ⟨_, hT, rfl, _, rfl⟩, by simp [hi], ht, Nat.lt_add_of_pos_right (by decide), ho, hit', Nat.ne_of_gt (Heap.lt_size he)⟩
      fun b o hb q => hk b o (fun e' => hb (by simp [e'])) (fun e' => hb (by simp [e'])) q
  go := fun i v s Q E hm hQ => by
    obtain ⟨T, c, u, t, rfl, hT, hx, hu, hut, ho, hit, hTe⟩ := hm
    refine wpAny_letOwnedTupleGo_enum ho fun h' he' hs' => hQ h' ⟨T, c, u, t, rfl, hT.at fun o q => hs'.extBut T o hTe q, hx, hu, hut⟩ ⟨⟨_, by simpa using he'⟩, ?_⟩ fun b o hb q => hs'.extBut b o (fun e' => hb (by simp [e'])) q
    obtain ⟨o, hoo, r⟩ := hit
    exact ⟨o, hs'.extBut it o (Ne.symm hne) hoo, r⟩
  done := fun s Q E st hQ => by
    obtain ⟨⟨old, he⟩, hit⟩ := st
    exact wpAny_pyNext_enum_endD (Draws.strAscii (A := A.in1) hh it x t₀) he hit fun h' hx => hQ h' s.toks (Nat.le_refl _) fun b o hb q => hx b o (fun e' => hb (by simp [e'])) q
end
end Mine
end PartFe
section PartFs
namespace Mine
open PySem.Spec PySem.Calls
section
variable {prog : Program} {w : World} {A : Around} {E : Value → Shared → Prop} {s : Shared} {h₀ : Heap} {m : Str → Option Value} {env : Env} {body : List Stmt} {news : List (Addr × Obj)} {Q : Flow → Shared → Prop}
def FlSrc (prog : Program) (w : World) (A : Around) (env : Env) (target : PySem.Expr) (body : List Stmt) (Q : Flow → Shared → Prop) (E : Value → Shared → Prop) (xv : Value) (s₁ : Shared) : Prop :=
  wpAny (model prog w) A (pyIter xv) (fun it s₂ => codeAny (model prog w) A (.forLoop target it body [] env) (fun r s' => match r with | .ok f => Q f s' | .error e => cameBackBy (model prog w) A env E e s') s₂) E s₁
theorem for_fl {target iter : PySem.Expr} {pos : Pos} (h : wpAny (model prog w) A (eval iter env) (FlSrc prog w A env target body Q E) E s) (hs : ∀ x, foldedSetIterable iter env x = pure x := by intro _; rfl) :
    wpAny (model prog w) A (exec (.For target iter body [] pos) env) Q E s := wpAny_For h hs
def FlJ (v : Str) (off : List Str) (m : Str → Option Value) (P : Str → Prop) (m' : Str → Option Value) : Prop := (∃ y t, m' v = some (.str y t) ∧ P y) ∧ ∀ nm, nm ≠ v → (∀ a ∈ off, nm ≠ a) → m' nm = m nm
theorem fl_str {a v : Str} {pa : Pos} {z y₀ : Str} {t₀ ty₀ : Tok} (P : Nat → Str → Prop) (hh : A.handled = none) (hz : z.cps.all (· < 128) = true) (hx : env.kindOf a = some .local) (hp : (env.scope.kind == .class || (env.scope.kind == .module && env.locals != env.globals)) = false)
    (htk : 1 ≤ s.toks) (F : Fr h₀ env.locals s.heap m) (N : News h₀ env.locals s.heap news) (hm : m v = some (.str y₀ ty₀)) (hP : P 0 y₀)
    (turn : ∀ i y ty (c u : Nat) h tk I oI (E' : Value → Shared → Prop), z.cps[i]? = some c → P i y → 1 ≤ u → u < tk → Fr h₀ env.locals h (fun nm => if nm = a then some (.str ⟨#[c]⟩ u) else if nm = v then some (.str y ty) else m nm) → News h₀ env.locals h ((I, oI) :: news) →
      wpAny (model prog w) A (execs body env) (FlEnd h₀ env.locals { s with heap := h, toks := tk } ((I, oI) :: news) (FlJ v [a] m (P (i + 1)))) E' { s with heap := h, toks := tk })
    (fin : ∀ h tk y ty ua, 1 ≤ tk → P z.cps.size y → Fr h₀ env.locals h (fun nm => if nm = v then some (.str y ty) else if nm = a then ua else m nm) → News h₀ env.locals h news → Q .next { s with heap := h, toks := tk }) :
    FlSrc prog w A env (.Name a pa) body Q E (.str z t₀) s := by
  unfold FlSrc
  refine wpAny_pyIter_ascii hz ?_
  have hLs : env.locals < s.heap.objs.size := F.ns.lt
  refine fl_block (s := { s with heap := s.heap.push _ }) (m := m) (news := news) (R := fun i m' m₂ tk => ∃ c u : Nat, z.cps[i]? = some c ∧ 1 ≤ u ∧ u < tk ∧ m₂ = fun nm => if nm = a then some (.str ⟨#[c]⟩ u) else m' nm)
    (fun i m' => FlJ v [a] m (P i) m') (TTurns.ascii hh s.heap.objs.size z t₀) (fun b hb => by rw [List.mem_singleton.mp hb]; exact next_is_new F) (fun hm => absurd hLs (by rw [List.mem_singleton.mp hm]; exact Nat.lt_irrefl _))
    (fun p hp hm => absurd (Heap.lt_size (N p hp).1) (by rw [List.mem_singleton.mp hm]; exact Nat.lt_irrefl _)) ⟨_, Heap.get?_push_size _ rfl, rfl, rfl⟩ htk (F.push _) (fun p hp => ⟨Heap.get?_push_of_some _ (N p hp).1, (N p hp).2⟩) ?_ ⟨⟨y₀, ty₀, hm, hP⟩, fun _ _ _ => rfl⟩ ?_ ?_
  · rintro i x h tk m' Q' E' ⟨c, u, hc, rfl, h1, h2⟩ hn hQ
    refine wpAny_assign_Name (wpAny_with_toks (n := tk) (Nat.le_refl _) (wpAny_storeName_local hx hn (fun h₃ hn₃ hs₃ ht₃ => ?_) hp))
    exact hQ h₃ _ _ ht₃ hn₃ ⟨c, u, hc, h1, Nat.lt_of_lt_of_le h2 ht₃, rfl⟩ fun b o hb e => hs₃.extBut b o hb e
  · rintro i m' m₂ own h tk E' hi ⟨⟨y, ty, hy, hPy⟩, hoff⟩ ⟨c, u, hc, h1, h2, rfl⟩ htk' how F' N'
    obtain ⟨oI, rfl⟩ := one_own how
    have e : (fun nm => if nm = a then some (Value.str ⟨#[c]⟩ u) else m' nm) = fun nm => if nm = a then some (.str ⟨#[c]⟩ u) else if nm = v then some (.str y ty) else m nm := by
      funext nm
      by_cases h1 : nm = a
      · rw [if_pos h1, if_pos h1]
      · rw [if_neg h1, if_neg h1]
        by_cases h2 : nm = v
        · rw [if_pos h2, h2, hy]
        · rw [if_neg h2, hoff nm h2 (by simpa using h1)]
    rw [e] at F'
    exact turn i y ty c u h tk _ oI E' hc hPy h1 h2 F' N'
  · rintro h' tk m' htk' ⟨⟨y, ty, hy, hPy⟩, hoff⟩ F' N'
    have e : m' = fun nm => if nm = v then some (.str y ty) else if nm = a then m' a else m nm := by
      funext nm
      by_cases h1 : nm = v
      · rw [if_pos h1, h1, hy]
      · rw [if_neg h1]
        by_cases h2 : nm = a
        · rw [if_pos h2, h2]
        · rw [if_neg h2, hoff nm h1 (by simpa using h2)]
    rw [e] at F'
    exact fin h' tk y ty (m' a) htk' hPy F' N'
theorem fl_enum {a b v : Str} {pa pb tp : Pos} {kk : Nat} {z y₀ : Str} {t₀ ty₀ : Tok} (P : Nat → Str → Prop) (hh : A.handled = none) (hz : z.cps.all (· < 128) = true) (hxa : env.kindOf a = some .local) (hxb : env.kindOf b = some .local) (hp : (env.scope.kind == .class || (env.scope.kind == .module && env.locals != env.globals)) = false)
    (htk : 1 ≤ s.toks) (F : Fr h₀ env.locals s.heap m) (N : News h₀ env.locals s.heap news) (hm : m v = some (.str y₀ ty₀)) (hP : P 0 y₀)
    (turn : ∀ i y ty (c u : Nat) t h tk e oe it oi (E' : Value → Shared → Prop), z.cps[i]? = some c → P i y → 1 ≤ u → u < tk → Fr h₀ env.locals h (fun nm => if nm = b then some (.str ⟨#[c]⟩ u) else if nm = a then some (.int i t) else if nm = v then some (.str y ty) else m nm) → News h₀ env.locals h ((e, oe) :: (it, oi) :: news) →
      wpAny (model prog w) A (execs body env) (FlEnd h₀ env.locals { s with heap := h, toks := tk } ((e, oe) :: (it, oi) :: news) (FlJ v [a, b] m (P (i + 1)))) E' { s with heap := h, toks := tk })
    (fin : ∀ h tk y ty ua ub, 1 ≤ tk → P z.cps.size y → Fr h₀ env.locals h (fun nm => if nm = v then some (.str y ty) else if nm = a then ua else if nm = b then ub else m nm) → News h₀ env.locals h news → Q .next { s with heap := h, toks := tk }) :
    wpAny (model prog w) A (call (.type "enumerate") [.str z t₀]) (FlSrc prog w A env (.Tuple [.Name a pa, .Name b pb] kk tp) body Q E) E s := by
  have hLs : env.locals < s.heap.objs.size := F.ns.lt
  have hab' : h₀.objs.size ≤ env.locals := F.above
  refine wpAny_with_toks (n := 1) htk (call_enumerate_str fun h' he hit hsz hk htk => ?_)
  have F' : Fr h₀ env.locals h' m := ⟨F.ns.keeps hk, fun b o e => hk b o (F.keep b o e), F.above⟩
  have N' : News h₀ env.locals h' news := fun p hp => ⟨hk _ _ (N p hp).1, (N p hp).2⟩
  have nw : ∀ b ∈ [s.heap.objs.size + 1, s.heap.objs.size], s.heap.objs.size ≤ b := fun b hb => by
    rcases List.mem_cons.mp hb with rfl | hb
    · exact Nat.le_succ _
    · rw [List.mem_singleton.mp hb]; exact Nat.le_refl _
  have hit' : h'.IsStrIter s.heap.objs.size "str_ascii_iterator" z t₀ 0 := by simpa [strIterType, hz] using hit
  unfold FlSrc
  refine wpAny_pyIter_enum he ?_
  refine fl_block (s := { s with heap := h' }) (m := m) (news := news) (R := fun i m' m₂ tk => ∃ (c u : Nat) (t : Tok), z.cps[i]? = some c ∧ 1 ≤ u ∧ u < tk ∧ m₂ = fun nm => if nm = b then some (.str ⟨#[c]⟩ u) else if nm = a then some (.int i t) else m' nm)
    (fun i m' => FlJ v [a, b] m (P i) m') (TTurns.enumAscii hh (s.heap.objs.size + 1) s.heap.objs.size (Nat.succ_ne_self _) z t₀) (fun b hb => Heap.get?_none_of_le (Nat.le_trans hab' (Nat.le_trans (Nat.le_of_lt hLs) (nw b hb)))) (fun hm => absurd (nw _ hm) (Nat.not_le.mpr hLs))
    (fun p hp hm => absurd (nw _ hm) (Nat.not_le.mpr (Heap.lt_size (N p hp).1))) ⟨⟨_, he⟩, hit'⟩ htk F' N' ?_ ⟨⟨y₀, ty₀, hm, hP⟩, fun _ _ _ => rfl⟩ ?_ ?_
  · rintro i x h tk m' Q' E' ⟨T, c, u, t, rfl, hT, hc, h1, h2⟩ hn hQ
    refine wpAny_with_toks (n := tk) (Nat.le_refl _) (PySem.W.kcp_assign (s := { s with heap := h, toks := tk }) hh hT hxa hxb hp hn ?_)
    intro h₃ tk₃ hn₃ hk₃ ht₃
    exact hQ h₃ tk₃ _ ht₃ hn₃ ⟨c, u, t, hc, h1, Nat.lt_of_lt_of_le h2 ht₃, rfl⟩ hk₃
  · rintro i m' m₂ own h tk E' hi ⟨⟨y, ty, hy, hPy⟩, hoff⟩ ⟨c, u, t, hc, h1, h2, rfl⟩ htk' how F'' N''
    obtain ⟨oe, oi, rfl⟩ := two_own how
    have e : (fun nm => if nm = b then some (Value.str ⟨#[c]⟩ u) else if nm = a then some (.int i t) else m' nm) = fun nm => if nm = b then some (.str ⟨#[c]⟩ u) else if nm = a then some (.int i t) else if nm = v then some (.str y ty) else m nm := by
      funext nm
      by_cases h0 : nm = b
      · rw [if_pos h0, if_pos h0]
      · rw [if_neg h0, if_neg h0]
        by_cases h1 : nm = a
        · rw [if_pos h1, if_pos h1]
        · rw [if_neg h1, if_neg h1]
          by_cases h2 : nm = v
          · rw [if_pos h2, h2, hy]
          · rw [if_neg h2, hoff nm h2 (by simpa using ⟨h1, h0⟩)]
    rw [e] at F''
    exact turn i y ty c u t h tk _ oe _ oi E' hc hPy h1 h2 F'' N''
  · rintro h'' tk m' htk' ⟨⟨y, ty, hy, hPy⟩, hoff⟩ F'' N''
    have e : m' = fun nm => if nm = v then some (.str y ty) else if nm = a then m' a else if nm = b then m' b else m nm := by
      funext nm
      by_cases h1 : nm = v
      · rw [if_pos h1, h1, hy]
      · rw [if_neg h1]
        by_cases h2 : nm = a
        · rw [if_pos h2, h2]
        · rw [if_neg h2]
          by_cases h3 : nm = b
          · rw [if_pos h3, h3]
          · rw [if_neg h3, hoff nm h1 (by simpa using ⟨h2, h3⟩)]
    rw [e] at F''
    exact fin h'' tk y ty (m' a) (m' b) htk' hPy F'' N''
end
end Mine
end PartFs
section PartWr
namespace Mine
open PySem.Spec PySem.Calls
section
variable {prog : Program} {w : World} {A : Around} {E : Value → Shared → Prop} {s : Shared} {t u v : Tok} {Q : Value → Shared → Prop}
theorem repl2_at {x y z : Str} (hu : @LE.le Nat _ 1 u) (hv : @LT.lt Nat _ u v) (hyz : (y == z) = false) (hx : x.length ≤ 1048576) (hy : 1 ≤ y.length) (hz2 : z.length ≤ 14)
    (h : ∀ x' t' k, x' = S (replL (sg y) (sg z) (sg x)) → Q (.str x' t') { s with toks := k }) : wpAny (model prog w) A (call (.builtin "str.replace") [.str x t, .str y u, .str z v]) Q E s :=
  SC.replaceW (Nat.ne_of_gt hu) (Nat.ne_of_gt (Nat.lt_of_le_of_lt (Nat.zero_le _) hv)) (Nat.ne_of_lt hv) hyz hx hz2 fun t' k => h _ t' k (replace_is x y z hy)
theorem add_tok {x y : Str} (hx : (x.length == 0) = false) (hy : (y.length == 0) = false) (hf : x.length + y.length ≤ 16000000) (h : Q (.str (x ++ y) s.toks) { s with toks := s.toks + 1 }) : wpAny (model prog w) A (binaryOp .Add (.str x t) (.str y u)) Q E s := by
  refine PySem.P.add_str ?_
  rw [hx, hy]
  refine ⟨?_, h⟩
  show (x ++ y).length ≤ _
  rw [PySem.Str.length_append]
  have : sizeLine = 16777216 := PySem.sizeLine_eq
  omega
theorem add_bs {y : Str} (hy : 1 ≤ y.length) (hy' : y.length ≤ 1048576) (h : Q (.str (Str.ofString "\\" ++ y) s.toks) { s with toks := s.toks + 1 }) : wpAny (model prog w) A (binaryOp .Add (.str (Str.ofString "\\") t) (.str y u)) Q E s := by
  have e : (Str.ofString "\\").length = 1 := by decide +kernel
  refine add_tok (by rw [e]; rfl) ?_ (by rw [e]; omega) h
  rw [beq_eq_false_iff_ne]; omega
theorem bs_ne {c : Nat} {y : Str} (hy : 1 ≤ y.length) : ((⟨#[c]⟩ : Str) == Str.ofString "\\" ++ y) = false := by
  rw [beq_eq_false_iff_ne]
  intro e
  have h := congrArg PySem.Str.length e
  rw [PySem.Str.length_append, show (Str.ofString "\\").length = 1 from by decide +kernel] at h
  have h1 : (⟨#[c]⟩ : Str).length = 1 := rfl
  omega
theorem bs_len {y : Str} (hy : y.length ≤ 1) : (Str.ofString "\\" ++ y).length ≤ 14 := by
  rw [PySem.Str.length_append, show (Str.ofString "\\").length = 1 from by decide +kernel]; omega
theorem add_none {x : Str} (hx : (x.length == 0) = false) (h : Q (.str x t) s) : wpAny (model prog w) A (binaryOp .Add (.str x t) (.str (Str.ofString "") u)) Q E s := by
  refine PySem.P.add_str ?_
  rw [hx, show ((Str.ofString "").length == 0) = true from by decide +kernel]
  exact h
end
end Mine
end PartWr
section PartWw
theorem Mine.wWw : True := by
  k_with_none
  k_with "con in" => (
  w_top off
  unfold Mine.Con
  k_fill
  intro dp un gd cn cs a ccd cl outer A₀ base h₀ L m s Q E B F X N T hk hd hu hret
  refine wpAny_call ?_
  k_dflt cell_enter)
  k_with "con in0" => (
  w_top off
  unfold Mine.Con
  k_fill
  intro dp un gd cn cs a ccd cl outer A₀ base h₀ L m s Q E B F X N T hk hd hu hret
  refine wpAny_call ?_)
  k_with "con args" => (
  (case kA => exact rfl); (case kF => exact rfl); (case kK => assumption); (case k1 => k_asm); (case k2 => k_asm); (case k3 => k_asm); (case k4 => k_asm); (case k5 => k_asm); (case k6 => k_is); (case k7 => k_is); (case k8 => ktr_room); (case k9 => first | exact BindsTo.of_eq rfl | exact binds_K (by k_in) rfl (by k_is) rfl rfl rfl); (case c5 => decide); (case kB => exact locs rfl); (case c2 => exact rfl); (case c3 => exact rfl); (case c4 => exact rfl); k_whole; intro g' L' h' FG' F' N' B' X' T'; (try dsimp only); (try k_fold))
  k_with "con end" => (
  refine Mine.end0 hret (by k_asm) (by k_asm) (by first | exact Mine.sub_all (by intro p hp; repeat (first | exact hp | refine List.mem_cons_of_mem _ ?_)) | exact Mine.sub_all (by kst_inAny)) ?_)
  k_with "con use0" => (
  (case k1 => k_asm); (case k2 => k_asm); (case k3 => k_asm); (case k4 => k_asm); (case k5 => k_asm); (case kK => first | exact rfl | assumption); (case kd => ktr_room); (case ku => ktr_units))
  k_with "call ref" => (
  k_here
  (show wpAny _ _ (call (Value.ref 52) [Value.str _ _]) _ _ _)
  (k_dflt (refine' Mine.Con.use0 (Mine.con_is_blank _ _) ?k1 ?k2 ?k3 ?k4 ?k5 ?kK ?kd ?ku ?_; (case k1 => k_asm); (case k2 => k_asm); (case k3 => k_asm); (case k4 => k_asm); (case k5 => k_asm); (case kK => first | exact rfl | assumption); (case kd => ktr_room); (case ku => ktr_units)))
  (intro r9 h9 tk9 F9 N9 hr9; subst hr9; (try dsimp only); (try k_fold)))
  k_with "step" => (first
  | (k_unfold; (try dsimp only))
  | (refine Mine.ap2 ?_; k_unfold; (try dsimp only))
  | (k_end; kc_close)
  | ((fail_if_success (with_reducible show wpAny _ _ (exec (Stmt.While _ _ _ _) _) _ _ _)); first | walk1 | (dsimp only; walk1))
  | (leave1; (try dsimp only))
  | fail "no step")
  k_with "steps" => repeat' walk_at "step"
  k_with "eval BoolOp" => (
  k_here
  (k_dflt (first
   | (refine' Mine.or_names ?k1 ?k2 ?k3 ?_; (case k1 => k_asm); (case k2 => rfl); (case k3 => rfl))
   | (refine' Mine.and_name_eq ?k1 ?k2 ?k3 ?_; (case k1 => k_asm); (case k2 => rfl); (case k3 => rfl))))
  k_whole)
  k_with "drop" => (
  (rename News _ _ _ _ => nX)
  (have nY := cb_drop (news := news) nX (by intro p hp; repeat (first | exact hp | refine List.mem_cons_of_mem _ ?_)))
  (clear nX))
  k_with "KswEnd" => (
  (rename News _ _ _ _ => nE')
  (try simp only [List.push_toArray] at nE')
  (first
    | (refine' ksw_end ⟨_,_,_,_,_,_,_⟩ ?e1 nE' ?e2 ?e3 ?e4 ?e5 ?e6 ?e7)
    | (refine' ksw_end ⟨_,_,_,_⟩ ?e1 nE' ?e2 ?e3 ?e4 ?e5 ?e6 ?e7)
    | (refine' ksw_end ⟨_,_⟩ ?e1 nE' ?e2 ?e3 ?e4 ?e5 ?e6 ?e7)
    | (refine' ksw_end ⟨_,_,_,_,_⟩ ?e1 nE' ?e2 ?e3 ?e4 ?e5 ?e6 ?e7))
  (case e1 => assumption)
  (case e2 => first | exact Mine.sub_all (by intro p hp; repeat (first | exact hp | refine List.mem_cons_of_mem _ ?_)) | kst_in)
  (case e3 => kst_facts)
  (case e4 => kst_all)
  (case e5 => ksw_same)
  (case e6 => kst_p)
  (case e7 => ksw_less))
  k_with "exec If" => refine wpAny_If ?_
  k_with "call ref" => (
  k_here
  (k_dflt (first
   | ((show wpAny _ _ (call (Value.ref 129) [Value.str _ _, Value.bool _]) _ _ _); refine' Mine.Con.useS (Mine.con_mode_of _ _ _ ?hc) ?k1 ?k2 ?k3 ?k4 ?k5 ?kK ?kd ?ku ?_)
   | ((show wpAny _ _ (call (Value.ref 136) [Value.str _ _, Value.bool _]) _ _ _); refine' Mine.Con.useS (Mine.con_escaped _ _ _) ?k1 ?k2 ?k3 ?k4 ?k5 ?kK ?kd ?ku ?_)))
  (try (case hc => first | assumption | omega))
  (case k1 => k_asm); (case k2 => k_asm); (case k3 => k_asm); (case k4 => k_asm); (case k5 => k_asm); (case kK => first | exact rfl | assumption); (case kd => ktr_room); (case ku => ktr_units)
  (intro x9 t9 h9 tk9 e9 F9 N9; (try dsimp only); (try k_fold)))
  k_with "call builtin:str.join" => (
  k_here
  (k_dflt (first
   | ((with_reducible show wpAny _ _ (call (Value.builtin "str.join") [Value.str (Str.ofString "") _, Value.ref _]) _ _ _); refine' Mine.join0_at ?k1 ?k2 ?k3 ?k4 ?k5 ?_)
   | ((with_reducible show wpAny _ _ (call (Value.builtin "str.join") [Value.str (Str.ofString " ") _, Value.ref _]) _ _ _); refine' Mine.joinB_at ?k1 ?k2 ?k3 ?k4 ?k5 ?_)))
  (case k1 => k_asm); (case k2 => k_memK); (case k3 => k_asm); (case k4 => first | assumption | exact rfl); (case k5 => walk_at "join size")
  (intro t9 k9; (try dsimp only); (try k_fold)))
  k_with "call ref" => (
  k_here
  (with_reducible show wpAny _ _ (call (Value.ref 129) [Value.str (Str.ofString "") _, Value.bool _]) _ _ _)
  (k_dflt (refine' Mine.Con.use0 (Mine.con_mode_of0 _ _) ?k1 ?k2 ?k3 ?k4 ?k5 ?kK ?kd ?ku ?_))
  (case k1 => k_asm); (case k2 => k_asm); (case k3 => k_asm); (case k4 => k_asm); (case k5 => k_asm); (case kK => first | exact rfl | assumption); (case kd => ktr_room); (case ku => ktr_units)
  (intro r9 h9 tk9 F9 N9 hr9; (obtain ⟨t9, hr9⟩ := hr9); subst hr9; (try dsimp only); (try k_fold)))
  k_with "con argsC" => (
  (case kA => exact rfl); (case kF => exact rfl); (case kK => assumption); (case k1 => k_asm); (case k2 => k_asm); (case k3 => k_asm); (case k4 => k_asm); (case k5 => k_asm); (case k6 => k_is); (case k7 => k_is); (case k8 => ktr_room); (case k9 => first | exact BindsTo.of_eq rfl | exact binds_K (by k_in) rfl (by k_is) rfl rfl rfl); (case kB => exact rfl); (case kD => decide +kernel); (case c2 => exact rfl); (case c3 => exact rfl); (case c4 => exact rfl); k_whole; intro g' L' h' tk' cells' FG' F' N' Y' B' X' T' l1; (try k_lt l1); k_cells Y'; (try simp only [List.cons_append, List.nil_append] at N'); (try dsimp only); (try k_fold))
  k_with "call ref" => (
  k_here
  (k_dflt (first
   | ((show wpAny _ _ (call (Value.ref 158) [Value.str _ _]) _ _ _); refine' Mine.Con.useS (Mine.con_trim _ _ ?hc) ?k1 ?k2 ?k3 ?k4 ?k5 ?kK ?kd ?ku ?_)
   | ((show wpAny _ _ (call (Value.ref 205) [Value.str _ _]) _ _ _); refine' Mine.Con.useS (Mine.con_law_trimmed _ _ ?hc) ?k1 ?k2 ?k3 ?k4 ?k5 ?kK ?kd ?ku ?_)
   | ((show wpAny _ _ (call (Value.ref 144) [Value.str _ _, Value.bool _]) _ _ _); refine' Mine.Con.useS (Mine.con_quote _ _ _ ?hc) ?k1 ?k2 ?k3 ?k4 ?k5 ?kK ?kd ?ku ?_)
   | ((show wpAny _ _ (call (Value.ref 144) [Value.str _ _]) _ _ _); refine' Mine.Con.useS (Mine.con_quoteD _ _ ?hc) ?k1 ?k2 ?k3 ?k4 ?k5 ?kK ?kd ?ku ?_)
   | ((show wpAny _ _ (call (Value.ref 193) [Value.str _ _, Value.bool _]) _ _ _); refine' Mine.Con.useS (Mine.con_law_mode _ _ _ ?hc) ?k1 ?k2 ?k3 ?k4 ?k5 ?kK ?kd ?ku ?_)))
  (try (case hc => first | assumption | omega))
  (case k1 => k_asm); (case k2 => k_asm); (case k3 => k_asm); (case k4 => k_asm); (case k5 => k_asm); (case kK => first | exact rfl | assumption); (case kd => ktr_room); (case ku => ktr_units)
  (intro x9 t9 h9 tk9 e9 F9 N9; (try (first | (have z9 := Mine.trim_fact e9) | (have z9 := Mine.quote_fact e9))); (try dsimp only); (try k_fold)))
  k_with "for texts" => (k_here; (rename Fr _ _ _ _ => lF'); (with_unfolding_all refine' For_invVF lF' ?k1 ?k2 ?_; (case k1 => exact rfl); (case k2 => exact rfl); k_whole))
  k_with "call ref" => (
  k_here
  (k_dflt (first
   | ((show wpAny _ _ (call (Value.ref 165) [Value.str _ _]) _ _ _); refine' Mine.Con.useS (Mine.con_concat_part _ _ ?hc) ?k1 ?k2 ?k3 ?k4 ?k5 ?kK ?kd ?ku ?_)
   | ((show wpAny _ _ (call (Value.ref 212) [Value.str _ _]) _ _ _); refine' Mine.Con.useS (Mine.con_law_part _ _ ?hc) ?k1 ?k2 ?k3 ?k4 ?k5 ?kK ?kd ?ku ?_)
   | ((show wpAny _ _ (call (Value.ref 200) [Value.str _ _, Value.bool _]) _ _ _); refine' Mine.Con.useS (Mine.con_law_written _ _ _ ?hc) ?k1 ?k2 ?k3 ?k4 ?k5 ?kK ?kd ?ku ?_)))
  (try (case hc => first | assumption | omega))
  (case k1 => k_asm); (case k2 => k_asm); (case k3 => k_asm); (case k4 => k_asm); (case k5 => k_asm); (case kK => first | exact rfl | assumption); (case kd => ktr_room); (case ku => ktr_units)
  (intro x9 t9 h9 tk9 e9 F9 N9; (try (first | (have z9 := Mine.part_fact e9) | (have z9 := Mine.quote_fact e9))); (try dsimp only); (try k_fold)))
  k_with "call ref" => (
  k_here
  (k_dflt (first
   | ((show wpAny _ _ (call (Value.ref 151) [Value.ref _]) _ _ _); refine' Mine.Con.useS (Mine.con_join_list ?hT ?hi ?hm ?hB ?hn) ?k1 ?k2 ?k3 ?k4 ?k5 ?kK ?kd ?ku ?_)
   | ((show wpAny _ _ (call (Value.ref 172) [Value.ref _]) _ _ _); refine' Mine.Con.useS (Mine.con_concat ?hT ?hi ?hm ?hB ?hn) ?k1 ?k2 ?k3 ?k4 ?k5 ?kK ?kd ?ku ?_)
   | ((show wpAny _ _ (call (Value.ref 179) [Value.ref _]) _ _ _); refine' Mine.Con.useS (Mine.con_code_text ?hT ?hi ?hm ?hB ?hn) ?k1 ?k2 ?k3 ?k4 ?k5 ?kK ?kd ?ku ?_)))
  (case hT => first | assumption | exact ⟨_, .inl rfl⟩ | exact ⟨_, .inr rfl⟩)
  (case hi => assumption)
  (case hm => first | assumption | k_memK)
  (case hB => assumption)
  (case hn => first | assumption | omega)
  (case k1 => k_asm); (case k2 => k_asm); (case k3 => k_asm); (case k4 => k_asm); (case k5 => k_asm); (case kK => first | exact rfl | assumption); (case kd => ktr_room); (case ku => ktr_units)
  (intro x9 t9 h9 tk9 e9 F9 N9; (try dsimp only); (try k_fold)))
  k_with "binaryOp Add str str" => (
  k_here
  (with_reducible show wpAny _ _ (binaryOp Operator.Add (Value.str (Str.ofString _) _) (Value.str (Str.ofString _) _)) _ _ _)
  (refine' PyProof.Rows.SBL.add ?_ ?z)
  (case z => decide +kernel)
  (intro t9 k9 z9))
  k_with "call builtin:str.replace" => (
  k_here
  (with_reducible show wpAny _ _ (call (Value.builtin "str.replace") [Value.str _ _, Value.str _ _, Value.str _ _]) _ _ _)
  (walk_at "replace by"))
  k_with "con end1" => (
  refine Mine.end1 hret (by k_asm) (by k_asm) (by first | exact Mine.sub_all (by intro p hp; repeat (first | exact hp | refine List.mem_cons_of_mem _ ?_)) | exact Mine.sub_all (by kst_inAny)) (by k_memK)
    (by first | assumption | exact PySem.W.kst_ltOf (by first | exact And.right (by assumption) | exact And.right (And.right (by assumption)) | exact And.right (And.right (And.right (by assumption))) | exact And.right (And.right (And.right (And.right (by assumption)))))) ?_)
  trivial
namespace Mine
def P1 (l zs : List Nat) (i : Nat) (y : Str) : Prop := y = S (l.flatMap (escUp (zs.take i)))
def ctlS : List (Nat × Nat) := [(12, 102), (10, 110), (13, 114), (9, 116), (11, 118)]
def ctlUp (l : List Nat) (k : Nat) : List Nat := (ctlS.take k).foldl (fun l p => ctlR p.1 p.2 l) l
def P2 (l : List Nat) (i : Nat) (y : Str) : Prop := y = S (ctlUp l i)
theorem idx5 {i c : Nat} (h : (Str.ofString "\x0c\n\x0d\t\x0b").cps[i]? = some c) : 0 ≤ (i : Int) ∧ (i : Int) < 5 := by
  have e : (Str.ofString "\x0c\n\x0d\t\x0b").cps = #[12, 10, 13, 9, 11] := by decide +kernel
  rw [e] at h
  have : i < 5 := by
    rcases Nat.lt_or_ge i 5 with h1 | h1
    · exact h1
    · rw [Array.getElem?_eq_none (by simpa using h1)] at h; cases h
  omega
theorem up_len (zs l : List Nat) : (l.flatMap (escUp zs)).length ≤ 2 * l.length := flat_len l _ 2 fun n => by unfold escUp; split <;> simp
theorem p1_len {c y : Str} {zs : List Nat} {i : Nat} (hc : c.length ≤ 4096) (h : P1 c.cps.toList zs i y) : y.length ≤ 1048576 := by
  rw [h, S_len]
  have := up_len (zs.take i) c.cps.toList
  have e : c.cps.toList.length = c.length := sg_len c
  omega
theorem ctlR_len (a b : Nat) (l : List Nat) : (ctlR a b l).length ≤ 2 * l.length := flat_len l _ 2 fun n => by split <;> simp
theorem fold_len : ∀ (ps : List (Nat × Nat)) (l : List Nat), (ps.foldl (fun l p => ctlR p.1 p.2 l) l).length ≤ 2 ^ ps.length * l.length
  | [], l => by simp
  | p :: ps, l => by
    rw [List.foldl_cons, List.length_cons]
    refine Nat.le_trans (fold_len ps _) ?_
    refine Nat.le_trans (Nat.mul_le_mul_left _ (ctlR_len p.1 p.2 l)) ?_
    rw [← Nat.mul_assoc, Nat.pow_succ]
    exact Nat.le_refl _
theorem p2_len {c y : Str} {zs : List Nat} {i : Nat} (hc : c.length ≤ 4096) (h : P2 (c.cps.toList.flatMap (escUp zs)) i y) : y.length ≤ 1048576 := by
  rw [h, S_len]
  have h1 := up_len zs c.cps.toList
  have h2 := fold_len (ctlS.take i) (c.cps.toList.flatMap (escUp zs))
  have e : c.cps.toList.length = c.length := sg_len c
  have h3 : (ctlS.take i).length ≤ 5 := by rw [List.length_take]; exact Nat.min_le_right _ _
  have h4 : 2 ^ (ctlS.take i).length ≤ 2 ^ 5 := Nat.pow_le_pow_right (by decide) h3
  have h5 := Nat.mul_le_mul h4 (Nat.le_trans h1 (Nat.mul_le_mul_left 2 (by rw [e]; exact hc : c.cps.toList.length ≤ 4096)))
  show (ctlUp _ i).length ≤ _
  unfold ctlUp
  omega
theorem p2_all {c y : Str} {deep : Bool} (h : P2 (c.cps.toList.flatMap (escUp (signsOf deep))) (Str.ofString "\x0c\n\x0d\t\x0b").cps.size y) : y = S (c.cps.toList.flatMap fun n => escL n deep) := by
  have e : (Str.ofString "\x0c\n\x0d\t\x0b").cps.size = 5 := by decide +kernel
  rw [e] at h
  rw [← esc_all]
  exact h
theorem esc_pos {n : Nat} {d : Bool} : 1 ≤ (escL n d).length := by
  unfold escL
  repeat' split
  all_goals simp
theorem p2_pos {c y x : Str} {b deep : Bool} (_hc : c.length ≤ 4096) (e : x = modeOf c.cps.toList b) (hb : (x == Str.ofString "brace") = false) (h : P2 (c.cps.toList.flatMap (escUp (signsOf deep))) (Str.ofString "\x0c\n\x0d\t\x0b").cps.size y) : 1 ≤ y.length := by
  rw [p2_all h, S_len]
  cases hl : c.cps.toList with
  | nil =>
    rw [hl] at e
    have : x = Str.ofString "brace" := e
    rw [this] at hb
    simp at hb
  | cons n r =>
    rw [List.flatMap_cons, List.length_append]
    have := @esc_pos n deep
    omega
theorem one_tok {k : Nat} (h : 1 ≤ k) : 1 ≤ k + 1 := by omega
/-- a contract that gives a text back, used; tokens stay given out -/
theorem Con.useT {w : World} {mean : ExcName → Option Value} {mg mb : Str → Option Value} {f : Addr} {k : Nat} {news : Led} {vs : List Value} {x : Str}
    (C : Con w mean mg mb f k news vs (fun v tl => (∃ t', v = .str x t') ∧ tl = []))
    {dp un : Nat} {gd : Option (List Code)} {cn : Str} {cs : Scope} {a : Addr} {ccd : Value} {cl : List (Str × Addr)} {outer : List Env} {A₀ : Around} {base h₀ : Heap} {L : Addr} {m : Str → Option Value} {s : Shared} {Q E : Value → Shared → Prop}
    (B : Below A₀ base outer h₀) (F : Fr h₀ L s.heap m) (X : (hd.heap_39 w.params).In h₀) (N : News h₀ L s.heap news) (T : Top hd.view_39 LO mean mg mb h₀) (hk : cs.kind = .function) (hd : dp + k < recursionLimit) (hu : un + 8 * k < cLine) (hs : 1 ≤ s.toks)
    (ret : ∀ y t' h' tk', 1 ≤ tk' → y = x → Fr h₀ L h' m → News h₀ L h' news → Q (.str y t') { s with heap := h', toks := tk' }) :
    wpAny (model PySem.Challenge.rw_np0133_01.row.prog w) (ktrTop dp un gd cn cs L a ccd cl outer) (call (.ref f) vs) Q E s := by
  refine wpAny_with_toks (n := 1) hs (C.useS B F X N T hk hd hu ?_)
  intro y t' h' tk' e F' N' ht
  exact ret y t' h' tk' ht e F' N'
end Mine
theorem Mine.wWw0 : True := by
  k_with "execs cons" => (k_here; k_dflt ((with_reducible refine wpAny_execs_cons ?_); try dsimp only))
  k_with "execs nil" => (k_here; k_dflt ((with_reducible refine wpAny_execs_nil ?_); try dsimp only))
  k_with "toks" => ((try dsimp only); first | omega | (simp only [List.length_cons, List.length_nil]; omega) | exact Nat.le_add_left _ _)
  k_with "call ref" => (
  k_here
  (k_dflt ((show wpAny _ _ (call (Value.ref 193) [Value.str _ _, Value.bool _]) _ _ _); refine' Mine.Con.useT (Mine.con_law_mode _ _ _ ?hc) ?k1 ?k2 ?k3 ?k4 ?k5 ?kK ?kd ?ku ?ks ?_))
  (try (case hc => first | assumption | omega))
  (case k1 => k_asm); (case k2 => k_asm); (case k3 => k_asm); (case k4 => k_asm); (case k5 => k_asm); (case kK => first | exact rfl | assumption); (case kd => ktr_room); (case ku => ktr_units); (case ks => walk_at "toks")
  (intro x9 t9 h9 tk9 ht9 e9 F9 N9; (try dsimp only); (try k_fold)))
  k_with "binaryOp Add str str" => (
  k_here
  (k_dflt (first
    | ((with_reducible show wpAny _ _ (binaryOp Operator.Add (Value.str (Str.ofString _) _) (Value.str (Str.ofString _) _)) _ _ _); first
      | (with_reducible refine Mine.add_none (by decide +kernel) ?_)
      | (with_reducible refine Mine.add_tok (by decide +kernel) (by decide +kernel) (by decide +kernel) ?_))
    | ((with_reducible refine Mine.add_bs ?ka ?kb ?_); (case ka => first | exact Nat.le_refl 1 | exact And.left (by assumption) | exact hz'); (case kb => first | exact Nat.le_of_ble_eq_true rfl | exact Nat.le_trans (And.right (by assumption)) (by decide) | exact Mine.p2_len hc hP')))))
  k_with "replace by" => (
  (k_dflt (refine' Mine.repl2_at ?k1 ?k2 ?k3 ?k4 ?k5 ?k6 ?_))
  (case k1 => walk_at "toks")
  (case k2 => walk_at "toks")
  (case k3 => exact Mine.bs_ne (by first | exact Nat.le_refl 1 | exact And.left (by assumption)))
  (case k4 => exact hl')
  (case k5 => exact Nat.le_refl 1)
  (case k6 => exact Mine.bs_len (by first | exact Nat.le_refl 1 | exact And.right (by assumption)))
  (intro x8 t8 k8 e8; (try dsimp only); (try k_fold)))
  k_with "exec For Tuple Call" => (k_here; k_dflt (refine Mine.for_fl ?_))
  k_with "exec For" => (k_here; k_dflt (refine Mine.for_fl ?_))
  k_with "FlSrc" => (
  k_here
  (k_dflt (
    (first
      | ((with_reducible show Mine.FlSrc _ _ _ _ _ _ _ _ (Value.str (_ ++ _) _) _); refine' Mine.fl_str (v := Str.ofString "text") (Mine.P1 c.cps.toList (Mine.signsOf true)) ?k1 ?k2 ?k3 ?k4 ?k5 ?k6 ?k7 ?k8 ?k9 ?_ ?_)
      | (refine' Mine.fl_str (v := Str.ofString "text") (Mine.P1 c.cps.toList (Mine.signsOf false)) ?k1 ?k2 ?k3 ?k4 ?k5 ?k6 ?k7 ?k8 ?k9 ?_ ?_))
    (case k1 => exact rfl)
    (case k2 => decide +kernel)
    (case k3 => exact rfl)
    (case k4 => exact rfl)
    (case k5 => walk_at "toks")
    (case k6 => k_asm)
    (case k7 => k_asm)
    (case k8 => exact rfl)
    (case k9 => exact h0 _)
    (case' _ => intro i' y' ty' c' u' h' tk' I' oI' E' hi' hP' hu1' hu2' F' N'; have hl' := Mine.p1_len hc hP')
    rotate_left
    (case' _ => intro h' tk' y' ty' ua' htk' hP' F' N')
    (all_goals (try dsimp only))
    (all_goals (try k_fold)))))
  trivial
namespace Mine
theorem p12_true {l : List Nat} {y : Str} (h : P1 l (signsOf true) (Str.ofString "\\][$; \"" ++ Str.ofString "{}").cps.size y) : P2 (l.flatMap (escUp (signsOf true))) 0 y := by
  have e : (Str.ofString "\\][$; \"" ++ Str.ofString "{}").cps.size = 9 := by decide +kernel
  rw [e] at h
  exact h
theorem p12_false {l : List Nat} {y : Str} (h : P1 l (signsOf false) (Str.ofString "\\][$; \"").cps.size y) : P2 (l.flatMap (escUp (signsOf false))) 0 y := by
  have e : (Str.ofString "\\][$; \"").cps.size = 7 := by decide +kernel
  rw [e] at h
  exact h
end Mine
theorem Mine.wWw1 : True := by
  k_with "call type:enumerate" => (
  k_here
  (k_dflt (
    (first
      | (have hQ' := Mine.p12_true (by assumption); refine' Mine.fl_enum (v := Str.ofString "text") (Mine.P2 (List.flatMap (Mine.escUp (Mine.signsOf true)) c.cps.toList)) ?k1 ?k2 ?k3 ?k4 ?k5 ?k6 ?k7 ?k8 ?k9 ?k10 ?_ ?_)
      | (have hQ' := Mine.p12_false (by assumption); refine' Mine.fl_enum (v := Str.ofString "text") (Mine.P2 (List.flatMap (Mine.escUp (Mine.signsOf false)) c.cps.toList)) ?k1 ?k2 ?k3 ?k4 ?k5 ?k6 ?k7 ?k8 ?k9 ?k10 ?_ ?_))
    (case k1 => exact rfl)
    (case k2 => decide +kernel)
    (case k3 => exact rfl)
    (case k4 => exact rfl)
    (case k5 => exact rfl)
    (case k6 => walk_at "toks")
    (case k7 => k_asm)
    (case k8 => k_asm)
    (case k9 => exact rfl)
    (case k10 => exact hQ')
    (clear hQ')
    (case' _ => intro i' y' ty' c' u' t' h' tk' e' oe' it' oi' E' hi' hP' hu1' hu2' F' N'; have hi5' := Mine.idx5 hi'; have hl' := Mine.p2_len hc hP')
    rotate_left
    (case' _ => intro h' tk' y' ty' ua' ub' htk' hP' F' N'; have hz' := Mine.p2_pos hc e9 (by assumption) hP')
    (all_goals (try dsimp only))
    (all_goals (try k_fold)))))
  k_with "FlEnd" => (k_dflt (
  (refine Mine.fl_end (by k_asm) (by k_asm) (Mine.sub_all (by intro p hp; repeat (first | exact hp | refine List.mem_cons_of_mem _ ?_))) ⟨⟨_, _, if_pos rfl, ?_⟩, ?_⟩)
  rotate_left
  (case' _ =>
    intro nm hn1 hn2
    have hn3 := hn2 (Str.ofString "c") (by simp)
    first
      | (simp only [hn1, hn3, if_false]; done)
      | (have hn4 := hn2 (Str.ofString "place") (by simp); simp only [hn1, hn3, hn4, if_false]; done))))
  trivial
namespace Mine
theorem good_at (deep : Bool) : ∀ (i n : Nat), (signsOf deep)[i]? = some n → n ∉ (signsOf deep).take i ∧ (n ≠ 92 ∨ (signsOf deep).take i = []) := by
  have key : ∀ (deep : Bool) (i : Fin 9), ((signsOf deep)[i.val]?.all fun n => decide (n ∉ (signsOf deep).take i.val) && (decide (n ≠ 92) || decide ((signsOf deep).take i.val = []))) = true := by decide +kernel
  intro i n h
  have hi : i < 9 := by
    rcases Nat.lt_or_ge i 9 with h1 | h1
    · exact h1
    · rw [List.getElem?_eq_none (by cases deep <;> simpa [signsOf] using (by omega))] at h; cases h
  have k := key deep ⟨i, hi⟩
  rw [h] at k
  simp only [Option.all_some, Bool.and_eq_true, Bool.or_eq_true, decide_eq_true_eq] at k
  exact k
theorem p1_step {l : List Nat} {z y x : Str} {i c : Nat} {deep : Bool} (hz : z.cps.toList = signsOf deep) (hi : z.cps[i]? = some c) (h : P1 l (signsOf deep) i y) (e : x = S (replL (sg ⟨#[c]⟩) (sg (Str.ofString "\\" ++ ⟨#[c]⟩)) (sg y))) : P1 l (signsOf deep) (i + 1) x := by
  have hi' : (signsOf deep)[i]? = some c := by rw [← hz]; exact cps_get hi
  obtain ⟨g1, g2⟩ := good_at deep i c hi'
  have e1 : sg (Str.ofString "\\" ++ ⟨#[c]⟩) = [92, c] := by
    rw [sg_app, show sg (Str.ofString "\\") = [92] from by decide +kernel]
    rfl
  have e2 : sg (⟨#[c]⟩ : Str) = [c] := rfl
  rw [e1, e2, h, sg_S, up_step _ c g1 g2] at e
  show x = S (l.flatMap (escUp ((signsOf deep).take (i + 1))))
  rw [e, List.take_add_one, hi']
  rfl
theorem sg_true : (Str.ofString "\\][$; \"" ++ Str.ofString "{}").cps.toList = signsOf true := by decide +kernel
theorem sg_false : (Str.ofString "\\][$; \"").cps.toList = signsOf false := by decide +kernel
theorem p2_step {L : List Nat} {y x : Str} {i c : Nat} (hi : (Str.ofString "\x0c\n\x0d\t\x0b").cps[i]? = some c) (h : P2 L i y) (e : x = S (replL (sg ⟨#[c]⟩) (sg (Str.ofString "\\" ++ Txt.item (Str.ofString "fnrtv") (i : Int))) (sg y))) : P2 L (i + 1) x := by
  have e2 : sg (⟨#[c]⟩ : Str) = [c] := rfl
  have hz : (Str.ofString "\x0c\n\x0d\t\x0b").cps = #[12, 10, 13, 9, 11] := by decide +kernel
  have h5 := (idx5 hi).2
  rw [hz] at hi
  have key : ∀ (k d : Nat), c = k → sg (Str.ofString "\\" ++ Txt.item (Str.ofString "fnrtv") (i : Int)) = [92, d] → ctlUp L (i + 1) = ctlR k d (ctlUp L i) → P2 L (i + 1) x := by
    intro k d hk hd hc
    show x = S (ctlUp L (i + 1))
    rw [e, hd, e2, h, sg_S, hc, hk, ctlR_is]
  match i, hi, h5 with
  | 0, hi, _ => exact key 12 102 (by simpa using hi.symm) (by decide +kernel) rfl
  | 1, hi, _ => exact key 10 110 (by simpa using hi.symm) (by decide +kernel) rfl
  | 2, hi, _ => exact key 13 114 (by simpa using hi.symm) (by decide +kernel) rfl
  | 3, hi, _ => exact key 9 116 (by simpa using hi.symm) (by decide +kernel) rfl
  | 4, hi, _ => exact key 11 118 (by simpa using hi.symm) (by decide +kernel) rfl
  | i + 5, hi, h5 => omega
section
variable {c x y : Str} {b deep : Bool}
theorem w_brace (e : x = modeOf c.cps.toList b) (h : (x == Str.ofString "brace") = true) : Str.ofString "{" ++ c ++ Str.ofString "}" = S (quoteL c.cps.toList b) := by
  have h1 := beq_iff_eq.mp h
  rw [e] at h1
  unfold quoteL
  rw [if_neg (by rw [h1]; decide +kernel), if_pos h1]
  have a1 : Str.ofString "{" = S [123] := by decide +kernel
  have a2 : Str.ofString "}" = S [125] := by decide +kernel
  rw [a1, a2, ← S_sg c, S_append, S_append]
  rfl
theorem w_none (e : x = modeOf c.cps.toList b) (h : (x == Str.ofString "none") = true) : c = S (quoteL c.cps.toList b) := by
  have h1 := beq_iff_eq.mp h
  rw [e] at h1
  unfold quoteL
  rw [if_pos h1]
  exact (S_sg c).symm
theorem w_esc (e : x = modeOf c.cps.toList b) (h1 : (x == Str.ofString "brace") = false) (h2 : (x == Str.ofString "none") = false) (h3 : (x == Str.ofString "escape") = deep) :
    quoteL c.cps.toList b = (if b = true ∧ c.cps.toList.head? = some 35 then [92] else []) ++ c.cps.toList.flatMap (fun n => escL n deep) := by
  unfold quoteL
  rw [← e, if_neg (by simpa using h2), if_neg (by simpa using h1), h3]
theorem esc_head (n : Nat) (d : Bool) : (escL n d).head? = some 35 ↔ n = 35 := by
  by_cases h : n = 35
  · subst h; cases d <;> decide
  · refine ⟨fun q => ?_, fun q => absurd q h⟩
    unfold escL at q
    repeat' split at q
    all_goals first
      | (exact absurd q (by decide))
      | (simp at q; done)
      | (simp at q; exact q)
theorem w_item (e : x = modeOf c.cps.toList b) (h1 : (x == Str.ofString "brace") = false) (hy : y = S (c.cps.toList.flatMap fun n => escL n deep)) (hp : 1 ≤ y.length) : (Txt.item y 0 == Str.ofString "#") = true ↔ c.cps.toList.head? = some 35 := by
  obtain ⟨k, r', e1, e2⟩ := m_head hp
  rw [e2, is_hash_iff]
  have e3 : y.cps.toList = c.cps.toList.flatMap fun n => escL n deep := by rw [hy]; exact sg_S _
  cases hl : c.cps.toList with
  | nil =>
    rw [hl] at e
    have : x = Str.ofString "brace" := e
    rw [this] at h1
    simp at h1
  | cons n r =>
    rw [hl, List.flatMap_cons, e1] at e3
    have h4 := @esc_pos n deep
    have h5 : (escL n deep).head? = some k := by
      cases h6 : escL n deep with
      | nil => rw [h6] at h4; simp at h4
      | cons q t => rw [h6] at e3; rw [List.cons_append] at e3; rw [(List.cons.inj e3).1]; rfl
    rw [List.head?_cons]
    constructor
    · intro q; rw [q] at h5; rw [(esc_head n deep).mp h5]
    · intro q
      have := (esc_head n deep).mpr (Option.some.inj q)
      rw [h5] at this
      exact Option.some.inj this
theorem w_end1 (e : x = modeOf c.cps.toList b) (h1 : (x == Str.ofString "brace") = false) (h2 : (x == Str.ofString "none") = false) (h3 : (x == Str.ofString "escape") = deep) (hP : P2 (c.cps.toList.flatMap (escUp (signsOf deep))) (Str.ofString "\x0c\n\x0d\t\x0b").cps.size y) (hp : 1 ≤ y.length)
    (hb : b = true) (hi : (Txt.item y 0 == Str.ofString "#") = true) : Str.ofString "\\" ++ y = S (quoteL c.cps.toList b) := by
  have hy := p2_all hP
  rw [w_esc e h1 h2 h3, if_pos ⟨hb, (w_item e h1 hy hp).mp hi⟩, ← S_append, ← hy]
  rw [show S [92] = Str.ofString "\\" from by decide +kernel]
theorem w_end2 (e : x = modeOf c.cps.toList b) (h1 : (x == Str.ofString "brace") = false) (h2 : (x == Str.ofString "none") = false) (h3 : (x == Str.ofString "escape") = deep) (hP : P2 (c.cps.toList.flatMap (escUp (signsOf deep))) (Str.ofString "\x0c\n\x0d\t\x0b").cps.size y) (hp : 1 ≤ y.length)
    (hi : ¬ (b = true ∧ (Txt.item y 0 == Str.ofString "#") = true)) : y = S (quoteL c.cps.toList b) := by
  have hy := p2_all hP
  rw [w_esc e h1 h2 h3, if_neg (fun q => hi ⟨q.1, (w_item e h1 hy hp).mpr q.2⟩), List.nil_append]
  exact hy
end
theorem con_law_written {w mean mg mb news} (c : Str) (t : Tok) (b : Bool) (hc : c.length ≤ 4096) : Con w mean mg mb 200 14 news [.str c t, .bool b] (fun v tl => (∃ t', v = .str (S (quoteL c.cps.toList b)) t') ∧ tl = []) := by
  have h0 : ∀ zs, P1 c.cps.toList zs 0 c := fun zs => by
    show c = S (c.cps.toList.flatMap (escUp []))
    rw [up_nil]; exact (S_sg c).symm
  walk_at "con in0"
  k_dflt (refine' code_def (binds := [(Str.ofString "text", .str c t), (Str.ofString "is_hash", .bool b)]) ?k1 ?k2 ?k3 ?k4 ?k5 ?kA ?kF ?kK ?k6 ?k7 ?k8 ?k9 ?kB ?_ ?c2 ?c3 ?c4 ?c5; walk_at "con args")
  walk_at "steps"
  all_goals first
    | exact p1_step sg_true hi' hP' e8
    | exact p1_step sg_false hi' hP' e8
    | exact p2_step hi' hP' e8
    | walk_at "con end"
  all_goals first
    | exact tx_end (w_brace e9 (by assumption))
    | exact tx_end (w_none e9 (by assumption))
    | exact tx_end (w_end1 e9 (by assumption) (by assumption) (by assumption) hP' hz' (by assumption) (by assumption))
    | exact tx_end (w_end2 e9 (by assumption) (by assumption) (by assumption) hP' hz' (by simp_all))
end Mine
end PartWw
section PartLp
theorem Mine.wLp : True := by
  k_with_none
  k_with "con in" => (
  w_top off
  unfold Mine.Con
  k_fill
  intro dp un gd cn cs a ccd cl outer A₀ base h₀ L m s Q E B F X N T hk hd hu hret
  refine wpAny_call ?_
  k_dflt cell_enter)
  k_with "con in0" => (
  w_top off
  unfold Mine.Con
  k_fill
  intro dp un gd cn cs a ccd cl outer A₀ base h₀ L m s Q E B F X N T hk hd hu hret
  refine wpAny_call ?_)
  k_with "con args" => (
  (case kA => exact rfl); (case kF => exact rfl); (case kK => assumption); (case k1 => k_asm); (case k2 => k_asm); (case k3 => k_asm); (case k4 => k_asm); (case k5 => k_asm); (case k6 => k_is); (case k7 => k_is); (case k8 => ktr_room); (case k9 => first | exact BindsTo.of_eq rfl | exact binds_K (by k_in) rfl (by k_is) rfl rfl rfl); (case c5 => decide); (case kB => exact locs rfl); (case c2 => exact rfl); (case c3 => exact rfl); (case c4 => exact rfl); k_whole; intro g' L' h' FG' F' N' B' X' T'; (try dsimp only); (try k_fold))
  k_with "con end" => (
  refine Mine.end0 hret (by k_asm) (by k_asm) (by first | exact Mine.sub_all (by intro p hp; repeat (first | exact hp | refine List.mem_cons_of_mem _ ?_)) | exact Mine.sub_all (by kst_inAny)) ?_)
  k_with "con use0" => (
  (case k1 => k_asm); (case k2 => k_asm); (case k3 => k_asm); (case k4 => k_asm); (case k5 => k_asm); (case kK => first | exact rfl | assumption); (case kd => ktr_room); (case ku => ktr_units))
  k_with "call ref" => (
  k_here
  (show wpAny _ _ (call (Value.ref 52) [Value.str _ _]) _ _ _)
  (k_dflt (refine' Mine.Con.use0 (Mine.con_is_blank _ _) ?k1 ?k2 ?k3 ?k4 ?k5 ?kK ?kd ?ku ?_; (case k1 => k_asm); (case k2 => k_asm); (case k3 => k_asm); (case k4 => k_asm); (case k5 => k_asm); (case kK => first | exact rfl | assumption); (case kd => ktr_room); (case ku => ktr_units)))
  (intro r9 h9 tk9 F9 N9 hr9; subst hr9; (try dsimp only); (try k_fold)))
  k_with "step" => (first
  | (k_unfold; (try dsimp only))
  | (refine Mine.ap2 ?_; k_unfold; (try dsimp only))
  | (k_end; kc_close)
  | ((fail_if_success (with_reducible show wpAny _ _ (exec (Stmt.While _ _ _ _) _) _ _ _)); first | walk1 | (dsimp only; walk1))
  | (leave1; (try dsimp only))
  | fail "no step")
  k_with "steps" => repeat' walk_at "step"
  k_with "eval BoolOp" => (
  k_here
  (k_dflt (first
   | (refine' Mine.or_names ?k1 ?k2 ?k3 ?_; (case k1 => k_asm); (case k2 => rfl); (case k3 => rfl))
   | (refine' Mine.and_name_eq ?k1 ?k2 ?k3 ?_; (case k1 => k_asm); (case k2 => rfl); (case k3 => rfl))))
  k_whole)
  k_with "drop" => (
  (rename News _ _ _ _ => nX)
  (have nY := cb_drop (news := news) nX (by intro p hp; repeat (first | exact hp | refine List.mem_cons_of_mem _ ?_)))
  (clear nX))
  k_with "KswEnd" => (
  (rename News _ _ _ _ => nE')
  (try simp only [List.push_toArray] at nE')
  (first
    | (refine' ksw_end ⟨_,_,_,_,_,_,_⟩ ?e1 nE' ?e2 ?e3 ?e4 ?e5 ?e6 ?e7)
    | (refine' ksw_end ⟨_,_,_,_⟩ ?e1 nE' ?e2 ?e3 ?e4 ?e5 ?e6 ?e7)
    | (refine' ksw_end ⟨_,_⟩ ?e1 nE' ?e2 ?e3 ?e4 ?e5 ?e6 ?e7)
    | (refine' ksw_end ⟨_,_,_,_,_⟩ ?e1 nE' ?e2 ?e3 ?e4 ?e5 ?e6 ?e7))
  (case e1 => assumption)
  (case e2 => first | exact Mine.sub_all (by intro p hp; repeat (first | exact hp | refine List.mem_cons_of_mem _ ?_)) | kst_in)
  (case e3 => kst_facts)
  (case e4 => kst_all)
  (case e5 => ksw_same)
  (case e6 => kst_p)
  (case e7 => ksw_less))
  k_with "exec If" => refine wpAny_If ?_
  k_with "call ref" => (
  k_here
  (k_dflt (first
   | ((show wpAny _ _ (call (Value.ref 129) [Value.str _ _, Value.bool _]) _ _ _); refine' Mine.Con.useS (Mine.con_mode_of _ _ _ ?hc) ?k1 ?k2 ?k3 ?k4 ?k5 ?kK ?kd ?ku ?_)
   | ((show wpAny _ _ (call (Value.ref 136) [Value.str _ _, Value.bool _]) _ _ _); refine' Mine.Con.useS (Mine.con_escaped _ _ _) ?k1 ?k2 ?k3 ?k4 ?k5 ?kK ?kd ?ku ?_)))
  (try (case hc => first | assumption | omega))
  (case k1 => k_asm); (case k2 => k_asm); (case k3 => k_asm); (case k4 => k_asm); (case k5 => k_asm); (case kK => first | exact rfl | assumption); (case kd => ktr_room); (case ku => ktr_units)
  (intro x9 t9 h9 tk9 e9 F9 N9; (try dsimp only); (try k_fold)))
  k_with "call builtin:str.join" => (
  k_here
  (k_dflt (first
   | ((with_reducible show wpAny _ _ (call (Value.builtin "str.join") [Value.str (Str.ofString "") _, Value.ref _]) _ _ _); refine' Mine.join0_at ?k1 ?k2 ?k3 ?k4 ?k5 ?_)
   | ((with_reducible show wpAny _ _ (call (Value.builtin "str.join") [Value.str (Str.ofString " ") _, Value.ref _]) _ _ _); refine' Mine.joinB_at ?k1 ?k2 ?k3 ?k4 ?k5 ?_)))
  (case k1 => k_asm); (case k2 => k_memK); (case k3 => k_asm); (case k4 => first | assumption | exact rfl); (case k5 => walk_at "join size")
  (intro t9 k9; (try dsimp only); (try k_fold)))
  k_with "call ref" => (
  k_here
  (with_reducible show wpAny _ _ (call (Value.ref 129) [Value.str (Str.ofString "") _, Value.bool _]) _ _ _)
  (k_dflt (refine' Mine.Con.use0 (Mine.con_mode_of0 _ _) ?k1 ?k2 ?k3 ?k4 ?k5 ?kK ?kd ?ku ?_))
  (case k1 => k_asm); (case k2 => k_asm); (case k3 => k_asm); (case k4 => k_asm); (case k5 => k_asm); (case kK => first | exact rfl | assumption); (case kd => ktr_room); (case ku => ktr_units)
  (intro r9 h9 tk9 F9 N9 hr9; (obtain ⟨t9, hr9⟩ := hr9); subst hr9; (try dsimp only); (try k_fold)))
  k_with "con argsC" => (
  (case kA => exact rfl); (case kF => exact rfl); (case kK => assumption); (case k1 => k_asm); (case k2 => k_asm); (case k3 => k_asm); (case k4 => k_asm); (case k5 => k_asm); (case k6 => k_is); (case k7 => k_is); (case k8 => ktr_room); (case k9 => first | exact BindsTo.of_eq rfl | exact binds_K (by k_in) rfl (by k_is) rfl rfl rfl); (case kB => exact rfl); (case kD => decide +kernel); (case c2 => exact rfl); (case c3 => exact rfl); (case c4 => exact rfl); k_whole; intro g' L' h' tk' cells' FG' F' N' Y' B' X' T' l1; (try k_lt l1); k_cells Y'; (try simp only [List.cons_append, List.nil_append] at N'); (try dsimp only); (try k_fold))
  k_with "call ref" => (
  k_here
  (k_dflt (first
   | ((show wpAny _ _ (call (Value.ref 158) [Value.str _ _]) _ _ _); refine' Mine.Con.useS (Mine.con_trim _ _ ?hc) ?k1 ?k2 ?k3 ?k4 ?k5 ?kK ?kd ?ku ?_)
   | ((show wpAny _ _ (call (Value.ref 205) [Value.str _ _]) _ _ _); refine' Mine.Con.useS (Mine.con_law_trimmed _ _ ?hc) ?k1 ?k2 ?k3 ?k4 ?k5 ?kK ?kd ?ku ?_)
   | ((show wpAny _ _ (call (Value.ref 144) [Value.str _ _, Value.bool _]) _ _ _); refine' Mine.Con.useS (Mine.con_quote _ _ _ ?hc) ?k1 ?k2 ?k3 ?k4 ?k5 ?kK ?kd ?ku ?_)
   | ((show wpAny _ _ (call (Value.ref 144) [Value.str _ _]) _ _ _); refine' Mine.Con.useS (Mine.con_quoteD _ _ ?hc) ?k1 ?k2 ?k3 ?k4 ?k5 ?kK ?kd ?ku ?_)
   | ((show wpAny _ _ (call (Value.ref 193) [Value.str _ _, Value.bool _]) _ _ _); refine' Mine.Con.useS (Mine.con_law_mode _ _ _ ?hc) ?k1 ?k2 ?k3 ?k4 ?k5 ?kK ?kd ?ku ?_)))
  (try (case hc => first | assumption | omega))
  (case k1 => k_asm); (case k2 => k_asm); (case k3 => k_asm); (case k4 => k_asm); (case k5 => k_asm); (case kK => first | exact rfl | assumption); (case kd => ktr_room); (case ku => ktr_units)
  (intro x9 t9 h9 tk9 e9 F9 N9; (try (first | (have z9 := Mine.trim_fact e9) | (have z9 := Mine.quote_fact e9))); (try dsimp only); (try k_fold)))
  k_with "for texts" => (k_here; (rename Fr _ _ _ _ => lF'); (with_unfolding_all refine' For_invVF lF' ?k1 ?k2 ?_; (case k1 => exact rfl); (case k2 => exact rfl); k_whole))
  k_with "call ref" => (
  k_here
  (k_dflt (first
   | ((show wpAny _ _ (call (Value.ref 165) [Value.str _ _]) _ _ _); refine' Mine.Con.useS (Mine.con_concat_part _ _ ?hc) ?k1 ?k2 ?k3 ?k4 ?k5 ?kK ?kd ?ku ?_)
   | ((show wpAny _ _ (call (Value.ref 212) [Value.str _ _]) _ _ _); refine' Mine.Con.useS (Mine.con_law_part _ _ ?hc) ?k1 ?k2 ?k3 ?k4 ?k5 ?kK ?kd ?ku ?_)
   | ((show wpAny _ _ (call (Value.ref 200) [Value.str _ _, Value.bool _]) _ _ _); refine' Mine.Con.useS (Mine.con_law_written _ _ _ ?hc) ?k1 ?k2 ?k3 ?k4 ?k5 ?kK ?kd ?ku ?_)))
  (try (case hc => first | assumption | omega))
  (case k1 => k_asm); (case k2 => k_asm); (case k3 => k_asm); (case k4 => k_asm); (case k5 => k_asm); (case kK => first | exact rfl | assumption); (case kd => ktr_room); (case ku => ktr_units)
  (intro x9 t9 h9 tk9 e9 F9 N9; (try (first | (have z9 := Mine.part_fact e9) | (have z9 := Mine.quote_fact e9))); (try dsimp only); (try k_fold)))
  k_with "call ref" => (
  k_here
  (k_dflt (first
   | ((show wpAny _ _ (call (Value.ref 151) [Value.ref _]) _ _ _); refine' Mine.Con.useS (Mine.con_join_list ?hT ?hi ?hm ?hB ?hn) ?k1 ?k2 ?k3 ?k4 ?k5 ?kK ?kd ?ku ?_)
   | ((show wpAny _ _ (call (Value.ref 172) [Value.ref _]) _ _ _); refine' Mine.Con.useS (Mine.con_concat ?hT ?hi ?hm ?hB ?hn) ?k1 ?k2 ?k3 ?k4 ?k5 ?kK ?kd ?ku ?_)
   | ((show wpAny _ _ (call (Value.ref 179) [Value.ref _]) _ _ _); refine' Mine.Con.useS (Mine.con_code_text ?hT ?hi ?hm ?hB ?hn) ?k1 ?k2 ?k3 ?k4 ?k5 ?kK ?kd ?ku ?_)))
  (case hT => first | assumption | exact ⟨_, .inl rfl⟩ | exact ⟨_, .inr rfl⟩)
  (case hi => assumption)
  (case hm => first | assumption | k_memK)
  (case hB => assumption)
  (case hn => first | assumption | omega)
  (case k1 => k_asm); (case k2 => k_asm); (case k3 => k_asm); (case k4 => k_asm); (case k5 => k_asm); (case kK => first | exact rfl | assumption); (case kd => ktr_room); (case ku => ktr_units)
  (intro x9 t9 h9 tk9 e9 F9 N9; (try dsimp only); (try k_fold)))
  k_with "binaryOp Add str str" => (
  k_here
  (with_reducible show wpAny _ _ (binaryOp Operator.Add (Value.str (Str.ofString _) _) (Value.str (Str.ofString _) _)) _ _ _)
  (refine' PyProof.Rows.SBL.add ?_ ?z)
  (case z => decide +kernel)
  (intro t9 k9 z9))
  k_with "call builtin:str.replace" => (
  k_here
  (with_reducible show wpAny _ _ (call (Value.builtin "str.replace") [Value.str _ _, Value.str _ _, Value.str _ _]) _ _ _)
  (walk_at "replace by"))
  k_with "con end1" => (
  refine Mine.end1 hret (by k_asm) (by k_asm) (by first | exact Mine.sub_all (by intro p hp; repeat (first | exact hp | refine List.mem_cons_of_mem _ ?_)) | exact Mine.sub_all (by kst_inAny)) (by k_memK)
    (by first | assumption | exact PySem.W.kst_ltOf (by first | exact And.right (by assumption) | exact And.right (And.right (by assumption)) | exact And.right (And.right (And.right (by assumption))) | exact And.right (And.right (And.right (And.right (by assumption)))))) ?_)
  trivial
namespace Mine
theorem con_law_part {w mean mg mb news} (c : Str) (t : Tok) (hc : c.length ≤ 4096) : Con w mean mg mb 212 14 news [.str c t] (fun v tl => (∃ t', v = .str (S (partL c.cps.toList)) t') ∧ tl = []) := by
  walk_at "con in0"
  k_dflt (refine' code_def (binds := [(Str.ofString "text", .str c t)]) ?k1 ?k2 ?k3 ?k4 ?k5 ?kA ?kF ?kK ?k6 ?k7 ?k8 ?k9 ?kB ?_ ?c2 ?c3 ?c4 ?c5; walk_at "con args")
  walk_at "steps"
  all_goals (first | (walk_at "con end"; with_reducible (first | exact pt_end (lp_no (by assumption) (by assumption)) | exact pt_end (lp_yes (by assumption) (by assumption)))) | (exfalso; with_reducible exact lp_raise (by assumption) (by assumption) (by assumption)))
end Mine
end PartLp
section PartLx
theorem Mine.wLx : True := by
  k_with_none
  k_with "con in" => (
  w_top off
  unfold Mine.Con
  k_fill
  intro dp un gd cn cs a ccd cl outer A₀ base h₀ L m s Q E B F X N T hk hd hu hret
  refine wpAny_call ?_
  k_dflt cell_enter)
  k_with "con in0" => (
  w_top off
  unfold Mine.Con
  k_fill
  intro dp un gd cn cs a ccd cl outer A₀ base h₀ L m s Q E B F X N T hk hd hu hret
  refine wpAny_call ?_)
  k_with "con args" => (
  (case kA => exact rfl); (case kF => exact rfl); (case kK => assumption); (case k1 => k_asm); (case k2 => k_asm); (case k3 => k_asm); (case k4 => k_asm); (case k5 => k_asm); (case k6 => k_is); (case k7 => k_is); (case k8 => ktr_room); (case k9 => first | exact BindsTo.of_eq rfl | exact binds_K (by k_in) rfl (by k_is) rfl rfl rfl); (case c5 => decide); (case kB => exact locs rfl); (case c2 => exact rfl); (case c3 => exact rfl); (case c4 => exact rfl); k_whole; intro g' L' h' FG' F' N' B' X' T'; (try dsimp only); (try k_fold))
  k_with "con end" => (
  refine Mine.end0 hret (by k_asm) (by k_asm) (by first | exact Mine.sub_all (by intro p hp; repeat (first | exact hp | refine List.mem_cons_of_mem _ ?_)) | exact Mine.sub_all (by kst_inAny)) ?_)
  k_with "con use0" => (
  (case k1 => k_asm); (case k2 => k_asm); (case k3 => k_asm); (case k4 => k_asm); (case k5 => k_asm); (case kK => first | exact rfl | assumption); (case kd => ktr_room); (case ku => ktr_units))
  k_with "call ref" => (
  k_here
  (show wpAny _ _ (call (Value.ref 52) [Value.str _ _]) _ _ _)
  (k_dflt (refine' Mine.Con.use0 (Mine.con_is_blank _ _) ?k1 ?k2 ?k3 ?k4 ?k5 ?kK ?kd ?ku ?_; (case k1 => k_asm); (case k2 => k_asm); (case k3 => k_asm); (case k4 => k_asm); (case k5 => k_asm); (case kK => first | exact rfl | assumption); (case kd => ktr_room); (case ku => ktr_units)))
  (intro r9 h9 tk9 F9 N9 hr9; subst hr9; (try dsimp only); (try k_fold)))
  k_with "step" => (first
  | (k_unfold; (try dsimp only))
  | (refine Mine.ap2 ?_; k_unfold; (try dsimp only))
  | (k_end; kc_close)
  | ((fail_if_success (with_reducible show wpAny _ _ (exec (Stmt.While _ _ _ _) _) _ _ _)); first | walk1 | (dsimp only; walk1))
  | (leave1; (try dsimp only))
  | fail "no step")
  k_with "steps" => repeat' walk_at "step"
  k_with "eval BoolOp" => (
  k_here
  (k_dflt (first
   | (refine' Mine.or_names ?k1 ?k2 ?k3 ?_; (case k1 => k_asm); (case k2 => rfl); (case k3 => rfl))
   | (refine' Mine.and_name_eq ?k1 ?k2 ?k3 ?_; (case k1 => k_asm); (case k2 => rfl); (case k3 => rfl))))
  k_whole)
  k_with "drop" => (
  (rename News _ _ _ _ => nX)
  (have nY := cb_drop (news := news) nX (by intro p hp; repeat (first | exact hp | refine List.mem_cons_of_mem _ ?_)))
  (clear nX))
  k_with "KswEnd" => (
  (rename News _ _ _ _ => nE')
  (try simp only [List.push_toArray] at nE')
  (first
    | (refine' ksw_end ⟨_,_,_,_,_,_,_⟩ ?e1 nE' ?e2 ?e3 ?e4 ?e5 ?e6 ?e7)
    | (refine' ksw_end ⟨_,_,_,_⟩ ?e1 nE' ?e2 ?e3 ?e4 ?e5 ?e6 ?e7)
    | (refine' ksw_end ⟨_,_⟩ ?e1 nE' ?e2 ?e3 ?e4 ?e5 ?e6 ?e7)
    | (refine' ksw_end ⟨_,_,_,_,_⟩ ?e1 nE' ?e2 ?e3 ?e4 ?e5 ?e6 ?e7))
  (case e1 => assumption)
  (case e2 => first | exact Mine.sub_all (by intro p hp; repeat (first | exact hp | refine List.mem_cons_of_mem _ ?_)) | kst_in)
  (case e3 => kst_facts)
  (case e4 => kst_all)
  (case e5 => ksw_same)
  (case e6 => kst_p)
  (case e7 => ksw_less))
  k_with "exec If" => refine wpAny_If ?_
  k_with "call ref" => (
  k_here
  (k_dflt (first
   | ((show wpAny _ _ (call (Value.ref 129) [Value.str _ _, Value.bool _]) _ _ _); refine' Mine.Con.useS (Mine.con_mode_of _ _ _ ?hc) ?k1 ?k2 ?k3 ?k4 ?k5 ?kK ?kd ?ku ?_)
   | ((show wpAny _ _ (call (Value.ref 136) [Value.str _ _, Value.bool _]) _ _ _); refine' Mine.Con.useS (Mine.con_escaped _ _ _) ?k1 ?k2 ?k3 ?k4 ?k5 ?kK ?kd ?ku ?_)))
  (try (case hc => first | assumption | omega))
  (case k1 => k_asm); (case k2 => k_asm); (case k3 => k_asm); (case k4 => k_asm); (case k5 => k_asm); (case kK => first | exact rfl | assumption); (case kd => ktr_room); (case ku => ktr_units)
  (intro x9 t9 h9 tk9 e9 F9 N9; (try dsimp only); (try k_fold)))
  k_with "call builtin:str.join" => (
  k_here
  (k_dflt (first
   | ((with_reducible show wpAny _ _ (call (Value.builtin "str.join") [Value.str (Str.ofString "") _, Value.ref _]) _ _ _); refine' Mine.join0_at ?k1 ?k2 ?k3 ?k4 ?k5 ?_)
   | ((with_reducible show wpAny _ _ (call (Value.builtin "str.join") [Value.str (Str.ofString " ") _, Value.ref _]) _ _ _); refine' Mine.joinB_at ?k1 ?k2 ?k3 ?k4 ?k5 ?_)))
  (case k1 => k_asm); (case k2 => k_memK); (case k3 => k_asm); (case k4 => first | assumption | exact rfl); (case k5 => walk_at "join size")
  (intro t9 k9; (try dsimp only); (try k_fold)))
  k_with "call ref" => (
  k_here
  (with_reducible show wpAny _ _ (call (Value.ref 129) [Value.str (Str.ofString "") _, Value.bool _]) _ _ _)
  (k_dflt (refine' Mine.Con.use0 (Mine.con_mode_of0 _ _) ?k1 ?k2 ?k3 ?k4 ?k5 ?kK ?kd ?ku ?_))
  (case k1 => k_asm); (case k2 => k_asm); (case k3 => k_asm); (case k4 => k_asm); (case k5 => k_asm); (case kK => first | exact rfl | assumption); (case kd => ktr_room); (case ku => ktr_units)
  (intro r9 h9 tk9 F9 N9 hr9; (obtain ⟨t9, hr9⟩ := hr9); subst hr9; (try dsimp only); (try k_fold)))
  k_with "con argsC" => (
  (case kA => exact rfl); (case kF => exact rfl); (case kK => assumption); (case k1 => k_asm); (case k2 => k_asm); (case k3 => k_asm); (case k4 => k_asm); (case k5 => k_asm); (case k6 => k_is); (case k7 => k_is); (case k8 => ktr_room); (case k9 => first | exact BindsTo.of_eq rfl | exact binds_K (by k_in) rfl (by k_is) rfl rfl rfl); (case kB => exact rfl); (case kD => decide +kernel); (case c2 => exact rfl); (case c3 => exact rfl); (case c4 => exact rfl); k_whole; intro g' L' h' tk' cells' FG' F' N' Y' B' X' T' l1; (try k_lt l1); k_cells Y'; (try simp only [List.cons_append, List.nil_append] at N'); (try dsimp only); (try k_fold))
  k_with "call ref" => (
  k_here
  (k_dflt (first
   | ((show wpAny _ _ (call (Value.ref 158) [Value.str _ _]) _ _ _); refine' Mine.Con.useS (Mine.con_trim _ _ ?hc) ?k1 ?k2 ?k3 ?k4 ?k5 ?kK ?kd ?ku ?_)
   | ((show wpAny _ _ (call (Value.ref 205) [Value.str _ _]) _ _ _); refine' Mine.Con.useS (Mine.con_law_trimmed _ _ ?hc) ?k1 ?k2 ?k3 ?k4 ?k5 ?kK ?kd ?ku ?_)
   | ((show wpAny _ _ (call (Value.ref 144) [Value.str _ _, Value.bool _]) _ _ _); refine' Mine.Con.useS (Mine.con_quote _ _ _ ?hc) ?k1 ?k2 ?k3 ?k4 ?k5 ?kK ?kd ?ku ?_)
   | ((show wpAny _ _ (call (Value.ref 144) [Value.str _ _]) _ _ _); refine' Mine.Con.useS (Mine.con_quoteD _ _ ?hc) ?k1 ?k2 ?k3 ?k4 ?k5 ?kK ?kd ?ku ?_)
   | ((show wpAny _ _ (call (Value.ref 193) [Value.str _ _, Value.bool _]) _ _ _); refine' Mine.Con.useS (Mine.con_law_mode _ _ _ ?hc) ?k1 ?k2 ?k3 ?k4 ?k5 ?kK ?kd ?ku ?_)))
  (try (case hc => first | assumption | omega))
  (case k1 => k_asm); (case k2 => k_asm); (case k3 => k_asm); (case k4 => k_asm); (case k5 => k_asm); (case kK => first | exact rfl | assumption); (case kd => ktr_room); (case ku => ktr_units)
  (intro x9 t9 h9 tk9 e9 F9 N9; (try (first | (have z9 := Mine.trim_fact e9) | (have z9 := Mine.quote_fact e9))); (try dsimp only); (try k_fold)))
  k_with "for texts" => (k_here; (rename Fr _ _ _ _ => lF'); (with_unfolding_all refine' For_invVF lF' ?k1 ?k2 ?_; (case k1 => exact rfl); (case k2 => exact rfl); k_whole))
  k_with "call ref" => (
  k_here
  (k_dflt (first
   | ((show wpAny _ _ (call (Value.ref 165) [Value.str _ _]) _ _ _); refine' Mine.Con.useS (Mine.con_concat_part _ _ ?hc) ?k1 ?k2 ?k3 ?k4 ?k5 ?kK ?kd ?ku ?_)
   | ((show wpAny _ _ (call (Value.ref 212) [Value.str _ _]) _ _ _); refine' Mine.Con.useS (Mine.con_law_part _ _ ?hc) ?k1 ?k2 ?k3 ?k4 ?k5 ?kK ?kd ?ku ?_)
   | ((show wpAny _ _ (call (Value.ref 200) [Value.str _ _, Value.bool _]) _ _ _); refine' Mine.Con.useS (Mine.con_law_written _ _ _ ?hc) ?k1 ?k2 ?k3 ?k4 ?k5 ?kK ?kd ?ku ?_)))
  (try (case hc => first | assumption | omega))
  (case k1 => k_asm); (case k2 => k_asm); (case k3 => k_asm); (case k4 => k_asm); (case k5 => k_asm); (case kK => first | exact rfl | assumption); (case kd => ktr_room); (case ku => ktr_units)
  (intro x9 t9 h9 tk9 e9 F9 N9; (try (first | (have z9 := Mine.part_fact e9) | (have z9 := Mine.quote_fact e9))); (try dsimp only); (try k_fold)))
  k_with "call ref" => (
  k_here
  (k_dflt (first
   | ((show wpAny _ _ (call (Value.ref 151) [Value.ref _]) _ _ _); refine' Mine.Con.useS (Mine.con_join_list ?hT ?hi ?hm ?hB ?hn) ?k1 ?k2 ?k3 ?k4 ?k5 ?kK ?kd ?ku ?_)
   | ((show wpAny _ _ (call (Value.ref 172) [Value.ref _]) _ _ _); refine' Mine.Con.useS (Mine.con_concat ?hT ?hi ?hm ?hB ?hn) ?k1 ?k2 ?k3 ?k4 ?k5 ?kK ?kd ?ku ?_)
   | ((show wpAny _ _ (call (Value.ref 179) [Value.ref _]) _ _ _); refine' Mine.Con.useS (Mine.con_code_text ?hT ?hi ?hm ?hB ?hn) ?k1 ?k2 ?k3 ?k4 ?k5 ?kK ?kd ?ku ?_)))
  (case hT => first | assumption | exact ⟨_, .inl rfl⟩ | exact ⟨_, .inr rfl⟩)
  (case hi => assumption)
  (case hm => first | assumption | k_memK)
  (case hB => assumption)
  (case hn => first | assumption | omega)
  (case k1 => k_asm); (case k2 => k_asm); (case k3 => k_asm); (case k4 => k_asm); (case k5 => k_asm); (case kK => first | exact rfl | assumption); (case kd => ktr_room); (case ku => ktr_units)
  (intro x9 t9 h9 tk9 e9 F9 N9; (try dsimp only); (try k_fold)))
  k_with "binaryOp Add str str" => (
  k_here
  (with_reducible show wpAny _ _ (binaryOp Operator.Add (Value.str (Str.ofString _) _) (Value.str (Str.ofString _) _)) _ _ _)
  (refine' PyProof.Rows.SBL.add ?_ ?z)
  (case z => decide +kernel)
  (intro t9 k9 z9))
  k_with "call builtin:str.replace" => (
  k_here
  (with_reducible show wpAny _ _ (call (Value.builtin "str.replace") [Value.str _ _, Value.str _ _, Value.str _ _]) _ _ _)
  (walk_at "replace by"))
  k_with "con end1" => (
  refine Mine.end1 hret (by k_asm) (by k_asm) (by first | exact Mine.sub_all (by intro p hp; repeat (first | exact hp | refine List.mem_cons_of_mem _ ?_)) | exact Mine.sub_all (by kst_inAny)) (by k_memK)
    (by first | assumption | exact PySem.W.kst_ltOf (by first | exact And.right (by assumption) | exact And.right (And.right (by assumption)) | exact And.right (And.right (And.right (by assumption))) | exact And.right (And.right (And.right (And.right (by assumption)))))) ?_)
  trivial
namespace Mine
theorem fd_pos {a b : Int} (h : 0 ≤ a) (hb : 0 ≤ b) : 0 ≤ a.fdiv b := by
  rw [Int.fdiv_eq_ediv_of_nonneg _ hb]; exact Int.ediv_nonneg h hb
def ones (l : List Str) : Prop := ∀ y ∈ l, y.length = 1
theorem ones_snoc {l : List Str} {y : Str} (h : ones l) (hy : y.length = 1) : ones (l ++ [y]) := by
  intro z hz
  rcases List.mem_append.mp hz with h1 | h1
  · exact h z h1
  · rw [List.mem_singleton.mp h1]; exact hy
theorem ones_one (k : Nat) : (⟨#[k]⟩ : Str).length = 1 := rfl
theorem ones_nil : ones [] := fun _ h => nomatch h
theorem ones_flat : ∀ {l : List Str}, ones l → (l.flatMap sg).length = l.length
  | [], _ => rfl
  | y :: r, h => by
    rw [List.flatMap_cons, List.length_append, sg_len, h y (List.mem_cons_self ..), ones_flat (fun z hz => h z (List.mem_cons_of_mem _ hz)), List.length_cons]
    omega
theorem lx_six {out : List Str} {m : Int} (h : ones out) (hl : out.length = (PySem.W.rangeKs 0 (m - 0).toNat).length) (hb : 0 ≤ m ∧ m ≤ 6) : (out.flatMap sg).length ≤ 6 := by
  rw [ones_flat h, hl, PySem.W.rangeKs_length]
  omega
theorem lx_sixR {out : List Str} {m : Int} (h : ones out) (hl : out.length = (PySem.W.rangeKs 0 (m - 0).toNat).length) (hb : 0 ≤ m ∧ m ≤ 6) : (out.reverse.flatMap sg).length ≤ 6 := by
  rw [ones_flat (fun y hy => h y (List.mem_reverse.mp hy)), List.length_reverse, hl, PySem.W.rangeKs_length]
  omega
theorem strs_rev {vs : List Value} {ss : List Str} (h : StrsAre vs ss) : StrsAre vs.reverse ss.reverse := by
  induction h with
  | nil => exact .nil
  | cons y t _ ih => rw [List.reverse_cons, List.reverse_cons]; exact ih.append' (.cons y t .nil)
section
variable {prog : Program} {w : World} {A : Around} {E : Value → Shared → Prop} {s : Shared} {h₀ : Heap} {L l : Addr} {m : Str → Option Value} {news : List (Addr × Obj)} {value slice : PySem.Expr} {vs : List Value} {ss : List Str} {vk : Value} {ops : List Value} {Q : Value → Shared → Prop}
theorem rev_strs (F : Fr h₀ L s.heap m) (N : News h₀ L s.heap news) (hl : s.heap.IsList l vs.toArray) (pk : IsPart vk (some (-1))) (hi : StrsAre vs ss)
    (h : ∀ D ws h', Fr h₀ L h' m → News h₀ L h' ((D, PySem.W.listOf (List.toArray ws) 0) :: news) → (∀ p ∈ news, p.1 < D) → StrsAre ws ss.reverse → Q (.ref D) { s with heap := h' })
    (hs : subscripted slice false (.ref l) (.ref s.heap.objs.size) = operate ops (getItem (.ref l) (.ref s.heap.objs.size))) (ht : ∀ r, letTemporaryGo value (.ref l) r = pure ()) (hz : vs.toArray.size ≤ sizeLine) :
    wpAny (model prog w) A (subscriptTail value slice (.ref l) (.ref s.heap.objs.size)) Q E { s with heap := s.heap.push { cls := .type "slice", data := .fields #[.none, .none, vk] } } :=
  PySem.W.krv_lit (its := vs.toArray) (zs := vs.reverse) F N hl pk rfl (fun D h' F' N' l1 => h D vs.reverse h' F' N' l1 (strs_rev hi)) hs ht hz
end
theorem Mine.wLx0 : True := by
  k_with "subscriptTail Name Slice ref ref" => (k_here; (with_reducible show wpAny _ _ (subscriptTail _ (PySem.Expr.Slice none none (some _) _) (Value.ref _) (Value.ref _)) _ _ _); k_dflt (refine' Mine.rev_strs ?F ?N ?l ?k ?i ?_ ?s ?t ?z; (case F => k_asm); (case N => k_asm); (case l => exact News.isList (by k_asm) (by k_memK)); (case k => exact IsPart.int _ _); (case i => assumption); (case s => with_unfolding_all rfl); (case t => kmk_pure); (case z => (rw [List.size_toArray, PySem.sizeLine_eq]; (try simp only [PySem.W.rangeKs_length] at *); omega))); intro D' ws' h' F' N' l1 hI')
  k_with "join size" => first | exact Nat.le_trans (lx_six (by assumption) (by assumption) (by assumption)) (by decide) | exact Nat.le_trans (lx_sixR (by assumption) (by assumption) (by assumption)) (by decide)
  k_with "kst_facts" => (with_reducible first | assumption | exact PyProof.Rows.StrsAre.nil | exact PyProof.Rows.StrsAre.cons _ _ .nil | exact PyProof.Rows.StrsAre.append' (by assumption) (.cons _ _ .nil))
  k_with "call type:range" => (k_here; (rename Fr _ _ _ _ => F'); (rename News _ _ _ _ => N'); (with_unfolding_all refine range1_rows F' N' ?_); intro _ _ _ _ _ _ _ _ _)
  trivial
theorem con_law_text {w mean mg mb news} (n : Int) (t : Tok) : Con w mean mg mb 188 6 news [.int n t] (fun v tl => (∃ x t', v = .str x t' ∧ x.length ≤ 6) ∧ tl = []) := by
  have hb : 0 ≤ (if n < 0 then -n else n).fmod 7 ∧ (if n < 0 then -n else n).fmod 7 ≤ 6 := by
    rw [Int.fmod_eq_emod_of_nonneg _ (by omega)]; omega
  have hq : 0 ≤ (if n < 0 then -n else n).fdiv 7 := by
    rw [Int.fdiv_eq_ediv_of_nonneg _ (by omega)]
    split <;> omega
  walk_at "con in0"
  k_dflt (refine' code_def (binds := [(Str.ofString "number", .int n t)]) ?k1 ?k2 ?k3 ?k4 ?k5 ?kA ?kF ?kK ?k6 ?k7 ?k8 ?k9 ?kB ?_ ?c2 ?c3 ?c4 ?c5; walk_at "con args")
  k_with "state" => (first
    | with_reducible exact ⟨fd_pos (fd_pos (by assumption) (by decide)) (by decide), by (simp only [List.length_append, List.length_cons, List.length_nil]; omega), ones_snoc (by assumption) (ones_one _)⟩
    | with_reducible exact ⟨fd_pos (by assumption) (by decide), by (simp only [List.length_append, List.length_cons, List.length_nil]; omega), ones_snoc (by assumption) (by assumption)⟩
    | exact ⟨hq, rfl, ones_nil⟩)
  k_with "pyIter ref" => k_state (fun pre (rest : Int) (out : List Str) => 0 ≤ rest ∧ out.length = pre.length ∧ ones out) "rest" "out$"
  walk_at "steps"
  all_goals (walk_at "con end")
  all_goals first
    | exact ⟨⟨_, _, rfl, by rw [S_len]; exact lx_six (by assumption) (by assumption) (by assumption)⟩, rfl⟩
    | exact ⟨⟨_, _, rfl, by rw [S_len]; exact lx_sixR (by assumption) (by assumption) (by assumption)⟩, rfl⟩
end Mine
end PartLx
section PartLi
theorem Mine.wLi : True := by
  k_with_none
  k_with "con in" => (
  w_top off
  unfold Mine.Con
  k_fill
  intro dp un gd cn cs a ccd cl outer A₀ base h₀ L m s Q E B F X N T hk hd hu hret
  refine wpAny_call ?_
  k_dflt cell_enter)
  k_with "con in0" => (
  w_top off
  unfold Mine.Con
  k_fill
  intro dp un gd cn cs a ccd cl outer A₀ base h₀ L m s Q E B F X N T hk hd hu hret
  refine wpAny_call ?_)
  k_with "con args" => (
  (case kA => exact rfl); (case kF => exact rfl); (case kK => assumption); (case k1 => k_asm); (case k2 => k_asm); (case k3 => k_asm); (case k4 => k_asm); (case k5 => k_asm); (case k6 => k_is); (case k7 => k_is); (case k8 => ktr_room); (case k9 => first | exact BindsTo.of_eq rfl | exact binds_K (by k_in) rfl (by k_is) rfl rfl rfl); (case c5 => decide); (case kB => exact locs rfl); (case c2 => exact rfl); (case c3 => exact rfl); (case c4 => exact rfl); k_whole; intro g' L' h' FG' F' N' B' X' T'; (try dsimp only); (try k_fold))
  k_with "con end" => (
  refine Mine.end0 hret (by k_asm) (by k_asm) (by first | exact Mine.sub_all (by intro p hp; repeat (first | exact hp | refine List.mem_cons_of_mem _ ?_)) | exact Mine.sub_all (by kst_inAny)) ?_)
  k_with "con use0" => (
  (case k1 => k_asm); (case k2 => k_asm); (case k3 => k_asm); (case k4 => k_asm); (case k5 => k_asm); (case kK => first | exact rfl | assumption); (case kd => ktr_room); (case ku => ktr_units))
  k_with "call ref" => (
  k_here
  (show wpAny _ _ (call (Value.ref 52) [Value.str _ _]) _ _ _)
  (k_dflt (refine' Mine.Con.use0 (Mine.con_is_blank _ _) ?k1 ?k2 ?k3 ?k4 ?k5 ?kK ?kd ?ku ?_; (case k1 => k_asm); (case k2 => k_asm); (case k3 => k_asm); (case k4 => k_asm); (case k5 => k_asm); (case kK => first | exact rfl | assumption); (case kd => ktr_room); (case ku => ktr_units)))
  (intro r9 h9 tk9 F9 N9 hr9; subst hr9; (try dsimp only); (try k_fold)))
  k_with "step" => (first
  | (k_unfold; (try dsimp only))
  | (refine Mine.ap2 ?_; k_unfold; (try dsimp only))
  | (k_end; kc_close)
  | ((fail_if_success (with_reducible show wpAny _ _ (exec (Stmt.While _ _ _ _) _) _ _ _)); first | walk1 | (dsimp only; walk1))
  | (leave1; (try dsimp only))
  | fail "no step")
  k_with "steps" => repeat' walk_at "step"
  k_with "eval BoolOp" => (
  k_here
  (k_dflt (first
   | (refine' Mine.or_names ?k1 ?k2 ?k3 ?_; (case k1 => k_asm); (case k2 => rfl); (case k3 => rfl))
   | (refine' Mine.and_name_eq ?k1 ?k2 ?k3 ?_; (case k1 => k_asm); (case k2 => rfl); (case k3 => rfl))))
  k_whole)
  k_with "drop" => (
  (rename News _ _ _ _ => nX)
  (have nY := cb_drop (news := news) nX (by intro p hp; repeat (first | exact hp | refine List.mem_cons_of_mem _ ?_)))
  (clear nX))
  k_with "KswEnd" => (
  (rename News _ _ _ _ => nE')
  (try simp only [List.push_toArray] at nE')
  (first
    | (refine' ksw_end ⟨_,_,_,_,_,_,_⟩ ?e1 nE' ?e2 ?e3 ?e4 ?e5 ?e6 ?e7)
    | (refine' ksw_end ⟨_,_,_,_⟩ ?e1 nE' ?e2 ?e3 ?e4 ?e5 ?e6 ?e7)
    | (refine' ksw_end ⟨_,_⟩ ?e1 nE' ?e2 ?e3 ?e4 ?e5 ?e6 ?e7)
    | (refine' ksw_end ⟨_,_,_,_,_⟩ ?e1 nE' ?e2 ?e3 ?e4 ?e5 ?e6 ?e7))
  (case e1 => assumption)
  (case e2 => first | exact Mine.sub_all (by intro p hp; repeat (first | exact hp | refine List.mem_cons_of_mem _ ?_)) | kst_in)
  (case e3 => kst_facts)
  (case e4 => kst_all)
  (case e5 => ksw_same)
  (case e6 => kst_p)
  (case e7 => ksw_less))
  k_with "exec If" => refine wpAny_If ?_
  k_with "call ref" => (
  k_here
  (k_dflt (first
   | ((show wpAny _ _ (call (Value.ref 129) [Value.str _ _, Value.bool _]) _ _ _); refine' Mine.Con.useS (Mine.con_mode_of _ _ _ ?hc) ?k1 ?k2 ?k3 ?k4 ?k5 ?kK ?kd ?ku ?_)
   | ((show wpAny _ _ (call (Value.ref 136) [Value.str _ _, Value.bool _]) _ _ _); refine' Mine.Con.useS (Mine.con_escaped _ _ _) ?k1 ?k2 ?k3 ?k4 ?k5 ?kK ?kd ?ku ?_)))
  (try (case hc => first | assumption | omega))
  (case k1 => k_asm); (case k2 => k_asm); (case k3 => k_asm); (case k4 => k_asm); (case k5 => k_asm); (case kK => first | exact rfl | assumption); (case kd => ktr_room); (case ku => ktr_units)
  (intro x9 t9 h9 tk9 e9 F9 N9; (try dsimp only); (try k_fold)))
  k_with "call builtin:str.join" => (
  k_here
  (k_dflt (first
   | ((with_reducible show wpAny _ _ (call (Value.builtin "str.join") [Value.str (Str.ofString "") _, Value.ref _]) _ _ _); refine' Mine.join0_at ?k1 ?k2 ?k3 ?k4 ?k5 ?_)
   | ((with_reducible show wpAny _ _ (call (Value.builtin "str.join") [Value.str (Str.ofString " ") _, Value.ref _]) _ _ _); refine' Mine.joinB_at ?k1 ?k2 ?k3 ?k4 ?k5 ?_)))
  (case k1 => k_asm); (case k2 => k_memK); (case k3 => k_asm); (case k4 => first | assumption | exact rfl); (case k5 => walk_at "join size")
  (intro t9 k9; (try dsimp only); (try k_fold)))
  k_with "call ref" => (
  k_here
  (with_reducible show wpAny _ _ (call (Value.ref 129) [Value.str (Str.ofString "") _, Value.bool _]) _ _ _)
  (k_dflt (refine' Mine.Con.use0 (Mine.con_mode_of0 _ _) ?k1 ?k2 ?k3 ?k4 ?k5 ?kK ?kd ?ku ?_))
  (case k1 => k_asm); (case k2 => k_asm); (case k3 => k_asm); (case k4 => k_asm); (case k5 => k_asm); (case kK => first | exact rfl | assumption); (case kd => ktr_room); (case ku => ktr_units)
  (intro r9 h9 tk9 F9 N9 hr9; (obtain ⟨t9, hr9⟩ := hr9); subst hr9; (try dsimp only); (try k_fold)))
  k_with "con argsC" => (
  (case kA => exact rfl); (case kF => exact rfl); (case kK => assumption); (case k1 => k_asm); (case k2 => k_asm); (case k3 => k_asm); (case k4 => k_asm); (case k5 => k_asm); (case k6 => k_is); (case k7 => k_is); (case k8 => ktr_room); (case k9 => first | exact BindsTo.of_eq rfl | exact binds_K (by k_in) rfl (by k_is) rfl rfl rfl); (case kB => exact rfl); (case kD => decide +kernel); (case c2 => exact rfl); (case c3 => exact rfl); (case c4 => exact rfl); k_whole; intro g' L' h' tk' cells' FG' F' N' Y' B' X' T' l1; (try k_lt l1); k_cells Y'; (try simp only [List.cons_append, List.nil_append] at N'); (try dsimp only); (try k_fold))
  k_with "call ref" => (
  k_here
  (k_dflt (first
   | ((show wpAny _ _ (call (Value.ref 158) [Value.str _ _]) _ _ _); refine' Mine.Con.useS (Mine.con_trim _ _ ?hc) ?k1 ?k2 ?k3 ?k4 ?k5 ?kK ?kd ?ku ?_)
   | ((show wpAny _ _ (call (Value.ref 205) [Value.str _ _]) _ _ _); refine' Mine.Con.useS (Mine.con_law_trimmed _ _ ?hc) ?k1 ?k2 ?k3 ?k4 ?k5 ?kK ?kd ?ku ?_)
   | ((show wpAny _ _ (call (Value.ref 144) [Value.str _ _, Value.bool _]) _ _ _); refine' Mine.Con.useS (Mine.con_quote _ _ _ ?hc) ?k1 ?k2 ?k3 ?k4 ?k5 ?kK ?kd ?ku ?_)
   | ((show wpAny _ _ (call (Value.ref 144) [Value.str _ _]) _ _ _); refine' Mine.Con.useS (Mine.con_quoteD _ _ ?hc) ?k1 ?k2 ?k3 ?k4 ?k5 ?kK ?kd ?ku ?_)
   | ((show wpAny _ _ (call (Value.ref 193) [Value.str _ _, Value.bool _]) _ _ _); refine' Mine.Con.useS (Mine.con_law_mode _ _ _ ?hc) ?k1 ?k2 ?k3 ?k4 ?k5 ?kK ?kd ?ku ?_)))
  (try (case hc => first | assumption | omega))
  (case k1 => k_asm); (case k2 => k_asm); (case k3 => k_asm); (case k4 => k_asm); (case k5 => k_asm); (case kK => first | exact rfl | assumption); (case kd => ktr_room); (case ku => ktr_units)
  (intro x9 t9 h9 tk9 e9 F9 N9; (try (first | (have z9 := Mine.trim_fact e9) | (have z9 := Mine.quote_fact e9))); (try dsimp only); (try k_fold)))
  k_with "for texts" => (k_here; (rename Fr _ _ _ _ => lF'); (with_unfolding_all refine' For_invVF lF' ?k1 ?k2 ?_; (case k1 => exact rfl); (case k2 => exact rfl); k_whole))
  k_with "call ref" => (
  k_here
  (k_dflt (first
   | ((show wpAny _ _ (call (Value.ref 165) [Value.str _ _]) _ _ _); refine' Mine.Con.useS (Mine.con_concat_part _ _ ?hc) ?k1 ?k2 ?k3 ?k4 ?k5 ?kK ?kd ?ku ?_)
   | ((show wpAny _ _ (call (Value.ref 212) [Value.str _ _]) _ _ _); refine' Mine.Con.useS (Mine.con_law_part _ _ ?hc) ?k1 ?k2 ?k3 ?k4 ?k5 ?kK ?kd ?ku ?_)
   | ((show wpAny _ _ (call (Value.ref 200) [Value.str _ _, Value.bool _]) _ _ _); refine' Mine.Con.useS (Mine.con_law_written _ _ _ ?hc) ?k1 ?k2 ?k3 ?k4 ?k5 ?kK ?kd ?ku ?_)))
  (try (case hc => first | assumption | omega))
  (case k1 => k_asm); (case k2 => k_asm); (case k3 => k_asm); (case k4 => k_asm); (case k5 => k_asm); (case kK => first | exact rfl | assumption); (case kd => ktr_room); (case ku => ktr_units)
  (intro x9 t9 h9 tk9 e9 F9 N9; (try (first | (have z9 := Mine.part_fact e9) | (have z9 := Mine.quote_fact e9))); (try dsimp only); (try k_fold)))
  k_with "call ref" => (
  k_here
  (k_dflt (first
   | ((show wpAny _ _ (call (Value.ref 151) [Value.ref _]) _ _ _); refine' Mine.Con.useS (Mine.con_join_list ?hT ?hi ?hm ?hB ?hn) ?k1 ?k2 ?k3 ?k4 ?k5 ?kK ?kd ?ku ?_)
   | ((show wpAny _ _ (call (Value.ref 172) [Value.ref _]) _ _ _); refine' Mine.Con.useS (Mine.con_concat ?hT ?hi ?hm ?hB ?hn) ?k1 ?k2 ?k3 ?k4 ?k5 ?kK ?kd ?ku ?_)
   | ((show wpAny _ _ (call (Value.ref 179) [Value.ref _]) _ _ _); refine' Mine.Con.useS (Mine.con_code_text ?hT ?hi ?hm ?hB ?hn) ?k1 ?k2 ?k3 ?k4 ?k5 ?kK ?kd ?ku ?_)))
  (case hT => first | assumption | exact ⟨_, .inl rfl⟩ | exact ⟨_, .inr rfl⟩)
  (case hi => assumption)
  (case hm => first | assumption | k_memK)
  (case hB => assumption)
  (case hn => first | assumption | omega)
  (case k1 => k_asm); (case k2 => k_asm); (case k3 => k_asm); (case k4 => k_asm); (case k5 => k_asm); (case kK => first | exact rfl | assumption); (case kd => ktr_room); (case ku => ktr_units)
  (intro x9 t9 h9 tk9 e9 F9 N9; (try dsimp only); (try k_fold)))
  k_with "binaryOp Add str str" => (
  k_here
  (with_reducible show wpAny _ _ (binaryOp Operator.Add (Value.str (Str.ofString _) _) (Value.str (Str.ofString _) _)) _ _ _)
  (refine' PyProof.Rows.SBL.add ?_ ?z)
  (case z => decide +kernel)
  (intro t9 k9 z9))
  k_with "call builtin:str.replace" => (
  k_here
  (with_reducible show wpAny _ _ (call (Value.builtin "str.replace") [Value.str _ _, Value.str _ _, Value.str _ _]) _ _ _)
  (walk_at "replace by"))
  k_with "con end1" => (
  refine Mine.end1 hret (by k_asm) (by k_asm) (by first | exact Mine.sub_all (by intro p hp; repeat (first | exact hp | refine List.mem_cons_of_mem _ ?_)) | exact Mine.sub_all (by kst_inAny)) (by k_memK)
    (by first | assumption | exact PySem.W.kst_ltOf (by first | exact And.right (by assumption) | exact And.right (And.right (by assumption)) | exact And.right (And.right (And.right (by assumption))) | exact And.right (And.right (And.right (And.right (by assumption)))))) ?_)
  trivial
namespace Mine
section
variable {prog : Program} {w : World} {A : Around} {E : Value → Shared → Prop} {s : Shared} {x y : Str} {t u : Tok} {Q : Value → Shared → Prop}
theorem ne_same (h1 : x = y) (h : Q (.bool false) s) : wpAny (model prog w) A (compareOp .NotEq (.str x t) (.str y u)) Q E s := by
  subst h1
  exact PySem.P.ne_str (by simpa using h)
theorem eq_same (h1 : x = y) (h : Q (.bool true) s) : wpAny (model prog w) A (compareOp .Eq (.str x t) (.str y u)) Q E s := by
  subst h1
  exact eq_str (by simpa using h)
end
theorem Mine.wLi0 : True := by
  k_with "compareOp NotEq str str" => (k_here; (refine' Mine.ne_same ?ke ?_); (case ke => exact (by assumption : _ = _).trans (Eq.symm (by assumption))))
  k_with "compareOp Eq str str" => (k_here; (refine' Mine.eq_same ?ke ?_); (case ke => exact (by assumption : _ = _).trans (Eq.symm (by assumption))))
  trivial
theorem unrW {h₀ h' : Heap} {L i : Addr} {o : Obj} {rest : (Str → Option Value) → List (Addr × Obj) → Prop} {s₁ : Shared} {tk : Nat} {m' : Str → Option Value} {news' : Led} (F : Fr h₀ L h' m') (N : News h₀ L h' ((i, o) :: news')) (off : ∀ p ∈ news', p.1 ≠ i) (r : rest m' news') :
    PySem.W.UnrEndW h₀ L s₁ [(i, o)] rest { s₁ with heap := h', toks := tk } :=
  ⟨h', tk, m', news', rfl, F, N, fun p hp q hq e => off p hp (by rw [e, List.mem_singleton.mp hq]), r⟩
theorem off1 {D i : Addr} {o : Obj} {news : Led} (h : @LT.lt Nat _ D i ∧ PySem.W.AllLt i news) : ∀ p ∈ ((D, o) :: news), p.1 ≠ i := by
  intro p hp
  rcases List.mem_cons.mp hp with rfl | hp
  · exact Nat.ne_of_lt h.1
  · exact Nat.ne_of_lt (PySem.W.kst_ltOf h.2 p hp)
theorem Mine.wLi1 : True := by
  k_with "UnrEndW" => (refine Mine.unrW (by assumption) (by assumption) (Mine.off1 (by assumption)) ⟨⟨by k_memK, trivial⟩, ?_⟩)
  k_with "pyIter ref" => (
  k_here
  (rename Fr _ _ _ _ => lF')
  (rename News _ _ _ _ => lN')
  (with_unfolding_all refine PySem.W.iter_tupTurns (lo := _) (vs := [.bool false, .bool true]) (by rfl) lF' lN' (by k_memK) (by rfl) (by rfl) ?_)
  (clear lF' lN')
  (intro i' l1; (try (k_lt l1))))
  trivial
theorem con_law_is_written {w mean mg mb news} (c : Str) (t : Tok) (hc : c.length ≤ 4096) : Con w mean mg mb 219 16 news [.str c t] (fun v tl => v = .bool true ∧ tl = []) := by
  walk_at "con in0"
  k_dflt (refine' code_def (binds := [(Str.ofString "text", .str c t)]) ?k1 ?k2 ?k3 ?k4 ?k5 ?kA ?kF ?kK ?k6 ?k7 ?k8 ?k9 ?kB ?_ ?c2 ?c3 ?c4 ?c5; walk_at "con args")
  walk_at "steps"
  all_goals (walk_at "con end"; exact ⟨rfl, rfl⟩)
end Mine
end PartLi
section PartLs
namespace Mine
theorem bad_cons (d : Int) (c : Nat) (r : List Nat) : bad d (c :: r) = if c = 123 then bad (d + 1) r else if c = 125 then (decide (d - 1 < 0) || bad (d - 1) r) else if c = 92 then (decide (r = [] ∨ r.head? = some 10) || bad d r) else bad d r := rfl
/-- a balanced text closes where it ends -/
theorem brk_ok (r : List Nat) : ∀ (n : Nat) (x : List Nat), x.length ≤ n → ∀ d : Nat, bad d (bare1 x) = false → (d : Int) + bal (bare1 x) = 0 → brk (d + 1) (x ++ 125 :: r) = some x.length
  | _, [], _, d, _, h2 => by
    rw [bare1_nil] at h2
    have : d = 0 := by simp [bal] at h2; omega
    subst this
    rw [List.nil_append, brk_cons, if_neg (by decide), if_neg (by decide), if_pos rfl, if_pos rfl]
    rfl
  | 0, c :: x, h, _, _, _ => by simp at h
  | n + 1, c :: x, h, d, h1, h2 => by
    have hx : x.length ≤ n := by simpa using h
    rw [List.cons_append, brk_cons]
    by_cases hc : c = 92
    · subst hc
      rw [if_pos rfl]
      cases x with
      | nil =>
        exfalso
        rw [bare1_bs (by simp), bare1_nil, bad_cons] at h1
        simp at h1
      | cons q x =>
        have hx' : x.length ≤ n := by simp at hx; omega
        show Option.map (· + 2) (brk (d + 1) (x ++ 125 :: r)) = some (x.length + 1 + 1)
        by_cases hq : q = 92 ∨ q = 123 ∨ q = 125
        · rw [bare1_pair (by rcases hq with hq | hq | hq <;> simp [hq])] at h1 h2
          rw [bad_cons, if_neg (by decide), if_neg (by decide), if_neg (by decide)] at h1
          rw [bal_cons, if_neg (by decide), if_neg (by decide), Int.zero_add] at h2
          rw [brk_ok r n x hx' d h1 h2]
          rfl
        · rw [bare1_bs (by simp; omega), bare1_ne x (by omega)] at h1 h2
          rw [bad_cons, if_neg (by decide), if_neg (by decide), if_pos rfl, Bool.or_eq_false_iff, bad_cons, if_neg (by omega), if_neg (by omega), if_neg (by omega)] at h1
          rw [bal_cons, if_neg (by decide), if_neg (by decide), Int.zero_add, bal_cons, if_neg (by omega), if_neg (by omega), Int.zero_add] at h2
          rw [brk_ok r n x hx' d h1.2 h2]
          rfl
    · rw [if_neg hc]
      rw [bare1_ne x hc] at h1 h2
      rw [bad_cons] at h1
      rw [bal_cons] at h2
      by_cases h3 : c = 123
      · rw [if_pos h3] at h1 h2 ⊢
        rw [brk_ok r n x hx (d + 1) (by simpa using h1) (by omega)]
        rfl
      · rw [if_neg h3] at h1 h2 ⊢
        by_cases h4 : c = 125
        · rw [if_pos h4] at h1 h2 ⊢
          rw [Bool.or_eq_false_iff, decide_eq_false_iff_not] at h1
          obtain ⟨e, rfl⟩ : ∃ e, d = e + 1 := ⟨d - 1, by omega⟩
          rw [if_neg (by omega)]
          have h5 : ((e + 1 : Nat) : Int) - 1 = (e : Int) := by omega
          rw [h5] at h1
          show Option.map (· + 1) (brk (e + 1) (x ++ 125 :: r)) = _
          rw [brk_ok r n x hx e h1.2 (by omega)]
          rfl
        · rw [if_neg h4] at h1 h2 ⊢
          rw [if_neg hc] at h1
          rw [brk_ok r n x hx d h1 (by omega)]
          rfl
theorem escL_plain {n : Nat} (h : n ∉ [12, 10, 13, 9, 11, 93, 91, 36, 59, 32, 92, 34]) (d : Bool) (h2 : ¬ (d = true ∧ (n = 123 ∨ n = 125))) : escL n d = [n] := by
  simp only [List.mem_cons, List.not_mem_nil, or_false, not_or] at h
  obtain ⟨a1, a2, a3, a4, a5, a⟩ := h
  unfold escL
  rw [if_neg a1, if_neg a2, if_neg a3, if_neg a4, if_neg a5, if_neg (not_or.mpr ⟨a.1, not_or.mpr ⟨a.2.1, not_or.mpr ⟨a.2.2.1, not_or.mpr ⟨a.2.2.2.1, not_or.mpr ⟨a.2.2.2.2.1, not_or.mpr a.2.2.2.2.2⟩⟩⟩⟩⟩), if_neg h2]
theorem escL_14 : ∀ x ∈ [12, 10, 13, 9, 11, 93, 91, 36, 59, 32, 92, 34, 123, 125], escL x true = [92, (escL x true).getLastD 0] ∧ simple ((escL x true).getLastD 0) = true ∧ unesc ((escL x true).getLastD 0) = x := by decide
theorem escL_pl14 {n : Nat} (h : n ∉ [12, 10, 13, 9, 11, 93, 91, 36, 59, 32, 92, 34, 123, 125]) (d : Bool) : escL n d = [n] := by
  refine escL_plain (fun q => h (List.mem_append_left [123, 125] q)) d ?_
  rintro ⟨_, q⟩
  rcases q with q | q <;> exact h (List.mem_append_right [12, 10, 13, 9, 11, 93, 91, 36, 59, 32, 92, 34] (by rw [q]; decide))
theorem isB_pl {n : Nat} (h : n ∉ [12, 10, 13, 9, 11, 93, 91, 36, 59, 32, 92, 34, 123, 125]) : isB n = false := by
  refine (false_iff_of isB_mem).mpr fun q => h ?_
  have k : ∀ x ∈ [32, 9, 10, 11, 12, 13], x ∈ [12, 10, 13, 9, 11, 93, 91, 36, 59, 32, 92, 34, 123, 125] := by decide
  exact k n q
theorem pl_ne {n m : Nat} (h : n ∉ [12, 10, 13, 9, 11, 93, 91, 36, 59, 32, 92, 34, 123, 125]) (hm : m ∈ [12, 10, 13, 9, 11, 93, 91, 36, 59, 32, 92, 34, 123, 125]) : n ≠ m := fun e => h (e ▸ hm)
/-- escaped signs are a word -/
theorem word_esc : ∀ (l : List Nat) , Word (l.flatMap fun n => escL n true) l
  | [] => .nil
  | n :: r => by
    rw [List.flatMap_cons]
    by_cases h : n ∈ [12, 10, 13, 9, 11, 93, 91, 36, 59, 32, 92, 34, 123, 125]
    · obtain ⟨e1, e2, e3⟩ := escL_14 n h
      have := Word.esc e2 (word_esc r)
      rw [e3] at this
      rw [e1]; exact this
    · rw [escL_pl14 h]
      exact .plain (pl_ne h (by decide)) (isB_pl h) (word_esc r)
end Mine
end PartLs
section PartLu
namespace Mine
/-- a written element and what it stands for -/
def QW (w x : List Nat) : Prop := (w = 123 :: (x ++ [125]) ∧ ∀ r, brk 1 (x ++ 125 :: r) = some x.length) ∨ (Word w x ∧ w ≠ [] ∧ w.head? ≠ some 123 ∧ w.head? ≠ some 34 ∧ ∀ n, w.head? = some n → isB n = false)
theorem word_plain : ∀ l : List Nat, l.any isBr = false → Word l l
  | [], _ => .nil
  | n :: r, h => by
    rw [List.any_cons, Bool.or_eq_false_iff] at h
    have h1 := h.1
    unfold isBr at h1
    simp only [Bool.or_eq_false_iff, beq_eq_false_iff_ne] at h1
    exact .plain h1.1.2 h1.2 (word_plain r h.2)
theorem isBr_facts {n : Nat} (h : isBr n = false) : n ≠ 92 ∧ isB n = false ∧ n ≠ 91 ∧ n ≠ 36 ∧ n ≠ 59 := by
  unfold isBr at h
  simp only [Bool.or_eq_false_iff, beq_eq_false_iff_ne] at h
  exact ⟨h.1.2, h.2, h.1.1.1.1, h.1.1.1.2, h.1.1.2⟩
theorem escL_mask {n : Nat} (h : isBr n = false) : escL n false = if isM n = true then [92, n] else [n] := by
  have h1 := (false_iff_of isBr_mem).mp h
  by_cases a : n = 93
  · subst a; rfl
  by_cases b : n = 34
  · subst b; rfl
  have hm : isM n = false := by
    unfold isM
    rw [beq_false_of_ne a, beq_false_of_ne b]; rfl
  rw [hm, if_neg (by decide), escL_plain ?_ _ (fun q => by cases q.1)]
  intro q
  have k : ∀ x ∈ [12, 10, 13, 9, 11, 93, 91, 36, 59, 32, 92, 34], x = 93 ∨ x = 34 ∨ x ∈ [91, 36, 59, 92, 32, 9, 10, 11, 12, 13] := by decide
  rcases k n q with q | q | q
  · exact a q
  · exact b q
  · exact h1 q
theorem word_mask : ∀ l : List Nat, l.any isBr = false → Word (l.flatMap fun n => escL n false) l
  | [], _ => .nil
  | n :: r, h => by
    rw [List.any_cons, Bool.or_eq_false_iff] at h
    have ih := word_mask r h.2
    obtain ⟨h1, h2, _⟩ := isBr_facts h.1
    rw [List.flatMap_cons, escL_mask h.1]
    by_cases hm : isM n = true
    · have hn : n = 93 ∨ n = 34 := by unfold isM at hm; simpa using hm
      rw [if_pos hm]
      have e2 : unesc n = n := by rcases hn with hn | hn <;> subst hn <;> decide
      have := Word.esc (m := n) (by rcases hn with hn | hn <;> subst hn <;> decide) ih
      rw [e2] at this
      exact this
    · rw [if_neg hm]
      exact .plain h1 h2 ih
theorem bal_nonneg {l : List Nat} (h : bad 0 l = false) : 0 ≤ bal l := by
  rcases Int.lt_or_le (bal l) 0 with h1 | h1
  · exfalso
    have : bad 0 l = true := (bad_iff l 0 (Int.le_refl _)).mpr (.inl ⟨l.length, ?_, Nat.le_refl _, by rw [List.take_length]; omega⟩)
    · rw [h] at this; cases this
    · cases l with
      | nil => simp [bal] at h1
      | cons => simp
  · exact h1
theorem mode_is (c : Nat) (r : List Nat) (b : Bool) : modeOf (c :: r) b = if bad 0 (bare1 (c :: r)) = true then Str.ofString "escape" else
    modeEnd (b && c == 35) (bal (bare1 (c :: r))) ((c == 123 || c == 34) || (c :: r).any isM || (c :: r).any isBr) (((c == 123 || c == 34) || (b && c == 35)) || (c :: r).any isBr) ((c :: r).any isM) := by
  show modeScan _ (c :: r) 0 _ _ _ = _
  rw [scan_is _ _ (c :: r) (Nat.le_refl _), Int.zero_add, Bool.false_or]
theorem escL_ne (n : Nat) (d : Bool) : escL n d ≠ [] := by
  unfold escL
  repeat' split
  all_goals simp
theorem escL_head (n : Nat) : ∀ m, (escL n true).head? = some m → m ≠ 123 ∧ m ≠ 34 ∧ isB m = false := by
  intro m hm
  by_cases h : n ∈ [12, 10, 13, 9, 11, 93, 91, 36, 59, 32, 92, 34, 123, 125]
  · rw [(escL_14 n h).1] at hm
    cases hm
    decide
  · rw [escL_pl14 h] at hm
    cases hm
    exact ⟨pl_ne h (by decide), pl_ne h (by decide), isB_pl h⟩
end Mine
namespace Mine
theorem lit_ne1 : ¬ (Str.ofString "escape" = Str.ofString "none") := by decide +kernel
theorem lit_ne2 : ¬ (Str.ofString "escape" = Str.ofString "brace") := by decide +kernel
theorem lit_ne3 : ¬ (Str.ofString "mask" = Str.ofString "none") := by decide +kernel
theorem lit_ne4 : ¬ (Str.ofString "mask" = Str.ofString "brace") := by decide +kernel
theorem lit_ne5 : ¬ (Str.ofString "brace" = Str.ofString "none") := by decide +kernel
theorem lit_ne6 : (Str.ofString "mask" == Str.ofString "escape") = false := by decide +kernel
theorem lit_ne7 : (Str.ofString "escape" == Str.ofString "escape") = true := by decide +kernel
theorem qw_esc (c : Nat) (r : List Nat) (b : Bool) : QW ((if b = true ∧ (c :: r).head? = some 35 then [92] else []) ++ (c :: r).flatMap (fun n => escL n true)) (c :: r) := by
  refine .inr ?_
  by_cases h : b = true ∧ (c :: r).head? = some 35
  · rw [if_pos h]
    have hc : c = 35 := by simpa using h.2
    subst hc
    refine ⟨?_, by simp, by simp, by simp, ?_⟩
    · rw [List.flatMap_cons, show escL 35 true = [35] from by decide]
      exact Word.esc (m := 35) (by decide) (word_esc r)
    · intro n hn
      have : 92 = n := by simpa using hn
      subst this; decide
  · rw [if_neg h, List.nil_append]
    refine ⟨word_esc _, ?_, ?_, ?_, ?_⟩
    · rw [List.flatMap_cons]; intro q; exact escL_ne c true (List.append_eq_nil_iff.mp q).1
    all_goals
      rw [List.flatMap_cons]
      cases hq : escL c true with
      | nil => exact absurd hq (escL_ne c true)
      | cons m t =>
        have := escL_head c m (by rw [hq]; rfl)
        first
          | (simp; exact this.1)
          | (simp; exact this.2.1)
          | (intro n hn; have : m = n := by simpa using hn
             subst this; exact (escL_head c m (by rw [hq]; rfl)).2.2)
theorem quote_word (x : List Nat) (b : Bool) : QW (quoteL x b) x := by
  cases x with
  | nil =>
    refine .inl ⟨?_, fun r => ?_⟩
    · unfold quoteL
      rw [show modeOf [] b = Str.ofString "brace" from rfl, if_neg lit_ne5, if_pos rfl]
    · show brk 1 (125 :: r) = some 0
      rw [brk_cons, if_neg (by decide), if_neg (by decide), if_pos rfl, if_pos rfl]
  | cons c r =>
    unfold quoteL
    rw [mode_is]
    cases hB : bad 0 (bare1 (c :: r)) with
    | true =>
      rw [if_pos rfl, if_neg lit_ne1, if_neg lit_ne2, lit_ne7]
      exact qw_esc c r b
    | false =>
      rw [if_neg (show ¬ (false = true) by decide)]
      have h0 := bal_nonneg hB
      unfold modeEnd
      by_cases h1 : 0 < bal (bare1 (c :: r))
      · rw [if_pos h1, if_neg lit_ne1, if_neg lit_ne2, lit_ne7]
        exact qw_esc c r b
      · rw [if_neg h1]
        have hbr : ∀ r', brk 1 ((c :: r) ++ 125 :: r') = some (c :: r).length := fun r' => brk_ok r' _ (c :: r) (Nat.le_refl _) 0 hB (by omega)
        have brace : QW (123 :: ((c :: r) ++ [125])) (c :: r) := .inl ⟨rfl, hbr⟩
        by_cases h2 : ((c == 123 || c == 34) || (c :: r).any isM || (c :: r).any isBr) = true
        · rw [if_pos h2]
          by_cases h3 : (c :: r).any isM = true ∧ (((c == 123 || c == 34) || (b && c == 35)) || (c :: r).any isBr) = false
          · rw [if_pos h3, if_neg lit_ne3, if_neg lit_ne4, lit_ne6]
            obtain ⟨_, h4⟩ := h3
            rw [Bool.or_eq_false_iff, Bool.or_eq_false_iff, Bool.or_eq_false_iff] at h4
            obtain ⟨⟨⟨h5, h6⟩, h7⟩, h8⟩ := h4
            have h9 : ¬ (b = true ∧ (c :: r).head? = some 35) := by
              rintro ⟨q1, q2⟩
              have : c = 35 := by simpa using q2
              rw [q1, this] at h7; simp at h7
            rw [if_neg h9, List.nil_append]
            have hc8 : isBr c = false := by rw [List.any_cons, Bool.or_eq_false_iff] at h8; exact h8.1
            have hcb := isBr_facts hc8
            refine .inr ⟨word_mask _ h8, ?_, ?_, ?_, ?_⟩
            · rw [List.flatMap_cons]; intro q; exact escL_ne c false (List.append_eq_nil_iff.mp q).1
            all_goals
              rw [List.flatMap_cons, escL_mask hc8]
              by_cases hm : isM c = true
              · rw [if_pos hm]
                first
                  | (simp; done)
                  | (intro n hn; have : 92 = n := by simpa using hn
                     subst this; decide)
              · rw [if_neg hm]
                first
                  | (simp; simpa using h5)
                  | (simp; simpa using h6)
                  | (intro n hn; have : c = n := by simpa using hn
                     subst this; exact hcb.2.1)
          · rw [if_neg h3, if_neg lit_ne5, if_pos rfl]
            exact brace
        · rw [if_neg h2]
          by_cases h3 : (b && c == 35) = true
          · rw [if_pos h3, if_neg lit_ne5, if_pos rfl]
            exact brace
          · rw [if_neg h3, if_pos rfl]
            have h4 : ((c == 123 || c == 34) || (c :: r).any isM || (c :: r).any isBr) = false := by simpa using h2
            rw [Bool.or_eq_false_iff, Bool.or_eq_false_iff, Bool.or_eq_false_iff] at h4
            obtain ⟨⟨⟨h5, h6⟩, h7⟩, h8⟩ := h4
            have hc8 : isBr c = false := by rw [List.any_cons, Bool.or_eq_false_iff] at h8; exact h8.1
            refine .inr ⟨word_plain _ h8, by simp, by simp; simpa using h5, by simp; simpa using h6, ?_⟩
            intro n hn
            have : c = n := by simpa using hn
            subst this
            exact (isBr_facts hc8).2.1
end Mine
end PartLu
section PartLv
namespace Mine
/-- the elements that a text holds -/
inductive RL : List Nat → List (List Nat) → Prop
  | nil {l : List Nat} : (∀ n ∈ l, isB n = true) → RL l []
  | cons {bl w r x : List Nat} {xs : List (List Nat)} : (∀ n ∈ bl, isB n = true) → QW w x → atEnd r → x.length ≤ 4096 → RL r xs → RL (bl ++ (w ++ r)) (x :: xs)
theorem it_of {c : Str} {k : Int} {n : Nat} {t : List Nat} (h0 : 0 ≤ k) (h : (sg c).drop k.toNat = n :: t) : Txt.item c k = ⟨#[n]⟩ ∧ k < c.length ∧ (sg c).drop (k + 1).toNat = t := by
  have hl := congrArg List.length h
  rw [List.length_drop, List.length_cons, sg_len] at hl
  have hk : k < c.length := by omega
  obtain ⟨m, e1, e2⟩ := item_at h0 hk
  have e3 : (sg c).drop k.toNat = m :: (sg c).drop (k + 1).toNat := e2
  rw [h] at e3
  obtain ⟨e4, e5⟩ := List.cons.inj e3
  exact ⟨by rw [e1, e4], hk, e5.symm⟩
theorem it_at {c : Str} {k i : Int} {l : List Nat} (h0 : 0 ≤ k) (hi : k ≤ i) (h : (sg c).drop k.toNat = l) (hl : i < c.length) : ∃ n, n ∈ l ∧ Txt.item c i = ⟨#[n]⟩ ∧ l[(i - k).toNat]? = some n := by
  obtain ⟨m, e1, e2⟩ := item_at (x := c) (k := i) (by omega) hl
  have e3 : (sg c).drop i.toNat = m :: (sg c).drop (i + 1).toNat := e2
  have e4 : l[(i - k).toNat]? = some m := by
    rw [← h, List.getElem?_drop, show k.toNat + (i - k).toNat = i.toNat by omega, ← List.head?_drop, e3]
    rfl
  exact ⟨m, List.mem_of_getElem? e4, e1, e4⟩
theorem drop_app {c : Str} {k : Int} {a b : List Nat} (h0 : 0 ≤ k) (h : (sg c).drop k.toNat = a ++ b) : (sg c).drop (k + a.length).toNat = b := by
  rw [show (k + (a.length : Int)).toNat = k.toNat + a.length by omega, ← List.drop_drop, h, List.drop_left]
theorem end_blank {c : Str} {k : Int} {r : List Nat} (h0 : 0 ≤ k) (h : (sg c).drop k.toNat = r) (hr : atEnd r) (hk : k < c.length) : isBlankS (Txt.item c k) = true := by
  rcases hr with hr | ⟨n, r', hr, hn⟩
  · have hl := congrArg List.length h
    rw [hr, List.length_drop, List.length_nil, sg_len] at hl
    omega
  · rw [hr] at h
    rw [(it_of h0 h).1, isBlankS_one]
    exact hn
theorem reads_of {l : List Nat} {xs : List (List Nat)} (h : RL l xs) : ∀ (c : Str) (k : Int), 0 ≤ k → k ≤ c.length → (sg c).drop k.toNat = l → Reads c k xs := by
  induction h with
  | nil hb =>
    intro c k h0 hk hd
    refine .nil h0 hk fun i h1 h2 => ?_
    obtain ⟨n, hn, e, _⟩ := it_at h0 h1 hd h2
    rw [e, isBlankS_one]
    exact hb n hn
  | cons hb hw hr hx _ ih =>
    rename_i bl w r x xs _
    intro c k h0 hk hd
    have hlen := congrArg List.length hd
    rw [List.length_drop, sg_len, List.length_append, List.length_append] at hlen
    have hq := drop_app h0 hd
    have blanks : ∀ i : Int, k ≤ i → i < k + (bl.length : Int) → isBlankS (Txt.item c i) = true := by
      intro i h1 h2
      obtain ⟨n, _, e, e2⟩ := it_at h0 h1 hd (by omega)
      rw [List.getElem?_append_left (by omega)] at e2
      rw [e, isBlankS_one]
      exact hb n (List.mem_of_getElem? e2)
    have hr2 := drop_app (by omega) hq
    rcases hw with ⟨rfl, hbrk⟩ | ⟨hword, hne, h123, h34, hnb⟩
    · have hq' : (sg c).drop (k + (bl.length : Int)).toNat = 123 :: (x ++ 125 :: r) := by rw [hq]; simp
      obtain ⟨e1, e2, e3⟩ := it_of (by omega) hq'
      have ht : ((sg c).drop (k + (bl.length : Int) + 1).toNat).take x.length = x := by rw [e3, List.take_left]
      have hend : (sg c).drop (k + (bl.length : Int) + 1 + (x.length : Int) + 1).toNat = r := by
        rw [show k + (bl.length : Int) + 1 + (x.length : Int) + 1 = k + (bl.length : Int) + ((123 :: (x ++ [125])).length : Int) by simp; omega]
        exact hr2
      have := Reads.braced (c := c) (k := k) (q := k + (bl.length : Int)) (j := x.length) (xs := xs) h0 (by omega) e2 blanks (by rw [e1, isBlankS_one]; decide) (by rw [e1, lit_ob]; simp) (by rw [e3]; exact hbrk r)
        (fun hlt => end_blank (by omega) hend hr hlt) (ih c _ (by omega) (by simp only [List.length_cons, List.length_append, List.length_nil] at hlen; omega) hend)
      rwa [ht] at this
    · cases w with
      | nil => exact absurd rfl hne
      | cons n w =>
        have hq' : (sg c).drop (k + (bl.length : Int)).toNat = n :: (w ++ r) := hq
        obtain ⟨e1, e2, e3⟩ := it_of (by omega) hq'
        refine Reads.bare (c := c) (k := k) (q := k + (bl.length : Int)) (e := k + (bl.length : Int) + ((n :: w).length : Int)) h0 (by omega) e2 blanks ?_ ?_ ?_ hx ⟨n :: w, x, r, hq, hword, rfl, rfl, hr⟩ (ih c _ (by omega) (by simp only [List.length_cons] at hlen ⊢; omega) hr2)
        · rw [e1, isBlankS_one]; exact hnb n rfl
        · rw [e1, lit_ob, one_eq, beq_eq_false_iff_ne]; intro q; exact h123 (by rw [q]; rfl)
        · rw [e1, lit_dq, one_eq, beq_eq_false_iff_ne]; intro q; exact h34 (by rw [q]; rfl)
end Mine
end PartLv
section PartLy
namespace Mine
theorem rl_pre {bl l : List Nat} {xs : List (List Nat)} (hb : ∀ n ∈ bl, isB n = true) (h : RL l xs) : RL (bl ++ l) xs := by
  cases h with
  | nil h => exact .nil fun n hn => (List.mem_append.mp hn).elim (hb n) (h n)
  | cons h1 h2 h3 h4 h5 =>
    rw [← List.append_assoc]
    exact .cons (fun n hn => (List.mem_append.mp hn).elim (hb n) (h1 n)) h2 h3 h4 h5
theorem rl_app {l m : List Nat} {xs ys : List (List Nat)} (h : RL l xs) (h2 : RL m ys) (hm : atEnd m) : RL (l ++ m) (xs ++ ys) := by
  induction h with
  | nil h => exact rl_pre h h2
  | cons h1 hw hr hx _ ih =>
    rename_i bl w r x xs _
    rw [List.append_assoc, List.append_assoc]
    refine .cons h1 hw ?_ hx ih
    rcases hr with hr | ⟨n, r', hr, hn⟩
    · rw [hr]; exact hm
    · rw [hr]; exact .inr ⟨n, r' ++ m, rfl, hn⟩
theorem rl_two {l m : List Nat} {xs ys : List (List Nat)} (h : RL l xs) (h2 : RL m ys) : RL (l ++ 32 :: m) (xs ++ ys) :=
  rl_app h (rl_pre (bl := [32]) (by intro n hn; rw [List.mem_singleton.mp hn]; decide) h2) (.inr ⟨32, m, rfl, by decide⟩)
theorem rl_one {x : List Nat} (b : Bool) (hx : x.length ≤ 4096) : RL (quoteL x b) [x] := by
  have := RL.cons (bl := []) (r := []) (fun n h => nomatch h) (quote_word x b) (.inl rfl) hx (.nil fun n h => nomatch h)
  simpa using this
theorem rl_join : ∀ (b : Bool) (ls : List (List Nat)), (∀ x ∈ ls, x.length ≤ 4096) → RL (joinB (quoteAll b ls)) ls
  | _, [], _ => .nil fun n h => nomatch h
  | b, [x], h => rl_one b (h x (List.mem_singleton.mpr rfl))
  | b, x :: y :: r, h => by
    have h1 := rl_one b (h x (List.mem_cons_self ..))
    have h2 := rl_join false (y :: r) (fun z hz => h z (List.mem_cons_of_mem _ hz))
    exact rl_two h1 h2
/-- the last element's end: what stands behind it is blank, and any blanks may stand there -/
theorem rl_core {l : List Nat} {xs : List (List Nat)} (h : RL l xs) : (xs = [] ∧ ∀ n ∈ l, isB n = true) ∨
    ∃ pre w x tl, l = pre ++ (w ++ tl) ∧ QW w x ∧ (∀ n ∈ tl, isB n = true) ∧ ∀ tl', (∀ n ∈ tl', isB n = true) → RL (pre ++ (w ++ tl')) xs := by
  induction h with
  | nil h => exact .inl ⟨rfl, h⟩
  | cons h1 hw hr hx hrl ih =>
    rename_i bl w r x xs
    right
    rcases ih with ⟨rfl, hb⟩ | ⟨pre, w', x', tl, rfl, hw', htl, hall⟩
    · refine ⟨bl, w, x, r, rfl, hw, hb, fun tl' ht => .cons h1 hw ?_ hx (.nil ht)⟩
      cases tl' with
      | nil => exact .inl rfl
      | cons n t => exact .inr ⟨n, t, rfl, ht n (List.mem_cons_self ..)⟩
    · refine ⟨bl ++ (w ++ pre), w', x', tl, by simp [List.append_assoc], hw', htl, fun tl' ht => ?_⟩
      have key : atEnd (pre ++ (w' ++ tl')) := by
        rcases hr with hr | ⟨n, r', hr, hn⟩
        · exfalso
          have h2 : w' = [] := (List.append_eq_nil_iff.mp (List.append_eq_nil_iff.mp hr).2).1
          rcases hw' with ⟨e, _⟩ | ⟨_, e, _⟩
          · rw [e] at h2; cases h2
          · exact e h2
        · cases pre with
          | cons q p => exact .inr ⟨q, _, rfl, by rw [List.cons_append] at hr; rw [(List.cons.inj hr).1]; exact hn⟩
          | nil =>
            cases w' with
            | nil => rcases hw' with ⟨e, _⟩ | ⟨_, e, _⟩
                     · cases e
                     · exact absurd rfl e
            | cons q p =>
              have : q = n := (List.cons.inj hr).1
              exact .inr ⟨q, _, rfl, by rw [this]; exact hn⟩
      have := RL.cons h1 hw key hx (hall tl' ht)
      simpa [List.append_assoc] using this
end Mine
end PartLy
section PartLz
namespace Mine
theorem dw_app {P tl : List Nat} (h : ∃ n ∈ P, isB n = false) : (P ++ tl).dropWhile isB = P.dropWhile isB ++ tl := by
  induction P with
  | nil => obtain ⟨n, hn, _⟩ := h; cases hn
  | cons c r ih =>
    rw [List.cons_append, List.dropWhile_cons, List.dropWhile_cons]
    by_cases hc : isB c = true
    · rw [if_pos hc, if_pos hc]
      refine ih ?_
      obtain ⟨n, hn, hb⟩ := h
      rcases List.mem_cons.mp hn with rfl | hn
      · rw [hc] at hb; cases hb
      · exact ⟨n, hn, hb⟩
    · rw [if_neg hc, if_neg hc]; rfl
theorem dw_all {l : List Nat} (h : ∀ n ∈ l, isB n = true) : l.dropWhile isB = [] := by
  induction l with
  | nil => rfl
  | cons c r ih => rw [List.dropWhile_cons, if_pos (h c (List.mem_cons_self ..)), ih fun n hn => h n (List.mem_cons_of_mem _ hn)]
theorem dw_pre {a b : List Nat} (h : ∀ n ∈ a, isB n = true) : (a ++ b).dropWhile isB = b.dropWhile isB := by
  induction a with
  | nil => rfl
  | cons c r ih => rw [List.cons_append, List.dropWhile_cons, if_pos (h c (List.mem_cons_self ..)), ih fun n hn => h n (List.mem_cons_of_mem _ hn)]
theorem qw_head {w x : List Nat} (h : QW w x) : ∃ n t, w = n :: t ∧ isB n = false := by
  rcases h with ⟨rfl, _⟩ | ⟨_, hne, _, _, hb⟩
  · exact ⟨123, _, rfl, by decide⟩
  · cases w with
    | nil => exact absurd rfl hne
    | cons n t => exact ⟨n, t, rfl, hb n rfl⟩
theorem rl_lead {l : List Nat} {xs : List (List Nat)} (h : RL l xs) : RL (l.dropWhile isB) xs := by
  cases h with
  | nil h => rw [dw_all h]; exact .nil fun n h => nomatch h
  | cons h1 hw hr hx hrl =>
    rename_i bl w r x xs
    obtain ⟨n, t, rfl, hn⟩ := qw_head hw
    rw [dw_pre h1, List.cons_append, List.dropWhile_cons, if_neg (by rw [hn]; simp)]
    exact RL.cons (bl := []) (fun n h => nomatch h) hw hr hx hrl
theorem word_end {w x : List Nat} (h : Word w x) : w = [] ∨ (∃ u n, w = u ++ [n] ∧ isB n = false) ∨ ∃ u, w = u ++ [92, 32] := by
  induction h with
  | nil => exact .inl rfl
  | plain h1 h2 _ ih =>
    rename_i n el y _
    right
    rcases ih with rfl | ⟨u, m, rfl, hm⟩ | ⟨u, rfl⟩
    · exact .inl ⟨[], n, rfl, h2⟩
    · exact .inl ⟨n :: u, m, rfl, hm⟩
    · exact .inr ⟨n :: u, rfl⟩
  | esc h1 _ ih =>
    rename_i m el y _
    right
    rcases ih with rfl | ⟨u, n, rfl, hn⟩ | ⟨u, rfl⟩
    · by_cases hm : isB m = false
      · exact .inl ⟨[92], m, rfl, hm⟩
      · have h' : m ∈ [93, 91, 36, 59, 32, 92, 34, 123, 125, 35, 102, 110, 114, 116, 118] := by simpa [simple] using h1
        simp only [List.mem_cons, List.not_mem_nil, or_false] at h'
        have : m = 32 := by
          rcases h' with h | h | h | h | h | h | h | h | h | h | h | h | h | h | h <;> subst h <;> first | rfl | exact absurd (by decide) hm
        subst this
        exact .inr ⟨[], rfl⟩
    · exact .inl ⟨92 :: m :: u, n, rfl, hn⟩
    · exact .inr ⟨92 :: m :: u, rfl⟩
theorem qw_end {w x : List Nat} (h : QW w x) : (∃ u n, w = u ++ [n] ∧ isB n = false) ∨ ∃ u, w = u ++ [92, 32] := by
  rcases h with ⟨rfl, _⟩ | ⟨hw, hne, _⟩
  · exact .inl ⟨123 :: x, 125, rfl, by decide⟩
  · rcases word_end hw with h | h | h
    · exact absurd h hne
    · exact .inl h
    · exact .inr h
theorem back_of {a b : List Nat} (h : 92 ∉ b) : (a ++ 92 :: b).drop ((a ++ 92 :: b).length - backK (a ++ 92 :: b)) = b := by
  have e : backK (a ++ 92 :: b) = b.length := by
    unfold backK
    rw [List.reverse_append, List.reverse_cons, List.append_assoc]
    have : ∀ (c d : List Nat), 92 ∉ c → ((c ++ ([92] ++ d)).takeWhile (· != 92)) = c := by
      intro c d hc
      induction c with
      | nil => rfl
      | cons q r ih =>
        have hq : q ≠ 92 := fun e => hc (e ▸ List.mem_cons_self ..)
        rw [List.cons_append, List.takeWhile_cons, if_pos (by simp [hq]), ih fun m => hc (List.mem_cons_of_mem _ m)]
    rw [this _ _ (by rw [List.mem_reverse]; exact h), List.length_reverse]
  rw [e, List.length_append, List.length_cons, show a.length + (b.length + 1) - b.length = (a ++ [92]).length by simp; omega]
  rw [show a ++ 92 :: b = (a ++ [92]) ++ b by simp, List.drop_left]
end Mine
namespace Mine
theorem dw_end {n : Nat} (hn : isB n = false) : ∀ p : List Nat, ∃ d, (p ++ [n]).dropWhile isB = d ++ [n]
  | [] => ⟨[], by rw [List.nil_append, List.dropWhile_cons, if_neg (by rw [hn]; simp)]⟩
  | c :: r => by
    rw [List.cons_append, List.dropWhile_cons]
    by_cases hc : isB c = true
    · rw [if_pos hc]; exact dw_end hn r
    · rw [if_neg hc]; exact ⟨c :: r, rfl⟩
/-- what concat takes of a list's text is read as the list -/
theorem rl_part {l s : List Nat} {xs : List (List Nat)} (h : RL l xs) (hs : ∀ n ∈ s, isB n = true) (hs1 : s ≠ []) : RL (partL (l ++ s)) xs := by
  rcases rl_core h with ⟨rfl, hb⟩ | ⟨pre, w, x, tl, rfl, hw, htl, hall⟩
  · have e : trimL (l ++ s) = [] := by
      unfold trimL
      rw [dw_all fun n hn => (List.mem_append.mp hn).elim (hb n) (hs n)]
      rfl
    unfold partL
    rw [e, if_neg (by simp)]
    exact .nil fun n h => nomatch h
  · have et : pre ++ (w ++ tl) ++ s = (pre ++ w) ++ (tl ++ s) := by simp [List.append_assoc]
    rw [et]
    have ht2 : ∀ n ∈ tl ++ s, isB n = true := fun n hn => (List.mem_append.mp hn).elim (htl n) (hs n)
    have h92 : 92 ∉ tl ++ s := fun q => absurd (ht2 92 q) (by decide)
    have hP : ∃ n ∈ pre ++ w, isB n = false := by
      obtain ⟨n, t, rfl, hn⟩ := qw_head hw
      exact ⟨n, by simp, hn⟩
    have hD : ∀ tl', (∀ n ∈ tl', isB n = true) → RL ((pre ++ w).dropWhile isB ++ tl') xs := fun tl' ht => by
      have := rl_lead (hall tl' ht)
      rwa [← List.append_assoc, dw_app hP] at this
    generalize tl ++ s = t2 at ht2 h92 ⊢
    have etrim : trimL ((pre ++ w) ++ t2) = (((pre ++ w).dropWhile isB).reverse.dropWhile isB).reverse := by
      unfold trimL
      rw [dw_app hP, List.reverse_append, dw_pre (by intro n hn; exact ht2 n (List.mem_reverse.mp hn))]
    rcases qw_end hw with ⟨u, n, rfl, hn⟩ | ⟨u, rfl⟩
    · obtain ⟨d, hd⟩ := dw_end hn (pre ++ u)
      have e1 : pre ++ (u ++ [n]) = (pre ++ u) ++ [n] := by simp
      rw [e1] at etrim hD ⊢
      rw [hd] at etrim hD
      rw [List.reverse_append, List.reverse_cons, List.reverse_nil, List.nil_append, List.singleton_append, List.dropWhile_cons, if_neg (by rw [hn]; simp), List.reverse_cons, List.reverse_reverse] at etrim
      unfold partL
      rw [etrim]
      by_cases h9 : n = 92
      · subst h9
        rw [if_pos (by simp), show (pre ++ u) ++ [92] ++ t2 = (pre ++ u) ++ 92 :: t2 by simp, back_of h92]
        exact hD _ fun m hm => ht2 m (List.mem_of_mem_take hm)
      · rw [if_neg (by simp [h9])]
        have := hD [] fun m hm => nomatch hm
        rwa [List.append_nil] at this
    · obtain ⟨d, hd⟩ := dw_end (n := 92) (by decide) (pre ++ u)
      have e1 : pre ++ (u ++ [92, 32]) = ((pre ++ u) ++ [92]) ++ [32] := by simp
      have e2 : (((pre ++ u) ++ [92]) ++ [32]).dropWhile isB = d ++ [92] ++ [32] := by
        rw [dw_app ⟨92, by simp, by decide⟩, hd]
      rw [e1] at etrim hD ⊢
      rw [e2] at etrim hD
      rw [List.reverse_append, List.reverse_append, List.reverse_cons, List.reverse_nil, List.nil_append, List.reverse_cons, List.reverse_nil, List.nil_append, List.singleton_append, List.singleton_append, List.dropWhile_cons, if_pos (by decide), List.dropWhile_cons, if_neg (by decide), List.reverse_cons, List.reverse_reverse] at etrim
      unfold partL
      rw [etrim, if_pos (by simp), show (pre ++ u) ++ [92] ++ [32] ++ t2 = (pre ++ u) ++ 92 :: (32 :: t2) by simp, back_of (by simp [h92])]
      have := hD [] fun m hm => nomatch hm
      rw [List.append_nil] at this
      exact this
end Mine
end PartLz
section PartLza
namespace Mine
theorem rl_empty {xs : List (List Nat)} (h : RL [] xs) : xs = [] := by
  generalize e : ([] : List Nat) = l at h
  cases h with
  | nil _ => rfl
  | cons h1 hw hr hx hrl =>
    exfalso
    rename_i bl w r x xs
    obtain ⟨n, t, rfl, _⟩ := qw_head hw
    have := (List.append_eq_nil_iff.mp e.symm).2
    cases this
theorem rl_filter {p q : List Nat} {a b : List (List Nat)} (h1 : RL p a) (h2 : RL q b) : RL (joinB ([p, q].filter fun l => !l.isEmpty)) (a ++ b) := by
  cases p with
  | nil =>
    rw [rl_empty h1, List.nil_append]
    cases q with
    | nil => exact h2
    | cons c r => exact h2
  | cons c r =>
    cases q with
    | nil => rw [rl_empty h2, List.append_nil]; exact h1
    | cons d s => exact rl_two h1 h2
/-- concat of the texts of two lists, blanks around and between, is read as the elements of both -/
theorem rl_concat {T1 T2 T3 : Str} {J1 J3 : List Nat} {a b : List (List Nat)} (h1 : sg T1 = (10 :: 32 :: J1) ++ [32, 9]) (h2 : sg T2 = [32]) (h3 : sg T3 = J3 ++ [12]) (r1 : RL J1 a) (r3 : RL J3 b) : RL (concatQ [T1, T2, T3]) (a ++ b) := by
  have p1 : RL (partL (sg T1)) a := by
    rw [h1]
    exact rl_part (rl_pre (bl := [10, 32]) (by decide) r1) (by decide) (by decide)
  have p3 : RL (partL (sg T3)) b := by
    rw [h3]
    exact rl_part r3 (by decide) (by decide)
  have e2 : partL (sg T2) = [] := by rw [h2]; decide
  have e : concatQ [T1, T2, T3] = joinB ([partL (sg T1), partL (sg T3)].filter fun l => !l.isEmpty) := by
    unfold concatQ partsOf
    simp only [List.map_cons, List.map_nil, e2]
    cases partL (sg T1) <;> cases partL (sg T3) <;> rfl
  rw [e]
  exact rl_filter p1 p3
/-- the reading of concat's text -/
theorem reads_concat {T1 T2 T3 : Str} {ss ts : List Str} (h1 : sg T1 = (10 :: 32 :: joinQ ss) ++ [32, 9]) (h2 : sg T2 = [32]) (h3 : sg T3 = joinQ ts ++ [12]) (hs : ∀ y ∈ ss, y.length ≤ 4096) (ht : ∀ y ∈ ts, y.length ≤ 4096) :
    Reads (S (concatQ [T1, T2, T3])) 0 (ss.map sg ++ ts.map sg) := by
  have big : ∀ {us : List Str}, (∀ y ∈ us, y.length ≤ 4096) → ∀ x ∈ us.map sg, x.length ≤ 4096 := fun h x hx => by
    obtain ⟨y, hy, rfl⟩ := List.mem_map.mp hx
    rw [sg_len]; exact h y hy
  have r := rl_concat (a := ss.map sg) (b := ts.map sg) h1 h2 h3 (rl_join true _ (big hs)) (rl_join true _ (big ht))
  refine reads_of r _ 0 (Int.le_refl _) (by omega) ?_
  rw [sg_S]
  rfl
end Mine
end PartLza
section PartAl
namespace Mine
open PySem.Spec PySem.Calls PyProof.Rows.LCg
section
variable {prog : Program} {w : World} {A : Around} {E : Value → Shared → Prop} {s : Shared} {h₀ : Heap} {L l : Addr} {m : Str → Option Value} {env : Env} {news : List (Addr × Obj)} {vs : List Value} {ss : List Str} {Q : Value → Shared → Prop}
section names
variable {elt iter : PySem.Expr} {ifs : List PySem.Expr} {a : Str} {pa : Pos} {scope : Scope} {cl : List (Str × Addr)} {pos : Pos} {Fin : Shared → List Value → List (Addr × Obj) → Prop} {E₀ : Value → Shared → Prop}
/-- the texts of a list of the ledger -/
theorem cg_list {k : Nat} (J : Nat → List Value → Prop)
    (hh : A.handled = none) (hifs : ifs = [] ∨ ∃ c, ifs = [c]) (hm : (l, PySem.W.listOf vs.toArray k) ∈ news) (hi : StrsAre vs ss) (hsz : ss.length ≤ sizeLine) (hcell : ∀ y ∈ scope.names, y.2 ≠ .cell) (hkind : scope.kind = .function) (hxa : scope.names.lookup a = some .local)
    (F : Fr h₀ L s.heap m) (N : News h₀ L s.heap news) (hJ : J 0 [])
    (turn : ∀ i ys y u I oI C oC D m₂ h tk (E' : Value → Shared → Prop), ss[i]? = some y → J i ys → m₂ a = some (.str y u) → NsObj oC m₂ → Fr h₀ L h m → News h₀ L h ((I, oI) :: (C, oC) :: (D, lst ys) :: news) →
      TestThen prog w A ifs elt (compEnvC scope cl C env) E' (TurnEnd h₀ L m { s with heap := h, toks := tk } ((I, oI) :: (C, oC) :: (D, lst ys) :: news) (fun y => J (i + 1) (ys ++ [y])))
        (TurnEnd h₀ L m { s with heap := h, toks := tk } ((I, oI) :: (C, oC) :: (D, lst ys) :: news) (fun _ => J (i + 1) ys) .none) { s with heap := h, toks := tk })
    (fin : ∀ ys, J ss.length ys → Fin s ys news) : CgSrc prog w A h₀ L m env (.Name a pa) iter ifs elt scope cl pos E₀ Fin (.ref l) s := by
  intro RR hRR
  have hLs : L < s.heap.objs.size := F.ns.lt
  have hlen := strs_len hi
  have hls : s.heap.IsList l vs.toArray := News.isList N hm
  have hlt : l < s.heap.objs.size := Heap.lt_size (N _ hm).1
  have hsize : vs.toArray.size = ss.length := by rw [List.size_toArray, hlen]
  have W := Walks.list (prog := prog) (w := w) (A := A) hh s.heap.objs.size l (Nat.ne_of_lt hlt) vs.toArray
  rw [hsize] at W
  refine wpAny_pyIter_list hls ?_
  refine cg_block (s₂ := { s with heap := s.heap.push _ }) (R := fun i m₂ => ∃ v, vs.toArray[i]? = some v ∧ m₂ a = some v) J hifs (PySem.W.KTurns.ofWalks W (fun i v s Q E _ hq => wpAny_pure hq)) W.self
    (fun i h st b hb => by obtain ⟨o, ho, _⟩ := st.1; rw [List.mem_singleton.mp hb]; exact ⟨o, ho⟩) hsz hcell hkind ?_ (fun b hb => by rw [List.mem_singleton.mp hb]; exact next_is_new F) (fun hm => absurd hLs (by rw [List.mem_singleton.mp hm]; exact Nat.lt_irrefl _))
    (fun p hp hm => absurd (Heap.lt_size (N p hp).1) (by rw [List.mem_singleton.mp hm]; exact Nat.lt_irrefl _)) ⟨⟨_, Heap.get?_push_size _ rfl, rfl, rfl⟩, hls.at fun o e => Heap.get?_push_of_some _ e⟩ ?_ (F.push _) (fun p hp => ⟨Heap.get?_push_of_some _ (N p hp).1, (N p hp).2⟩) ?_ hJ ?_ ?_
  · intro b hb
    show b < (s.heap.push _).objs.size
    rw [Heap.size_push]
    rcases List.mem_cons.mp hb with rfl | hb
    · exact Nat.lt_succ_self _
    · rw [List.mem_singleton.mp hb]; exact Nat.lt_succ_of_lt hlt
  · intro b hb
    rcases List.mem_cons.mp hb with rfl | hb
    · exact .inl (by simp)
    · rw [List.mem_singleton.mp hb]; exact .inr (.inr ⟨_, hm⟩)
  · rintro i v C h tk m' Q' E' hP hn hQ
    exact name_asg (s := { s with heap := h, toks := tk }) hkind hxa hn fun h' tk' m₂ hn' hx hk => hQ h' tk' m₂ hn' ⟨v, hP, hx⟩ hk
  · rintro i ys own C oC D m₂ h tk E' hi' hJ' ⟨v, hv, hx⟩ how hC F' N'
    obtain ⟨oI, rfl⟩ := one_own how
    obtain ⟨y, u, hy, rfl⟩ := strs_at hi i v (by simpa using hv)
    exact turn i ys y u _ oI C oC D m₂ h tk E' hy hJ' hx hC F' N'
  · intro D C h tk m' ys F' N' o1 hn hC₀ hD₀ hCL hDL hCD offC hJ'
    exact hRR D C h tk m' ys news F' N' o1 hn hC₀ hD₀ hCL hDL hCD offC (fin ys hJ')
end names
/-- a tuple of a list's texts -/
theorem tuple_texts {k : Nat} (F : Fr h₀ L s.heap m) (N : News h₀ L s.heap news) (hm : (l, PySem.W.listOf vs.toArray k) ∈ news) (hi : StrsAre vs ss) (hz : ss.length ≤ 1000)
    (h : ∀ D h', Fr h₀ L h' m → News h₀ L h' ((D, tupObj vs 0) :: news) → (∀ p ∈ news, p.1 < D) → Q (.ref D) { s with heap := h' }) : wpAny (model prog w) A (call (.type "tuple") [.ref l]) Q E s :=
  PySem.W.kde_tupleOf (items := vs.toArray) F N (News.isList N hm) (by rw [List.size_toArray, strs_len hi]; omega) rfl h
theorem strs_drop {vs : List Value} {ss : List Str} (h : StrsAre vs ss) : ∀ k, StrsAre (vs.drop k) (ss.drop k) := by
  induction h with
  | nil => intro k; simp only [List.drop_nil]; exact .nil
  | cons y t r ih => intro k; cases k with
    | zero => exact .cons y t r
    | succ k => exact ih k
theorem strs_take {vs : List Value} {ss : List Str} (h : StrsAre vs ss) : ∀ k, StrsAre (vs.take k) (ss.take k) := by
  induction h with
  | nil => intro k; simp only [List.take_nil]; exact .nil
  | cons y t r ih => intro k; cases k with
    | zero => exact .nil
    | succ k => exact .cons y t (ih k)
theorem slice_texts {value slice : PySem.Expr} {vl vu : Value} {lo hi : Option Int} {k : Nat} {ts : List Str} (F : Fr h₀ L s.heap m) (N : News h₀ L s.heap news) (hm : (l, PySem.W.listOf vs.toArray k) ∈ news) (pl : IsPart vl lo) (pu : IsPart vu hi) (ht : StrsAre (slicePick vs.toArray lo hi none).toList ts)
    (h : ∀ D ws h', Fr h₀ L h' m → News h₀ L h' ((D, PySem.W.listOf (List.toArray ws) 0) :: news) → (∀ p ∈ news, p.1 < D) → StrsAre ws ts → Q (.ref D) { s with heap := h' }) (hz : vs.length ≤ 1000)
    (hs : subscripted slice false (.ref l) (.ref s.heap.objs.size) = operate [.ref s.heap.objs.size, .ref l] (getItem (.ref l) (.ref s.heap.objs.size))) (hg : ∀ r, letTemporaryGo value (.ref l) r = pure ()) :
    wpAny (model prog w) A (subscriptTail value slice (.ref l) (.ref s.heap.objs.size)) Q E { s with heap := s.heap.push { cls := .type "slice", data := .fields #[vl, vu, .none] } } := by
  refine PySem.W.kmk_slice F N (News.isList N hm) pl pu (fun D h' F' N' l1 => h D (slicePick vs.toArray lo hi none).toList h' F' ?_ l1 ht) hs hg ?_
  · rw [Array.toArray_toList]; exact N'
  · rw [List.size_toArray, PySem.sizeLine_eq]; omega
theorem texts_to (hi : StrsAre vs ss) : StrsAre (slicePick vs.toArray none (some 2) none).toList (ss.take 2) := by
  have e : sliceBounds none (some 2) none vs.toArray.size = (((0 : Nat) : Int), ((min 2 vs.toArray.size : Nat) : Int), 1) := by
    simp only [sliceBounds, Option.getD_none, show (1 : Int) > 0 by decide, if_true, if_neg (show ¬ ((2 : Int) < 0) by omega)]
    congr 1
    congr 1
    omega
  rw [PySem.W.kmk_pick_nat _ e]
  show StrsAre ((vs.drop 0).take (min 2 vs.toArray.size - 0)) _
  rw [List.drop_zero, Nat.sub_zero, List.size_toArray, PySem.W.kmk_take_min]
  exact strs_take hi 2
theorem texts_from (hi : StrsAre vs ss) : StrsAre (slicePick vs.toArray (some 2) none none).toList (ss.drop 2) := by
  have e : sliceBounds (some 2) none none vs.toArray.size = (((min 2 vs.toArray.size : Nat) : Int), ((vs.toArray.size : Nat) : Int), 1) := by
    simp only [sliceBounds, Option.getD_none, show (1 : Int) > 0 by decide, if_true, if_neg (show ¬ ((2 : Int) < 0) by omega)]
    congr 1
    omega
  rw [PySem.W.kmk_pick_nat _ e]
  show StrsAre ((vs.drop (min 2 vs.toArray.size)).take (vs.toArray.size - min 2 vs.toArray.size)) _
  rw [List.size_toArray, PySem.W.kmk_drop_min, List.take_of_length_le (by rw [List.length_drop]; omega)]
  exact strs_drop hi 2
end
end Mine
end PartAl
section PartAj
theorem Mine.wAj : True := by
  k_with_none
  k_with "con in" => (
  w_top off
  unfold Mine.Con
  k_fill
  intro dp un gd cn cs a ccd cl outer A₀ base h₀ L m s Q E B F X N T hk hd hu hret
  refine wpAny_call ?_
  k_dflt cell_enter)
  k_with "con in0" => (
  w_top off
  unfold Mine.Con
  k_fill
  intro dp un gd cn cs a ccd cl outer A₀ base h₀ L m s Q E B F X N T hk hd hu hret
  refine wpAny_call ?_)
  k_with "con args" => (
  (case kA => exact rfl); (case kF => exact rfl); (case kK => assumption); (case k1 => k_asm); (case k2 => k_asm); (case k3 => k_asm); (case k4 => k_asm); (case k5 => k_asm); (case k6 => k_is); (case k7 => k_is); (case k8 => ktr_room); (case k9 => first | exact BindsTo.of_eq rfl | exact binds_K (by k_in) rfl (by k_is) rfl rfl rfl); (case c5 => decide); (case kB => exact locs rfl); (case c2 => exact rfl); (case c3 => exact rfl); (case c4 => exact rfl); k_whole; intro g' L' h' FG' F' N' B' X' T'; (try dsimp only); (try k_fold))
  k_with "con end" => (
  refine Mine.end0 hret (by k_asm) (by k_asm) (by first | exact Mine.sub_all (by intro p hp; repeat (first | exact hp | refine List.mem_cons_of_mem _ ?_)) | exact Mine.sub_all (by kst_inAny)) ?_)
  k_with "con use0" => (
  (case k1 => k_asm); (case k2 => k_asm); (case k3 => k_asm); (case k4 => k_asm); (case k5 => k_asm); (case kK => first | exact rfl | assumption); (case kd => ktr_room); (case ku => ktr_units))
  k_with "call ref" => (
  k_here
  (show wpAny _ _ (call (Value.ref 52) [Value.str _ _]) _ _ _)
  (k_dflt (refine' Mine.Con.use0 (Mine.con_is_blank _ _) ?k1 ?k2 ?k3 ?k4 ?k5 ?kK ?kd ?ku ?_; (case k1 => k_asm); (case k2 => k_asm); (case k3 => k_asm); (case k4 => k_asm); (case k5 => k_asm); (case kK => first | exact rfl | assumption); (case kd => ktr_room); (case ku => ktr_units)))
  (intro r9 h9 tk9 F9 N9 hr9; subst hr9; (try dsimp only); (try k_fold)))
  k_with "step" => (first
  | (k_unfold; (try dsimp only))
  | (refine Mine.ap2 ?_; k_unfold; (try dsimp only))
  | (k_end; kc_close)
  | ((fail_if_success (with_reducible show wpAny _ _ (exec (Stmt.While _ _ _ _) _) _ _ _)); first | walk1 | (dsimp only; walk1))
  | (leave1; (try dsimp only))
  | fail "no step")
  k_with "steps" => repeat' walk_at "step"
  k_with "eval BoolOp" => (
  k_here
  (k_dflt (first
   | (refine' Mine.or_names ?k1 ?k2 ?k3 ?_; (case k1 => k_asm); (case k2 => rfl); (case k3 => rfl))
   | (refine' Mine.and_name_eq ?k1 ?k2 ?k3 ?_; (case k1 => k_asm); (case k2 => rfl); (case k3 => rfl))))
  k_whole)
  k_with "drop" => (
  (rename News _ _ _ _ => nX)
  (have nY := cb_drop (news := news) nX (by intro p hp; repeat (first | exact hp | refine List.mem_cons_of_mem _ ?_)))
  (clear nX))
  k_with "KswEnd" => (
  (rename News _ _ _ _ => nE')
  (try simp only [List.push_toArray] at nE')
  (first
    | (refine' ksw_end ⟨_,_,_,_,_,_,_⟩ ?e1 nE' ?e2 ?e3 ?e4 ?e5 ?e6 ?e7)
    | (refine' ksw_end ⟨_,_,_,_⟩ ?e1 nE' ?e2 ?e3 ?e4 ?e5 ?e6 ?e7)
    | (refine' ksw_end ⟨_,_⟩ ?e1 nE' ?e2 ?e3 ?e4 ?e5 ?e6 ?e7)
    | (refine' ksw_end ⟨_,_,_,_,_⟩ ?e1 nE' ?e2 ?e3 ?e4 ?e5 ?e6 ?e7))
  (case e1 => assumption)
  (case e2 => first | exact Mine.sub_all (by intro p hp; repeat (first | exact hp | refine List.mem_cons_of_mem _ ?_)) | kst_in)
  (case e3 => kst_facts)
  (case e4 => kst_all)
  (case e5 => ksw_same)
  (case e6 => kst_p)
  (case e7 => ksw_less))
  k_with "exec If" => refine wpAny_If ?_
  k_with "call ref" => (
  k_here
  (k_dflt (first
   | ((show wpAny _ _ (call (Value.ref 129) [Value.str _ _, Value.bool _]) _ _ _); refine' Mine.Con.useS (Mine.con_mode_of _ _ _ ?hc) ?k1 ?k2 ?k3 ?k4 ?k5 ?kK ?kd ?ku ?_)
   | ((show wpAny _ _ (call (Value.ref 136) [Value.str _ _, Value.bool _]) _ _ _); refine' Mine.Con.useS (Mine.con_escaped _ _ _) ?k1 ?k2 ?k3 ?k4 ?k5 ?kK ?kd ?ku ?_)))
  (try (case hc => first | assumption | omega))
  (case k1 => k_asm); (case k2 => k_asm); (case k3 => k_asm); (case k4 => k_asm); (case k5 => k_asm); (case kK => first | exact rfl | assumption); (case kd => ktr_room); (case ku => ktr_units)
  (intro x9 t9 h9 tk9 e9 F9 N9; (try dsimp only); (try k_fold)))
  k_with "call builtin:str.join" => (
  k_here
  (k_dflt (first
   | ((with_reducible show wpAny _ _ (call (Value.builtin "str.join") [Value.str (Str.ofString "") _, Value.ref _]) _ _ _); refine' Mine.join0_at ?k1 ?k2 ?k3 ?k4 ?k5 ?_)
   | ((with_reducible show wpAny _ _ (call (Value.builtin "str.join") [Value.str (Str.ofString " ") _, Value.ref _]) _ _ _); refine' Mine.joinB_at ?k1 ?k2 ?k3 ?k4 ?k5 ?_)))
  (case k1 => k_asm); (case k2 => k_memK); (case k3 => k_asm); (case k4 => first | assumption | exact rfl); (case k5 => walk_at "join size")
  (intro t9 k9; (try dsimp only); (try k_fold)))
  k_with "call ref" => (
  k_here
  (with_reducible show wpAny _ _ (call (Value.ref 129) [Value.str (Str.ofString "") _, Value.bool _]) _ _ _)
  (k_dflt (refine' Mine.Con.use0 (Mine.con_mode_of0 _ _) ?k1 ?k2 ?k3 ?k4 ?k5 ?kK ?kd ?ku ?_))
  (case k1 => k_asm); (case k2 => k_asm); (case k3 => k_asm); (case k4 => k_asm); (case k5 => k_asm); (case kK => first | exact rfl | assumption); (case kd => ktr_room); (case ku => ktr_units)
  (intro r9 h9 tk9 F9 N9 hr9; (obtain ⟨t9, hr9⟩ := hr9); subst hr9; (try dsimp only); (try k_fold)))
  k_with "con argsC" => (
  (case kA => exact rfl); (case kF => exact rfl); (case kK => assumption); (case k1 => k_asm); (case k2 => k_asm); (case k3 => k_asm); (case k4 => k_asm); (case k5 => k_asm); (case k6 => k_is); (case k7 => k_is); (case k8 => ktr_room); (case k9 => first | exact BindsTo.of_eq rfl | exact binds_K (by k_in) rfl (by k_is) rfl rfl rfl); (case kB => exact rfl); (case kD => decide +kernel); (case c2 => exact rfl); (case c3 => exact rfl); (case c4 => exact rfl); k_whole; intro g' L' h' tk' cells' FG' F' N' Y' B' X' T' l1; (try k_lt l1); k_cells Y'; (try simp only [List.cons_append, List.nil_append] at N'); (try dsimp only); (try k_fold))
  k_with "call ref" => (
  k_here
  (k_dflt (first
   | ((show wpAny _ _ (call (Value.ref 158) [Value.str _ _]) _ _ _); refine' Mine.Con.useS (Mine.con_trim _ _ ?hc) ?k1 ?k2 ?k3 ?k4 ?k5 ?kK ?kd ?ku ?_)
   | ((show wpAny _ _ (call (Value.ref 205) [Value.str _ _]) _ _ _); refine' Mine.Con.useS (Mine.con_law_trimmed _ _ ?hc) ?k1 ?k2 ?k3 ?k4 ?k5 ?kK ?kd ?ku ?_)
   | ((show wpAny _ _ (call (Value.ref 144) [Value.str _ _, Value.bool _]) _ _ _); refine' Mine.Con.useS (Mine.con_quote _ _ _ ?hc) ?k1 ?k2 ?k3 ?k4 ?k5 ?kK ?kd ?ku ?_)
   | ((show wpAny _ _ (call (Value.ref 144) [Value.str _ _]) _ _ _); refine' Mine.Con.useS (Mine.con_quoteD _ _ ?hc) ?k1 ?k2 ?k3 ?k4 ?k5 ?kK ?kd ?ku ?_)
   | ((show wpAny _ _ (call (Value.ref 193) [Value.str _ _, Value.bool _]) _ _ _); refine' Mine.Con.useS (Mine.con_law_mode _ _ _ ?hc) ?k1 ?k2 ?k3 ?k4 ?k5 ?kK ?kd ?ku ?_)))
  (try (case hc => first | assumption | omega))
  (case k1 => k_asm); (case k2 => k_asm); (case k3 => k_asm); (case k4 => k_asm); (case k5 => k_asm); (case kK => first | exact rfl | assumption); (case kd => ktr_room); (case ku => ktr_units)
  (intro x9 t9 h9 tk9 e9 F9 N9; (try (first | (have z9 := Mine.trim_fact e9) | (have z9 := Mine.quote_fact e9))); (try dsimp only); (try k_fold)))
  k_with "for texts" => (k_here; (rename Fr _ _ _ _ => lF'); (with_unfolding_all refine' For_invVF lF' ?k1 ?k2 ?_; (case k1 => exact rfl); (case k2 => exact rfl); k_whole))
  k_with "call ref" => (
  k_here
  (k_dflt (first
   | ((show wpAny _ _ (call (Value.ref 165) [Value.str _ _]) _ _ _); refine' Mine.Con.useS (Mine.con_concat_part _ _ ?hc) ?k1 ?k2 ?k3 ?k4 ?k5 ?kK ?kd ?ku ?_)
   | ((show wpAny _ _ (call (Value.ref 212) [Value.str _ _]) _ _ _); refine' Mine.Con.useS (Mine.con_law_part _ _ ?hc) ?k1 ?k2 ?k3 ?k4 ?k5 ?kK ?kd ?ku ?_)
   | ((show wpAny _ _ (call (Value.ref 200) [Value.str _ _, Value.bool _]) _ _ _); refine' Mine.Con.useS (Mine.con_law_written _ _ _ ?hc) ?k1 ?k2 ?k3 ?k4 ?k5 ?kK ?kd ?ku ?_)))
  (try (case hc => first | assumption | omega))
  (case k1 => k_asm); (case k2 => k_asm); (case k3 => k_asm); (case k4 => k_asm); (case k5 => k_asm); (case kK => first | exact rfl | assumption); (case kd => ktr_room); (case ku => ktr_units)
  (intro x9 t9 h9 tk9 e9 F9 N9; (try (first | (have z9 := Mine.part_fact e9) | (have z9 := Mine.quote_fact e9))); (try dsimp only); (try k_fold)))
  k_with "call ref" => (
  k_here
  (k_dflt (first
   | ((show wpAny _ _ (call (Value.ref 151) [Value.ref _]) _ _ _); refine' Mine.Con.useS (Mine.con_join_list ?hT ?hi ?hm ?hB ?hn) ?k1 ?k2 ?k3 ?k4 ?k5 ?kK ?kd ?ku ?_)
   | ((show wpAny _ _ (call (Value.ref 172) [Value.ref _]) _ _ _); refine' Mine.Con.useS (Mine.con_concat ?hT ?hi ?hm ?hB ?hn) ?k1 ?k2 ?k3 ?k4 ?k5 ?kK ?kd ?ku ?_)
   | ((show wpAny _ _ (call (Value.ref 179) [Value.ref _]) _ _ _); refine' Mine.Con.useS (Mine.con_code_text ?hT ?hi ?hm ?hB ?hn) ?k1 ?k2 ?k3 ?k4 ?k5 ?kK ?kd ?ku ?_)))
  (case hT => first | assumption | exact ⟨_, .inl rfl⟩ | exact ⟨_, .inr rfl⟩)
  (case hi => assumption)
  (case hm => first | assumption | k_memK)
  (case hB => assumption)
  (case hn => first | assumption | omega)
  (case k1 => k_asm); (case k2 => k_asm); (case k3 => k_asm); (case k4 => k_asm); (case k5 => k_asm); (case kK => first | exact rfl | assumption); (case kd => ktr_room); (case ku => ktr_units)
  (intro x9 t9 h9 tk9 e9 F9 N9; (try dsimp only); (try k_fold)))
  k_with "binaryOp Add str str" => (
  k_here
  (with_reducible show wpAny _ _ (binaryOp Operator.Add (Value.str (Str.ofString _) _) (Value.str (Str.ofString _) _)) _ _ _)
  (refine' PyProof.Rows.SBL.add ?_ ?z)
  (case z => decide +kernel)
  (intro t9 k9 z9))
  k_with "call builtin:str.replace" => (
  k_here
  (with_reducible show wpAny _ _ (call (Value.builtin "str.replace") [Value.str _ _, Value.str _ _, Value.str _ _]) _ _ _)
  (walk_at "replace by"))
  k_with "con end1" => (
  refine Mine.end1 hret (by k_asm) (by k_asm) (by first | exact Mine.sub_all (by intro p hp; repeat (first | exact hp | refine List.mem_cons_of_mem _ ?_)) | exact Mine.sub_all (by kst_inAny)) (by k_memK)
    (by first | assumption | exact PySem.W.kst_ltOf (by first | exact And.right (by assumption) | exact And.right (And.right (by assumption)) | exact And.right (And.right (And.right (by assumption))) | exact And.right (And.right (And.right (And.right (by assumption)))))) ?_)
  trivial
namespace Mine
section
variable {prog : Program} {w : World} {A : Around} {E : Value → Shared → Prop} {s : Shared} {t : Tok} {Q : Value → Shared → Prop} {h₀ : Heap} {L D : Addr} {news : List (Addr × Obj)}
theorem joinB_op {vs : List Value} {ys : List Str} {n : Nat} {R : List Nat} (N : News h₀ L s.heap news) (hm : (D, PySem.W.listOf vs.toArray n) ∈ news) (hi : StrsAre vs ys) (hj : joinB (ys.map sg) = R) (hR : R.length ≤ 1000000)
    (h : ∀ x t' k, x = S R → Q (.str x t') { s with toks := k }) : wpAny (model prog w) A (call (.builtin "str.join") [.str (Str.ofString " ") t, .ref D]) Q E s :=
  joinB_at N hm hi hj hR fun t' k => h _ t' k rfl
end
def J1 (ss : List Str) (i : Nat) (ys : List Value) : Prop := ∃ ws, StrsAre ys ws ∧ jlP ss i ws
/-- what of the parts is not empty, joined -/
def J2 (ss : List Str) (i : Nat) (ys : List Value) : Prop := ∃ ws, StrsAre ys ws ∧ ws.map sg = (ss.take i).map fun y => partL (sg y)
def J3 (us : List Str) (i : Nat) (ys : List Value) : Prop := ∃ ws, StrsAre ys ws ∧ ws.map sg = ((us.take i).map sg).filter fun l => !l.isEmpty
theorem j3_end {ss us ws : List Str} (h2 : us.map sg = (ss.take ss.length).map fun y => partL (sg y)) (h3 : ws.map sg = ((us.take us.length).map sg).filter fun l => !l.isEmpty) : joinB (ws.map sg) = concatQ ss := by
  rw [List.take_length] at h2 h3
  rw [h3, h2]
  rfl
theorem j1_turn {ss : List Str} {i : Nat} {ys : List Value} {y x : Str} {t : Tok} (h : J1 ss i ys) (hi : ss[i]? = some y) (e : x = S (quoteL y.cps.toList ((i : Int) == 0))) : J1 ss (i + 1) (ys ++ [.str x t]) := by
  obtain ⟨ws, hs, hj⟩ := h
  have hlt : i < ss.length := by
    rcases Nat.lt_or_ge i ss.length with h | h
    · exact h
    · rw [List.getElem?_eq_none h] at hi; cases hi
  have hl := jl_len hj hlt
  have := jl_turn hj hlt hi e (by rw [hl]; simp)
  rw [show (ticks (i + 1)).length = i + 1 by simp [ticks]] at this
  exact ⟨_, strs_snoc hs, this⟩
theorem j2_turn {ss : List Str} {i : Nat} {ys : List Value} {y x : Str} {t : Tok} (h : J2 ss i ys) (hi : ss[i]? = some y) (e : x = S (partL y.cps.toList)) : J2 ss (i + 1) (ys ++ [.str x t]) := by
  obtain ⟨ws, hs, hj⟩ := h
  refine ⟨_, strs_snoc hs, ?_⟩
  rw [List.take_add_one, hi, List.map_append, List.map_append, hj, e]
  show _ ++ [sg (S _)] = _
  rw [sg_S]
  rfl
theorem lists3 {a b : Str} (ha : a.length ≤ 200) (hb : b.length ≤ 200) : ∀ y ∈ [Str.ofString "\n " ++ a ++ Str.ofString " \t", Str.ofString " ", b ++ Str.ofString "\x0c"], y.length ≤ 210 := by
  have e1 : (Str.ofString "\n ").length = 2 := by decide +kernel
  have e2 : (Str.ofString " \t").length = 2 := by decide +kernel
  have e3 : (Str.ofString " ").length = 1 := by decide +kernel
  have e4 : (Str.ofString "\x0c").length = 1 := by decide +kernel
  intro y hy
  simp only [List.mem_cons, List.not_mem_nil, or_false] at hy
  rcases hy with rfl | rfl | rfl
  · rw [PySem.Str.length_append, PySem.Str.length_append]; omega
  · omega
  · rw [PySem.Str.length_append]; omega
theorem cq_size {a b x : Str} (ha : a.length ≤ 200) (hb : b.length ≤ 200) (e : x = S (concatQ [Str.ofString "\n " ++ a ++ Str.ofString " \t", Str.ofString " ", b ++ Str.ofString "\x0c"])) : x.length ≤ 4096 := by
  rw [e, S_len]
  exact Nat.le_trans (concatQ_len (lists3 ha hb)) (Nat.le_of_ble_eq_true rfl)
theorem cq_reads {ss : List Str} {a b x : Str} (hB : ∀ y ∈ ss, y.length ≤ 6) (ea : a = S (joinQ (ss.take 2))) (eb : b = S (joinQ (ss.drop 2))) (e : x = S (concatQ [Str.ofString "\n " ++ a ++ Str.ofString " \t", Str.ofString " ", b ++ Str.ofString "\x0c"])) :
    Reads x 0 ((ss.take 2).map sg ++ (ss.drop 2).map sg) := by
  rw [e]
  refine reads_concat ?_ ?_ ?_ (fun y hy => Nat.le_trans (hB y (List.mem_of_mem_take hy)) (by decide)) (fun y hy => Nat.le_trans (hB y (List.mem_of_mem_drop hy)) (by decide))
  · rw [sg_app, sg_app, ea, sg_S, show sg (Str.ofString "\n ") = [10, 32] from by decide +kernel, show sg (Str.ofString " \t") = [32, 9] from by decide +kernel]
    rfl
  · decide +kernel
  · rw [sg_app, eb, sg_S, show sg (Str.ofString "\x0c") = [12] from by decide +kernel]
theorem cq_few {ss : List Str} (hn : ss.length ≤ 8) : ((ss.take 2).map sg ++ (ss.drop 2).map sg).length ≤ 16 := by
  rw [← List.map_append, List.take_append_drop, List.length_map]; omega
theorem cq_back {ss ws : List Str} (h : ws.map sg = (ss.take 2).map sg ++ (ss.drop 2).map sg) : ws = ss := by
  rw [← List.map_append, List.take_append_drop] at h
  have h2 := congrArg (List.map S) h
  rw [List.map_map, List.map_map] at h2
  have e : (S ∘ sg) = id := funext fun x => S_sg x
  rw [e, List.map_id, List.map_id] at h2
  exact h2
/-- split_list's contract, used -/
theorem Con.useL {w : World} {mean : ExcName → Option Value} {mg mb : Str → Option Value} {f : Addr} {k : Nat} {news : Led} {vs : List Value} {xs : List (List Nat)}
    (C : Con w mean mg mb f k news vs (ListOut xs))
    {dp un : Nat} {gd : Option (List Code)} {cn : Str} {cs : Scope} {a : Addr} {ccd : Value} {cl : List (Str × Addr)} {outer : List Env} {A₀ : Around} {base h₀ : Heap} {L : Addr} {m : Str → Option Value} {s : Shared} {Q E : Value → Shared → Prop}
    (B : Below A₀ base outer h₀) (F : Fr h₀ L s.heap m) (X : (hd.heap_39 w.params).In h₀) (N : News h₀ L s.heap news) (T : Top hd.view_39 LO mean mg mb h₀) (hk : cs.kind = .function) (hd : dp + k < recursionLimit) (hu : un + 8 * k < cLine)
    (ret : ∀ D us ws n h' tk', Fr h₀ L h' m → News h₀ L h' ((D, PySem.W.listOf us.toArray n) :: news) → (∀ q ∈ news, q.1 < D) → StrsAre us ws → ws.map sg = xs → Q (.ref D) { s with heap := h', toks := tk' }) :
    wpAny (model PySem.Challenge.rw_np0133_01.row.prog w) (ktrTop dp un gd cn cs L a ccd cl outer) (call (.ref f) vs) Q E s := by
  refine C _ _ _ _ _ _ _ _ _ _ _ _ _ _ _ _ _ B F X N T hk hd hu ?_
  rintro r tl h' tk' F' N' o' ⟨D, us, ws, n, rfl, rfl, hs, hw⟩
  refine ret D us ws n h' tk' F' (fun p hp => N' p ?_) (fun q hq => o' q hq _ (List.mem_singleton.mpr rfl)) hs hw
  rcases List.mem_cons.mp hp with rfl | hp
  · exact List.mem_append.mpr (.inr (List.mem_singleton.mpr rfl))
  · exact List.mem_append.mpr (.inl hp)
theorem j2_len {ss us : List Str} (hn : ss.length ≤ 8) (h : us.map sg = (ss.take ss.length).map fun y => partL (sg y)) : us.length ≤ 8 := by
  have := congrArg List.length h
  rw [List.length_map, List.length_map, List.take_length] at this
  omega
theorem j3_yes {us : List Str} {i : Nat} {ys : List Value} {y : Str} {t : Tok} (h : J3 us i ys) (hi : us[i]? = some y) (e : (y != Str.ofString "") = true) : J3 us (i + 1) (ys ++ [.str y t]) := by
  obtain ⟨ws, hs, hj⟩ := h
  refine ⟨_, strs_snoc hs, ?_⟩
  rw [sg_nil] at e
  rw [List.take_add_one, hi, List.map_append, List.map_append, hj, List.filter_append]
  show _ = _ ++ List.filter _ [sg y]
  rw [List.filter_cons, if_pos e]
  rfl
theorem j3_no {us : List Str} {i : Nat} {ys : List Value} {y : Str} (h : J3 us i ys) (hi : us[i]? = some y) (e : (y != Str.ofString "") = false) : J3 us (i + 1) ys := by
  obtain ⟨ws, hs, hj⟩ := h
  refine ⟨_, hs, ?_⟩
  rw [sg_nil] at e
  rw [List.take_add_one, hi, List.map_append, hj, List.filter_append]
  show _ = _ ++ List.filter _ [sg y]
  rw [List.filter_cons, if_neg (by simp [e])]
  simp
end Mine
theorem Mine.wAj0 : True := by
  k_with "eval ListComp" => (k_here; k_dflt (refine Mine.cg_eval (_F₀ := by k_asm) (by with_unfolding_all rfl) (by rfl) (by decide) ?_))
  k_with "exec Assign cons ListComp" => (k_here; k_dflt (refine Mine.cg_assign (_F₀ := by k_asm) (by rfl) (by with_unfolding_all rfl) (by with_unfolding_all rfl) (by rfl) (by decide) (by rfl) (by rfl) ?_))
  k_with "call type:enumerate" => (
  k_here
  (k_dflt (
    (refine' Mine.cg_enum_list (ss := ss) (Mine.J1 ss) ?k1 ?k2 ?k3 ?k3b ?k3c ?k4 ?k5 ?k6 ?k7 ?k8 ?k9 ?k10 ?k11 ?_ ?_)
    (case k1 => exact rfl)
    (case k2 => exact .inl rfl)
    (case k3 => first | exact hm | k_memK)
    (case k3b => exact hi)
    (case k3c => exact Nat.le_trans hn (by decide))
    (case k4 => decide)
    (case k5 => rfl)
    (case k6 => rfl)
    (case k7 => rfl)
    (case k8 => decide)
    (case k9 => k_asm)
    (case k10 => k_asm)
    (case k11 => exact ⟨[], .nil, rfl⟩)
    (case' _ => intro i' ys' y' u' t' e' oe' it' oi' C' oC' D' m' h' tk' E' hi' hJ' hx' hy' hC' F' N'; have hB' := Nat.le_trans (hB y' (List.mem_of_getElem? hi')) (by decide : 6 ≤ 4096))
    rotate_left
    (case' _ => intro g' ys' hJ'; unfold Mine.CgE; intro D' h' tk' F' N' o1'; (try (k_lt o1')); obtain ⟨ws1, hs1, hj1⟩ := hJ')
    (all_goals (try unfold Mine.TestThen))
    (all_goals (try dsimp only))
    (all_goals (try k_fold)))))
  k_with "TurnEnd" => (refine Mine.turn_end (by k_asm) (by k_asm) (by first | exact Mine.sub_all (by intro p hp; repeat (first | exact hp | refine List.mem_cons_of_mem _ ?_)) | exact Mine.sub_all (by kst_inAny)) ?_)
  k_with "call builtin:str.join" => (
  k_here
  (k_dflt (
    (refine' Mine.joinB_op ?k1 ?k2 ?k3 ?k4 ?k5 ?_)
    (case k1 => k_asm)
    (case k2 => k_memK)
    (case k3 => assumption)
    (case k4 => walk_at "join is")
    (case k5 => walk_at "join size")
    (intro x7 t7 k7 e7; (try dsimp only); (try k_fold)))))
  k_with "join is" => first | exact Mine.jl_end hj1 | exact Mine.j3_end hj2 hj3
  k_with "join size" => first
  | exact Nat.le_trans (Mine.joinQ_len hB) (Nat.le_trans (Nat.mul_le_mul_right _ hn) (by decide))
  | exact Nat.le_trans (Mine.concatQ_len hB) (Nat.le_trans (Nat.mul_le_mul_right _ hn) (by decide))
  k_with "call type:tuple" => (
  k_here
  (k_dflt (
    (refine' Mine.tuple_texts ?k1 ?k2 ?k3 ?k4 ?k5 ?_)
    (case k1 => k_asm)
    (case k2 => k_asm)
    (case k3 => first | k_memK | (repeat (first | exact hm | refine List.mem_cons_of_mem _ ?_)))
    (case k4 => assumption)
    (case k5 => exact Nat.le_trans hn (by decide))
    (intro D6 h6 F6 N6 o6; (try (k_lt o6)); (try dsimp only); (try k_fold)))))
  k_with "call ref" => (
  k_here
  (k_dflt (first
   | ((show wpAny _ _ (call (Value.ref 179) [Value.str _ _]) _ _ _); refine' Mine.Con.useS (Mine.con_code_textS _ _) ?k1 ?k2 ?k3 ?k4 ?k5 ?kK ?kd ?ku ?_)
   | ((show wpAny _ _ (call (Value.ref 179) [Value.ref _]) _ _ _); refine' Mine.Con.useS (Mine.con_code_text ?hT ?hi ?hm ?hB ?hn) ?k1 ?k2 ?k3 ?k4 ?k5 ?kK ?kd ?ku ?_)
   | ((show wpAny _ _ (call (Value.ref 151) [Value.ref _]) _ _ _); refine' Mine.Con.useS (Mine.con_join_list ?hT ?hi ?hm ?hB ?hn) ?k1 ?k2 ?k3 ?k4 ?k5 ?kK ?kd ?ku ?_)
   | ((show wpAny _ _ (call (Value.ref 172) [Value.ref _]) _ _ _); refine' Mine.Con.useS (Mine.con_concat ?hT ?hi ?hm ?hB ?hn) ?k1 ?k2 ?k3 ?k4 ?k5 ?kK ?kd ?ku ?_)))
  (case k4 => k_asm)
  (try (case hm => first | k_memK | (repeat (first | exact hm | refine List.mem_cons_of_mem _ ?_))))
  (try (case hT => first | exact ⟨_, .inl rfl⟩ | exact ⟨_, .inr rfl⟩ | exact ⟨_, rfl⟩))
  (try (case hi => first | assumption | exact PyProof.Rows.StrsAre.cons _ _ (PyProof.Rows.StrsAre.cons _ _ (PyProof.Rows.StrsAre.cons _ _ PyProof.Rows.StrsAre.nil))))
  (try (case hB => walk_at "texts size"))
  (try (case hn => walk_at "texts few"))
  (case k1 => k_asm); (case k2 => k_asm); (case k3 => k_asm); (case k5 => k_asm); (case kK => first | exact rfl | assumption); (case kd => ktr_room); (case ku => ktr_units)
  (intro x9 t9 h9 tk9 e9 F9 N9; (try (first | have z9 := Mine.jq_take hB e9 | have z9 := Mine.jq_drop hB hn e9)); (try dsimp only); (try k_fold)))
  k_with "texts size" => first
  | exact fun y hy => Nat.le_trans (hB y hy) (by decide)
  | exact fun y hy => Nat.le_trans (hB y (List.mem_of_mem_take hy)) (by decide)
  | exact fun y hy => Nat.le_trans (hB y (List.mem_of_mem_drop hy)) (by decide)
  | exact fun y hy => Nat.le_trans (Mine.lists3 (by assumption) (by assumption) y hy) (by decide)
  k_with "texts few" => first
  | exact Nat.le_trans hn (by decide)
  | exact Nat.le_trans (List.length_take_le _ _) (by decide)
  | (rw [List.length_drop]; omega)
  | exact Nat.le_of_ble_eq_true rfl
  k_with "compareOp NotEq str str" => (k_here; (refine' Mine.ne_same ?ke ?_); (case ke => first | (with_reducible assumption) | exact (by assumption : _ = _).trans (Eq.symm (by assumption))))
  trivial
namespace Mine
theorem jq_take {ss : List Str} {x : Str} (hB : ∀ y ∈ ss, y.length ≤ 6) (e : x = S (joinQ (ss.take 2))) : x.length ≤ 200 := by
  rw [e, S_len]
  have h1 := joinQ_len (ss := ss.take 2) (B := 6) fun y hy => hB y (List.mem_of_mem_take hy)
  have h2 : (ss.take 2).length ≤ 2 := by rw [List.length_take]; exact Nat.min_le_left _ _
  have h3 := Nat.mul_le_mul_right (2 * 6 + 3) h2
  omega
theorem jq_drop {ss : List Str} {x : Str} (hB : ∀ y ∈ ss, y.length ≤ 6) (hn : ss.length ≤ 8) (e : x = S (joinQ (ss.drop 2))) : x.length ≤ 200 := by
  rw [e, S_len]
  have h1 := joinQ_len (ss := ss.drop 2) (B := 6) fun y hy => hB y (List.mem_of_mem_drop hy)
  have h2 : (ss.drop 2).length ≤ 8 := by rw [List.length_drop]; omega
  have h3 := Nat.mul_le_mul_right (2 * 6 + 3) h2
  omega
end Mine
theorem Mine.wAj1 : True := by
  k_with "CgSrc" => (
  k_here
  (k_dflt (
    (first
      | ((with_reducible show Mine.CgSrc _ _ _ _ _ _ _ _ _ [] _ _ _ _ _ _ _ _); refine' Mine.cg_list (ss := ss) (Mine.J2 ss) ?k1 ?k2 ?k3 ?k3b ?k3c ?k4 ?k5 ?k6 ?k9 ?k10 ?k11 ?_ ?_)
      | (refine' Mine.cg_list (ss := us2) (Mine.J3 us2) ?k1 ?k2 ?k3 ?k3b ?k3c ?k4 ?k5 ?k6 ?k9 ?k10 ?k11 ?_ ?_))
    (case k1 => exact rfl)
    (case k2 => first | exact .inl rfl | exact .inr ⟨_, rfl⟩)
    (case k10 => k_asm)
    (case k3 => first | k_memK | (repeat (first | exact hm | refine List.mem_cons_of_mem _ ?_)))
    (case k3b => assumption)
    (case k3c => first | exact Nat.le_trans hn (by decide) | exact Nat.le_trans hl2 (by decide))
    (case k4 => decide)
    (case k5 => rfl)
    (case k6 => rfl)
    (case k9 => k_asm)
    (case k11 => exact ⟨[], .nil, rfl⟩)
    (case' _ => intro i' ys' y' u' I' oI' C' oC' D' m' h' tk' E' hi' hJ' hy' hC' F' N'; (try have hB' := Nat.le_trans (hB y' (List.mem_of_getElem? hi')) (by decide : 6 ≤ 4096)))
    rotate_left
    (first
      | (case' _ => intro ys2 hJ'; unfold Mine.CgA; intro D2 h' tk' F' N' o2'; (try (k_lt o2')); obtain ⟨us2, hs2, hj2⟩ := hJ'; have hl2 := Mine.j2_len hn hj2)
      | (case' _ => intro ys3 hJ'; unfold Mine.CgE; intro D3 h' tk' F' N' o3'; (try (k_lt o3')); obtain ⟨us3, hs3, hj3⟩ := hJ'))
    (all_goals (try unfold Mine.TestThen))
    (all_goals (try dsimp only))
    (all_goals (try k_fold)))))
  k_with "subscriptTail Name Slice ref ref" => (
  k_here
  (k_dflt (
    (first
      | ((with_reducible show wpAny _ _ (subscriptTail _ (PySem.Expr.Slice none _ _ _) _ _) _ _ _); refine' Mine.slice_texts ?zF9 ?zN9 ?zm9 ?zp9 ?zq9 (Mine.texts_to hi) ?_ ?zz9 ?zs9 ?zt9)
      | (refine' Mine.slice_texts ?zF9 ?zN9 ?zm9 ?zp9 ?zq9 (Mine.texts_from hi) ?_ ?zz9 ?zs9 ?zt9))
    (case zF9 => k_asm)
    (case zN9 => k_asm)
    (case zm9 => first | k_memK | (repeat (first | exact hm | refine List.mem_cons_of_mem _ ?_)))
    (case zp9 => first | exact IsPart.none | exact IsPart.int _ _)
    (case zq9 => first | exact IsPart.none | exact IsPart.int _ _)
    (case zz9 => (rw [Mine.strs_len hi]; omega))
    (case zs9 => with_unfolding_all rfl)
    (case zt9 => kmk_pure)
    (intro D4 ws4 h4 F4 N4 o4 hs4; (try (k_lt o4)); (try dsimp only); (try k_fold)))))
  k_with "call ref" => (
  k_here
  (k_dflt (
    (show wpAny _ _ (call (Value.ref 122) [Value.str _ _]) _ _ _)
    (refine' Mine.Con.useL (Mine.con_split _ _ ((List.take 2 ss).map Mine.sg ++ (List.drop 2 ss).map Mine.sg) ?hc (Mine.cq_few hn) ?hr) ?k1 ?k2 ?k3 ?k4 ?k5 ?kK ?kd ?ku ?_)
    (case hc => exact Mine.cq_size (by assumption) (by assumption) e9)
    (case hr => exact Mine.cq_reads hB (by assumption) (by assumption) e9)
    (case k1 => k_asm); (case k2 => k_asm); (case k3 => k_asm); (case k4 => k_asm); (case k5 => k_asm); (case kK => first | exact rfl | assumption); (case kd => ktr_room); (case ku => ktr_units)
    (intro D8 us8 ws8 n8 h8 tk8 F8 N8 o8 hs8 hw8; (try (k_lt o8)); (try dsimp only); (try k_fold)))))
  k_with "compareOp Eq ref ref" => (k_here; k_dflt (
  (refine' Mine.eq_texts_same ?q1 ?q2 hs8 hi (Mine.cq_back hw8) ?q3 ?_)
  (case q1 => exact News.isList (by k_asm) (by k_memK))
  (case q2 => exact News.isList (by k_asm) (by first | k_memK | (repeat (first | exact hm | refine List.mem_cons_of_mem _ ?_))))
  (case q3 => first | ktr_units | (ktr_unf; ktr_units) | ke_room)))
  trivial
namespace Mine
theorem con_law_are_joined {w mean mg mb news} {l : Addr} {vs : List Value} {n : Nat} {ss : List Str} (hi : StrsAre vs ss) (hm : (l, PySem.W.listOf vs.toArray n) ∈ news) (hB : ∀ y ∈ ss, y.length ≤ 6) (hn : ss.length ≤ 8) : Con w mean mg mb 224 20 news [.ref l] (fun v tl => v = .bool true ∧ tl = []) := by
  walk_at "con in0"
  k_dflt (refine' code_def (binds := [(Str.ofString "items", .ref l)]) ?k1 ?k2 ?k3 ?k4 ?k5 ?kA ?kF ?kK ?k6 ?k7 ?k8 ?k9 ?kB ?_ ?c2 ?c3 ?c4 ?c5; walk_at "con args")
  walk_at "steps"
  all_goals first
    | exact j1_turn hJ' hi' e9
    | exact j2_turn hJ' hi' e9
    | exact j3_yes hJ' hi' (by assumption)
    | exact j3_no hJ' hi' (by assumption)
    | (walk_at "con end"; exact ⟨rfl, rfl⟩)
end Mine
end PartAj
theorem Mine.wLa : True := by
  k_with_none
  k_with "con in" => (
  w_top off
  unfold Mine.Con
  k_fill
  intro dp un gd cn cs a ccd cl outer A₀ base h₀ L m s Q E B F X N T hk hd hu hret
  refine wpAny_call ?_
  k_dflt cell_enter)
  k_with "con in0" => (
  w_top off
  unfold Mine.Con
  k_fill
  intro dp un gd cn cs a ccd cl outer A₀ base h₀ L m s Q E B F X N T hk hd hu hret
  refine wpAny_call ?_)
  k_with "con args" => (
  (case kA => exact rfl); (case kF => exact rfl); (case kK => assumption); (case k1 => k_asm); (case k2 => k_asm); (case k3 => k_asm); (case k4 => k_asm); (case k5 => k_asm); (case k6 => k_is); (case k7 => k_is); (case k8 => ktr_room); (case k9 => first | exact BindsTo.of_eq rfl | exact binds_K (by k_in) rfl (by k_is) rfl rfl rfl); (case c5 => decide); (case kB => exact locs rfl); (case c2 => exact rfl); (case c3 => exact rfl); (case c4 => exact rfl); k_whole; intro g' L' h' FG' F' N' B' X' T'; (try dsimp only); (try k_fold))
  k_with "con end" => (
  refine Mine.end0 hret (by k_asm) (by k_asm) (by first | exact Mine.sub_all (by intro p hp; repeat (first | exact hp | refine List.mem_cons_of_mem _ ?_)) | exact Mine.sub_all (by kst_inAny)) ?_)
  k_with "con use0" => (
  (case k1 => k_asm); (case k2 => k_asm); (case k3 => k_asm); (case k4 => k_asm); (case k5 => k_asm); (case kK => first | exact rfl | assumption); (case kd => ktr_room); (case ku => ktr_units))
  k_with "call ref" => (
  k_here
  (show wpAny _ _ (call (Value.ref 52) [Value.str _ _]) _ _ _)
  (k_dflt (refine' Mine.Con.use0 (Mine.con_is_blank _ _) ?k1 ?k2 ?k3 ?k4 ?k5 ?kK ?kd ?ku ?_; (case k1 => k_asm); (case k2 => k_asm); (case k3 => k_asm); (case k4 => k_asm); (case k5 => k_asm); (case kK => first | exact rfl | assumption); (case kd => ktr_room); (case ku => ktr_units)))
  (intro r9 h9 tk9 F9 N9 hr9; subst hr9; (try dsimp only); (try k_fold)))
  k_with "step" => (first
  | (k_unfold; (try dsimp only))
  | (refine Mine.ap2 ?_; k_unfold; (try dsimp only))
  | (k_end; kc_close)
  | ((fail_if_success (with_reducible show wpAny _ _ (exec (Stmt.While _ _ _ _) _) _ _ _)); first | walk1 | (dsimp only; walk1))
  | (leave1; (try dsimp only))
  | fail "no step")
  k_with "steps" => repeat' walk_at "step"
  k_with "eval BoolOp" => (
  k_here
  (k_dflt (first
   | (refine' Mine.or_names ?k1 ?k2 ?k3 ?_; (case k1 => k_asm); (case k2 => rfl); (case k3 => rfl))
   | (refine' Mine.and_name_eq ?k1 ?k2 ?k3 ?_; (case k1 => k_asm); (case k2 => rfl); (case k3 => rfl))))
  k_whole)
  k_with "drop" => (
  (rename News _ _ _ _ => nX)
  (have nY := cb_drop (news := news) nX (by intro p hp; repeat (first | exact hp | refine List.mem_cons_of_mem _ ?_)))
  (clear nX))
  k_with "KswEnd" => (
  (rename News _ _ _ _ => nE')
  (try simp only [List.push_toArray] at nE')
  (first
    | (refine' ksw_end ⟨_,_,_,_,_,_,_⟩ ?e1 nE' ?e2 ?e3 ?e4 ?e5 ?e6 ?e7)
    | (refine' ksw_end ⟨_,_,_,_⟩ ?e1 nE' ?e2 ?e3 ?e4 ?e5 ?e6 ?e7)
    | (refine' ksw_end ⟨_,_⟩ ?e1 nE' ?e2 ?e3 ?e4 ?e5 ?e6 ?e7)
    | (refine' ksw_end ⟨_,_,_,_,_⟩ ?e1 nE' ?e2 ?e3 ?e4 ?e5 ?e6 ?e7))
  (case e1 => assumption)
  (case e2 => first | exact Mine.sub_all (by intro p hp; repeat (first | exact hp | refine List.mem_cons_of_mem _ ?_)) | kst_in)
  (case e3 => kst_facts)
  (case e4 => kst_all)
  (case e5 => ksw_same)
  (case e6 => kst_p)
  (case e7 => ksw_less))
  k_with "exec If" => refine wpAny_If ?_
  k_with "call ref" => (
  k_here
  (k_dflt (first
   | ((show wpAny _ _ (call (Value.ref 129) [Value.str _ _, Value.bool _]) _ _ _); refine' Mine.Con.useS (Mine.con_mode_of _ _ _ ?hc) ?k1 ?k2 ?k3 ?k4 ?k5 ?kK ?kd ?ku ?_)
   | ((show wpAny _ _ (call (Value.ref 136) [Value.str _ _, Value.bool _]) _ _ _); refine' Mine.Con.useS (Mine.con_escaped _ _ _) ?k1 ?k2 ?k3 ?k4 ?k5 ?kK ?kd ?ku ?_)))
  (try (case hc => first | assumption | omega))
  (case k1 => k_asm); (case k2 => k_asm); (case k3 => k_asm); (case k4 => k_asm); (case k5 => k_asm); (case kK => first | exact rfl | assumption); (case kd => ktr_room); (case ku => ktr_units)
  (intro x9 t9 h9 tk9 e9 F9 N9; (try dsimp only); (try k_fold)))
  k_with "call builtin:str.join" => (
  k_here
  (k_dflt (first
   | ((with_reducible show wpAny _ _ (call (Value.builtin "str.join") [Value.str (Str.ofString "") _, Value.ref _]) _ _ _); refine' Mine.join0_at ?k1 ?k2 ?k3 ?k4 ?k5 ?_)
   | ((with_reducible show wpAny _ _ (call (Value.builtin "str.join") [Value.str (Str.ofString " ") _, Value.ref _]) _ _ _); refine' Mine.joinB_at ?k1 ?k2 ?k3 ?k4 ?k5 ?_)))
  (case k1 => k_asm); (case k2 => k_memK); (case k3 => k_asm); (case k4 => first | assumption | exact rfl); (case k5 => walk_at "join size")
  (intro t9 k9; (try dsimp only); (try k_fold)))
  k_with "call ref" => (
  k_here
  (with_reducible show wpAny _ _ (call (Value.ref 129) [Value.str (Str.ofString "") _, Value.bool _]) _ _ _)
  (k_dflt (refine' Mine.Con.use0 (Mine.con_mode_of0 _ _) ?k1 ?k2 ?k3 ?k4 ?k5 ?kK ?kd ?ku ?_))
  (case k1 => k_asm); (case k2 => k_asm); (case k3 => k_asm); (case k4 => k_asm); (case k5 => k_asm); (case kK => first | exact rfl | assumption); (case kd => ktr_room); (case ku => ktr_units)
  (intro r9 h9 tk9 F9 N9 hr9; (obtain ⟨t9, hr9⟩ := hr9); subst hr9; (try dsimp only); (try k_fold)))
  k_with "con argsC" => (
  (case kA => exact rfl); (case kF => exact rfl); (case kK => assumption); (case k1 => k_asm); (case k2 => k_asm); (case k3 => k_asm); (case k4 => k_asm); (case k5 => k_asm); (case k6 => k_is); (case k7 => k_is); (case k8 => ktr_room); (case k9 => first | exact BindsTo.of_eq rfl | exact binds_K (by k_in) rfl (by k_is) rfl rfl rfl); (case kB => exact rfl); (case kD => decide +kernel); (case c2 => exact rfl); (case c3 => exact rfl); (case c4 => exact rfl); k_whole; intro g' L' h' tk' cells' FG' F' N' Y' B' X' T' l1; (try k_lt l1); k_cells Y'; (try simp only [List.cons_append, List.nil_append] at N'); (try dsimp only); (try k_fold))
  k_with "call ref" => (
  k_here
  (k_dflt (first
   | ((show wpAny _ _ (call (Value.ref 158) [Value.str _ _]) _ _ _); refine' Mine.Con.useS (Mine.con_trim _ _ ?hc) ?k1 ?k2 ?k3 ?k4 ?k5 ?kK ?kd ?ku ?_)
   | ((show wpAny _ _ (call (Value.ref 205) [Value.str _ _]) _ _ _); refine' Mine.Con.useS (Mine.con_law_trimmed _ _ ?hc) ?k1 ?k2 ?k3 ?k4 ?k5 ?kK ?kd ?ku ?_)
   | ((show wpAny _ _ (call (Value.ref 144) [Value.str _ _, Value.bool _]) _ _ _); refine' Mine.Con.useS (Mine.con_quote _ _ _ ?hc) ?k1 ?k2 ?k3 ?k4 ?k5 ?kK ?kd ?ku ?_)
   | ((show wpAny _ _ (call (Value.ref 144) [Value.str _ _]) _ _ _); refine' Mine.Con.useS (Mine.con_quoteD _ _ ?hc) ?k1 ?k2 ?k3 ?k4 ?k5 ?kK ?kd ?ku ?_)
   | ((show wpAny _ _ (call (Value.ref 193) [Value.str _ _, Value.bool _]) _ _ _); refine' Mine.Con.useS (Mine.con_law_mode _ _ _ ?hc) ?k1 ?k2 ?k3 ?k4 ?k5 ?kK ?kd ?ku ?_)))
  (try (case hc => first | assumption | omega))
  (case k1 => k_asm); (case k2 => k_asm); (case k3 => k_asm); (case k4 => k_asm); (case k5 => k_asm); (case kK => first | exact rfl | assumption); (case kd => ktr_room); (case ku => ktr_units)
  (intro x9 t9 h9 tk9 e9 F9 N9; (try (first | (have z9 := Mine.trim_fact e9) | (have z9 := Mine.quote_fact e9))); (try dsimp only); (try k_fold)))
  k_with "for texts" => (k_here; (rename Fr _ _ _ _ => lF'); (with_unfolding_all refine' For_invVF lF' ?k1 ?k2 ?_; (case k1 => exact rfl); (case k2 => exact rfl); k_whole))
  k_with "call ref" => (
  k_here
  (k_dflt (first
   | ((show wpAny _ _ (call (Value.ref 165) [Value.str _ _]) _ _ _); refine' Mine.Con.useS (Mine.con_concat_part _ _ ?hc) ?k1 ?k2 ?k3 ?k4 ?k5 ?kK ?kd ?ku ?_)
   | ((show wpAny _ _ (call (Value.ref 212) [Value.str _ _]) _ _ _); refine' Mine.Con.useS (Mine.con_law_part _ _ ?hc) ?k1 ?k2 ?k3 ?k4 ?k5 ?kK ?kd ?ku ?_)
   | ((show wpAny _ _ (call (Value.ref 200) [Value.str _ _, Value.bool _]) _ _ _); refine' Mine.Con.useS (Mine.con_law_written _ _ _ ?hc) ?k1 ?k2 ?k3 ?k4 ?k5 ?kK ?kd ?ku ?_)))
  (try (case hc => first | assumption | omega))
  (case k1 => k_asm); (case k2 => k_asm); (case k3 => k_asm); (case k4 => k_asm); (case k5 => k_asm); (case kK => first | exact rfl | assumption); (case kd => ktr_room); (case ku => ktr_units)
  (intro x9 t9 h9 tk9 e9 F9 N9; (try (first | (have z9 := Mine.part_fact e9) | (have z9 := Mine.quote_fact e9))); (try dsimp only); (try k_fold)))
  k_with "call ref" => (
  k_here
  (k_dflt (first
   | ((show wpAny _ _ (call (Value.ref 151) [Value.ref _]) _ _ _); refine' Mine.Con.useS (Mine.con_join_list ?hT ?hi ?hm ?hB ?hn) ?k1 ?k2 ?k3 ?k4 ?k5 ?kK ?kd ?ku ?_)
   | ((show wpAny _ _ (call (Value.ref 172) [Value.ref _]) _ _ _); refine' Mine.Con.useS (Mine.con_concat ?hT ?hi ?hm ?hB ?hn) ?k1 ?k2 ?k3 ?k4 ?k5 ?kK ?kd ?ku ?_)
   | ((show wpAny _ _ (call (Value.ref 179) [Value.ref _]) _ _ _); refine' Mine.Con.useS (Mine.con_code_text ?hT ?hi ?hm ?hB ?hn) ?k1 ?k2 ?k3 ?k4 ?k5 ?kK ?kd ?ku ?_)))
  (case hT => first | assumption | exact ⟨_, .inl rfl⟩ | exact ⟨_, .inr rfl⟩)
  (case hi => assumption)
  (case hm => first | assumption | k_memK)
  (case hB => assumption)
  (case hn => first | assumption | omega)
  (case k1 => k_asm); (case k2 => k_asm); (case k3 => k_asm); (case k4 => k_asm); (case k5 => k_asm); (case kK => first | exact rfl | assumption); (case kd => ktr_room); (case ku => ktr_units)
  (intro x9 t9 h9 tk9 e9 F9 N9; (try dsimp only); (try k_fold)))
  k_with "binaryOp Add str str" => (
  k_here
  (with_reducible show wpAny _ _ (binaryOp Operator.Add (Value.str (Str.ofString _) _) (Value.str (Str.ofString _) _)) _ _ _)
  (refine' PyProof.Rows.SBL.add ?_ ?z)
  (case z => decide +kernel)
  (intro t9 k9 z9))
  k_with "call builtin:str.replace" => (
  k_here
  (with_reducible show wpAny _ _ (call (Value.builtin "str.replace") [Value.str _ _, Value.str _ _, Value.str _ _]) _ _ _)
  (walk_at "replace by"))
  k_with "con end1" => (
  refine Mine.end1 hret (by k_asm) (by k_asm) (by first | exact Mine.sub_all (by intro p hp; repeat (first | exact hp | refine List.mem_cons_of_mem _ ?_)) | exact Mine.sub_all (by kst_inAny)) (by k_memK)
    (by first | assumption | exact PySem.W.kst_ltOf (by first | exact And.right (by assumption) | exact And.right (And.right (by assumption)) | exact And.right (And.right (And.right (by assumption))) | exact And.right (And.right (And.right (And.right (by assumption)))))) ?_)
  trivial
theorem Mine.wLa0 : True := by
  k_with "exec For Name BinOp cons nil" => walk_at "for texts"
  k_with "exec Assign cons ListComp" => (k_here; k_dflt (refine LCg.Assign_ListComp_U (F₀ := by k_asm) (by rfl) (by with_unfolding_all rfl) (by with_unfolding_all rfl) (by decide) (by rfl) (by decide) (by rfl) (by rfl) (by rfl) ?_))
  k_with "CompEnd" => (k_here; refine Mine.comp_end (by k_asm) (by k_asm) (by assumption) (Mine.src_mem (by k_memK)) (by assumption))
  k_with "call ref" => (
  k_here
  (with_reducible show wpAny _ _ (call (Value.ref 188) [Value.int _ _]) _ _ _)
  (k_dflt (refine' Mine.Con.useX (Mine.con_law_text _ _) ?k1 ?k2 ?k3 ?k4 ?k5 ?kK ?kd ?ku ?_))
  (case k1 => k_asm); (case k2 => k_asm); (case k3 => k_asm); (case k4 => k_asm); (case k5 => k_asm); (case kK => first | exact rfl | assumption); (case kd => ktr_room); (case ku => ktr_units)
  (intro x9 t9 h9 tk9 z9 F9 N9; (try dsimp only); (try k_fold)))
  k_with "CompSrc" => (
  k_here
  (k_dflt (
    (refine LCg.CompSrc.ledger (by rfl) (by k_asm) (by k_asm) (by k_memK) (by ((have q9 := IntsAre.length (by assumption : IntsAre _ (List.take 4 _))); rw [List.size_toArray, PySem.sizeLine_eq]; omega)) ?_)
    (intro g')
    (refine' Mine.comp_any (fun _ r => r.length ≤ 6) ?turn ?fin)
    (case' turn => (intro i' v' I' oI' C' oC' D' m' ys' h' tk' E' hi' hv' hC' hx' F' N' off' ne'; obtain ⟨k', t', hvk⟩ := Mine.ints_at (by assumption) hv'; subst hvk))
    (case' fin => intro ys' ws' hys' hws' hR' D' h' tk' F' N' off')
    (all_goals (try dsimp only))
    (all_goals (try k_fold)))))
  trivial
namespace Mine
def ownT : List Str := [Str.ofString "", Str.ofString "#", Str.ofString "#a]{}", Str.ofString "a{b}c", Str.ofString "{a}", Str.ofString "\"", Str.ofString "a\"", Str.ofString "]}{", Str.ofString "\\{", Str.ofString "\\\\}", Str.ofString "a\\", Str.ofString "b\\\\", Str.ofString "\\\n", Str.ofString "\\\\\n", Str.ofString "{", Str.ofString "#}", Str.ofString "a$", Str.ofString "a[", Str.ofString "a;", Str.ofString "}][$; \\\"{\x0c\n\x0d\t\x0b#"]
def moreT : List Str := [Str.ofString "#c", Str.ofString "\x0b a\\ \n", Str.ofString "\x0c\t", Str.ofString "} "]
end Mine
theorem Mine.wLa1 : True := by
  k_with "call type:list" => (
  k_here
  (with_reducible show wpAny _ _ (call (Value.type _) [Value.ref _]) _ _ _)
  (k_dflt (
    (first
      | ((refine' Mine.list_ofK (ss := Mine.ownT) ?k1 ?k2 ?k3 ?k4 ?k5 ?k6 ?k7 ?_ ?k8); (case k1 => k_asm); (case k2 => k_asm); (case k3 => k_asm); (case k4 => k_is); (case k5 => exact rfl); (case k6 => exact rfl); (case k7 => (unfold Mine.ownT; repeat (first | exact PyProof.Rows.StrsAre.nil | refine PyProof.Rows.StrsAre.cons _ _ ?_))); (case k8 => decide))
      | ((refine' Mine.list_ofK (ss := Mine.moreT) ?k1 ?k2 ?k3 ?k4 ?k5 ?k6 ?k7 ?_ ?k8); (case k1 => k_asm); (case k2 => k_asm); (case k3 => k_asm); (case k4 => k_is); (case k5 => exact rfl); (case k6 => exact rfl); (case k7 => (unfold Mine.moreT; repeat (first | exact PyProof.Rows.StrsAre.nil | refine PyProof.Rows.StrsAre.cons _ _ ?_))); (case k8 => decide)))
    (intro D7 c7 h7 F7 N7 l7 hs7; (try (k_lt l7)); (try dsimp only); (try k_fold)))))
  k_with "glue size" => ((have q9 := IntsAre.length (by assumption : IntsAre _ (List.take 4 _))); simp only [List.length_append, Mine.ownT, Mine.moreT, List.length_cons, List.length_nil, List.size_toArray] at *; omega)
  k_with "binaryOp Add ref ref" => (
  k_here
  (k_dflt (
    (refine' Mine.add_texts ?k1 ?k2 ?k3 ?k4 ?k5 ?k6 ?_ ?k7)
    (case k1 => k_asm); (case k2 => k_asm); (case k3 => k_memK); (case k4 => k_memK); (case k5 => assumption); (case k6 => assumption)
    (case k7 => walk_at "glue size")
    (intro D7 ws7 h7 F7 N7 l7 hs7; (try (k_lt l7)); (try dsimp only); (try k_fold)))))
  trivial
namespace Mine
theorem all6 {ws : List Str} (h : ∀ (i : Nat) (r : Str), ws[i]? = some r → r.length ≤ 6) : ∀ y ∈ ws, y.length ≤ 6 := fun y hy => by
  obtain ⟨i, hi⟩ := List.getElem?_of_mem hy
  exact h i y hi
theorem eight {ws : List Str} {vs : List Value} {ns : List Int} (hw : ws.length = vs.toArray.size) (hi : IntsAre vs (List.take 4 ns)) : (ws ++ moreT).length ≤ 8 := by
  have q9 := IntsAre.length hi
  rw [List.length_take] at q9
  rw [List.size_toArray] at hw
  rw [List.length_append, hw, q9]
  show _ + 4 ≤ 8
  omega
theorem law_B {ws : List Str} (h : ∀ (i : Nat) (r : Str), ws[i]? = some r → r.length ≤ 6) : ∀ y ∈ (ownT ++ moreT) ++ ws, y.length ≤ 4096 := by
  intro y hy
  rcases List.mem_append.mp hy with h1 | h1
  · have k : ∀ y ∈ ownT ++ moreT, y.length ≤ 4096 := by decide +kernel
    exact k y h1
  · exact Nat.le_trans (all6 h y h1) (by decide)
theorem law_B6 {ws : List Str} (h : ∀ (i : Nat) (r : Str), ws[i]? = some r → r.length ≤ 6) : ∀ y ∈ ws ++ moreT, y.length ≤ 6 := by
  intro y hy
  rcases List.mem_append.mp hy with h1 | h1
  · exact all6 h y h1
  · have k : ∀ y ∈ moreT, y.length ≤ 6 := by decide +kernel
    exact k y h1
end Mine
theorem Mine.wLa2 : True := by
  k_with "pyIter ref" => (
  k_here
  (with_reducible show wpAny _ _ (pyIter (Value.ref _)) (fun it s₂ => LoopAtV _ _ _ _ _ _ _ _ _ it s₂) _ _)
  (k_dflt (
    (rename Fr _ _ _ _ => lF')
    (rename News _ _ _ _ => lN')
    (refine' Mine.strs_each [] ?k1 ?k2 ?k3 ?k4 (Mine.law_B hR') lF' lN' ?turn2 ?done2)
    (case k1 => exact rfl)
    (case k4 => k_memK)
    (case k2 => exact ⟨_, .inl rfl⟩)
    (case k3 => assumption)
    (all_goals clear lF' lN')
    (case' turn2 => intro i y t u h tk own hmk hy hyB hoff FF NN)
    (case' done2 => intro u h tk hmk FF NN)
    (all_goals (try dsimp only))
    (all_goals (try k_fold)))))
  k_with "call ref" => (
  k_here
  (k_dflt (
    (first
      | ((show wpAny _ _ (call (Value.ref 219) [Value.str _ _]) _ _ _); (refine' Mine.Con.use0 (Mine.con_law_is_written _ _ ?hc) ?k1 ?k2 ?k3 ?k4 ?k5 ?kK ?kd ?ku ?_); (case hc => assumption))
      | ((show wpAny _ _ (call (Value.ref 224) [Value.ref _]) _ _ _); (refine' Mine.Con.use0 (Mine.con_law_are_joined ?hi ?hm (Mine.law_B6 hR') ?hn) ?k1 ?k2 ?k3 ?k4 ?k5 ?kK ?kd ?ku ?_); (case k4 => k_asm); (case hm => k_memK); (case hi => assumption); (case hn => walk_at "eight")))
    (try (case k4 => k_asm)); (case k1 => k_asm); (case k2 => k_asm); (case k3 => k_asm); (case k5 => k_asm); (case kK => first | exact rfl | assumption); (case kd => ktr_room); (case ku => ktr_units)
    (intro r9 h9 tk9 F9 N9 hr9; subst hr9; (try dsimp only); (try k_fold)))))
  k_with "eight" => exact Mine.eight (by assumption) (by assumption)
  trivial
set_option maxRecDepth 100000 in
set_option maxHeartbeats 8000000 in
theorem PySem.Challenge.cw_np0133_01_holds : PySem.Challenge.rw_np0133_01.Holds := by
  w_top off
  refine Mine.hd ?_
  k_fill
  intro w s₀ s₁ mg mb G y fa o pm cd doc dV kV ho hd hcd hD hmg hg args vals as hpre hlay hrd hwl hlo
  have KX := kIn_of y
  have GL := glob_more (Ground.glob G (by decide +kernel) (by decide +kernel)) (Ground.X G).2
  refine Ground.open G ?_
  intro T B D TE TW
  obtain ⟨_, _, hc, _⟩ := based_of_top T rfl hmg ho hd
  have hc' : cd = _ := hc
  subst hc'
  wrow_args hpre hlay hrd hwl hlo
  refine enter_call ?_
  w_top on
  refine codeAny_mono ?_ (fun _ _ g => GoodW.toG g)
  have K0 := below_caller (Top.heap T)
  w_call any ho hd hcd hD T F
  k_drop
  all_goals try k_fold
  walk_at "steps"
