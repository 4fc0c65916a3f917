import PyProof.Rows.All
import Wide.All
import OpenK.AllK
import Wide.FinOn
import PySem.Challenge.RW_xm0579_01
open PySem PySem.W PyProof.Rows PySem.Calls PySem.Spec
set_option Elab.async false
set_option linter.unusedVariables false
namespace Mine
noncomputable def picks {α : Type} : List Bool → List α → List α
  | true :: bs, x :: xs => x :: picks bs xs
  | false :: bs, _ :: xs => picks bs xs
  | _, _ => []
noncomputable def vw : Program := { PySem.Challenge.rw_xm0579_01.row.toRowW.prog with main := { PySem.Challenge.rw_xm0579_01.row.toRowW.prog.main with body := picks [false, true, true, false, true, false, true, true, true, false, true, true, true, true, true, true, true, true, true, true] PySem.Challenge.rw_xm0579_01.row.toRowW.prog.main.body } }
theorem head_of (H : Hook) {d : DefRec} {kwd : List (Str × PySem.Expr)}
    (hdef : defOf vw PySem.Challenge.rw_xm0579_01.row.toRowW.name = some (d, kwd)) (hp : PySem.Challenge.rw_xm0579_01.row.toRowW.prog.theDef PySem.Challenge.rw_xm0579_01.row.toRowW.name = some (d.params, d.body, d.scope)) (hk : kwWritten? d.params.kwonlyargs d.params.kw_defaults = some kwd)
    (k1 : PySem.Challenge.rw_xm0579_01.row.wellSaid = true)
    (hl : LeftO PySem.Challenge.rw_xm0579_01.row.toRowW.prog vw [Str.ofString "LendError"] (fun s => xlAt vw [] s && recOk (RowW.records PySem.Challenge.rw_xm0579_01.row.toRowW) s) (Hook.obs H) (Hook.val H) 2474)
    (hw : PySem.Challenge.rw_xm0579_01.row.toRowW.promised) (hc : WalkO vw [Str.ofString "LendError"] (XL vw []) (Hook.says H) PySem.Challenge.rw_xm0579_01.row.toRowW d kwd fun f vs => PySem.call f vs) : PySem.Challenge.rw_xm0579_01.row.Holds :=
  holds_open hl (Hook.of H) (Hook.keeps H) (fun s e => xl_of s (Bool.and_eq_true_iff.mp e).1) XL.keeps hdef hp hk (fun s e => recFacts_of (Bool.and_eq_true_iff.mp e).2) (by rfl) k1 (by decide +kernel) ⟨rfl, rfl, rfl, rfl, rfl, by decide +kernel⟩ hw hc
local macro_rules | `(tactic| o_law) => `(tactic| k_extra "m:law")
local macro_rules | `(tactic| o_head $H) => `(tactic| (have h9 := @head_of $H; k_extra "m:head"))
theorem lines_hd : True := by
  k_with "m:law" => (refine holds_law (by decide +kernel) fun said => ?_)
  k_with "m:head" => (rename ∀ {d : DefRec} {kwd : List (Str × PySem.Expr)}, _ => h9; refine' h9 (by rfl) (by rfl) (by rfl) (by assumption) ?hl ?hw ?hc; (case hl => (clear h9; intro w; kernel_rfl)); (case' hw => clear h9); (case' hc => clear h9))
  exact trivial
set_option maxRecDepth 100000 in
set_option maxHeartbeats 8000000 in
open_top hd for PySem.Challenge.rw_xm0579_01
theorem off_00 : True := by
  w_top off
  exact trivial
local macro_rules | `(tactic| walk_at $s:str) => `(tactic| k_extra $s)
theorem lines_00_1 : True := by
  k_with "m:ne0" => with_reducible first
      | assumption
      | (refine Nat.ne_of_gt ?_; assumption)
      | (refine Nat.ne_of_lt ?_; assumption)
      | (refine Ne.symm ?_; assumption)
  k_with "m:lt0" => ((try dsimp only); first | with_reducible assumption | omega)
  k_with "m:le0" => first | with_reducible assumption | decide | omega
  exact trivial
local macro_rules | `(tactic| k_ne) => `(tactic| ((try dsimp only); k_extra "m:ne0"))
theorem off_01 : True := by
  w_top off
  exact trivial
noncomputable abbrev lz : List Str := looseW Mine.vw [Str.ofString "LendError"]
local macro_rules | `(tactic| k_all) => `(tactic| assumption)
theorem mulOk_y {x z b : Int} : IntMulOk ([x, z.fmod 2147483647].getD (Int.toNat 1) 0) b := by
  show IntMulOk (z.fmod 2147483647) b
  have h1 := Int.fmod_nonneg_of_pos z (b := 2147483647) (by decide)
  have h2 := Int.fmod_lt_of_pos z (b := 2147483647) (by decide)
  exact .of_left (intBits_le_64 (by omega) (by omega))
theorem fdiv_le_self {x k : Int} (hx : 0 ≤ x) (hk : 1 < k) : x.fdiv k ≤ x := by
  rw [Int.fdiv_eq_ediv_of_nonneg _ (by omega)]
  exact Int.ediv_le_self _ hx
theorem fdiv_nonneg' {x k : Int} (hx : 0 ≤ x) (hk : 1 < k) : 0 ≤ x.fdiv k := by
  rw [Int.fdiv_eq_ediv_of_nonneg _ (by omega)]
  exact Int.ediv_nonneg hx (by omega)
theorem lines_01_1 : True := by
  k_with "binaryOp Mult int int" => (with_reducible refine mul_int (hm := mulOk_y) ?_)
  exact trivial
set_option maxRecDepth 100000 in
set_option maxHeartbeats 8000000 in
theorem take_spec : ∀ (w : World) (mean : ExcName → Option Value) (mg mb : Str → Option Value)
    (dp un : Nat) (gd : Option (List Code)) (cn : Str) (cs : Scope) (a : Addr) (ccd : Value) (cl : List (Str × Addr)) (outer : List Env) (A₀ : Around) (base h₀ : Heap) (L : Addr) (m : Str → Option Value) (news : List (Addr × Obj)) (s : Shared)
    (src : Addr) (x y top : Int) (t u v : Tok) (n : Nat) (Q E : Value → Shared → Prop)
    (B : Below A₀ base outer h₀) (F : Fr h₀ L s.heap m) (X : (Mine.hd.heap_1 w.params).In h₀) (N : News h₀ L s.heap ((src, listOf #[.int x t, .int y u] n) :: news)) (T : Top vw lz mean mg mb h₀) (hk : cs.kind = .function)
    (hsep : ∀ p ∈ news, p.1 ≠ src)
    (hx : 0 ≤ x) (hy : 0 ≤ y) (hy2 : y < 2147483647) (ht : 1 < top) (ht2 : top ≤ 100) (hd : dp + 3 < recursionLimit) (hu : un + 24 < cLine)
    (hret : ∀ d x' y' t' u' v' h' tk', Fr h₀ L h' m → News h₀ L h' ((src, listOf #[.int x' t', .int y' u'] n) :: news) → 0 ≤ d → d < top → 0 ≤ x' → 0 ≤ y' → y' < 2147483647 → Q (.int d v') { s with heap := h', toks := tk' }),
    wpAny (model PySem.Challenge.rw_xm0579_01.row.prog w) (ktrTop dp un gd cn cs L a ccd cl outer) (call (.ref 115) [.ref src, .int top v]) Q E s := by
  k_fill
  intro w mean mg mb dp un gd cn cs a ccd cl outer A₀ base h₀ L m news s src x y top t u v n Q E B F X N T hk hsep hx hy hy2 ht ht2 hd hu hret
  refine wpAny_call ?_
  k_dflt ktr_enter
  k_steps
  · refine hret _ _ _ _ _ _ _ _ (by assumption) (by assumption) ?_ ?_ ?_ ?_ ?_
    · exact Int.fmod_nonneg_of_pos _ (by omega)
    · exact Int.fmod_lt_of_pos _ (by omega)
    · exact fdiv_nonneg' hx ht
    · exact hy
    · exact hy2
  · refine hret _ _ _ _ _ _ _ _ (by assumption) (by assumption) ?_ ?_ ?_ ?_ ?_
    · exact Int.fmod_nonneg_of_pos _ (by omega)
    · exact Int.fmod_lt_of_pos _ (by omega)
    · exact hx
    · exact Int.fmod_nonneg_of_pos _ (by omega)
    · exact Int.fmod_lt_of_pos _ (by omega)
theorem off_02 : True := by
  w_top off
  exact trivial
inductive Pick (d : Addr) (o : Obj) : List (Addr × Obj) → List (Addr × Obj) → Prop
  | head {r} : Pick d o ((d, o) :: r) r
  | tail {p r r'} : Pick d o r r' → Pick d o (p :: r) (p :: r')
theorem Pick.news {d : Addr} {o : Obj} {h₀ h : Heap} {L : Addr} : ∀ {l r : List (Addr × Obj)}, Pick d o l r → News h₀ L h l → News h₀ L h ((d, o) :: r)
  | _, _, .head, N => N
  | _, _, .tail (p := p) k, N => fun q hq => by
    have N' := k.news (fun z hz => N z (.tail _ hz))
    rcases List.mem_cons.mp hq with rfl | hq
    · exact N' _ (.head _)
    · rcases List.mem_cons.mp hq with rfl | hq
      · exact N _ (.head _)
      · exact N' _ (.tail _ hq)
theorem take_use {w : World} {mean : ExcName → Option Value} {mg mb : Str → Option Value}
    {dp un : Nat} {gd : Option (List Code)} {cn : Str} {cs : Scope} {a : Addr} {ccd : Value} {cl : List (Str × Addr)} {outer : List Env} {A₀ : Around} {base h₀ : Heap} {L : Addr} {m : Str → Option Value} {led news : List (Addr × Obj)} {s : Shared}
    {src : Addr} {x y top : Int} {t u v : Tok} {n : Nat} {Q E : Value → Shared → Prop}
    (B : Below A₀ base outer h₀) (F : Fr h₀ L s.heap m) (X : (Mine.hd.heap_1 w.params).In h₀) (N : News h₀ L s.heap led) (P : Pick src (listOf #[.int x t, .int y u] n) led news) (T : Top vw lz mean mg mb h₀) (hk : cs.kind = .function)
    (hsep : ∀ p ∈ news, p.1 ≠ src)
    (hx : 0 ≤ x) (hy : 0 ≤ y) (hy2 : y < 2147483647) (ht : 1 < top) (ht2 : top ≤ 100) (hd : dp + 3 < recursionLimit) (hu : un + 24 < cLine)
    (hret : ∀ d x' y' t' u' v' h' tk', Fr h₀ L h' m → News h₀ L h' ((src, listOf #[.int x' t', .int y' u'] n) :: news) → 0 ≤ d → d < top → 0 ≤ x' → 0 ≤ y' → y' < 2147483647 → Q (.int d v') { s with heap := h', toks := tk' }) :
    wpAny (model PySem.Challenge.rw_xm0579_01.row.prog w) (ktrTop dp un gd cn cs L a ccd cl outer) (call (.ref 115) [.ref src, .int top v]) Q E s :=
  take_spec w mean mg mb dp un gd cn cs a ccd cl outer A₀ base h₀ L m news s src x y top t u v n Q E B F X (P.news N) T hk hsep hx hy hy2 ht ht2 hd hu hret
theorem lines_02_1 : True := by
  k_with "m:pick" => first | exact Pick.head | (refine' Pick.tail ?zzp; (case zzp => k_extra "m:pick"))
  k_with "m:mem" => first
        | with_reducible assumption
        | exact List.Mem.head _
        | (refine List.mem_cons_of_mem _ ?_; k_extra "m:mem")
        | (refine List.mem_append_left _ ?_; k_extra "m:mem")
        | (refine List.mem_append_right _ ?_; k_extra "m:mem")
        | assumption
  exact trivial
local macro_rules | `(tactic| k_mem) => `(tactic| k_extra "m:mem")
theorem lines_02_2 : True := by
  k_with "call ref" => (k_here; (with_reducible show wpAny _ _ (call (Value.ref 115) _) _ _ _); k_dflt (
        refine' take_use ?zzkB ?zzkF ?zzkX ?zzkN ?zzkP ?zzkT ?zzkK ?zzksep ?zzkx ?zzky ?zzky2 ?zzkt ?zzkt2 ?zzkd ?zzku ?_
        (case zzkB => k_asm)
        (case zzkF => k_asm)
        (case zzkX => k_asm)
        (case zzkN => k_asm)
        (case zzkP => k_extra "m:pick")
        (case zzkT => k_asm)
        (case zzkK => first | exact rfl | assumption)
        (case zzksep => k_all)
        (case zzkx => k_extra "m:le0")
        (case zzky => k_extra "m:le0")
        (case zzky2 => k_extra "m:le0")
        (case zzkt => k_extra "m:le0")
        (case zzkt2 => k_extra "m:le0")
        (case zzkd => ktr_room)
        (case zzku => ktr_units)
        (intro d' x' y' t' u' v' h' tk' F' N' hd1' hd2' hx' hy' hy2')
        (try k_fold)))
  exact trivial
theorem isList_of {h₀ h : Heap} {L l : Addr} {led : List (Addr × Obj)} {vs : Array Value} {k : Nat} (N : News h₀ L h led) (hm : (l, listOf vs k) ∈ led) : h.IsList l vs := ⟨_, (N _ hm).1, rfl, _, rfl⟩
theorem len_mem {prog : Program} {w : World} {A : Around} {E : Value → Shared → Prop} {s : Shared} {h₀ : Heap} {L l : Addr} {led : List (Addr × Obj)} {vs : Array Value} {k : Nat} {Q : Value → Shared → Prop}
    (N : News h₀ L s.heap led) (hm : (l, listOf vs k) ∈ led) (hf : (vs.size : Int) < 2 ^ 63) (h : Q (.int vs.size (s.toks + 1)) { s with toks := s.toks + 1 + 1 }) : wpAny (model prog w) A (call (.builtin "len") [.ref l]) Q E s :=
  call_len_list (isList_of N hm) hf h
theorem item_mem {prog : Program} {w : World} {A : Around} {E : Value → Shared → Prop} {s : Shared} {h₀ : Heap} {L l : Addr} {led : List (Addr × Obj)} {vs : Array Value} {k : Nat} {Q : Value → Shared → Prop} {value slice : PySem.Expr} {i : Int} {u : Tok}
    (N : News h₀ L s.heap led) (hm : (l, listOf vs k) ∈ led) (h0 : 0 ≤ i) (hi : i < (vs.size : Int)) (hf : i < 2 ^ 63) (h : ∀ v ∈ vs.toList, Q v s)
    (hs : subscripted slice false (.ref l) (.int i u) = operate [.ref l, .int i u] (getItem (.ref l) (.int i u)) := by with_unfolding_all rfl) :
    wpAny (model prog w) A (subscriptTail value slice (.ref l) (.int i u)) Q E s := by
  have hl := isList_of N hm
  have hlt : i.toNat < vs.size := by omega
  have hx : vs[i.toNat]? = some vs[i.toNat] := by simp [hlt]
  have hm' : vs[i.toNat] ∈ vs.toList := by simp
  exact tail_any hl.typeIs slot_list_getitem.lookup (wpAny_getItem_list hl h0 hf hx (h _ hm')) hs
theorem lines_02_3 : True := by
  k_with "call builtin:len" => (k_here; (with_reducible show wpAny _ _ (call (Value.builtin "len") [Value.ref _]) _ _ _); k_dflt (refine' len_mem ?zzN ?zzm ?zzf ?_; (case zzN => k_asm); (case zzm => k_mem); (case zzf => omega); k_whole))
  k_with "subscriptTail" => (k_here; (with_reducible show wpAny _ _ (subscriptTail _ _ (Value.ref _) (Value.int _ _)) _ _ _); k_dflt (refine' item_mem ?zzN ?zzm ?zza ?zzb ?zzc ?_; (case zzN => k_asm); (case zzm => k_mem); (case zza => k_extra "m:le0"); (case zzb => k_extra "m:le0"); (case zzc => k_extra "m:le0"); k_whole; (intro v' hv')))
  exact trivial
set_option maxRecDepth 100000 in
set_option maxHeartbeats 8000000 in
theorem one_spec : ∀ (w : World) (mean : ExcName → Option Value) (mg mb : Str → Option Value)
    (dp un : Nat) (gd : Option (List Code)) (cn : Str) (cs : Scope) (a : Addr) (ccd : Value) (cl : List (Str × Addr)) (outer : List Env) (A₀ : Around) (base h₀ : Heap) (L : Addr) (m : Str → Option Value) (news : List (Addr × Obj)) (s : Shared)
    (src lst : Addr) (vs : Array Value) (x y : Int) (t u : Tok) (n k : Nat) (Q E : Value → Shared → Prop)
    (B : Below A₀ base outer h₀) (F : Fr h₀ L s.heap m) (X : (Mine.hd.heap_1 w.params).In h₀) (N : News h₀ L s.heap ((src, listOf #[.int x t, .int y u] n) :: news)) (T : Top vw lz mean mg mb h₀) (hk : cs.kind = .function)
    (hsep : ∀ p ∈ news, p.1 ≠ src) (hl : (lst, listOf vs k) ∈ news) (hs1 : 1 < vs.size) (hs2 : vs.size ≤ 100)
    (hx : 0 ≤ x) (hy : 0 ≤ y) (hy2 : y < 2147483647) (hd : dp + 8 < recursionLimit) (hu : un + 64 < cLine)
    (hret : ∀ v ∈ vs.toList, ∀ x' y' t' u' h' tk', Fr h₀ L h' m → News h₀ L h' ((src, listOf #[.int x' t', .int y' u'] n) :: news) → 0 ≤ x' → 0 ≤ y' → y' < 2147483647 → Q v { s with heap := h', toks := tk' }),
    wpAny (model PySem.Challenge.rw_xm0579_01.row.prog w) (ktrTop dp un gd cn cs L a ccd cl outer) (call (.ref 122) [.ref src, .ref lst]) Q E s := by
  k_fill
  intro w mean mg mb dp un gd cn cs a ccd cl outer A₀ base h₀ L m news s src lst vs x y t u n k Q E B F X N T hk hsep hl hs1 hs2 hx hy hy2 hd hu hret
  refine wpAny_call ?_
  k_dflt ktr_enter
  k_steps
  exact hret _ (by assumption) _ _ _ _ _ _ (by assumption) (by assumption) (by assumption) (by assumption) (by assumption)
theorem off_03 : True := by
  w_top off
  exact trivial
theorem allLt_app {d : Addr} : ∀ {l r : List (Addr × Obj)}, AllLt d (l ++ r) ↔ AllLt d l ∧ AllLt d r
  | [], r => by simp [AllLt]
  | p :: l, r => by
    have ih := allLt_app (d := d) (l := l) (r := r)
    simp only [List.cons_append, AllLt, ih, and_assoc]
theorem off_lt {d : Addr} : ∀ {l : List (Addr × Obj)}, AllLt d l → ∀ p ∈ l, p.1 ≠ d
  | [], _, _, hp => nomatch hp
  | q :: r, h, p, hp => by
    rcases List.mem_cons.mp hp with rfl | hp
    · exact Nat.ne_of_lt h.1
    · exact off_lt h.2 p hp
theorem lt_of_all {d : Addr} : ∀ {l : List (Addr × Obj)}, AllLt d l → ∀ p ∈ l, p.1 < d
  | [], _, _, hp => nomatch hp
  | q :: r, h, p, hp => by
    rcases List.mem_cons.mp hp with rfl | hp
    · exact h.1
    · exact lt_of_all h.2 p hp
theorem off_gt {d : Addr} {l : List (Addr × Obj)} (h : ∀ p ∈ l, d < p.1) : ∀ p ∈ l, p.1 ≠ d := fun p hp => Nat.ne_of_gt (h p hp)
local macro_rules | `(tactic| k_lt $h) => `(tactic| (replace $h := allLt_of $h; (try simp only [AllLt, and_true, allLt_app, and_assoc] at $h:ident); (repeat (have hm1' := And.left $h; replace $h := And.right $h))))
theorem lines_03_1 : True := by
  k_with "m:ne" => ((try dsimp only); first | k_extra "m:ne0" | (refine neN ?_; omega))
  k_with "m:all" => first
        | assumption
        | exact List.forall_mem_nil _
        | (refine' off_lt ?zzh9; (case zzh9 => assumption))
        | (refine' off_gt ?zzh9; (case zzh9 => assumption))
        | (refine List.forall_mem_cons.mpr ⟨?_, ?_⟩; (focus k_extra "m:ne"); (focus k_extra "m:all"))
        | (refine List.forall_mem_append.mpr ⟨?_, ?_⟩; (focus k_extra "m:all"); (focus k_extra "m:all"))
  exact trivial
local macro_rules | `(tactic| k_all) => `(tactic| k_extra "m:all")
theorem endW {h₀ : Heap} {L I : Addr} {it : Obj} {s₁ : Shared} {h' : Heap} {tk : Nat} {m' : Str → Option Value} {led rest : List (Addr × Obj)} {J : (Str → Option Value) → List (Addr × Obj) → Prop}
    (F : Fr h₀ L h' m') (N : News h₀ L h' led) (P : Pick I it led rest) (off : ∀ p ∈ rest, p.1 ≠ I) (r : J m' rest) : UnrEndW h₀ L s₁ [(I, it)] J { s₁ with heap := h', toks := tk } :=
  ⟨h', tk, m', rest, rfl, F, P.news N, fun p hp q hq => by rw [List.mem_singleton.mp hq]; exact off p hp, r⟩
theorem lines_03_2 : True := by
  k_with "UnrEndW" => (refine endW (by assumption) (by assumption) (by k_extra "m:pick") (by k_extra "m:all") ⟨⟨by k_mem, trivial⟩, ?_⟩)
  k_with "exec For Name IfExp cons nil" => (k_here; (rename Fr _ _ _ _ => lF'); (with_unfolding_all refine' For_turns lF' ?_; k_whole))
  k_with "pyIter ref" => (k_here; (with_reducible show wpAny _ _ (pyIter (Value.ref _)) (fun it s₂ => TurnsAt _ _ _ _ _ _ _ _ _ it s₂) _ _); (rename Fr _ _ _ _ => lF'); (rename News _ _ _ _ => lN'); (with_unfolding_all refine iter_tupTurns (by rfl) lF' lN' (by k_mem) (by rfl) (by rfl) ?_); (clear lF' lN'); (intro i' l1); (try k_lt l1); (try dsimp only [List.map]))
  k_with "m:size" => first | decide | ((try simp only [Array.size_append, List.size_toArray, List.length_nil, List.length_cons, List.length_append, Array.size_empty]); omega)
  exact trivial
theorem m_extend {prog : Program} {w : World} {A : Around} {E : Value → Shared → Prop} {s : Shared} {h₀ : Heap} {L D b : Addr} {m : Str → Option Value} {led rest : List (Addr × Obj)} {its its2 : Array Value} {n n2 : Nat} {Q : Value → Shared → Prop}
    (F : Fr h₀ L s.heap m) (N : News h₀ L s.heap led) (P : Pick D (listOf its n) led rest) (off : ∀ p ∈ rest, p.1 ≠ D) (hb : (b, listOf its2 n2) ∈ rest) (h1 : its.size ≤ 100000) (h2 : its2.size ≤ 100000)
    (h : ∀ n' h', Fr h₀ L h' m → News h₀ L h' ((D, listOf (its ++ its2) n') :: rest) → Q .none { s with heap := h' }) : wpAny (model prog w) A (call (.builtin "list.extend") [.ref D, .ref b]) Q E s := by
  have N1 := P.news N
  have hd : ¬(!its.isEmpty && Builtin.List.listTooLong (its.size + its2.size)) = true := by
    simp [Builtin.List.listTooLong]
    intro _
    rw [PySem.sizeLine_eq]
    omega
  have e1 : its.toList.length ≤ sizeLine := by rw [Array.length_toList, PySem.sizeLine_eq]; omega
  have e2 : its.size + its2.size ≤ sizeLine + 1 := by rw [PySem.sizeLine_eq]; omega
  by_cases he : its2.toList = []
  · refine kxn_extend F N1 (List.mem_cons_of_mem _ hb) he (.head off) hd e1 e2 fun h' F' N' => h n h' F' ?_
    have : its ++ its2 = its := by
      apply Array.toList_inj.mp
      simp [he]
    rw [this]; exact N'
  · refine kl_extend F N1 (List.mem_cons_of_mem _ hb) rfl (fun e => he (List.eq_nil_of_length_eq_zero e)) (.head off) hd e1 e2 fun h' F' N' => h (n + 1) h' F' ?_
    have : (its.toList ++ its2.toList).toArray = its ++ its2 := by
      apply Array.toList_inj.mp
      simp
    rw [this] at N'; exact N'
theorem lines_03_3 : True := by
  k_with "call builtin:list.extend" => (k_here; (with_reducible show wpAny _ _ (call (Value.builtin _) [Value.ref _, Value.ref _]) _ _ _); k_dflt (refine' m_extend ?zzF ?zzN ?zzP ?zzo ?zzb ?zzz1 ?zzz2 ?_; (case zzF => k_asm); (case zzN => k_asm); (case zzP => k_extra "m:pick"); (case zzo => k_extra "m:all"); (case zzb => k_mem); (case zzz1 => k_extra "m:size"); (case zzz2 => k_extra "m:size"); k_whole); (intro n' h' F' N'); (try k_sweep))
  exact trivial
noncomputable abbrev tupO (vs : Array Value) : Obj := { cls := .type "tuple", data := .seq vs }
noncomputable abbrev S (x : String) (t : Tok) : Value := .str (Str.ofString x) t
inductive Ty where
  | param (a : Addr) (nm : Str) (t tk : Tok)
  | int (a : Addr) (x : Value) (t : Tok)
  | bool (a : Addr) (t : Tok)
  | never (a : Addr) (t : Tok)
  | ref (a : Addr) (x1 x2 : Value) (t : Tok) (d : Ty)
  | box (a : Addr) (t : Tok) (d : Ty)
  | arr (a : Addr) (x : Value) (t : Tok) (d : Ty)
  | tup0 (a b : Addr) (t : Tok)
  | tup1 (a b : Addr) (t : Tok) (d : Ty)
  | tup2 (a b : Addr) (t : Tok) (d e : Ty)
  | adt0 (a b : Addr) (x1 x2 : Value) (t : Tok)
  | adt1 (a b : Addr) (x1 x2 : Value) (t : Tok) (d : Ty)
  | adt2 (a b : Addr) (x1 x2 : Value) (t : Tok) (d e : Ty)
noncomputable def Ty.addr : Ty → Addr
  | .param a .. | .int a .. | .bool a .. | .never a .. | .ref a .. | .box a .. | .arr a .. | .tup0 a .. | .tup1 a .. | .tup2 a .. | .adt0 a .. | .adt1 a .. | .adt2 a .. => a
noncomputable def Ty.names : Ty → List Value
  | .param _ nm _ tk => [.str nm tk]
  | .int .. | .bool .. | .never .. | .tup0 .. | .adt0 .. => []
  | .ref _ _ _ _ d | .box _ _ d | .arr _ _ _ d | .tup1 _ _ _ d | .adt1 _ _ _ _ _ d => d.names
  | .tup2 _ _ _ d e | .adt2 _ _ _ _ _ d e => d.names ++ e.names
noncomputable def Ty.held : Ty → List Value
  | .param .. | .int .. | .bool .. | .never .. | .tup0 .. => []
  | .adt0 a .. => [.ref a]
  | .ref _ _ _ _ d | .box _ _ d | .arr _ _ _ d | .tup1 _ _ _ d => d.held
  | .adt1 a _ _ _ _ d => .ref a :: d.held
  | .tup2 _ _ _ d e => d.held ++ e.held
  | .adt2 a _ _ _ _ d e => .ref a :: (d.held ++ e.held)
noncomputable def Ty.size : Ty → Nat
  | .param .. | .int .. | .bool .. | .never .. | .tup0 .. | .adt0 .. => 1
  | .ref _ _ _ _ d | .box _ _ d | .arr _ _ _ d | .tup1 _ _ _ d | .adt1 _ _ _ _ _ d => d.size + 1
  | .tup2 _ _ _ d e | .adt2 _ _ _ _ _ d e => d.size + e.size + 1
noncomputable def Ty.depth : Ty → Nat
  | .param .. | .int .. | .bool .. | .never .. | .tup0 .. | .adt0 .. => 1
  | .ref _ _ _ _ d | .box _ _ d | .arr _ _ _ d | .tup1 _ _ _ d | .adt1 _ _ _ _ _ d => d.depth + 1
  | .tup2 _ _ _ d e | .adt2 _ _ _ _ _ d e => max d.depth e.depth + 1
inductive TyIn (l : List (Addr × Obj)) : Value → Ty → Prop
  | param {a nm t tk} : (a, tupO #[S "param" t, .str nm tk]) ∈ l → TyIn l (.ref a) (.param a nm t tk)
  | int {a x t} : (a, tupO #[S "int" t, x]) ∈ l → TyIn l (.ref a) (.int a x t)
  | bool {a t} : (a, tupO #[S "bool" t]) ∈ l → TyIn l (.ref a) (.bool a t)
  | never {a t} : (a, tupO #[S "never" t]) ∈ l → TyIn l (.ref a) (.never a t)
  | ref {a x1 x2 t v d} : (a, tupO #[S "ref" t, x1, x2, v]) ∈ l → TyIn l v d → TyIn l (.ref a) (.ref a x1 x2 t d)
  | box {a t v d} : (a, tupO #[S "box" t, v]) ∈ l → TyIn l v d → TyIn l (.ref a) (.box a t d)
  | arr {a x t v d} : (a, tupO #[S "array" t, v, x]) ∈ l → TyIn l v d → TyIn l (.ref a) (.arr a x t d)
  | tup0 {a b t} : (a, tupO #[S "tuple" t, .ref b]) ∈ l → (b, tupO #[]) ∈ l → TyIn l (.ref a) (.tup0 a b t)
  | tup1 {a b t v d} : (a, tupO #[S "tuple" t, .ref b]) ∈ l → (b, tupO #[v]) ∈ l → TyIn l v d → TyIn l (.ref a) (.tup1 a b t d)
  | tup2 {a b t v d v2 e} : (a, tupO #[S "tuple" t, .ref b]) ∈ l → (b, tupO #[v, v2]) ∈ l → TyIn l v d → TyIn l v2 e → TyIn l (.ref a) (.tup2 a b t d e)
  | adt0 {a b x1 x2 t} : (a, tupO #[S "adt" t, x1, x2, .ref b]) ∈ l → (b, tupO #[]) ∈ l → TyIn l (.ref a) (.adt0 a b x1 x2 t)
  | adt1 {a b x1 x2 t v d} : (a, tupO #[S "adt" t, x1, x2, .ref b]) ∈ l → (b, tupO #[v]) ∈ l → TyIn l v d → TyIn l (.ref a) (.adt1 a b x1 x2 t d)
  | adt2 {a b x1 x2 t v d v2 e} : (a, tupO #[S "adt" t, x1, x2, .ref b]) ∈ l → (b, tupO #[v, v2]) ∈ l → TyIn l v d → TyIn l v2 e → TyIn l (.ref a) (.adt2 a b x1 x2 t d e)
theorem TyIn.mono {l l' : List (Addr × Obj)} {v : Value} {T : Ty} (h : TyIn l v T) (hs : ∀ p ∈ l, p ∈ l') : TyIn l' v T := by
  induction h with
  | param h => exact .param (hs _ h)
  | int h => exact .int (hs _ h)
  | bool h => exact .bool (hs _ h)
  | never h => exact .never (hs _ h)
  | ref h _ ih => exact .ref (hs _ h) ih
  | box h _ ih => exact .box (hs _ h) ih
  | arr h _ ih => exact .arr (hs _ h) ih
  | tup0 h h2 => exact .tup0 (hs _ h) (hs _ h2)
  | tup1 h h2 _ ih => exact .tup1 (hs _ h) (hs _ h2) ih
  | tup2 h h2 _ _ ih ih2 => exact .tup2 (hs _ h) (hs _ h2) ih ih2
  | adt0 h h2 => exact .adt0 (hs _ h) (hs _ h2)
  | adt1 h h2 _ ih => exact .adt1 (hs _ h) (hs _ h2) ih
  | adt2 h h2 _ _ ih ih2 => exact .adt2 (hs _ h) (hs _ h2) ih ih2
theorem TyIn.isRef {l : List (Addr × Obj)} {v : Value} {T : Ty} (h : TyIn l v T) : v = .ref T.addr := by cases h <;> rfl
noncomputable def NamesTell (w : World) (mean : ExcName → Option Value) (mg mb : Str → Option Value) (D : Ty) : Prop :=
    ∀ (dp un : Nat) (gd : Option (List Code)) (cn : Str) (cs : Scope) (a : Addr) (ccd : Value) (cl : List (Str × Addr)) (outer : List Env) (A₀ : Around) (base h₀ : Heap) (L : Addr) (m : Str → Option Value) (news : List (Addr × Obj)) (s : Shared)
    (v : Value) (Q E : Value → Shared → Prop)
    (B : Below A₀ base outer h₀) (F : Fr h₀ L s.heap m) (X : (Mine.hd.heap_1 w.params).In h₀) (N : News h₀ L s.heap news) (T : Top vw lz mean mg mb h₀) (hk : cs.kind = .function)
    (hR : TyIn news v D) (hsz : D.size ≤ 1000) (hd : dp + 3 * D.depth + 5 < recursionLimit) (hu : un + 24 * D.depth + 40 < cLine)
    (hret : ∀ l n h' tk', Fr h₀ L h' m → News h₀ L h' ((l, listOf D.names.toArray n) :: news) → (∀ p ∈ news, p.1 < l) → Q (.ref l) { s with heap := h', toks := tk' }),
    wpAny (model PySem.Challenge.rw_xm0579_01.row.prog w) (ktrTop dp un gd cn cs L a ccd cl outer) (call (.ref 94) [v]) Q E s
theorem news_cons {h₀ h : Heap} {L : Addr} {l : List (Addr × Obj)} {p : Addr × Obj} (hm : p ∈ l) (N : News h₀ L h l) : News h₀ L h (p :: l) := fun q hq => by
  rcases List.mem_cons.mp hq with rfl | hq
  · exact N _ hm
  · exact N _ hq
theorem news_sub {h₀ h : Heap} {L : Addr} {l l' : List (Addr × Obj)} (N : News h₀ L h l) (hs : ∀ p ∈ l', p ∈ l) : News h₀ L h l' := fun q hq => N q (hs q hq)
theorem end_list {h₀ h : Heap} {L l : Addr} {led R news : List (Addr × Obj)} {A A' : Array Value} {n : Nat} (N : News h₀ L h led) (P : Pick l (listOf A n) led R) (e : A = A') (hs : ∀ p ∈ news, p ∈ led) : News h₀ L h ((l, listOf A' n) :: news) := by
  subst e
  intro p hp
  rcases List.mem_cons.mp hp with rfl | hp
  · exact P.news N _ (.head _)
  · exact N _ (hs _ hp)
theorem Ty.names_len (D : Ty) : D.names.length ≤ D.size := by
  induction D <;> simp [Ty.names, Ty.size] <;> omega
theorem Ty.held_len (D : Ty) : D.held.length ≤ D.size := by
  induction D <;> simp [Ty.held, Ty.size] <;> omega
theorem names_use {w : World} {mean : ExcName → Option Value} {mg mb : Str → Option Value} {D : Ty}
    {dp un : Nat} {gd : Option (List Code)} {cn : Str} {cs : Scope} {a : Addr} {ccd : Value} {cl : List (Str × Addr)} {outer : List Env} {A₀ : Around} {base h₀ : Heap} {L : Addr} {m : Str → Option Value} {news : List (Addr × Obj)} {s : Shared}
    {v : Value} {Q E : Value → Shared → Prop}
    (B : Below A₀ base outer h₀) (F : Fr h₀ L s.heap m) (X : (Mine.hd.heap_1 w.params).In h₀) (N : News h₀ L s.heap news) (T : Top vw lz mean mg mb h₀) (hk : cs.kind = .function)
    (hR : TyIn news v D) (hC : NamesTell w mean mg mb D) (hsz : D.size ≤ 1000) (hd : dp + 3 * D.depth + 5 < recursionLimit) (hu : un + 24 * D.depth + 40 < cLine)
    (hret : ∀ l n h' tk', Fr h₀ L h' m → News h₀ L h' ((l, listOf D.names.toArray n) :: news) → (∀ p ∈ news, p.1 < l) → D.names.length ≤ 1000 → Q (.ref l) { s with heap := h', toks := tk' }) :
    wpAny (model PySem.Challenge.rw_xm0579_01.row.prog w) (ktrTop dp un gd cn cs L a ccd cl outer) (call (.ref 94) [v]) Q E s :=
  hC _ _ _ _ _ _ _ _ _ _ _ _ _ _ _ _ _ _ _ B F X N T hk hR hsz hd hu fun l n h' tk' F' N' l1 => hret l n h' tk' F' N' l1 (by have := D.names_len; omega)
theorem lines_03_4 : True := by
  k_with "m:ty" => first
        | assumption
        | (refine TyIn.mono (by assumption) ?_; intro p9 h9; simp only [List.mem_append, List.mem_cons] at h9 ⊢; simp only [h9, true_or, or_true]; done)
        | (refine TyIn.mono (by assumption) ?_; intro p9 h9; simp only [List.mem_append, List.mem_cons] at h9 ⊢; rcases h9 with h9 | h9 <;> simp only [h9, true_or, or_true] <;> done)
  k_with "m:namesIH" => exact (‹∀ D' : Ty, Ty.size D' < _ → NamesTell _ _ _ _ D'› _ (by simp only [Ty.size]; omega))
  k_with "call ref" => (k_here; (with_reducible show wpAny _ _ (call (Value.ref 94) _) _ _ _); k_dflt (
        refine' names_use ?zzkB ?zzkF ?zzkX ?zzkN ?zzkT ?zzkK ?zzkR ?zzkC ?zzks ?zzkd ?zzku ?_
        (case zzkB => k_asm)
        (case zzkF => k_asm)
        (case zzkX => k_asm)
        (case zzkN => k_asm)
        (case zzkT => k_asm)
        (case zzkK => first | exact rfl | assumption)
        (case zzkR => k_extra "m:ty")
        (case zzkC => k_extra "m:namesIH")
        (case zzks => (simp only [Ty.size] at *; omega))
        (case zzkd => (simp only [Ty.depth] at *; ktr_room))
        (case zzku => (simp only [Ty.depth] at *; ktr_units))
        (intro l' n' h' tk' F' N' l1 hs1')
        (try k_lt l1)
        (try k_fold)))
  exact trivial
set_option maxRecDepth 100000 in
set_option maxHeartbeats 8000000 in
theorem names_step : ∀ (w : World) (mean : ExcName → Option Value) (mg mb : Str → Option Value) (D : Ty)
    (IH : ∀ D' : Ty, D'.size < D.size → NamesTell w mean mg mb D')
    (dp un : Nat) (gd : Option (List Code)) (cn : Str) (cs : Scope) (a : Addr) (ccd : Value) (cl : List (Str × Addr)) (outer : List Env) (A₀ : Around) (base h₀ : Heap) (L : Addr) (m : Str → Option Value) (news : List (Addr × Obj)) (s : Shared)
    (v : Value) (Q E : Value → Shared → Prop)
    (B : Below A₀ base outer h₀) (F : Fr h₀ L s.heap m) (X : (Mine.hd.heap_1 w.params).In h₀) (N : News h₀ L s.heap news) (T : Top vw lz mean mg mb h₀) (hk : cs.kind = .function)
    (hR : TyIn news v D) (hsz : D.size ≤ 1000) (hd : dp + 3 * D.depth + 5 < recursionLimit) (hu : un + 24 * D.depth + 40 < cLine)
    (hret : ∀ l n h' tk', Fr h₀ L h' m → News h₀ L h' ((l, listOf D.names.toArray n) :: news) → (∀ p ∈ news, p.1 < l) → Q (.ref l) { s with heap := h', toks := tk' }),
    wpAny (model PySem.Challenge.rw_xm0579_01.row.prog w) (ktrTop dp un gd cn cs L a ccd cl outer) (call (.ref 94) [v]) Q E s := by
  k_fill
  intro w mean mg mb D IH dp un gd cn cs a ccd cl outer A₀ base h₀ L m news s v Q E B F X N T hk hR hsz hd hu hret
  cases hR
  case' tup0 h1 h2 => replace N := news_cons (List.mem_cons_of_mem _ h1) (news_cons h2 N)
  case' tup1 h1 h2 _ => replace N := news_cons (List.mem_cons_of_mem _ h1) (news_cons h2 N)
  case' tup2 h1 h2 _ _ => replace N := news_cons (List.mem_cons_of_mem _ h1) (news_cons h2 N)
  case' adt0 h1 h2 => replace N := news_cons (List.mem_cons_of_mem _ h1) (news_cons h2 N)
  case' adt1 h1 h2 _ => replace N := news_cons (List.mem_cons_of_mem _ h1) (news_cons h2 N)
  case' adt2 h1 h2 _ _ => replace N := news_cons (List.mem_cons_of_mem _ h1) (news_cons h2 N)
  all_goals (
    refine wpAny_call ?_
    k_dflt ktr_enter
    k_steps)
  all_goals (refine hret _ _ _ _ (by assumption) (end_list (by assumption) (by k_extra "m:pick") (by simp [Ty.names]) (by intro p hp; simp [hp])) (lt_of_all (by assumption)))
theorem off_04 : True := by
  w_top off
  exact trivial
section
variable {prog : Program} {w : World} {A : Around} {E : Value → Shared → Prop} {s : Shared} {h₀ : Heap} {L D b : Addr} {m : Str → Option Value} {led rest : List (Addr × Obj)}
theorem adjust_rev (n : Nat) : Builtin.Slice.sliceAdjust none none (-1) (n : Int) = ((n : Int) - 1, -1) := by
  unfold Builtin.Slice.sliceAdjust
  simp
theorem places_rev (n : Nat) : Builtin.Slice.slicePlaces ((n : Int) - 1) (-1) (-1) = n := by
  unfold Builtin.Slice.slicePlaces
  have e1 : -(-1 : Int) = 1 := rfl
  simp only [show ¬ ((-1 : Int) > 0) by omega, if_false, e1, Int.ediv_one]
  split <;> omega
theorem sliceApplied_rev {sl : Addr} {n : Nat} {u : Tok} {Q : Int × Int × Nat → Shared → Prop} (hs : s.heap.IsSliceOf sl .none .none (.int (-1) u)) (h : Q ((n : Int) - 1, -1, n) s) :
    wpAny (model prog w) A (Builtin.Slice.sliceApplied (.ref sl) (pure (n : Int))) Q E s := by
  obtain ⟨os, hos, hcs, hds⟩ := id hs
  unfold Builtin.Slice.sliceApplied Builtin.Slice.sliceFields
  refine wpAny_bind (wpAny_bind (wpAny_field hos hds (x := .none) rfl (wpAny_bind (wpAny_field hos hds (x := .none) rfl (wpAny_bind (wpAny_field hos hds (x := .int (-1) u) rfl (wpAny_pure ?_)))))))
  refine wpAny_bind (slicePart_int ?_)
  show wpAny _ _ (if ((-1 : Int) == 0) = true then _ else _) _ _ s
  rw [if_neg (by decide)]
  refine wpAny_bind (slicePart_none (wpAny_bind (slicePart_none (wpAny_bind (wpAny_pure ?_)))))
  show wpAny _ _ (match Builtin.Slice.sliceAdjust none none (-1) (n : Int) with | (lo, hi) => pure (lo, (-1 : Int), Builtin.Slice.slicePlaces lo hi (-1))) _ _ s
  rw [adjust_rev n]
  show wpAny _ _ (pure ((n : Int) - 1, (-1 : Int), Builtin.Slice.slicePlaces ((n : Int) - 1) (-1) (-1))) _ _ s
  rw [places_rev n]
  exact wpAny_pure h
theorem fm_eq {α β : Type} {f : α → Option β} {g : α → β} : ∀ {l : List α}, (∀ x ∈ l, f x = some (g x)) → l.filterMap f = l.map g
  | [], _ => rfl
  | a :: l, h => by
    rw [List.filterMap_cons, h a (.head _), List.map_cons, fm_eq fun x hx => h x (.tail _ hx)]
theorem pick_rev (xs : Array Value) : ((List.range xs.size).filterMap fun (k : Nat) => xs[(((xs.size : Int) - 1) + (k : Int) * (-1)).toNat]?).toArray = xs.toList.reverse.toArray := by
  congr 1
  apply List.ext_getElem?
  intro i
  have e : (fun (k : Nat) => xs[(((xs.size : Int) - 1) + (k : Int) * (-1)).toNat]?) = fun k => xs[xs.size - 1 - k]? := by
    funext k
    have : (((xs.size : Int) - 1) + (k : Int) * (-1)).toNat = xs.size - 1 - k := by omega
    rw [this]
  rw [e]
  have key : (List.range xs.size).filterMap (fun k => xs[xs.size - 1 - k]?) = (List.range xs.size).map fun k => xs.toList.getD (xs.size - 1 - k) .none := by
    refine fm_eq fun k hk => ?_
    have hk' := List.mem_range.mp hk
    have hlt : xs.size - 1 - k < xs.size := by omega
    simp [List.getD, hlt]
  rw [key]
  by_cases hi : i < xs.size
  · have h1 : xs.size - 1 - i < xs.size := by omega
    rw [List.getElem?_reverse (by simpa using hi)]
    simp [hi, h1, List.getD]
  · simp [hi]
theorem getItem_tuple_rev {t sl : Addr} {items : Array Value} {u : Tok} {Q : Value → Shared → Prop} (ht : IsTup s.heap t items) (hs : s.heap.IsSliceOf sl .none .none (.int (-1) u))
    (h : Q (.ref s.heap.objs.size) { s with heap := s.heap.push { cls := .type "tuple", data := .seq items.toList.reverse.toArray } })
    (hsz : items.size ≤ sizeLine) : wpAny (model prog w) A (getItem (.ref t) (.ref sl)) Q E s := by
  have hdrop : sizeOk (.seq items.toList.reverse.toArray) := by
    show items.toList.reverse.toArray.size ≤ sizeLine
    rw [List.size_toArray, List.length_reverse, Array.length_toList]
    exact hsz
  obtain ⟨os, hos, hcs, hds⟩ := id hs
  have hTs : s.TypeIs (.ref sl) "slice" := ⟨os, hos, hcs⟩
  unfold getItem
  try with_reducible refine wpAny_holding ?_
  first | refine wpAny_bind (wpAny_pure ?_) | skip
  refine wpAny_bind (wpAny_sequenceKey ht.typeIs (by decide) ?_)
  refine wpAny_bind (wpAny_callSpecial?_slot (name := Str.ofString "__getitem__") ht.typeIs slot_tuple_getitem
    (wpAny_call_entry slot_tuple_getitem ht.typeIs entry_tuple_getitem ?_ (args_tuple_getitem _ _)))
  show wpAny _ _ (Builtin.Tuple.tupleItemsOf (.ref t) >>= _) _ _ s
  refine wpAny_bind (tupleItemsOf_ ht ?_)
  refine wpAny_bind (wpAny_typeOf hTs ?_)
  rw [if_pos (by decide)]
  refine wpAny_bind (sliceApplied_rev hs ?_)
  have hno : ¬ ((((items.size : Int) - 1) == 0 && (-1 : Int) == 1 && items.size == items.size) = true) := by simp
  show wpAny _ _ (if (((items.size : Int) - 1) == 0 && (-1 : Int) == 1 && items.size == items.size) = true then _ else _) _ _ s
  rw [if_neg hno, pick_rev items]
  first
    | exact wpAny_bind (m := Builtin.Tuple.tupleExact _) (wpAny_newObj_type (wpAny_pure ⟨_, rfl, wpAny_pure h⟩) hdrop)
    | exact wpAny_bind (m := Builtin.Tuple.tupleExact _) (wpAny_newObj_type (wpAny_bind (wpAny_pure (wpAny_pure ⟨_, rfl, wpAny_pure h⟩))) hdrop)
    | exact wpAny_bind (wpAny_bind (m := Builtin.Tuple.tupleExact _) (wpAny_newObj_type (wpAny_pure (wpAny_pure ⟨_, rfl, wpAny_pure h⟩)) hdrop))
    | exact wpAny_bind (wpAny_bind (m := Builtin.Tuple.tupleExact _) (wpAny_newObj_type (wpAny_pure ⟨_, rfl, wpAny_pure h⟩) hdrop))
theorem slice_tuple_rev {value slice : PySem.Expr} {t : Addr} {items : Array Value} {u : Tok} {Q : Value → Shared → Prop} {ops : List Value}
    (F : Fr h₀ L s.heap m) (N : News h₀ L s.heap led) (hm : (t, tupO items) ∈ led) (hsz : items.size ≤ 100000)
    (h : ∀ T h', Fr h₀ L h' m → News h₀ L h' ((T, tupO items.toList.reverse.toArray) :: led) → (∀ p ∈ led, p.1 < T) → Q (.ref T) { s with heap := h' })
    (hs : subscripted slice false (.ref t) (.ref s.heap.objs.size) = operate ops (getItem (.ref t) (.ref s.heap.objs.size)))
    (hg : ∀ r, letTemporaryGo value (.ref t) r = pure ()) :
    wpAny (model prog w) A (subscriptTail value slice (.ref t) (.ref s.heap.objs.size)) Q E { s with heap := s.heap.push { cls := .type "slice", data := .fields #[.none, .none, .int (-1) u] } } := by
  have ht : IsTup s.heap t items := News.isTup N hm
  have ht' : IsTup (s.heap.push { cls := .type "slice", data := .fields #[.none, .none, .int (-1) u] }) t items := ht.keeps fun _ _ e => Heap.get?_push_of_some _ e
  refine subscriptTail_ops (s := { s with heap := s.heap.push { cls := .type "slice", data := .fields #[.none, .none, .int (-1) u] } }) ht'.typeIs slot_tuple_getitem.lookup
    (getItem_tuple_rev ht' (Heap.IsSliceOf.new ..) ?_ (by rw [PySem.sizeLine_eq]; omega)) hs hg
  have N1 := News.push (F.push { cls := .type "slice", data := .fields #[.none, .none, .int (-1) u] }) (N.grown fun _ _ e => Heap.get?_push_of_some _ e) { cls := .type "tuple", data := .seq items.toList.reverse.toArray }
  rw [Heap.size_push] at N1
  show Q (.ref (s.heap.push _).objs.size) _
  rw [Heap.size_push]
  exact h _ _ ((F.push _).push _) N1 fun p hp => Nat.lt_succ_of_lt (Heap.lt_size (N p hp).1)
theorem slice_tuple_revX {value slice : PySem.Expr} {t : Addr} {items : Array Value} {u : Tok} {Q : Value → Shared → Prop} {ops : List Value} {hp : Heap} {g : Array GenState} {dr : Drawn} {tk : Nat} {os : OsState}
    (F : Fr h₀ L hp m) (N : News h₀ L hp led) (hm : (t, tupO items) ∈ led) (hsz : items.size ≤ 100000)
    (h : ∀ T h', Fr h₀ L h' m → News h₀ L h' ((T, tupO items.toList.reverse.toArray) :: led) → (∀ p ∈ led, p.1 < T) → Q (.ref T) ⟨h', g, dr, tk, os⟩)
    (hs : subscripted slice false (.ref t) (.ref hp.objs.size) = operate ops (getItem (.ref t) (.ref hp.objs.size)))
    (hg : ∀ r, letTemporaryGo value (.ref t) r = pure ()) :
    wpAny (model prog w) A (subscriptTail value slice (.ref t) (.ref hp.objs.size)) Q E ⟨hp.push { cls := .type "slice", data := .fields #[.none, .none, .int (-1) u] }, g, dr, tk, os⟩ :=
  slice_tuple_rev (s := ⟨hp, g, dr, tk, os⟩) F N hm hsz h hs hg
theorem m_extendT {its its2 : Array Value} {n : Nat} {Q : Value → Shared → Prop}
    (F : Fr h₀ L s.heap m) (N : News h₀ L s.heap led) (P : Pick D (listOf its n) led rest) (off : ∀ p ∈ rest, p.1 ≠ D) (hb : (b, tupO its2) ∈ rest) (h1 : its.size ≤ 100000) (h2 : its2.size ≤ 100000)
    (h : ∀ n' h', Fr h₀ L h' m → News h₀ L h' ((D, listOf (its ++ its2) n') :: rest) → Q .none { s with heap := h' }) : wpAny (model prog w) A (call (.builtin "list.extend") [.ref D, .ref b]) Q E s := by
  have N1 := P.news N
  have hd : ¬(!its.isEmpty && Builtin.List.listTooLong (its.size + its2.size)) = true := by
    simp [Builtin.List.listTooLong]
    intro _
    rw [PySem.sizeLine_eq]
    omega
  have e1 : its.toList.length ≤ sizeLine := by rw [Array.length_toList, PySem.sizeLine_eq]; omega
  have e2 : its.size + its2.size ≤ sizeLine + 1 := by rw [PySem.sizeLine_eq]; omega
  by_cases he : its2.toList = []
  · have e0 : its2 = #[] := Array.toList_inj.mp (by rw [he])
    subst e0
    have z := N1 (D, listOf its n) (.head _)
    refine call_meets PySem.F.slot_list_extend ⟨_, z.1, rfl⟩ PySem.F.entry_list_extend (PySem.F.args_list_extend_2 _ _) (PySem.AutoSeq1.list_extend_list_tuple_0 D its n b #[] 0 hd (by simpa using e1) e2) ⟨z.1, (N1 _ (.tail _ hb)).1, h n _ (F.change (Heap.SameBut.update ..) z.2.1 z.2.2) ?_⟩
    have := kl_turn0 (pre := []) (fun x => x ++ #[]) N1 (fun _ hp => nomatch hp) off (its' := its ++ #[]) (by simp) (by simp)
    exact this
  · refine kup_extend F N1 (List.mem_cons_of_mem _ hb) rfl (fun e => he (List.eq_nil_of_length_eq_zero e)) (.head off) hd e1 e2 fun h' F' N' => h (n + 1) h' F' ?_
    have : (its.toList ++ its2.toList).toArray = its ++ its2 := by
      apply Array.toList_inj.mp
      simp
    rw [this] at N'; exact N'
theorem kl_last_app (y : Value) : ∀ p : List Value, kl_last (p ++ [y]) = some (p, y)
  | [] => rfl
  | [x] => rfl
  | x :: z :: p => by
    have := kl_last_app y (z :: p)
    simp only [List.cons_append] at this ⊢
    unfold kl_last
    rw [this]
theorem m_pop {p : List Value} {y : Value} {n : Nat} {Q : Value → Shared → Prop} (F : Fr h₀ L s.heap m) (N : News h₀ L s.heap led) (P : Pick D (listOf (p ++ [y]).toArray n) led rest) (off : ∀ q ∈ rest, q.1 ≠ D) (hz : p.length ≤ 100000)
    (h : ∀ h', Fr h₀ L h' m → News h₀ L h' ((D, listOf p.toArray (n + 1)) :: rest) → Q y { s with heap := h' }) : wpAny (model prog w) A (call (.builtin "list.pop") [.ref D]) Q E s :=
  kl_pop F (P.news N) (by show kl_last (p ++ [y]).toArray.toList = _; exact kl_last_app y p) (.head off) (by rw [PySem.sizeLine_eq]; simp; omega) h
theorem m_append {its : Array Value} {n : Nat} {x : Value} {Q : Value → Shared → Prop} (F : Fr h₀ L s.heap m) (N : News h₀ L s.heap led) (P : Pick D (listOf its n) led rest) (off : ∀ q ∈ rest, q.1 ≠ D) (hz : its.size ≤ 100000)
    (h : ∀ h', Fr h₀ L h' m → News h₀ L h' ((D, listOf (its.push x) (n + 1)) :: rest) → Q .none { s with heap := h' }) : wpAny (model prog w) A (call (.builtin "list.append") [.ref D, x]) Q E s :=
  append_K F (P.news N) (.head off) h (by rw [PySem.sizeLine_eq]; omega)
end
theorem off_05 : True := by
  w_top off
  exact trivial
noncomputable def Ty.kids : Ty → List Ty
  | .param .. | .int .. | .bool .. | .never .. | .tup0 .. | .adt0 .. => []
  | .ref _ _ _ _ d | .box _ _ d | .arr _ _ _ d | .tup1 _ _ _ d | .adt1 _ _ _ _ _ d => [d]
  | .tup2 _ _ _ d e | .adt2 _ _ _ _ _ d e => [d, e]
noncomputable def Ty.own : Ty → List Value
  | .adt0 a .. | .adt1 a .. | .adt2 a .. => [.ref a]
  | _ => []
noncomputable def refsOf (ds : List Ty) : List Value := ds.map fun d => .ref d.addr
noncomputable def heldOf (ds : List Ty) : List Value := (ds.map Ty.held).flatten
noncomputable def sizeOf' (ds : List Ty) : Nat := (ds.map Ty.size).sum
theorem Ty.held_eq (D : Ty) : D.held = D.own ++ heldOf D.kids := by
  cases D <;> simp [Ty.held, Ty.own, Ty.kids, heldOf]
theorem Ty.size_eq (D : Ty) : D.size = sizeOf' D.kids + 1 := by
  cases D <;> simp [Ty.size, Ty.kids, sizeOf'] <;> omega
theorem Ty.kids_len (D : Ty) : D.kids.length ≤ 2 := by cases D <;> simp [Ty.kids]
theorem TyIn.kid {l : List (Addr × Obj)} {v : Value} {D : Ty} (h : TyIn l v D) : ∀ d ∈ D.kids, TyIn l (.ref d.addr) d := by
  intro d hd
  cases h <;> simp [Ty.kids] at hd
  case ref h1 h2 => subst hd; exact h2.isRef ▸ h2
  case box h1 h2 => subst hd; exact h2.isRef ▸ h2
  case arr h1 h2 => subst hd; exact h2.isRef ▸ h2
  case tup1 _ _ h2 => subst hd; exact h2.isRef ▸ h2
  case adt1 _ _ h2 => subst hd; exact h2.isRef ▸ h2
  case tup2 _ _ h1 h2 => rcases hd with rfl | rfl; exact h1.isRef ▸ h1; exact h2.isRef ▸ h2
  case adt2 _ _ h1 h2 => rcases hd with rfl | rfl; exact h1.isRef ▸ h1; exact h2.isRef ▸ h2
theorem ne_cls {h₀ h : Heap} {L a b : Addr} {l : List (Addr × Obj)} {x y : Array Value} {n k : Nat} (N : News h₀ L h l) (ha : (a, listOf x n) ∈ l) (hb : (b, ({ cls := .type "tuple", data := .seq y k } : Obj)) ∈ l) : a ≠ b := by
  intro e
  subst e
  have h1 := (N _ ha).1
  have h2 := (N _ hb).1
  rw [h1] at h2
  have h3 : Value.type "list" = Value.type "tuple" := congrArg Obj.cls (Option.some.inj h2)
  exact absurd (Value.type.inj h3) (by decide)
set_option maxRecDepth 100000 in
set_option maxHeartbeats 8000000 in
theorem parts_spec : ∀ (w : World) (mean : ExcName → Option Value) (mg mb : Str → Option Value) (D : Ty)
    (dp un : Nat) (gd : Option (List Code)) (cn : Str) (cs : Scope) (a : Addr) (ccd : Value) (cl : List (Str × Addr)) (outer : List Env) (A₀ : Around) (base h₀ : Heap) (L : Addr) (m : Str → Option Value) (news : List (Addr × Obj)) (s : Shared)
    (v : Value) (Q E : Value → Shared → Prop)
    (B : Below A₀ base outer h₀) (F : Fr h₀ L s.heap m) (X : (Mine.hd.heap_1 w.params).In h₀) (N : News h₀ L s.heap news) (T : Top vw lz mean mg mb h₀) (hk : cs.kind = .function)
    (hR : TyIn news v D) (hd : dp + 3 < recursionLimit) (hu : un + 24 < cLine)
    (hret : ∀ b h' tk', Fr h₀ L h' m → News h₀ L h' ((b, tupO (refsOf D.kids).toArray) :: news) → Q (.ref b) { s with heap := h', toks := tk' }),
    wpAny (model PySem.Challenge.rw_xm0579_01.row.prog w) (ktrTop dp un gd cn cs L a ccd cl outer) (call (.ref 54) [v]) Q E s := by
  k_fill
  intro w mean mg mb D dp un gd cn cs a ccd cl outer A₀ base h₀ L m news s v Q E B F X N T hk hR hd hu hret
  cases hR
  case' ref h1 h2 => obtain rfl := h2.isRef
  case' box h1 h2 => obtain rfl := h2.isRef
  case' arr h1 h2 => obtain rfl := h2.isRef
  case' tup1 h2 h3 h1 => obtain rfl := h1.isRef
  case' tup2 h2 h3 h1 h4 => obtain rfl := h1.isRef; obtain rfl := h4.isRef
  case' adt1 h2 h3 h1 => obtain rfl := h1.isRef
  case' adt2 h2 h3 h1 h4 => obtain rfl := h1.isRef; obtain rfl := h4.isRef
  all_goals (
    refine wpAny_call ?_
    k_dflt ktr_enter
    k_steps)
  all_goals first
    | exact hret _ _ _ (by assumption) (by assumption)
    | exact hret _ _ _ (by assumption) (news_cons (by assumption) (by assumption))
theorem off_06 : True := by
  w_top off
  exact trivial
noncomputable def Held (P : Prop) : Prop := P
theorem Held.intro {P : Prop} (h : Held P) : P := h
theorem held {P : Prop} (h : P) : Held P := h
theorem whl_ind {prog : Program} {w : World} {A : Around} {E : Value → Shared → Prop} {env : Env} {test : PySem.Expr} {body orelse : List Stmt} {Q : Flow → Shared → Prop} (P : Nat → Shared → Prop)
    (step : ∀ n s, (∀ n' s', n' < n → P n' s' → WhlRest prog w A E env test body orelse Q 0 s') → P n s → WhlRest prog w A E env test body orelse Q 1 s) {k : Nat} (n : Nat) (s : Shared) (h : P n s) : WhlRest prog w A E env test body orelse Q k s := by
  have : WhlRest prog w A E env test body orelse Q 0 s := by
    induction n using Nat.strongRecOn generalizing s with
    | ind n ih => exact step n s (fun n' s' hn hp => ih n' hn s' hp) h
  exact this
theorem whl_ind4 {prog : Program} {w : World} {A : Around} {E : Value → Shared → Prop} {env : Env} {test : PySem.Expr} {body orelse : List Stmt} {Q : Flow → Shared → Prop} (I : Heap → Addr → Addr → Addr → Nat → Shared → Prop) {g : Heap} {L f l : Addr} {k n : Nat} {s : Shared} (h : I g L f l n s)
    (step : ∀ n s, (∀ n' s', n' < n → I g L f l n' s' → WhlRest prog w A E env test body orelse Q 0 s') → I g L f l n s → WhlRest prog w A E env test body orelse Q 1 s) : WhlRest prog w A E env test body orelse Q k s :=
  whl_ind (I g L f l) step n s h
theorem ne_empty {prog : Program} {w : World} {A : Around} {E : Value → Shared → Prop} {s : Shared} {h₀ : Heap} {L a b : Addr} {led : List (Addr × Obj)} {p : List Value} {y : Value} {n k : Nat} {Q : Value → Shared → Prop}
    (N : News h₀ L s.heap led) (ha : (a, listOf (p ++ [y]).toArray n) ∈ led) (hb : (b, listOf #[] k) ∈ led) (hu : A.units < cLine) (h : Q (.bool true) s) : wpAny (model prog w) A (compareOp .NotEq (.ref a) (.ref b)) Q E s :=
  PySem.SeqAt.RcNeAt.lists_lengths (isList_of N ha) (isList_of N hb) (by simp) hu prog w E Q h
theorem ne_empty0 {prog : Program} {w : World} {A : Around} {E : Value → Shared → Prop} {s : Shared} {h₀ : Heap} {L a b : Addr} {led : List (Addr × Obj)} {n k : Nat} {Q : Value → Shared → Prop}
    (N : News h₀ L s.heap led) (ha : (a, listOf #[] n) ∈ led) (hb : (b, listOf #[] k) ∈ led) (hu : A.units < cLine) (h : Q (.bool false) s) : wpAny (model prog w) A (compareOp .NotEq (.ref a) (.ref b)) Q E s :=
  PySem.SeqAt.RcNeAt.lists (e := fun _ => true) (isList_of N ha) (isList_of N hb) rfl hu (fun j h1 _ => absurd h1 (by simp)) prog w E Q h
theorem parts_use {w : World} {mean : ExcName → Option Value} {mg mb : Str → Option Value} {D : Ty}
    {dp un : Nat} {gd : Option (List Code)} {cn : Str} {cs : Scope} {a : Addr} {ccd : Value} {cl : List (Str × Addr)} {outer : List Env} {A₀ : Around} {base h₀ : Heap} {L : Addr} {m : Str → Option Value} {news : List (Addr × Obj)} {s : Shared}
    {v : Value} {Q E : Value → Shared → Prop}
    (B : Below A₀ base outer h₀) (F : Fr h₀ L s.heap m) (X : (Mine.hd.heap_1 w.params).In h₀) (N : News h₀ L s.heap news) (T : Top vw lz mean mg mb h₀) (hk : cs.kind = .function)
    (hR : TyIn news v D) (hd : dp + 3 < recursionLimit) (hu : un + 24 < cLine)
    (hret : ∀ b h' tk', Fr h₀ L h' m → News h₀ L h' ((b, tupO (refsOf D.kids).toArray) :: news) → (∀ x vs n, (x, listOf vs n) ∈ news → x ≠ b) → Q (.ref b) { s with heap := h', toks := tk' }) :
    wpAny (model PySem.Challenge.rw_xm0579_01.row.prog w) (ktrTop dp un gd cn cs L a ccd cl outer) (call (.ref 54) [v]) Q E s :=
  parts_spec w mean mg mb D _ _ _ _ _ _ _ _ _ _ _ _ _ _ _ _ _ _ _ B F X N T hk hR hd hu fun b h' tk' F' N' => hret b h' tk' F' N' fun x vs n hm => ne_cls N' (.tail _ hm) (.head _)
theorem lines_06_1 : True := by
  k_with "call ref" => (k_here; (with_reducible show wpAny _ _ (call (Value.ref 54) _) _ _ _); k_dflt (
        refine' parts_use ?zzkB ?zzkF ?zzkX ?zzkN ?zzkT ?zzkK ?zzkR ?zzkd ?zzku ?_
        (case zzkB => k_asm)
        (case zzkF => k_asm)
        (case zzkX => k_asm)
        (case zzkN => k_asm)
        (case zzkT => k_asm)
        (case zzkK => first | exact rfl | assumption)
        (case zzkR => k_extra "m:ty")
        (case zzkd => ktr_room)
        (case zzku => ktr_units)
        (intro b' h' tk' F' N' hb')
        (try k_fold)))
  k_with "m:ne" => first
        | ((try dsimp only); k_extra "m:ne0")
        | (refine neN ?_; (try dsimp only); omega)
        | exact (‹∀ (x : Addr) (vs : Array Value) (n : Nat), (x, listOf vs n) ∈ _ → x ≠ _› _ _ _ (by k_mem))
        | exact Ne.symm (‹∀ (x : Addr) (vs : Array Value) (n : Nat), (x, listOf vs n) ∈ _ → x ≠ _› _ _ _ (by k_mem))
  k_with "call builtin:list.extend" => (k_here; (with_reducible show wpAny _ _ (call (Value.builtin _) [Value.ref _, Value.ref _]) _ _ _); k_dflt (refine' m_extendT ?zzF ?zzN ?zzP ?zzo ?zzb ?zzz1 ?zzz2 ?_; (case zzF => k_asm); (case zzN => k_asm); (case zzP => k_extra "m:pick"); (case zzo => k_extra "m:all"); (case zzb => k_mem); (case zzz1 => k_extra "m:size"); (case zzz2 => k_extra "m:size"); k_whole); (intro n' h' F' N'); (try k_sweep))
  k_with "call builtin:list.pop" => (k_here; (with_reducible show wpAny _ _ (call (Value.builtin _) [Value.ref _]) _ _ _); k_dflt (refine' m_pop ?zzF ?zzN ?zzP ?zzo ?zzz ?_; (case zzF => k_asm); (case zzN => k_asm); (case zzP => k_extra "m:pick"); (case zzo => k_extra "m:all"); (case zzz => k_extra "m:size"); k_whole); (intro h' F' N'); (try k_sweep))
  k_with "call builtin:list.append" => (k_here; (with_reducible show wpAny _ _ (call (Value.builtin _) [Value.ref _, _]) _ _ _); k_dflt (refine' m_append ?zzF ?zzN ?zzP ?zzo ?zzz ?_; (case zzF => k_asm); (case zzN => k_asm); (case zzP => k_extra "m:pick"); (case zzo => k_extra "m:all"); (case zzz => k_extra "m:size"); k_whole); (intro h' F' N'); (try k_sweep))
  k_with "compareOp NotEq ref ref" => (k_here; (with_reducible show wpAny _ _ (compareOp CmpOp.NotEq (Value.ref _) (Value.ref _)) _ _ _); k_dflt (first
        | (refine' ne_empty ?zzN ?zza ?zzb ?zzu ?_; (case zzN => k_asm); (case zza => k_mem); (case zzb => k_mem); (case zzu => ktr_units); k_whole)
        | (refine' ne_empty0 ?zzN ?zza ?zzb ?zzu ?_; (case zzN => k_asm); (case zza => k_mem); (case zzb => k_mem); (case zzu => ktr_units); k_whole)))
  exact trivial
theorem refsOf_length (ds : List Ty) : (refsOf ds).length = ds.length := by simp [refsOf]
theorem str_no {prog : Program} {w : World} {A : Around} {E : Value → Shared → Prop} {s : Shared} {x y : Str} {t u : Tok} {Q : Value → Shared → Prop} (h : x ≠ y) (q : Q (.bool false) s) : wpAny (model prog w) A (compareOp .Eq (.str x t) (.str y u)) Q E s := by
  refine eq_str ?_
  rw [beq_eq_false_iff_ne.mpr h]
  exact q
theorem head_tuple {prog : Program} {w : World} {A : Around} {E : Value → Shared → Prop} {s : Shared} {h₀ : Heap} {L a : Addr} {led : List (Addr × Obj)} {v : Value} {rest : List Value} {Q : Value → Shared → Prop} {value slice : PySem.Expr} {u : Tok}
    (N : News h₀ L s.heap led) (hm : (a, tupO (v :: rest).toArray) ∈ led) (h : Q v s)
    (hs : subscripted slice false (.ref a) (.int 0 u) = operate [.ref a, .int 0 u] (getItem (.ref a) (.int 0 u)) := by with_unfolding_all rfl) :
    wpAny (model prog w) A (subscriptTail value slice (.ref a) (.int 0 u)) Q E s :=
  item_tupleT (j := 0) (News.isTup N hm) (by decide) (by decide) (by simp [seqIndex?]) (by simp) h hs
theorem TyIn.head {l : List (Addr × Obj)} {v : Value} {d : Ty} (h : TyIn l v d) : ∃ x t rest, (d.addr, tupO (.str x t :: rest).toArray) ∈ l ∧ ((x = Str.ofString "adt" ∧ d.own = [.ref d.addr]) ∨ (x ≠ Str.ofString "adt" ∧ d.own = [])) := by
  cases h
  case adt0 h _ => exact ⟨_, _, _, h, .inl ⟨rfl, rfl⟩⟩
  case adt1 h _ _ => exact ⟨_, _, _, h, .inl ⟨rfl, rfl⟩⟩
  case adt2 h _ _ _ => exact ⟨_, _, _, h, .inl ⟨rfl, rfl⟩⟩
  case param h => exact ⟨_, _, _, h, .inr ⟨by decide, rfl⟩⟩
  case int h => exact ⟨_, _, _, h, .inr ⟨by decide, rfl⟩⟩
  case bool h => exact ⟨_, _, _, h, .inr ⟨by decide, rfl⟩⟩
  case never h => exact ⟨_, _, _, h, .inr ⟨by decide, rfl⟩⟩
  case ref h _ => exact ⟨_, _, _, h, .inr ⟨by decide, rfl⟩⟩
  case box h _ => exact ⟨_, _, _, h, .inr ⟨by decide, rfl⟩⟩
  case arr h _ => exact ⟨_, _, _, h, .inr ⟨by decide, rfl⟩⟩
  case tup0 h _ => exact ⟨_, _, _, h, .inr ⟨by decide, rfl⟩⟩
  case tup1 h _ _ => exact ⟨_, _, _, h, .inr ⟨by decide, rfl⟩⟩
  case tup2 h _ _ _ => exact ⟨_, _, _, h, .inr ⟨by decide, rfl⟩⟩
theorem lines_06_2 : True := by
  k_with "compareOp Eq str str" => (k_here; (with_reducible show wpAny _ _ (compareOp CmpOp.Eq (Value.str _ _) (Value.str _ _)) _ _ _); refine str_no (by with_reducible assumption) ?_)
  k_with "subscriptTail" => (k_here; (with_reducible show wpAny _ _ (subscriptTail _ _ (Value.ref _) (Value.int 0 _)) _ _ _); k_dflt (refine' head_tuple ?zzN ?zzm ?_; (case zzN => k_asm); (case zzm => k_mem); k_whole))
  k_with "subscriptTail Name Slice ref ref" => (k_here; (with_reducible show wpAny _ _ (subscriptTail _ (PySem.Expr.Slice _ _ (some _) _) (Value.ref _) (Value.ref _)) _ _ _); k_dflt (refine' slice_tuple_revX ?zzF ?zzN ?zzhm ?zzz ?_ ?zzhs ?zzhg; (case zzF => k_asm); (case zzN => k_asm); (case zzhm => k_mem); (case zzz => k_extra "m:size"); (case zzhs => with_unfolding_all rfl); (case zzhg => kmk_pure)); (intro D' h' F' N' l1); (try k_lt l1); (try k_sweep))
  k_with "m:size" => first | decide | omega | ((try simp only [Array.size_append, List.size_toArray, List.length_nil, List.length_cons, List.length_append, Array.size_empty, List.length_reverse, List.length_map, refsOf_length, Array.length_toList]); omega)
  k_with "eval Name" => (k_here; k_dflt (refine' nameX_L ?zzF ?zzv ?_ ?zza ?zzb; (case zzF => k_asm); (case zza => rfl); (case zzb => rfl); (case zzv => assumption); k_whole))
  exact trivial
noncomputable def AInv (g : Heap) (L f l : Addr) (news : List (Addr × Obj)) (D : Ty) (s₀ : Shared) (n : Nat) (s' : Shared) : Prop :=
  ∃ h tk mm ds acc nf nl, s' = { s₀ with heap := h, toks := tk } ∧ Fr g L h mm ∧ mm (Str.ofString "found") = some (.ref f) ∧ mm (Str.ofString "left") = some (.ref l) ∧
    News g L h ((f, listOf (List.toArray acc) nf) :: (l, listOf (refsOf ds).reverse.toArray nl) :: news) ∧ (∀ d ∈ ds, TyIn news (.ref d.addr) d) ∧ acc ++ heldOf ds = D.held ∧ sizeOf' ds = n ∧ n ≤ 1000
theorem news3 {h₀ h : Heap} {L f l : Addr} {o1 o2 : Obj} {led news : List (Addr × Obj)} (N : News h₀ L h led) (h1 : (f, o1) ∈ led) (h2 : (l, o2) ∈ led) (h3 : ∀ p ∈ news, p ∈ led) : News h₀ L h ((f, o1) :: (l, o2) :: news) := by
  intro p hp
  rcases List.mem_cons.mp hp with rfl | hp
  · exact N _ h1
  · rcases List.mem_cons.mp hp with rfl | hp
    · exact N _ h2
    · exact N _ (h3 _ hp)
theorem newsFL {h₀ h : Heap} {L f l : Addr} {A1 A2 B1 B2 : Array Value} {n1 n2 : Nat} {led news : List (Addr × Obj)} (N : News h₀ L h led) (h1 : (f, listOf A1 n1) ∈ led) (h2 : (l, listOf A2 n2) ∈ led) (e1 : A1 = B1) (e2 : A2 = B2) (h3 : ∀ p ∈ news, p ∈ led) :
    News h₀ L h ((f, listOf B1 n1) :: (l, listOf B2 n2) :: news) := by
  subst e1 e2
  exact news3 N h1 h2 h3
theorem heldOf_cons (d : Ty) (ds : List Ty) : heldOf (d :: ds) = d.own ++ heldOf (d.kids ++ ds) := by
  simp [heldOf, d.held_eq]
theorem sizeOf_cons (d : Ty) (ds : List Ty) : sizeOf' (d :: ds) = sizeOf' (d.kids ++ ds) + 1 := by
  have := d.size_eq
  simp only [sizeOf', List.map_cons, List.sum_cons, List.map_append, List.sum_append] at *
  omega
theorem size_len (ds : List Ty) : ds.length ≤ sizeOf' ds := by
  induction ds with
  | nil => simp
  | cons d ds ih =>
    have := d.size_eq
    simp only [sizeOf', List.map_cons, List.sum_cons, List.length_cons] at *
    omega
theorem lines_06_3 : True := by
  k_with "WhlRest" => (refine Held.intro ?_)
  exact trivial
set_option maxRecDepth 100000 in
set_option maxHeartbeats 8000000 in
theorem adts_spec : ∀ (w : World) (mean : ExcName → Option Value) (mg mb : Str → Option Value) (D : Ty)
    (dp un : Nat) (gd : Option (List Code)) (cn : Str) (cs : Scope) (a : Addr) (ccd : Value) (cl : List (Str × Addr)) (outer : List Env) (A₀ : Around) (base h₀ : Heap) (L : Addr) (m : Str → Option Value) (news : List (Addr × Obj)) (s : Shared)
    (v : Value) (Q E : Value → Shared → Prop)
    (B : Below A₀ base outer h₀) (F : Fr h₀ L s.heap m) (X : (Mine.hd.heap_1 w.params).In h₀) (N : News h₀ L s.heap news) (T : Top vw lz mean mg mb h₀) (hk : cs.kind = .function)
    (hR : TyIn news v D) (hsz : D.size ≤ 1000) (hd : dp + 8 < recursionLimit) (hu : un + 64 < cLine)
    (hret : ∀ l n h' tk', Fr h₀ L h' m → News h₀ L h' ((l, listOf D.held.toArray n) :: news) → (∀ p ∈ news, p.1 < l) → Q (.ref l) { s with heap := h', toks := tk' }),
    wpAny (model PySem.Challenge.rw_xm0579_01.row.prog w) (ktrTop dp un gd cn cs L a ccd cl outer) (call (.ref 101) [v]) Q E s := by
  k_fill
  intro w mean mg mb D dp un gd cn cs a ccd cl outer A₀ base h₀ L m news s v Q E B F X N T hk hR hsz hd hu hret
  obtain rfl := hR.isRef
  refine wpAny_call ?_
  k_dflt ktr_enter
  k_steps
  refine' whl_ind4 (I := fun g L f l n s' => AInv g L f l news D s n s') ?init ?step
  case init => exact ⟨_, _, _, [D], [], _, _, rfl, by assumption, by rfl, by rfl, news3 (by assumption) (by k_mem) (by k_mem) (by intro p hp; simp [hp]), by simpa using hR, by simp [heldOf], rfl, by simpa [sizeOf'] using hsz⟩
  case step =>
    intro n s' IH hI
    obtain ⟨h, tk, mm, ds, acc, nf, nl, rfl, F1, hf, hl, N1, hty, hsum, hn, hn2⟩ := hI
    have hacc : acc.length ≤ 1000 := by
      have h1 := D.held_len
      have h2 := congrArg List.length hsum
      simp at h2
      omega
    have hdl := size_len ds
    cases ds with
    | nil =>
      refine' whl_turn ?hE ?_
      (case hE => first | passes_own | with_unfolding_all passes_own)
      k_steps
      exact hret _ _ _ _ (by assumption) (end_list (by assumption) (by k_extra "m:pick") (by rw [← hsum]; simp [heldOf]) (by intro p hp; simp [hp])) (lt_of_all (by assumption))
    | cons d ds =>
      have hk2 := d.kids_len
      obtain ⟨x, t, rest, hm, hx⟩ := (hty d (.head _)).head
      have hd1 := hty d (.head _)
      simp only [List.length_cons] at hdl
      simp only [refsOf, List.map_cons, List.reverse_cons] at N1
      rcases hx with ⟨rfl, ho⟩ | ⟨hx, ho⟩
      · refine' whl_turn ?hE ?_
        (case hE => first | passes_own | with_unfolding_all passes_own)
        k_steps
        have hsum' : (acc ++ d.own) ++ heldOf (d.kids ++ ds) = D.held := by rw [← hsum, heldOf_cons, List.append_assoc]
        have hsz' := sizeOf_cons d ds
        have hty' : ∀ e ∈ d.kids ++ ds, TyIn news (.ref e.addr) e := fun e he => (List.mem_append.mp he).elim (hd1.kid e) fun h => hty e (.tail _ h)
        refine held (IH _ _ ?_ ⟨_, _, _, d.kids ++ ds, acc ++ d.own, _, _, rfl, by assumption, ?_, ?_, newsFL (by assumption) (by k_mem) (by k_mem) (by rw [ho]; simp) (by simp [refsOf]) (by intro p hp; simp [hp]), hty', hsum', rfl, ?_⟩)
        · omega
        · exact (if_neg (by decide)).trans hf
        · exact (if_neg (by decide)).trans hl
        · omega
      · refine' whl_turn ?hE ?_
        (case hE => first | passes_own | with_unfolding_all passes_own)
        k_steps
        have hsum' : (acc ++ d.own) ++ heldOf (d.kids ++ ds) = D.held := by rw [← hsum, heldOf_cons, List.append_assoc]
        have hsz' := sizeOf_cons d ds
        have hty' : ∀ e ∈ d.kids ++ ds, TyIn news (.ref e.addr) e := fun e he => (List.mem_append.mp he).elim (hd1.kid e) fun h => hty e (.tail _ h)
        refine held (IH _ _ ?_ ⟨_, _, _, d.kids ++ ds, acc ++ d.own, _, _, rfl, by assumption, ?_, ?_, newsFL (by assumption) (by k_mem) (by k_mem) (by rw [ho]; simp) (by simp [refsOf]) (by intro p hp; simp [hp]), hty', hsum', rfl, ?_⟩)
        · omega
        · exact (if_neg (by decide)).trans hf
        · exact (if_neg (by decide)).trans hl
        · omega
theorem off_07 : True := by
  w_top off
  exact trivial
inductive Cut (news : List (Addr × Obj)) : List (Addr × Obj) → List (Addr × Obj) → Prop
  | nil : Cut news news []
  | cons {p R tl} : Cut news R tl → Cut news (p :: R) (p :: tl)
  | app {t R tl} : Cut news R tl → Cut news (t ++ R) (t ++ tl)
theorem Cut.eq {news : List (Addr × Obj)} : ∀ {R tl : List (Addr × Obj)}, Cut news R tl → R = tl ++ news
  | _, _, .nil => rfl
  | _, _, .cons h => by rw [h.eq]; rfl
  | _, _, .app h => by rw [h.eq, List.append_assoc]
theorem lines_07_1 : True := by
  k_with "m:cut" => first | exact Cut.nil | (refine' Cut.cons ?zzc; (case zzc => k_extra "m:cut")) | (refine' Cut.app ?zzc; (case zzc => k_extra "m:cut"))
  exact trivial
noncomputable def NewTo (b tl : List (Addr × Obj)) : Prop := ∀ p ∈ tl, ∀ q ∈ b, q.1 < p.1
theorem off_new {b tl : List (Addr × Obj)} {d : Addr} {o : Obj} (h : NewTo b tl) (hm : (d, o) ∈ b) : ∀ p ∈ tl, p.1 ≠ d := fun p hp => Nat.ne_of_gt (h p hp _ hm)
theorem NewTo.nil {b : List (Addr × Obj)} : NewTo b [] := fun _ hp => nomatch hp
theorem NewTo.cons {b tl : List (Addr × Obj)} {a : Addr} {o : Obj} (h1 : ∀ q ∈ b, q.1 < a) (h : NewTo b tl) : NewTo b ((a, o) :: tl) := fun p hp => by
  rcases List.mem_cons.mp hp with rfl | hp
  · exact h1
  · exact h p hp
theorem NewTo.app {b t tl : List (Addr × Obj)} (h1 : NewTo b t) (h : NewTo b tl) : NewTo b (t ++ tl) := fun p hp => (List.mem_append.mp hp).elim (h1 p) (h p)
theorem NewTo.sub {b b' t : List (Addr × Obj)} (h : NewTo b' t) (hs : ∀ q ∈ b, ∃ q' ∈ b', q'.1 = q.1) : NewTo b t := fun p hp q hq => by
  obtain ⟨q', h1, h2⟩ := hs q hq
  exact h2 ▸ h p hp q' h1
theorem lts_cons {d : Addr} {q : Addr × Obj} {l : List (Addr × Obj)} (h1 : @LT.lt Nat _ q.1 d) (h2 : ∀ q ∈ l, q.1 < d) : ∀ p ∈ q :: l, p.1 < d := List.forall_mem_cons.mpr ⟨h1, h2⟩
theorem lts_app {d : Addr} {l r : List (Addr × Obj)} (h1 : ∀ q ∈ l, q.1 < d) (h2 : ∀ q ∈ r, q.1 < d) : ∀ p ∈ l ++ r, p.1 < d := List.forall_mem_append.mpr ⟨h1, h2⟩
theorem lines_07_2 : True := by
  k_with "m:lts" => first
        | assumption
        | exact List.forall_mem_nil _
        | exact lt_of_all (by assumption)
        | (refine lts_cons ?_ ?_; (focus k_extra "m:lt0"); (focus k_extra "m:lts"))
        | (refine lts_app ?_ ?_; (focus k_extra "m:lts"); (focus k_extra "m:lts"))
  exact trivial
theorem subA_cons {b : List (Addr × Obj)} {q : Addr × Obj} {l : List (Addr × Obj)} (h1 : ∃ q' ∈ b, q'.1 = q.1) (h2 : ∀ q ∈ l, ∃ q' ∈ b, q'.1 = q.1) : ∀ p ∈ q :: l, ∃ q' ∈ b, q'.1 = p.1 := List.forall_mem_cons.mpr ⟨h1, h2⟩
theorem subA_sub {b l : List (Addr × Obj)} (h : ∀ p ∈ l, p ∈ b) : ∀ p ∈ l, ∃ q' ∈ b, q'.1 = p.1 := fun p hp => ⟨p, h p hp, rfl⟩
theorem subA_at {b : List (Addr × Obj)} {a : Addr} {o o' : Obj} (h : (a, o') ∈ b) : ∃ q' ∈ b, q'.1 = (a, o).1 := ⟨_, h, rfl⟩
theorem lines_07_3 : True := by
  k_with "m:subA" => first
        | exact subA_sub (by intro p9 h9; simp only [List.mem_append, List.mem_cons]; simp only [h9, true_or, or_true]; done)
        | (refine subA_cons (subA_at (by k_mem)) ?_; k_extra "m:subA")
  k_with "m:new" => first
        | exact NewTo.nil
        | (refine NewTo.cons ?_ ?_; (focus k_extra "m:lts"); (focus k_extra "m:new"))
        | (refine NewTo.app ?_ ?_; (focus first | assumption | exact NewTo.sub (by assumption) (by k_extra "m:subA")); (focus k_extra "m:new"))
  exact trivial
theorem end_row {h₀ h : Heap} {L src : Addr} {o : Obj} {led R tl news : List (Addr × Obj)} (N : News h₀ L h led) (P : Pick src o led R) (C : Cut news R tl) : News h₀ L h ((src, o) :: (tl ++ news)) := C.eq ▸ P.news N
noncomputable def RowIn (l : List (Addr × Obj)) (v : Value) (k : Nat) : Prop :=
  ∃ a t T nl hl n1 n2, v = .ref a ∧ (a, tupO #[t, .ref nl, .ref hl]) ∈ l ∧ TyIn l t T ∧ (nl, listOf T.names.toArray n1) ∈ l ∧ (hl, listOf T.held.toArray n2) ∈ l ∧ T.depth ≤ k ∧ T.size < 2 ^ k
theorem RowIn.mono {l l' : List (Addr × Obj)} {v : Value} {k k' : Nat} (h : RowIn l v k) (hs : ∀ p ∈ l, p ∈ l') (hk : k ≤ k') : RowIn l' v k' := by
  obtain ⟨a, t, T, nl, hl, n1, n2, h1, h2, h3, h4, h5, h6, h7⟩ := h
  exact ⟨a, t, T, nl, hl, n1, n2, h1, hs _ h2, h3.mono hs, hs _ h4, hs _ h5, Nat.le_trans h6 hk, Nat.lt_of_lt_of_le h7 (Nat.pow_le_pow_right (by decide) hk)⟩
theorem one_use {w : World} {mean : ExcName → Option Value} {mg mb : Str → Option Value}
    {dp un : Nat} {gd : Option (List Code)} {cn : Str} {cs : Scope} {a : Addr} {ccd : Value} {cl : List (Str × Addr)} {outer : List Env} {A₀ : Around} {base h₀ : Heap} {L : Addr} {m : Str → Option Value} {led news : List (Addr × Obj)} {s : Shared}
    {src lst : Addr} {vs : Array Value} {x y : Int} {t u : Tok} {n k : Nat} {Q E : Value → Shared → Prop}
    (B : Below A₀ base outer h₀) (F : Fr h₀ L s.heap m) (X : (Mine.hd.heap_1 w.params).In h₀) (N : News h₀ L s.heap led) (P : Pick src (listOf #[.int x t, .int y u] n) led news) (T : Top vw lz mean mg mb h₀) (hk : cs.kind = .function)
    (hsep : ∀ p ∈ news, p.1 ≠ src) (hl : (lst, listOf vs k) ∈ news) (hs1 : 1 < vs.size) (hs2 : vs.size ≤ 100)
    (hx : 0 ≤ x) (hy : 0 ≤ y) (hy2 : y < 2147483647) (hd : dp + 8 < recursionLimit) (hu : un + 64 < cLine)
    (hret : ∀ v, v ∈ vs.toList → ∀ x' y' t' u' h' tk', Fr h₀ L h' m → News h₀ L h' ((src, listOf #[.int x' t', .int y' u'] n) :: news) → 0 ≤ x' → 0 ≤ y' → y' < 2147483647 → Q v { s with heap := h', toks := tk' }) :
    wpAny (model PySem.Challenge.rw_xm0579_01.row.prog w) (ktrTop dp un gd cn cs L a ccd cl outer) (call (.ref 122) [.ref src, .ref lst]) Q E s :=
  one_spec w mean mg mb dp un gd cn cs a ccd cl outer A₀ base h₀ L m news s src lst vs x y t u n k Q E B F X (P.news N) T hk hsep hl hs1 hs2 hx hy hy2 hd hu hret
theorem lines_07_4 : True := by
  k_with "call ref" => (k_here; (with_reducible show wpAny _ _ (call (Value.ref 122) _) _ _ _); k_dflt (
        refine' one_use ?zzkB ?zzkF ?zzkX ?zzkN ?zzkP ?zzkT ?zzkK ?zzksep ?zzkl ?zzks1 ?zzks2 ?zzkx ?zzky ?zzky2 ?zzkd ?zzku ?_
        (case zzkB => k_asm)
        (case zzkF => k_asm)
        (case zzkX => k_asm)
        (case zzkN => k_asm)
        (case zzkP => k_extra "m:pick")
        (case zzkT => k_asm)
        (case zzkK => first | exact rfl | assumption)
        (case zzksep => k_all)
        (case zzkl => k_mem)
        (case zzks1 => k_extra "m:size")
        (case zzks2 => k_extra "m:size")
        (case zzkx => k_extra "m:le0")
        (case zzky => k_extra "m:le0")
        (case zzky2 => k_extra "m:le0")
        (case zzkd => ktr_room)
        (case zzku => ktr_units)
        (intro v' hv' x' y' t' u' h' tk' F' N' hx' hy' hy2')
        (try k_fold)))
  exact trivial
theorem strs2 {v : Value} {a b : Str} {t u : Tok} (h : v ∈ (#[.str a t, .str b u] : Array Value).toList) : ∃ nm tk, v = .str nm tk := by
  simp at h
  rcases h with rfl | rfl <;> exact ⟨_, _, rfl⟩
theorem refs4 {v : Value} {a b c d : Addr} (h : v ∈ (#[.ref a, .ref b, .ref c, .ref d] : Array Value).toList) : v = .ref a ∨ v = .ref b ∨ v = .ref c ∨ v = .ref d := by simpa using h
set_option maxRecDepth 100000 in
set_option maxHeartbeats 8000000 in
theorem base_spec : ∀ (w : World) (mean : ExcName → Option Value) (mg mb : Str → Option Value)
    (dp un : Nat) (gd : Option (List Code)) (cn : Str) (cs : Scope) (a : Addr) (ccd : Value) (cl : List (Str × Addr)) (outer : List Env) (A₀ : Around) (base h₀ : Heap) (L : Addr) (m : Str → Option Value) (news : List (Addr × Obj)) (s : Shared)
    (src : Addr) (x y : Int) (t u : Tok) (n : Nat) (Q E : Value → Shared → Prop)
    (B : Below A₀ base outer h₀) (F : Fr h₀ L s.heap m) (X : (Mine.hd.heap_1 w.params).In h₀) (N : News h₀ L s.heap ((src, listOf #[.int x t, .int y u] n) :: news)) (T : Top vw lz mean mg mb h₀) (hk : cs.kind = .function)
    (hsep : ∀ p ∈ news, p.1 ≠ src)
    (hx : 0 ≤ x) (hy : 0 ≤ y) (hy2 : y < 2147483647) (hd : dp + 12 < recursionLimit) (hu : un + 100 < cLine)
    (hret : ∀ r tl x' y' t' u' h' tk', Fr h₀ L h' m → News h₀ L h' ((src, listOf #[.int x' t', .int y' u'] n) :: (tl ++ news)) → NewTo ((src, listOf #[.int x t, .int y u] n) :: news) tl → RowIn (tl ++ news) r 1 → 0 ≤ x' → 0 ≤ y' → y' < 2147483647 → Q r { s with heap := h', toks := tk' }),
    wpAny (model PySem.Challenge.rw_xm0579_01.row.prog w) (ktrTop dp un gd cn cs L a ccd cl outer) (call (.ref 129) [.ref src]) Q E s := by
  k_fill
  intro w mean mg mb dp un gd cn cs a ccd cl outer A₀ base h₀ L m news s src x y t u n Q E B F X N T hk hsep hx hy hy2 hd hu hret
  refine wpAny_call ?_
  k_dflt ktr_enter
  k_steps
  · obtain ⟨nm, tk', rfl⟩ := strs2 (by assumption)
    exact hret _ _ _ _ _ _ _ _ (by assumption) (end_row (by assumption) (by k_extra "m:pick") (by k_extra "m:cut")) (by k_extra "m:new")
      ⟨_, _, Ty.param _ _ _ _, _, _, _, _, rfl, by k_mem, .param (by k_mem), by k_mem, by k_mem, Nat.le_refl _, by simp [Ty.size]⟩ (by assumption) (by assumption) (by assumption)
  · exact hret _ _ _ _ _ _ _ _ (by assumption) (end_row (by assumption) (by k_extra "m:pick") (by k_extra "m:cut")) (by k_extra "m:new")
      ⟨_, _, Ty.adt0 _ _ _ _ _, _, _, _, _, rfl, by k_mem, .adt0 (by k_mem) (by k_mem), by k_mem, by k_mem, Nat.le_refl _, by simp [Ty.size]⟩ (by assumption) (by assumption) (by assumption)
  · rcases refs4 (by assumption) with rfl | rfl | rfl | rfl
    · exact hret _ _ _ _ _ _ _ _ (by assumption) (end_row (by assumption) (by k_extra "m:pick") (by k_extra "m:cut")) (by k_extra "m:new")
        ⟨_, _, Ty.int _ _ _, _, _, _, _, rfl, by k_mem, .int (by k_mem), by k_mem, by k_mem, Nat.le_refl _, by simp [Ty.size]⟩ (by assumption) (by assumption) (by assumption)
    · exact hret _ _ _ _ _ _ _ _ (by assumption) (end_row (by assumption) (by k_extra "m:pick") (by k_extra "m:cut")) (by k_extra "m:new")
        ⟨_, _, Ty.bool _ _, _, _, _, _, rfl, by k_mem, .bool (by k_mem), by k_mem, by k_mem, Nat.le_refl _, by simp [Ty.size]⟩ (by assumption) (by assumption) (by assumption)
    · exact hret _ _ _ _ _ _ _ _ (by assumption) (end_row (by assumption) (by k_extra "m:pick") (by k_extra "m:cut")) (by k_extra "m:new")
        ⟨_, _, Ty.never _ _, _, _, _, _, rfl, by k_mem, .never (by k_mem), by k_mem, by k_mem, Nat.le_refl _, by simp [Ty.size]⟩ (by assumption) (by assumption) (by assumption)
    · exact hret _ _ _ _ _ _ _ _ (by assumption) (end_row (by assumption) (by k_extra "m:pick") (by k_extra "m:cut")) (by k_extra "m:new")
        ⟨_, _, Ty.tup0 _ _ _, _, _, _, _, rfl, by k_mem, .tup0 (by k_mem) (by k_mem), by k_mem, by k_mem, Nat.le_refl _, by simp [Ty.size]⟩ (by assumption) (by assumption) (by assumption)
theorem off_08 : True := by
  w_top off
  exact trivial
section
variable {prog : Program} {w : World} {A : Around} {E : Value → Shared → Prop} {R : Result → Shared → Prop} {s : Shared}
theorem turn2_1 (g0 : Comprehension) (elt target iter : PySem.Expr) (scope : Scope) (pos : Pos) (it acc : Value) (env : Env) :
    compTurn (.ListComp elt [g0, ⟨target, iter, [], 0⟩] scope pos) 1 it acc env = (standAt iter.pos >>= fun _ => pyNext it >>= fun r => match r with
      | none => pure (.done .next)
      | some v => letOwnedTupleGo target it v >>= fun _ => assign target env v >>= fun _ =>
        (eval elt env >>= fun x => call (.builtin "list.append") [acc, x] >>= fun _ => pure ()) >>= fun _ =>
          again (.compLoop (.ListComp elt [g0, ⟨target, iter, [], 0⟩] scope pos) 1 it acc env)) := by rfl
theorem turn2_0 (elt t0 i0 t1 i1 : PySem.Expr) (scope : Scope) (pos : Pos) (it acc : Value) (env : Env) :
    compTurn (.ListComp elt [⟨t0, i0, [], 0⟩, ⟨t1, i1, [], 0⟩] scope pos) 0 it acc env = (standAt i0.pos >>= fun _ => pyNext it >>= fun r => match r with
      | none => pure (.done .next)
      | some v => letOwnedTupleGo t0 it v >>= fun _ => assign t0 env v >>= fun _ =>
        (eval i1 env >>= fun x => standAt i1.pos >>= fun _ => foldedSetIterable i1 env x >>= fun x => holding [x] (pyIter x) >>= fun j =>
          runOwn (.compStart (.ListComp elt [⟨t0, i0, [], 0⟩, ⟨t1, i1, [], 0⟩] scope pos) 1 j acc env) env >>= fun _ =>
          again (.compLoop (.ListComp elt [⟨t0, i0, [], 0⟩, ⟨t1, i1, [], 0⟩] scope pos) 0 it acc env))) := by rfl
theorem start2 {elt : PySem.Expr} {g0 : Comprehension} {target iter : PySem.Expr} {scope : Scope} {pos : Pos} {it acc : Value} {env : Env}
    (h0 : codeAny (model prog w) A (.compLoop (.ListComp elt [g0, ⟨target, iter, [], 0⟩] scope pos) 1 it acc env) R s)
    (h : wpAny (model prog w) A (pyIter it) (fun it' s' => codeAny (model prog w) A (.compLoop (.ListComp elt [g0, ⟨target, iter, [], 0⟩] scope pos) 1 it' acc env) R s')
      (notedBy (model prog w) A env fun x s' => R (.error x) s') s) :
    codeAny (model prog w) A (.compStart (.ListComp elt [g0, ⟨target, iter, [], 0⟩] scope pos) 1 it acc env) R s := by
  refine codeAny_of_tree ?_
  show wpAny _ _ ((compStart (.ListComp elt [g0, ⟨target, iter, [], 0⟩] scope pos) 1 it acc env).onRaise (fun x => do noteFrame x env; standAt theWindowsPlace)) _ _ s
  refine wpAny_notedAt ?_
  unfold compStart
  show wpAny _ _ (ask >>= _) _ _ s
  refine wpAny_bind (wpAny_askSetting (wpAny_ite ?_))
  split
  · first
      | exact wpAny_bind (wpAny_pure (wpAny_pure (And.intro rfl h0)))
      | exact wpAny_pure (And.intro rfl h0)
  · first
      | exact wpAny_bind (wpAny_rule (wpAny_bind (wpAny_standAt (wpAny_bind (wpAny_mono h (fun it' s' h' => wpAny_pure (And.intro rfl h')) fun _ _ x => x)))))
      | (refine wpAny_bind (wpAny_rule ?_); show wpAny _ _ (standAt iter.pos >>= _) _ _ s; exact wpAny_bind (wpAny_standAt (wpAny_bind (wpAny_mono h (fun it' s' h' => wpAny_pure (And.intro rfl h')) fun _ _ x => x))))
theorem loop2_in {g0 : Comprehension} {x : Str} {px pn : Pos} {iter : PySem.Expr} {scope : Scope} {cl : List (Str × Addr)} {pos : Pos} {env : Env} {J D C b : Addr} {its : Array Value} {ys : List Value} {m : Str → Option Value}
    (hh : A.handled = none) (hk : (compEnvC scope cl C env).scope.kind = .function) (hx : (compEnvC scope cl C env).kindOf x = some .local) (hd : (x == ("__debug__" : Str)) = false)
    (hit : s.heap.IsListIter J b 0) (hl : s.heap.IsList b its) (hD : s.heap.get? D = some (LCg.lst ys)) (hn : s.heap.Ns C m)
    (JC : J ≠ C) (JD : J ≠ D) (CD : C ≠ D) (bJ : b ≠ J) (bC : b ≠ C) (bD : b ≠ D) (hz : ys.length + its.size ≤ 100000)
    (hR : ∀ h' tk m', h'.get? D = some (LCg.lst (ys ++ its.toList)) → h'.Ns C m' → (∀ a o, a ≠ J → a ≠ C → a ≠ D → s.heap.get? a = some o → h'.get? a = some o) → R (.ok .next) { s with heap := h', toks := tk }) :
    codeAny (model prog w) A (.compLoop (.ListComp (.Name x px) [g0, ⟨.Name x pn, iter, [], 0⟩] scope pos) 1 (.ref J) (.ref D) (compEnvC scope cl C env)) R s := by
  refine codeAny_loop rfl (fun k s' => ∃ h' tk i m', s' = { s with heap := h', toks := tk } ∧ i ≤ its.size ∧ k = its.size + 1 - i ∧ h'.IsListIter J b i ∧ h'.IsList b its ∧
      h'.get? D = some (LCg.lst (ys ++ its.toList.take i)) ∧ h'.Ns C m' ∧ (∀ a o, a ≠ J → a ≠ C → a ≠ D → s.heap.get? a = some o → h'.get? a = some o)) ?_ (its.size + 1)
    ⟨s.heap, s.toks, 0, m, rfl, Nat.zero_le _, rfl, hit, hl, by simpa using hD, hn, fun _ _ _ _ _ e => e⟩
  rintro k s' ⟨h', tk, i, m', rfl, hi, rfl, hit', hl', hD', hn', hkeep⟩
  show wpAny _ A ((compTurn (.ListComp (.Name x px) [g0, ⟨.Name x pn, iter, [], 0⟩] scope pos) 1 (.ref J) (.ref D) (compEnvC scope cl C env)).onRaise (fun x => do noteFrame x (compEnvC scope cl C env); theTreesLotGoes x)) _ _ _
  refine wpAny_noted ?_
  rw [turn2_1]
  refine wpAny_bind (wpAny_standAt (wpAny_bind ?_))
  by_cases hlt : i < its.size
  · refine wpAny_pyNext_list_item hit' hl' (x := its[i]) (by simp [hlt]) fun h₂ hit₂ hs₂ => ?_
    refine wpAny_bind (wpAny_of_eq (by rfl) (wpAny_bind (wpAny_assign_Name (wpAny_storeName_local hx (hn'.at' fun o e => hs₂.extBut C o (Ne.symm JC) e) (fun h₃ hn₃ hs₃ => ?_) (by rw [hk]; rfl)))))
    refine wpAny_bind (wpAny_bind (ldVarK hn₃ (v := its[i]) (by simp) ?_ hk hx hd))
    have hD₃ : h₃.get? D = some (LCg.lst (ys ++ its.toList.take i)) := hs₃.extBut _ _ (Ne.symm CD) (hs₂.extBut _ _ (Ne.symm JD) hD')
    refine wpAny_bind (append_at (hsz := by rw [List.size_toArray, PySem.sizeLine_eq]; simp; omega) hD₃ fun h₄ hs₄ hD₄ => ?_)
    refine wpAny_pure (wpAny_pure ⟨rfl, its.size + 1 - (i + 1), by omega, h₄, _, i + 1, (fun z => if z = x then some its[i] else m' z), rfl, hlt, rfl, ?_, ?_, ?_, ?_, ?_⟩)
    · exact (hit₂.at fun o e => hs₃.extBut _ _ JC e).at fun o e => hs₄.extBut _ _ JD e
    · exact ((hl'.extBut hs₂.extBut bJ).extBut hs₃.extBut bC).extBut hs₄.extBut bD
    · rw [hD₄, LCg.lst_snoc, List.take_add_one]
      simp [hlt]
    · exact hn₃.sameBut hs₄ CD
    · exact fun a o h1 h2 h3 e => hs₄.extBut _ _ h3 (hs₃.extBut _ _ h2 (hs₂.extBut _ _ h1 (hkeep a o h1 h2 h3 e)))
  · obtain rfl : i = its.size := Nat.le_antisymm hi (Nat.not_lt.mp hlt)
    refine wpAny_pyNext_list_end hh hit' hl' (by simp) fun h₂ he₂ => ?_
    refine wpAny_pure (hR h₂ _ m' ?_ ?_ ?_)
    · rw [he₂ _ _ (Ne.symm JD) hD', List.take_of_length_le (by simp)]
    · exact hn'.at' fun o e => he₂ _ o (Ne.symm JC) e
    · exact fun a o h1 h2 h3 e => he₂ _ _ h1 (hkeep a o h1 h2 h3 e)
noncomputable abbrev elt2 (x0 x1 : Str) (p0 p1 pe p2 pc ps : Pos) (kd j : Nat) (iter : PySem.Expr) (scope : Scope) (pos : Pos) : PySem.Expr :=
  .ListComp (.Name x1 pe) [⟨.Name x0 p0, iter, [], 0⟩, ⟨.Name x1 p1, .Subscript (.Name x0 p2) (.Constant (.int (j : Int)) kd pc) ps, [], 0⟩] scope pos
noncomputable abbrev flat2 (ps : List (Addr × Addr × List Value)) : List Value := (ps.map fun p => p.2.2).flatten
theorem flat2_snoc (a : List (Addr × Addr × List Value)) (b : Addr × Addr × List Value) : flat2 (a ++ [b]) = flat2 a ++ b.2.2 := by simp [flat2]
theorem loop2_out {x0 x1 : Str} {p0 p1 pe p2 pc ps : Pos} {kd j : Nat} {iter : PySem.Expr} {scope : Scope} {cl : List (Str × Addr)} {pos : Pos} {env : Env} {I D C ax : Addr} {qs : List (Addr × Addr × List Value)} {m : Str → Option Value}
    (hh : A.handled = none) (hk : (compEnvC scope cl C env).scope.kind = .function) (hx0 : (compEnvC scope cl C env).kindOf x0 = some .local) (hx1 : (compEnvC scope cl C env).kindOf x1 = some .local) (hd0 : (x0 == ("__debug__" : Str)) = false) (hd1 : (x1 == ("__debug__" : Str)) = false)
    (hit : s.heap.IsListIter I ax 0) (hl : s.heap.IsList ax (qs.map fun p => Value.ref p.1).toArray) (hD : s.heap.get? D = some (LCg.lst [])) (hn : s.heap.Ns C m)
    (IC : I ≠ C) (ID : I ≠ D) (CD : C ≠ D) (aI : ax ≠ I) (aC : ax ≠ C) (aD : ax ≠ D)
    (hq : ∀ p ∈ qs, (∃ vs, IsTup s.heap p.1 vs ∧ vs[j]? = some (.ref p.2.1)) ∧ s.heap.IsList p.2.1 p.2.2.toArray ∧ p.1 ≠ I ∧ p.1 ≠ C ∧ p.1 ≠ D ∧ p.2.1 ≠ I ∧ p.2.1 ≠ C ∧ p.2.1 ≠ D) (hj : j < 100)
    (hz : (flat2 qs).length ≤ 100000) (hz2 : qs.length ≤ 100000)
    (hR : ∀ h' tk m', h'.get? D = some (LCg.lst (flat2 qs)) → h'.Ns C m' → (∀ a o, a ≠ I → a ≠ C → a ≠ D → s.heap.get? a = some o → h'.get? a = some o) → R (.ok .next) { s with heap := h', toks := tk }) :
    codeAny (model prog w) A (.compLoop (elt2 x0 x1 p0 p1 pe p2 pc ps kd j iter scope pos) 0 (.ref I) (.ref D) (compEnvC scope cl C env)) R s := by
  refine codeAny_loop rfl (fun k s' => ∃ h' tk i m', s' = { s with heap := h', toks := tk } ∧ i ≤ qs.length ∧ k = qs.length + 1 - i ∧ h'.IsListIter I ax i ∧
      h'.get? D = some (LCg.lst (flat2 (qs.take i))) ∧ h'.Ns C m' ∧ (∀ a o, a ≠ I → a ≠ C → a ≠ D → s.heap.get? a = some o → h'.get? a = some o)) ?_ (qs.length + 1)
    ⟨s.heap, s.toks, 0, m, rfl, Nat.zero_le _, rfl, hit, by simpa [flat2] using hD, hn, fun _ _ _ _ _ e => e⟩
  rintro k s' ⟨h', tk, i, m', rfl, hi, rfl, hit', hD', hn', hkeep⟩
  have hl' : h'.IsList ax (qs.map fun p => Value.ref p.1).toArray := hl.at fun o e => hkeep _ _ aI aC aD e
  show wpAny _ A ((compTurn (elt2 x0 x1 p0 p1 pe p2 pc ps kd j iter scope pos) 0 (.ref I) (.ref D) (compEnvC scope cl C env)).onRaise (fun x => do noteFrame x (compEnvC scope cl C env); theTreesLotGoes x)) _ _ _
  refine wpAny_noted ?_
  rw [turn2_0]
  refine wpAny_bind (wpAny_standAt (wpAny_bind ?_))
  by_cases hlt : i < qs.length
  · refine wpAny_pyNext_list_item hit' hl' (x := .ref qs[i].1) (by simp [hlt]) fun h₂ hit₂ hs₂ => ?_
    obtain ⟨⟨vs, htup, hvs⟩, hlb, q1, q2, q3, q4, q5, q6⟩ := hq qs[i] (List.getElem_mem hlt)
    refine wpAny_bind (wpAny_of_eq (by rfl) (wpAny_bind (wpAny_assign_Name (wpAny_storeName_local hx0 (hn'.at' fun o e => hs₂.extBut C o (Ne.symm IC) e) (fun h₃ hn₃ hs₃ => ?_) (by rw [hk]; rfl)))))
    have keep₃ : ∀ a o, a ≠ I → a ≠ C → a ≠ D → s.heap.get? a = some o → h₃.get? a = some o := fun a o h1 h2 h3 e => hs₃.extBut _ _ h2 (hs₂.extBut _ _ h1 (hkeep a o h1 h2 h3 e))
    refine wpAny_bind (Subscript_ (ldVarK hn₃ (v := .ref qs[i].1) (by simp) (wpAny_Constant_int ?_) hk hx0 hd0))
    have hjv : j < vs.size := by
      rcases Nat.lt_or_ge j vs.size with h | h
      · exact h
      · rw [Array.getElem?_eq_none h] at hvs; cases hvs
    have htup₃ : IsTup h₃ qs[i].1 vs.toList.toArray := by obtain ⟨o, e, r⟩ := htup; exact ⟨o, keep₃ _ o q1 q2 q3 e, by simpa using r⟩
    have h0 : ¬ ((j : Int) < 0) := by omega
    refine item_tupleT (j := j) htup₃ (by omega) (by omega) (by simp [seqIndex?, hjv, h0]) (by simpa using hvs) ?_
    refine wpAny_bind (wpAny_standAt (wpAny_bind (wpAny_of_eq (by rfl) (wpAny_bind (wpAny_holding ?_)))))
    have hlb₃ : h₃.IsList qs[i].2.1 qs[i].2.2.toArray := hlb.at fun o e => keep₃ _ o q4 q5 q6 e
    refine wpAny_pyIter_list hlb₃ ?_
    have hD₃ : h₃.get? D = some (LCg.lst (flat2 (qs.take i))) := hs₃.extBut _ _ (Ne.symm CD) (hs₂.extBut _ _ (Ne.symm ID) hD')
    have hit₃ : h₃.IsListIter I ax (i + 1) := hit₂.at fun o e => hs₃.extBut _ _ IC e
    have lt_of : ∀ {a o}, h₃.get? a = some o → a ≠ h₃.objs.size := fun e => Nat.ne_of_lt (Heap.lt_size e)
    have hflat : flat2 (qs.take i) ++ qs[i].2.2.toArray.toList = flat2 (qs.take (i + 1)) := by
      rw [List.take_add_one, List.getElem?_eq_getElem hlt]
      exact (flat2_snoc _ _).symm
    have hlen : (flat2 (qs.take (i + 1))).length ≤ (flat2 qs).length := by
      have : flat2 qs = flat2 (qs.take (i + 1)) ++ flat2 (qs.drop (i + 1)) := by
        simp only [flat2]
        rw [← List.flatten_append, ← List.map_append, List.take_append_drop]
      rw [this, List.length_append]; omega
    have hlI : h₃.get? I ≠ none := by obtain ⟨o, e, _⟩ := hit₃; rw [e]; simp
    have hlB : qs[i].2.1 ≠ h₃.objs.size := by obtain ⟨o, e, _⟩ := hlb₃; exact lt_of e
    have hlC : C ≠ h₃.objs.size := Nat.ne_of_lt hn₃.lt
    have hlD : D ≠ h₃.objs.size := lt_of hD₃
    have hlI : I ≠ h₃.objs.size := by obtain ⟨o, e, _⟩ := hit₃; exact lt_of e
    have hitJ : (h₃.push { cls := .type "list_iterator", data := .fields #[.ref qs[i].2.1, .int 0 0] }).IsListIter h₃.objs.size qs[i].2.1 0 := ⟨_, Heap.get?_push_size _ rfl, rfl, rfl⟩
    refine wpAny_bind (wpAny_runOwn (A := A) ?_)
    have inner : ∀ s₄ : Shared, s₄ = { s with heap := h₃.push { cls := .type "list_iterator", data := .fields #[.ref qs[i].2.1, .int 0 0] }, toks := s₄.toks } → True := fun _ _ => trivial
    refine start2 ?_ (wpAny_pyIter_listiter hitJ ?_)
    all_goals
      refine loop2_in hh hk hx1 hd1 hitJ (hlb₃.push _) (Heap.get?_push_of_some _ hD₃) (hn₃.at' fun o e => Heap.get?_push_of_some _ e) (Ne.symm hlC) (Ne.symm hlD) CD hlB q5 q6 ?_ fun h₅ tk₅ m₅ hD₅ hn₅ hk₅ => ?_
      · have h1 : (flat2 (qs.take i)).length + qs[i].2.2.length = (flat2 (qs.take (i + 1))).length := by rw [← hflat, List.length_append]
        rw [List.size_toArray]
        omega
      · refine wpAny_pure ⟨rfl, qs.length + 1 - (i + 1), by omega, h₅, _, i + 1, m₅, rfl, hlt, rfl, ?_, ?_, hn₅, ?_⟩
        · exact hit₃.at fun o e => hk₅ _ _ hlI IC ID (Heap.get?_push_of_some _ e)
        · rw [hD₅, hflat]
        · exact fun a o h1 h2 h3 e => hk₅ a o (lt_of (keep₃ a o h1 h2 h3 e)) h2 h3 (Heap.get?_push_of_some _ (keep₃ a o h1 h2 h3 e))
  · obtain rfl : i = qs.length := Nat.le_antisymm hi (Nat.not_lt.mp hlt)
    refine wpAny_pyNext_list_end hh hit' hl' (by simp) fun h₂ he₂ => ?_
    refine wpAny_pure (hR h₂ _ m' ?_ ?_ ?_)
    · rw [he₂ _ _ (Ne.symm ID) hD', List.take_of_length_le (Nat.le_refl _)]
    · exact hn'.at' fun o e => he₂ _ o (Ne.symm IC) e
    · exact fun a o h1 h2 h3 e => he₂ _ _ h1 (hkeep a o h1 h2 h3 e)
theorem Assign_flat {x0 x1 y : Str} {p0 p1 pe p2 pc ps py : Pos} {kd j : Nat} {iter : PySem.Expr} {scope : Scope} {cl : List (Str × Addr)} {pos spos : Pos} {env : Env} {h₀ : Heap} {L ax : Addr} {m : Str → Option Value} {news : List (Addr × Obj)} {k : Nat} {qs : List (Addr × Addr × List Value)} {Q : Flow → Shared → Prop}
    (F₀ : Fr h₀ L s.heap m) (hLe : env.locals = L) (hh : A.handled = none)
    (hsw : swapsWith (elt2 x0 x1 p0 p1 pe p2 pc ps kd j iter scope pos) (some (.Name y py)) spos.line env = pure true)
    (hclos : closureFor scope env = pure cl) (hcell : ∀ z ∈ scope.names, z.2 ≠ .cell) (hkind : scope.kind = .function)
    (hnames : ∀ z ∈ scope.names, z.2 = .local → scope.names.lookup z.1 = some .local) (hx0 : scope.names.lookup x0 = some .local) (hx1 : scope.names.lookup x1 = some .local)
    (hd0 : (x0 == ("__debug__" : Str)) = false) (hd1 : (x1 == ("__debug__" : Str)) = false)
    (hy : env.kindOf y = some .local) (hp : (env.scope.kind == .class || (env.scope.kind == .module && env.locals != env.globals)) = false)
    (hs : ∀ x, foldedSetIterable iter env x = pure x)
    (hit : ∀ Q' : Value → Shared → Prop, Q' (.ref ax) s → wpAny (model prog w) A (eval iter env) Q' E s)
    (N : News h₀ L s.heap news) (hax : (ax, listOf (qs.map fun p => Value.ref p.1).toArray k) ∈ news)
    (hq : ∀ p ∈ qs, (∃ vs, (p.1, tupO vs) ∈ news ∧ vs[j]? = some (.ref p.2.1)) ∧ ∃ n, (p.2.1, listOf p.2.2.toArray n) ∈ news) (hj : j < 100)
    (hz : (flat2 qs).length ≤ 100000) (hz2 : qs.length ≤ 100000)
    (h : ∀ D h' tk, Fr h₀ L h' (fun z => if z = y then some (.ref D) else m z) → News h₀ L h' ((D, listOf (flat2 qs).toArray (flat2 qs).length) :: news) → (∀ p ∈ news, p.1 < D) → Q .next { s with heap := h', toks := tk }) :
    wpAny (model prog w) A (exec (.Assign [.Name y py] (elt2 x0 x1 p0 p1 pe p2 pc ps kd j iter scope pos) spos) env) Q E s := by
  subst hLe
  rw [exec_Assign_Name_used _ _ _ _ hsw]
  refine wpAny_bind (wpAny_standAt (wpAny_bind ?_))
  show wpAny _ A (do let _ ← comprehension (elt2 x0 x1 p0 p1 pe p2 pc ps kd j iter scope pos) scope env _ (newList []) false (eval iter env) (some (assign (.Name y py) env))) _ _ s
  refine wpAny_bind (wpAny_mono (wpAny_comprehension_free (use := some (assign (.Name y py) env)) (Q := fun _ s' => Q .next s') rfl hs hclos hkind hnames (hit _ ?_)) (fun _ s' hq => wpAny_pure (wpAny_pure hq)) fun _ _ e => e)
  have hl : s.heap.IsList ax (qs.map fun p => Value.ref p.1).toArray := isList_of N hax
  refine wpAny_pyIter_list hl ?_
  have zt : ∀ {a o}, (a, o) ∈ news → s.heap.get? a = some o := fun hm => (N _ hm).1
  have lt : ∀ {a o}, s.heap.get? a = some o → @LT.lt Nat _ a s.heap.objs.size := fun e => Heap.lt_size e
  refine wpAny_newObj_type (wpAny_newFunctionEnv hcell (by intro y hy; simp at hy) (fun h₁ hns₁ hsb₁ => ?_) hkind)
  dsimp only at hns₁ hsb₁ ⊢
  generalize hH1 : s.heap.push { cls := .type "list_iterator", data := .fields #[.ref ax, .int 0 0] } = H1 at hns₁ hsb₁ ⊢
  have hD1 : H1.objs.size = s.heap.objs.size + 1 := by rw [← hH1, Heap.size_push]
  generalize hH2 : H1.push { cls := .type "list", dict := none, data := .seq ([] : List Value).toArray } = H2 at hns₁ hsb₁ ⊢
  have hC1 : H2.objs.size = s.heap.objs.size + 2 := by rw [← hH2, Heap.size_push, hD1]
  have up1 : ∀ {a o}, s.heap.get? a = some o → H1.get? a = some o := fun e => hH1 ▸ Heap.get?_push_of_some _ e
  have up2 : ∀ {a o}, H1.get? a = some o → (H2.push { cls := .type "dict", data := .dict #[] }).get? a = some o := fun e => Heap.get?_push_of_some _ (hH2 ▸ Heap.get?_push_of_some _ e)
  have ltC : ∀ {a : Nat}, a < s.heap.objs.size + 2 → a ≠ H2.objs.size := fun h => by rw [hC1]; exact Nat.ne_of_lt h
  have keep1 : ∀ a o, H1.get? a = some o → a ≠ H2.objs.size → h₁.get? a = some o := fun a o e h => hsb₁.extBut _ _ h (up2 e)
  have ltn : ∀ {a o}, s.heap.get? a = some o → a ≠ s.heap.objs.size ∧ a ≠ H2.objs.size ∧ a ≠ H1.objs.size := fun e => by
    have := lt e
    exact ⟨Nat.ne_of_lt this, by rw [hC1]; exact Nat.ne_of_lt (Nat.lt_succ_of_lt (Nat.lt_succ_of_lt this)), by rw [hD1]; exact Nat.ne_of_lt (Nat.lt_succ_of_lt this)⟩
  have old : ∀ a o, s.heap.get? a = some o → h₁.get? a = some o := fun a o e => keep1 _ _ (up1 e) (ltn e).2.1
  have hI₁ : h₁.get? s.heap.objs.size = some { cls := .type "list_iterator", data := .fields #[.ref ax, .int 0 0] } := keep1 _ _ (hH1 ▸ Heap.get?_push_size _ rfl) (ltC (by omega))
  have hD₁ : h₁.get? H1.objs.size = some (LCg.lst []) := hsb₁.extBut _ _ (ltC (by rw [hD1]; omega)) (Heap.get?_push_of_some _ (hH2 ▸ Heap.get?_push_size _ rfl))
  have hIC : s.heap.objs.size ≠ H2.objs.size := ltC (by omega)
  have hID : s.heap.objs.size ≠ H1.objs.size := by rw [hD1]; omega
  have hCD : H2.objs.size ≠ H1.objs.size := by rw [hD1, hC1]; omega
  have fresh₀ : ∀ a, s.heap.objs.size ≤ a → h₀.get? a = none := fun a ha => by
    cases e : h₀.get? a with
    | none => rfl
    | some o' => exact absurd (Heap.lt_size (F₀.keep a o' e)) (Nat.not_lt.mpr ha)
  have hL₀ : h₀.get? env.locals = none := Heap.get?_none_of_le F₀.above
  have hLlt : @LT.lt Nat _ env.locals s.heap.objs.size := F₀.ns.lt
  have loop : ∀ s₃ : Shared, s₃ = { s with heap := h₁, toks := s.toks + ([] : List (Str × Value)).length } →
      codeAny (model prog w) A (.compLoop (elt2 x0 x1 p0 p1 pe p2 pc ps kd j iter scope pos) 0 (.ref s.heap.objs.size) (.ref H1.objs.size) (compEnvC scope cl H2.objs.size env))
        (compPost (model prog w) A E (some (assign (.Name y py) env)) (fun _ s' => Q .next s') (.ref H1.objs.size) H2.objs.size) s₃ := by
    rintro s₃ rfl
    refine loop2_out hh hkind (lookup_relabel_local hx0) (lookup_relabel_local hx1) hd0 hd1 ⟨_, hI₁, rfl, rfl⟩ (hl.at fun o e => old _ _ e) hD₁ hns₁ hIC hID hCD (ltn (zt hax)).1 (ltn (zt hax)).2.1 (ltn (zt hax)).2.2 ?_ hj hz hz2 ?_
    · intro p hp
      obtain ⟨⟨vs, hv, hvj⟩, n, hl'⟩ := hq p hp
      exact ⟨⟨vs, ⟨_, old _ _ (zt hv), rfl, _, rfl⟩, hvj⟩, (isList_of N hl').at fun o e => old _ _ e, (ltn (zt hv)).1, (ltn (zt hv)).2.1, (ltn (zt hv)).2.2, (ltn (zt hl')).1, (ltn (zt hl')).2.1, (ltn (zt hl')).2.2⟩
    · intro h' tk m' hD' hn' hk'
      have F' : Fr h₀ env.locals h' m := F₀.keeps fun b o e => hk' b o (ltn e).1 (ltn e).2.1 (ltn e).2.2 (old b o e)
      have N' : News h₀ env.locals h' ((H1.objs.size, listOf (flat2 qs).toArray (flat2 qs).length) :: news) := fun p hp => by
        rcases List.mem_cons.mp hp with rfl | hp
        · exact ⟨hD', by rw [hD1]; exact Nat.ne_of_gt (Nat.lt_succ_of_lt hLlt), fresh₀ _ (by rw [hD1]; exact Nat.le_succ _)⟩
        · have e := (N p hp).1
          exact ⟨hk' _ _ (ltn e).1 (ltn e).2.1 (ltn e).2.2 (old _ _ e), (N p hp).2⟩
      have hCL : H2.objs.size ≠ env.locals := by rw [hC1]; exact Nat.ne_of_gt (Nat.lt_of_lt_of_le hLlt (Nat.le_add_right _ 2))
      show wpAny _ A (assign (.Name y py) env (.ref H1.objs.size)) _ _ _
      refine wpAny_assign_Name (wpAny_storeName_local hy F'.ns (fun h₂ hn₂ hs₂ => ?_) hp)
      have F₂ : Fr h₀ env.locals h₂ (fun z => if z = y then some (.ref H1.objs.size) else m z) := ⟨hn₂, fun b o e => hs₂.extBut b o (fun q => by rw [q, hL₀] at e; cases e) (F'.keep b o e), F'.above⟩
      refine ⟨m', hn'.sameBut hs₂ hCL, fun h'' hs'' => h _ h'' _ (F₂.change hs'' hCL (fresh₀ _ (by rw [hC1]; exact Nat.le_add_right _ 2))) (fun p hp => ?_) (fun p hp => by rw [hD1]; exact Nat.lt_succ_of_lt (lt (N p hp).1))⟩
      refine ⟨hs''.extBut _ _ ?_ (hs₂.extBut _ _ (N' p hp).2.1 (N' p hp).1), (N' p hp).2⟩
      rcases List.mem_cons.mp hp with rfl | hp
      · exact Ne.symm hCD
      · exact (ltn (N p hp).1).2.1
  exact codeAny_compStart_list (loop _ rfl) (wpAny_pyIter_listiter ⟨_, hI₁, rfl, rfl⟩ (loop _ rfl))
end
theorem off_09 : True := by
  w_top off
  exact trivial
theorem lines_09_1 : True := by
  k_with "m:enterC" => (refine' code_defC ?zzk1 ?zzk2 ?zzk3 ?zzk4 ?zzk5 ?zzkA ?zzkF ?zzkK ?zzk6 ?zzk7 ?zzk8 ?zzk9 ?zzkB ?zzkD ?_ ?zzc2 ?zzc3 ?zzc4; (case zzkA => exact rfl); (case zzkF => exact rfl); (case zzkK => assumption); (case zzk1 => k_asm); (case zzk2 => k_asm); (case zzk3 => k_asm); (case zzk4 => k_asm); (case zzk5 => k_asm); (case zzk6 => k_is); (case zzk7 => k_is); (case zzk8 => ktr_room); (case zzk9 => exact BindsTo.of_eq rfl); (case zzkB => exact rfl); (case zzkD => decide +kernel); (case zzc2 => exact rfl); (case zzc3 => exact rfl); (case zzc4 => exact rfl); k_whole; intro g' L' h' tk' cells' FG' F' N' Y' B' X' T' l1; (try k_lt l1); k_cells Y'; (try simp only [List.cons_append, List.nil_append] at N'); (try dsimp only); (try k_fold))
  exact trivial
section
variable {prog : Program} {w : World} {A : Around} {E : Value → Shared → Prop} {s : Shared} {h₀ : Heap} {L : Addr} {m : Str → Option Value} {env : Env}
theorem src_range {elt : PySem.Expr} {x : Str} {scope : Scope} {cl : List (Str × Addr)} {Fin : Shared → List Value → List (Addr × Obj) → Prop} {r : Addr} {d : Int} {t u v : Tok} {news : List (Addr × Obj)} {s₁ : Shared}
    (hh : A.handled = none) (F : Fr h₀ L s₁.heap m) (N : News h₀ L s₁.heap news) (hr : IsRange s₁.heap r 0 d 1 t u v) (h1 : 0 ≤ d) (h2 : d ≤ 4)
    (h : ∀ n : Nat, (n : Int) = d → ∀ g, LCg.CompRest prog w A h₀ L m env elt x scope cl { s₁ with heap := g } (fun _ => True) (fun i v => ∃ t, v = .int (0 + (i : Int)) t) (Fin { s₁ with heap := g }) n 0 [] news) :
    LCg.CompSrc prog w A h₀ L m env elt x scope cl Fin (.ref r) s₁ := by
  have hd : (d.toNat : Int) = d := Int.toNat_of_nonneg h1
  refine LCg.CompSrc.range hh F N hr ?_ (n := d.toNat) ?_ ?_ (h _ hd)
  · rcases (show d = 0 ∨ d = 1 ∨ d = 2 ∨ d = 3 ∨ d = 4 by omega) with rfl | rfl | rfl | rfl | rfl <;> decide
  · rcases (show d = 0 ∨ d = 1 ∨ d = 2 ∨ d = 3 ∨ d = 4 by omega) with rfl | rfl | rfl | rfl | rfl <;> decide
  · rw [PySem.sizeLine_eq]; omega
theorem compEndP {I C D : Addr} {s₁ : Shared} {oI oC oD : Obj} {S : List (Addr × Obj) → Prop} {rest : Value → List (Addr × Obj) → Prop} {y : Value} {h' : Heap} {tk : Nat} {all r1 r2 news' : List (Addr × Obj)}
    (F : Fr h₀ L h' m) (N : News h₀ L h' all) (P1 : Pick I oI all r1) (P2 : Pick C oC r1 r2) (P3 : Pick D oD r2 news')
    (f1 : ∀ p ∈ news', p.1 ≠ I) (f2 : ∀ p ∈ news', p.1 ≠ C) (f3 : ∀ p ∈ news', p.1 ≠ D) (hS : S news') (r : rest y news') :
    LCg.CompEnd h₀ L m s₁ I oI C oC D oD S rest y { s₁ with heap := h', toks := tk } := by
  have N1 := P1.news N
  have N2 := P2.news (fun p hp => N1 p (.tail _ hp))
  have N3 := P3.news (fun p hp => N2 p (.tail _ hp))
  refine ⟨h', tk, news', rfl, F, fun p hp => ?_, LCg.Off3.of fun p hp => ⟨f1 p hp, f2 p hp, f3 p hp⟩, hS, r⟩
  rcases List.mem_cons.mp hp with rfl | hp
  · exact N1 _ (.head _)
  · rcases List.mem_cons.mp hp with rfl | hp
    · exact N2 _ (.head _)
    · exact N3 _ hp
theorem off3I {I C D : Addr} {l : List (Addr × Obj)} (h : LCg.Off3 I C D l) : ∀ p ∈ l, p.1 ≠ I := fun p hp => (h.mem p hp).1
theorem off3C {I C D : Addr} {l : List (Addr × Obj)} (h : LCg.Off3 I C D l) : ∀ p ∈ l, p.1 ≠ C := fun p hp => (h.mem p hp).2.1
theorem off3D {I C D : Addr} {l : List (Addr × Obj)} (h : LCg.Off3 I C D l) : ∀ p ∈ l, p.1 ≠ D := fun p hp => (h.mem p hp).2.2
theorem off1D {D : Addr} : ∀ {l : List (Addr × Obj)}, LCg.Off1 D l → ∀ p ∈ l, p.1 ≠ D
  | [], _, _, h => nomatch h
  | _ :: _, x, p, h => by
    rcases List.mem_cons.mp h with rfl | h
    · exact x.1
    · exact off1D x.2 p h
end
theorem lines_09_2 : True := by
  k_with "m:all" => first
        | (refine' off3I ?zzh9; (case zzh9 => assumption))
        | (refine' off3C ?zzh9; (case zzh9 => assumption))
        | (refine' off3D ?zzh9; (case zzh9 => assumption))
        | (refine' off1D ?zzh9; (case zzh9 => assumption))
  k_with "m:ne" => first
        | assumption
        | exact Ne.symm (by assumption)
  k_with "CompSrc" => (k_here; k_dflt (
        refine' src_range ?zzh ?zzF ?zzN ?zzhr ?zza ?zzb ?_
        (case zzh => rfl)
        (case zzF => k_asm)
        (case zzN => k_asm)
        (case zzhr => assumption)
        (case zza => k_extra "m:le0")
        (case zzb => k_extra "m:le0")
        intro n' hn' g'
        (rcases n' with _ | _ | _ | _ | _ | n' <;> first | (exfalso; omega) | lcg_lit)))
  k_with "CompRest" => (with_unfolding_all first
        | (refine LCg.CompRest.succ ?_; intro v' I' oI' C' oC' D' m' h' tk' E' hv' hC' hx' F' N' off' ne'; (first | lcg_open hv' | (obtain ⟨t9', hv9'⟩ := hv'; subst hv9')); (try simp only [LCg.Off3, and_true, and_assoc] at off'); (repeat (have hm1' := And.left off'; replace off' := And.right off')); (repeat (have hm1' := And.left ne'; replace ne' := And.right ne')))
        | refine LCg.CompRest.zero ?_)
  k_with "CompEnd" => (k_here; (
        refine' compEndP ?zzF ?zzN ?zzP1 ?zzP2 ?zzP3 ?zzf1 ?zzf2 ?zzf3 ?zzhS ?_
        (case zzF => assumption)
        (case zzN => assumption)
        (case zzP1 => k_extra "m:pick")
        (case zzP2 => k_extra "m:pick")
        (case zzP3 => k_extra "m:pick")
        (case zzf1 => k_extra "m:all")
        (case zzf2 => k_extra "m:all")
        (case zzf3 => k_extra "m:all")
        (case zzhS => first | exact True.intro | exact Or.inr ⟨_, by k_mem, rfl, _, rfl⟩)))
  exact trivial
theorem tup_item0 {prog : Program} {w : World} {A : Around} {E : Value → Shared → Prop} {s : Shared} {h₀ : Heap} {L a : Addr} {led : List (Addr × Obj)} {vs : Array Value} {x : Value} {Q : Value → Shared → Prop} {value slice : PySem.Expr} {u : Tok}
    (N : News h₀ L s.heap led) (hm : (a, tupO vs) ∈ led) (hv : vs[0]? = some x) (h : Q x s)
    (hs : subscripted slice false (.ref a) (.int 0 u) = operate [.ref a, .int 0 u] (getItem (.ref a) (.int 0 u)) := by with_unfolding_all rfl) :
    wpAny (model prog w) A (subscriptTail value slice (.ref a) (.int 0 u)) Q E s := by
  have hz : 0 < vs.size := by
    rcases Nat.lt_or_ge 0 vs.size with h | h
    · exact h
    · rw [Array.getElem?_eq_none h] at hv; cases hv
  have ht : IsTup s.heap a vs.toList.toArray := by simpa using News.isTup N hm
  exact item_tupleT (j := 0) ht (by decide) (by decide) (by simp [seqIndex?, hz]) (by simpa using hv) h hs
theorem lines_09_3 : True := by
  k_with "subscriptTail Name Constant ref int" => (k_here; (with_reducible show wpAny _ _ (subscriptTail _ _ (Value.ref _) (Value.int 0 _)) _ _ _); k_dflt (refine' tup_item0 ?zzN ?zzm ?zzv ?_; (case zzN => k_asm); (case zzm => k_mem); (case zzv => rfl); k_whole))
  exact trivial
noncomputable abbrev elt3 (x0 x1 : Str) (p0 p1 pe p2 pc ps : Pos) (kd : Nat) (jj : Int) (iter : PySem.Expr) (scope : Scope) (pos : Pos) : PySem.Expr :=
  .ListComp (.Name x1 pe) [⟨.Name x0 p0, iter, [], 0⟩, ⟨.Name x1 p1, .Subscript (.Name x0 p2) (.Constant (.int jj) kd pc) ps, [], 0⟩] scope pos
theorem Assign_flat0 {prog : Program} {w : World} {A : Around} {E : Value → Shared → Prop} {s : Shared} {x0 x1 y : Str} {p0 p1 pe p2 pc ps py : Pos} {kd j : Nat} {jj : Int} {iter : PySem.Expr} {scope : Scope} {cl : List (Str × Addr)} {pos spos : Pos} {env : Env} {h₀ : Heap} {L ax : Addr} {m : Str → Option Value} {news : List (Addr × Obj)} {k : Nat} {Q : Flow → Shared → Prop}
    (N : News h₀ L s.heap news) (hax : (ax, listOf #[] k) ∈ news) (hj : j < 100)
    (F₀ : Fr h₀ L s.heap m)
    (h : ∀ D h' tk, Fr h₀ L h' (fun z => if z = y then some (.ref D) else m z) → News h₀ L h' ((D, listOf #[] 0) :: news) → (∀ p ∈ news, p.1 < D) → Q .next { s with heap := h', toks := tk })
    (hit : ∀ Q' : Value → Shared → Prop, Q' (.ref ax) s → wpAny (model prog w) A (eval iter env) Q' E s)
    (hLe : env.locals = L) (hh : A.handled = none)
    (hsw : swapsWith (elt3 x0 x1 p0 p1 pe p2 pc ps kd jj iter scope pos) (some (.Name y py)) spos.line env = pure true)
    (hclos : closureFor scope env = pure cl) (hcell : ∀ z ∈ scope.names, z.2 ≠ .cell) (hkind : scope.kind = .function)
    (hnames : ∀ z ∈ scope.names, z.2 = .local → scope.names.lookup z.1 = some .local) (hx0 : scope.names.lookup x0 = some .local) (hx1 : scope.names.lookup x1 = some .local)
    (hd0 : (x0 == ("__debug__" : Str)) = false) (hd1 : (x1 == ("__debug__" : Str)) = false)
    (hy : env.kindOf y = some .local) (hp : (env.scope.kind == .class || (env.scope.kind == .module && env.locals != env.globals)) = false)
    (hs : ∀ x, foldedSetIterable iter env x = pure x) (hjj : (j : Int) = jj) :
    wpAny (model prog w) A (exec (.Assign [.Name y py] (elt3 x0 x1 p0 p1 pe p2 pc ps kd jj iter scope pos) spos) env) Q E s :=
  by
  subst hjj
  exact Assign_flat (qs := []) F₀ hLe hh hsw hclos hcell hkind hnames hx0 hx1 hd0 hd1 hy hp hs hit N hax (fun _ h => nomatch h) hj (by simp [flat2]) (by simp) h
theorem Assign_flat1 {prog : Program} {w : World} {A : Around} {E : Value → Shared → Prop} {s : Shared} {x0 x1 y : Str} {p0 p1 pe p2 pc ps py : Pos} {kd j : Nat} {jj : Int} {iter : PySem.Expr} {scope : Scope} {cl : List (Str × Addr)} {pos spos : Pos} {env : Env} {h₀ : Heap} {L ax a l : Addr} {m : Str → Option Value} {news : List (Addr × Obj)} {k n : Nat} {vs : Array Value} {xs : List Value} {Q : Flow → Shared → Prop}
    (N : News h₀ L s.heap news) (hax : (ax, listOf #[.ref a] k) ∈ news) (ha : (a, tupO vs) ∈ news) (hv : vs[j]? = some (.ref l)) (hl : (l, listOf xs.toArray n) ∈ news) (hz : xs.length ≤ 5000) (hj : j < 100)
    (F₀ : Fr h₀ L s.heap m)
    (h : ∀ D h' tk, Fr h₀ L h' (fun z => if z = y then some (.ref D) else m z) → News h₀ L h' ((D, listOf xs.toArray xs.length) :: news) → (∀ p ∈ news, p.1 < D) → Q .next { s with heap := h', toks := tk })
    (hit : ∀ Q' : Value → Shared → Prop, Q' (.ref ax) s → wpAny (model prog w) A (eval iter env) Q' E s)
    (hLe : env.locals = L) (hh : A.handled = none)
    (hsw : swapsWith (elt3 x0 x1 p0 p1 pe p2 pc ps kd jj iter scope pos) (some (.Name y py)) spos.line env = pure true)
    (hclos : closureFor scope env = pure cl) (hcell : ∀ z ∈ scope.names, z.2 ≠ .cell) (hkind : scope.kind = .function)
    (hnames : ∀ z ∈ scope.names, z.2 = .local → scope.names.lookup z.1 = some .local) (hx0 : scope.names.lookup x0 = some .local) (hx1 : scope.names.lookup x1 = some .local)
    (hd0 : (x0 == ("__debug__" : Str)) = false) (hd1 : (x1 == ("__debug__" : Str)) = false)
    (hy : env.kindOf y = some .local) (hp : (env.scope.kind == .class || (env.scope.kind == .module && env.locals != env.globals)) = false)
    (hs : ∀ x, foldedSetIterable iter env x = pure x) (hjj : (j : Int) = jj) :
    wpAny (model prog w) A (exec (.Assign [.Name y py] (elt3 x0 x1 p0 p1 pe p2 pc ps kd jj iter scope pos) spos) env) Q E s := by
  subst hjj
  refine Assign_flat (qs := [(a, l, xs)]) F₀ hLe hh hsw hclos hcell hkind hnames hx0 hx1 hd0 hd1 hy hp hs hit N hax (fun p hp => ?_) hj (by simp [flat2]; omega) (by simp) ?_
  · obtain rfl := List.mem_singleton.mp hp
    exact ⟨⟨_, ha, hv⟩, _, hl⟩
  · intro D h' tk F N o
    refine h D h' tk F ?_ o
    simpa [flat2] using N
theorem Assign_flat2 {prog : Program} {w : World} {A : Around} {E : Value → Shared → Prop} {s : Shared} {x0 x1 y : Str} {p0 p1 pe p2 pc ps py : Pos} {kd j : Nat} {jj : Int} {iter : PySem.Expr} {scope : Scope} {cl : List (Str × Addr)} {pos spos : Pos} {env : Env} {h₀ : Heap} {L ax a l a2 l2 : Addr} {m : Str → Option Value} {news : List (Addr × Obj)} {k n n2 : Nat} {vs vs2 : Array Value} {xs xs2 : List Value} {Q : Flow → Shared → Prop}
    (N : News h₀ L s.heap news) (hax : (ax, listOf #[.ref a, .ref a2] k) ∈ news) (ha : (a, tupO vs) ∈ news) (hv : vs[j]? = some (.ref l)) (hl : (l, listOf xs.toArray n) ∈ news) (hz : xs.length ≤ 5000)
    (ha2 : (a2, tupO vs2) ∈ news) (hv2 : vs2[j]? = some (.ref l2)) (hl2 : (l2, listOf xs2.toArray n2) ∈ news) (hz2 : xs2.length ≤ 5000) (hj : j < 100)
    (F₀ : Fr h₀ L s.heap m)
    (h : ∀ D h' tk, Fr h₀ L h' (fun z => if z = y then some (.ref D) else m z) → News h₀ L h' ((D, listOf (xs ++ xs2).toArray (xs ++ xs2).length) :: news) → (∀ p ∈ news, p.1 < D) → Q .next { s with heap := h', toks := tk })
    (hit : ∀ Q' : Value → Shared → Prop, Q' (.ref ax) s → wpAny (model prog w) A (eval iter env) Q' E s)
    (hLe : env.locals = L) (hh : A.handled = none)
    (hsw : swapsWith (elt3 x0 x1 p0 p1 pe p2 pc ps kd jj iter scope pos) (some (.Name y py)) spos.line env = pure true)
    (hclos : closureFor scope env = pure cl) (hcell : ∀ z ∈ scope.names, z.2 ≠ .cell) (hkind : scope.kind = .function)
    (hnames : ∀ z ∈ scope.names, z.2 = .local → scope.names.lookup z.1 = some .local) (hx0 : scope.names.lookup x0 = some .local) (hx1 : scope.names.lookup x1 = some .local)
    (hd0 : (x0 == ("__debug__" : Str)) = false) (hd1 : (x1 == ("__debug__" : Str)) = false)
    (hy : env.kindOf y = some .local) (hp : (env.scope.kind == .class || (env.scope.kind == .module && env.locals != env.globals)) = false)
    (hs : ∀ x, foldedSetIterable iter env x = pure x) (hjj : (j : Int) = jj) :
    wpAny (model prog w) A (exec (.Assign [.Name y py] (elt3 x0 x1 p0 p1 pe p2 pc ps kd jj iter scope pos) spos) env) Q E s := by
  subst hjj
  refine Assign_flat (qs := [(a, l, xs), (a2, l2, xs2)]) F₀ hLe hh hsw hclos hcell hkind hnames hx0 hx1 hd0 hd1 hy hp hs hit N hax (fun p hp => ?_) hj (by simp [flat2]; omega) (by simp) ?_
  · rcases List.mem_cons.mp hp with rfl | hp
    · exact ⟨⟨_, ha, hv⟩, _, hl⟩
    · obtain rfl := List.mem_singleton.mp hp
      exact ⟨⟨_, ha2, hv2⟩, _, hl2⟩
  · intro D h' tk F N o
    refine h D h' tk F ?_ o
    simpa [flat2] using N
theorem lines_09_4 : True := by
  k_with "m:flatE" => ((case zzk1 => rfl); (case zzk2 => rfl); (case zzk3 => with_unfolding_all rfl); (case zzk4 => rfl); (case zzk5 => decide); (case zzk6 => rfl); (case zzk7 => decide); (case zzk8 => rfl); (case zzk9 => rfl); (case zzkA => decide); (case zzkB => decide); (case zzkC => rfl); (case zzkD => rfl); (case zzkE => (intro _; rfl)); (case zzkF => rfl); (case zzF => k_asm))
  k_with "m:flat1" => first
        | (refine' Assign_flat0 (j := 1) (jj := 1) ?zzN ?zzhax (by decide) ?zzF ?_ ?zzhit ?zzk1 ?zzk2 ?zzk3 ?zzk4 ?zzk5 ?zzk6 ?zzk7 ?zzk8 ?zzk9 ?zzkA ?zzkB ?zzkC ?zzkD ?zzkE ?zzkF; (case zzhit => (intro Q9 h9; k_dflt (refine' nameX_L ?zzF9 ?zzv9 h9 ?zza9 ?zzb9; (case zzF9 => k_asm); (case zza9 => rfl); (case zzb9 => rfl); (case zzv9 => rfl)))); (case zzN => k_asm); (case zzhax => k_mem))
        | (refine' Assign_flat1 (j := 1) (jj := 1) ?zzN ?zzhax ?zzha ?zzhv ?zzhl ?zzhz (by decide) ?zzF ?_ ?zzhit ?zzk1 ?zzk2 ?zzk3 ?zzk4 ?zzk5 ?zzk6 ?zzk7 ?zzk8 ?zzk9 ?zzkA ?zzkB ?zzkC ?zzkD ?zzkE ?zzkF; (case zzhit => (intro Q9 h9; k_dflt (refine' nameX_L ?zzF9 ?zzv9 h9 ?zza9 ?zzb9; (case zzF9 => k_asm); (case zza9 => rfl); (case zzb9 => rfl); (case zzv9 => rfl)))); (case zzN => k_asm); (case zzhax => k_mem); (case zzha => k_mem); (case zzhv => rfl); (case zzhl => k_mem); (case zzhz => k_extra "m:le0"))
        | (refine' Assign_flat2 (j := 1) (jj := 1) ?zzN ?zzhax ?zzha ?zzhv ?zzhl ?zzhz ?zzha2 ?zzhv2 ?zzhl2 ?zzhz2 (by decide) ?zzF ?_ ?zzhit ?zzk1 ?zzk2 ?zzk3 ?zzk4 ?zzk5 ?zzk6 ?zzk7 ?zzk8 ?zzk9 ?zzkA ?zzkB ?zzkC ?zzkD ?zzkE ?zzkF; (case zzhit => (intro Q9 h9; k_dflt (refine' nameX_L ?zzF9 ?zzv9 h9 ?zza9 ?zzb9; (case zzF9 => k_asm); (case zza9 => rfl); (case zzb9 => rfl); (case zzv9 => rfl)))); (case zzN => k_asm); (case zzhax => k_mem); (case zzha => k_mem); (case zzhv => rfl); (case zzhl => k_mem); (case zzhz => k_extra "m:le0"); (case zzha2 => k_mem); (case zzhv2 => rfl); (case zzhl2 => k_mem); (case zzhz2 => k_extra "m:le0"))
  k_with "m:flat2" => first
        | (refine' Assign_flat0 (j := 2) (jj := 2) ?zzN ?zzhax (by decide) ?zzF ?_ ?zzhit ?zzk1 ?zzk2 ?zzk3 ?zzk4 ?zzk5 ?zzk6 ?zzk7 ?zzk8 ?zzk9 ?zzkA ?zzkB ?zzkC ?zzkD ?zzkE ?zzkF; (case zzhit => (intro Q9 h9; k_dflt (refine' nameX_L ?zzF9 ?zzv9 h9 ?zza9 ?zzb9; (case zzF9 => k_asm); (case zza9 => rfl); (case zzb9 => rfl); (case zzv9 => rfl)))); (case zzN => k_asm); (case zzhax => k_mem))
        | (refine' Assign_flat1 (j := 2) (jj := 2) ?zzN ?zzhax ?zzha ?zzhv ?zzhl ?zzhz (by decide) ?zzF ?_ ?zzhit ?zzk1 ?zzk2 ?zzk3 ?zzk4 ?zzk5 ?zzk6 ?zzk7 ?zzk8 ?zzk9 ?zzkA ?zzkB ?zzkC ?zzkD ?zzkE ?zzkF; (case zzhit => (intro Q9 h9; k_dflt (refine' nameX_L ?zzF9 ?zzv9 h9 ?zza9 ?zzb9; (case zzF9 => k_asm); (case zza9 => rfl); (case zzb9 => rfl); (case zzv9 => rfl)))); (case zzN => k_asm); (case zzhax => k_mem); (case zzha => k_mem); (case zzhv => rfl); (case zzhl => k_mem); (case zzhz => k_extra "m:le0"))
        | (refine' Assign_flat2 (j := 2) (jj := 2) ?zzN ?zzhax ?zzha ?zzhv ?zzhl ?zzhz ?zzha2 ?zzhv2 ?zzhl2 ?zzhz2 (by decide) ?zzF ?_ ?zzhit ?zzk1 ?zzk2 ?zzk3 ?zzk4 ?zzk5 ?zzk6 ?zzk7 ?zzk8 ?zzk9 ?zzkA ?zzkB ?zzkC ?zzkD ?zzkE ?zzkF; (case zzhit => (intro Q9 h9; k_dflt (refine' nameX_L ?zzF9 ?zzv9 h9 ?zza9 ?zzb9; (case zzF9 => k_asm); (case zza9 => rfl); (case zzb9 => rfl); (case zzv9 => rfl)))); (case zzN => k_asm); (case zzhax => k_mem); (case zzha => k_mem); (case zzhv => rfl); (case zzhl => k_mem); (case zzhz => k_extra "m:le0"); (case zzha2 => k_mem); (case zzhv2 => rfl); (case zzhl2 => k_mem); (case zzhz2 => k_extra "m:le0"))
  k_with "exec Assign cons ListComp" => (k_here; first
        | ((with_reducible show wpAny _ _ (exec (Stmt.Assign _ (PySem.Expr.ListComp _ [_, ⟨_, PySem.Expr.Subscript _ (PySem.Expr.Constant (PySem.Const.int 1) _ _) _, _, _⟩] _ _) _) _) _ _ _); k_dflt (k_extra "m:flat1"); k_dflt (k_extra "m:flatE"); (intro D' h' tk' F' N' l1); (try k_lt l1); (try k_sweep))
        | ((with_reducible show wpAny _ _ (exec (Stmt.Assign _ (PySem.Expr.ListComp _ [_, ⟨_, PySem.Expr.Subscript _ (PySem.Expr.Constant (PySem.Const.int 2) _ _) _, _, _⟩] _ _) _) _) _ _ _); k_dflt (k_extra "m:flat2"); k_dflt (k_extra "m:flatE"); (intro D' h' tk' F' N' l1); (try k_lt l1); (try k_sweep)))
  exact trivial
theorem one_row {w : World} {mean : ExcName → Option Value} {mg mb : Str → Option Value}
    {dp un : Nat} {gd : Option (List Code)} {cn : Str} {cs : Scope} {a : Addr} {ccd : Value} {cl : List (Str × Addr)} {outer : List Env} {A₀ : Around} {base h₀ : Heap} {L : Addr} {m : Str → Option Value} {led rest news keep : List (Addr × Obj)} {s : Shared}
    {src lst : Addr} {vs : Array Value} {x y : Int} {t u : Tok} {n k K : Nat} {Q E : Value → Shared → Prop}
    (hR : ∀ v ∈ vs.toList, RowIn keep v K) (hS : ∀ p ∈ keep, p ∈ news) (hl : (lst, listOf vs k) ∈ rest)
    (B : Below A₀ base outer h₀) (F : Fr h₀ L s.heap m) (X : (Mine.hd.heap_1 w.params).In h₀) (N : News h₀ L s.heap led) (P : Pick src (listOf #[.int x t, .int y u] n) led rest) (T : Top vw lz mean mg mb h₀) (hk : cs.kind = .function)
    (hsep : ∀ p ∈ rest, p.1 ≠ src) (hs1 : 1 < vs.size) (hs2 : vs.size ≤ 100) (hK : K ≤ 8)
    (hx : 0 ≤ x) (hy : 0 ≤ y) (hy2 : y < 2147483647) (hd : dp + 8 < recursionLimit) (hu : un + 64 < cLine)
    (hret : ∀ a T nl hl n1 n2, (a, tupO #[.ref T.addr, .ref nl, .ref hl]) ∈ news → TyIn keep (.ref T.addr) T → (nl, listOf T.names.toArray n1) ∈ news → (hl, listOf T.held.toArray n2) ∈ news → T.depth ≤ K → T.size < 2 ^ K → T.names.length ≤ 300 → T.held.length ≤ 300 →
      ∀ x' y' t' u' h' tk', Fr h₀ L h' m → News h₀ L h' ((src, listOf #[.int x' t', .int y' u'] n) :: rest) → 0 ≤ x' → 0 ≤ y' → y' < 2147483647 → Q (.ref a) { s with heap := h', toks := tk' }) :
    wpAny (model PySem.Challenge.rw_xm0579_01.row.prog w) (ktrTop dp un gd cn cs L a ccd cl outer) (call (.ref 122) [.ref src, .ref lst]) Q E s :=
  one_use B F X N P T hk hsep hl hs1 hs2 hx hy hy2 hd hu fun v hv => by
    obtain ⟨a, t, T, nl, hl, n1, n2, h1, h2, h3, h4, h5, h6, h7⟩ := hR v hv
    have ht := h3.isRef
    subst h1 ht
    have h8 : 2 ^ K ≤ 2 ^ 8 := Nat.pow_le_pow_right (by decide) hK
    have h9 := T.names_len
    have h10 := T.held_len
    exact hret a T nl hl n1 n2 (hS _ h2) h3 (hS _ h4) (hS _ h5) h6 h7 (by omega) (by omega)
theorem lines_09_5 : True := by
  k_with "call ref" => (k_here; (with_reducible show wpAny _ _ (call (Value.ref 122) _) _ _ _); k_dflt (
        refine' one_row ?zzkR ?zzkS ?zzkl ?zzkB ?zzkF ?zzkX ?zzkN ?zzkP ?zzkT ?zzkK ?zzksep ?zzks1 ?zzks2 ?zzkk ?zzkx ?zzky ?zzky2 ?zzkd ?zzku ?_
        (case zzkR => assumption)
        (case zzkS => assumption)
        (case zzkB => k_asm)
        (case zzkF => k_asm)
        (case zzkX => k_asm)
        (case zzkN => k_asm)
        (case zzkP => k_extra "m:pick")
        (case zzkT => k_asm)
        (case zzkK => first | exact rfl | assumption)
        (case zzkl => k_mem)
        (case zzksep => k_all)
        (case zzks1 => assumption)
        (case zzks2 => assumption)
        (case zzkk => assumption)
        (case zzkx => k_extra "m:le0")
        (case zzky => k_extra "m:le0")
        (case zzky2 => k_extra "m:le0")
        (case zzkd => ktr_room)
        (case zzku => ktr_units)
        (intro a' T' nl' hl' n1' n2' ha' hT' hn' hh' hdp' hsz' hz1' hz2' x' y' t' u' h' tk' F' N' hx' hy' hy2')
        (try k_fold)))
  k_with "FinA" => ((unfold LCg.FinA); intro D' h' tk' F' N' o1'; (try simp only [LCg.Off1, and_true] at o1'); (repeat (have hm1' := And.left o1'; replace o1' := And.right o1')); (try simp only [List.nil_append, List.cons_append] at N'); (try dsimp only))
  k_with "exec Return some" => (k_here; exfalso; omega)
  exact trivial
inductive Cut2 (b news : List (Addr × Obj)) : List (Addr × Obj) → List (Addr × Obj) → Prop
  | nil : Cut2 b news news []
  | cons {p R tl} (h : ∀ q ∈ b, q.1 < p.1) : Cut2 b news R tl → Cut2 b news (p :: R) (p :: tl)
  | app {t R tl} (h : NewTo b t) : Cut2 b news R tl → Cut2 b news (t ++ R) (t ++ tl)
  | skip {p R tl} : Cut2 b news R tl → Cut2 b news (p :: R) tl
theorem Cut2.sub {b news : List (Addr × Obj)} : ∀ {R tl : List (Addr × Obj)}, Cut2 b news R tl → ∀ p ∈ tl ++ news, p ∈ R
  | _, _, .nil, p, h => h
  | _, _, .cons _ c, p, h => by
    rcases List.mem_cons.mp h with rfl | h
    · exact .head _
    · exact .tail _ (c.sub p h)
  | _, _, .app _ c, p, h => by
    rw [List.append_assoc] at h
    rcases List.mem_append.mp h with h | h
    · exact List.mem_append_left _ h
    · exact List.mem_append_right _ (c.sub p h)
  | _, _, .skip c, p, h => .tail _ (c.sub p h)
theorem Cut2.new {b news : List (Addr × Obj)} : ∀ {R tl : List (Addr × Obj)}, Cut2 b news R tl → NewTo b tl
  | _, _, .nil => .nil
  | _, _, .cons h c => .cons h c.new
  | _, _, .app h c => .app h c.new
  | _, _, .skip c => c.new
theorem lines_09_6 : True := by
  k_with "m:cut2" => first
        | exact Cut2.nil
        | (refine' Cut2.cons ?zzh9 ?zzc9; (case zzh9 => k_extra "m:lts"); (case zzc9 => k_extra "m:cut2"))
        | (refine' Cut2.app ?zzh9 ?zzc9; (case zzh9 => first | assumption | exact NewTo.sub (by assumption) (by k_extra "m:subA")); (case zzc9 => k_extra "m:cut2"))
        | (refine' Cut2.skip ?zzc9; (case zzc9 => k_extra "m:cut2"))
  exact trivial
theorem end2 {h₀ h : Heap} {L src : Addr} {o : Obj} {b led R tl news : List (Addr × Obj)} (N : News h₀ L h led) (P : Pick src o led R) (C : Cut2 b news R tl) : News h₀ L h ((src, o) :: (tl ++ news)) := fun p hp => by
  have N1 := P.news N
  rcases List.mem_cons.mp hp with rfl | hp
  · exact N1 _ (.head _)
  · exact N1 _ (.tail _ (C.sub p hp))
theorem add_cons {prog : Program} {w : World} {A : Around} {E : Value → Shared → Prop} {s : Shared} {h₀ : Heap} {L a b : Addr} {m : Str → Option Value} {news : List (Addr × Obj)} {x : Value} {xs : List Value} {n n2 : Nat} {Q : Value → Shared → Prop}
    (F : Fr h₀ L s.heap m) (N : News h₀ L s.heap news) (ha : (a, listOf #[x] n) ∈ news) (hb : (b, listOf xs.toArray n2) ∈ news) (hz : xs.length ≤ 5000)
    (h : ∀ D h', Fr h₀ L h' m → News h₀ L h' ((D, listOf (x :: xs).toArray 0) :: news) → (∀ p ∈ news, p.1 < D) → Q (.ref D) { s with heap := h' }) : wpAny (model prog w) A (binaryOp .Add (.ref a) (.ref b)) Q E s :=
  add_lists (vs := [x]) (ws := xs) F N (isList_of N ha) (isList_of N hb) (fun h' F' N' => h _ h' F' N' fun p hp => Heap.lt_size (N p hp).1) (by rw [PySem.sizeLine_eq]; simp; omega)
theorem lines_09_7 : True := by
  k_with "binaryOp Add ref ref" => (k_here; (with_reducible show wpAny _ _ (binaryOp _ (Value.ref _) (Value.ref _)) _ _ _); k_dflt (refine' add_cons ?zzF ?zzN ?zza ?zzb ?zzz ?_; (case zzF => k_asm); (case zzN => k_asm); (case zza => k_mem); (case zzb => k_mem); (case zzz => k_extra "m:size")); (intro D' h' F' N' l1); (try k_lt l1); (try k_sweep))
  exact trivial
section
variable {s : Shared} {Q : Value → Shared → Prop} {h₀ h' : Heap} {L src : Addr} {m : Str → Option Value} {n tk' K : Nat} {led news keep : List (Addr × Obj)} {x y x' y' : Int} {t u t' u' t0 : Tok} {r ty nl hl b : Addr} {n1 n2 : Nat} {d e : Ty} {x1 x2 : Value}
noncomputable def MadeRet (s : Shared) (Q : Value → Shared → Prop) (h₀ : Heap) (L src : Addr) (m : Str → Option Value) (n K : Nat) (news keep : List (Addr × Obj)) (x y : Int) (t u : Tok) : Prop :=
  ∀ r tl x' y' t' u' h' tk', Fr h₀ L h' m → News h₀ L h' ((src, listOf #[.int x' t', .int y' u'] n) :: (tl ++ news)) → NewTo ((src, listOf #[.int x t, .int y u] n) :: news) tl → RowIn (tl ++ keep) r (K + 1) → 0 ≤ x' → 0 ≤ y' → y' < 2147483647 → Q r { s with heap := h', toks := tk' }
theorem made_fin {oT ob : Obj} {T : Ty} (hret : MadeRet s Q h₀ L src m n K news keep x y t u) (F : Fr h₀ L h' m) (N : News h₀ L h' led) (hs : (src, listOf #[.int x' t', .int y' u'] n) ∈ led) (hn : ∀ p ∈ news, p ∈ led)
    (h1 : (r, tupO #[.ref ty, .ref nl, .ref hl]) ∈ led) (h2 : (ty, oT) ∈ led) (hb : (b, ob) ∈ led) (h3 : (nl, listOf T.names.toArray n1) ∈ led) (h4 : (hl, listOf T.held.toArray n2) ∈ led)
    (l1 : ∀ p ∈ (src, listOf #[.int x t, .int y u] n) :: news, p.1 < r) (l2 : ∀ p ∈ (src, listOf #[.int x t, .int y u] n) :: news, p.1 < ty) (l3 : ∀ p ∈ (src, listOf #[.int x t, .int y u] n) :: news, p.1 < nl)
    (l4 : ∀ p ∈ (src, listOf #[.int x t, .int y u] n) :: news, p.1 < hl) (lb : ∀ p ∈ (src, listOf #[.int x t, .int y u] n) :: news, p.1 < b) (hx : 0 ≤ x') (hy : 0 ≤ y') (hy2 : y' < 2147483647)
    (hT : ∀ l, (∀ p ∈ keep, p ∈ l) → (ty, oT) ∈ l → (b, ob) ∈ l → TyIn l (.ref ty) T) (hd : T.depth ≤ K + 1) (hz : T.size < 2 ^ (K + 1)) : Q (.ref r) { s with heap := h', toks := tk' } := by
  refine hret (.ref r) [(r, tupO #[.ref ty, .ref nl, .ref hl]), (ty, oT), (b, ob), (nl, listOf T.names.toArray n1), (hl, listOf T.held.toArray n2)] x' y' t' u' h' tk' F ?_ ?_ ?_ hx hy hy2
  · intro p hp
    rcases List.mem_cons.mp hp with rfl | hp
    · exact N _ hs
    · rcases List.mem_append.mp hp with hp | hp
      · simp only [List.mem_cons, List.not_mem_nil, or_false] at hp
        rcases hp with rfl | rfl | rfl | rfl | rfl
        · exact N _ h1
        · exact N _ h2
        · exact N _ hb
        · exact N _ h3
        · exact N _ h4
      · exact N _ (hn _ hp)
  · intro p hp
    simp only [List.mem_cons, List.not_mem_nil, or_false] at hp
    rcases hp with rfl | rfl | rfl | rfl | rfl
    · exact l1
    · exact l2
    · exact lb
    · exact l3
    · exact l4
  · exact ⟨r, .ref ty, T, nl, hl, n1, n2, rfl, by simp, hT _ (fun p hp => List.mem_append_right _ hp) (by simp) (by simp), by simp, by simp, hd, hz⟩
theorem made_ref (hret : MadeRet s Q h₀ L src m n K news keep x y t u) (F : Fr h₀ L h' m) (N : News h₀ L h' led) (hs : (src, listOf #[.int x' t', .int y' u'] n) ∈ led) (hn : ∀ p ∈ news, p ∈ led)
    (h1 : (r, tupO #[.ref ty, .ref nl, .ref hl]) ∈ led) (h2 : (ty, tupO #[S "ref" t0, x1, x2, .ref d.addr]) ∈ led) (hd : TyIn keep (.ref d.addr) d) (h3 : (nl, listOf d.names.toArray n1) ∈ led) (h4 : (hl, listOf d.held.toArray n2) ∈ led)
    (l1 : ∀ p ∈ (src, listOf #[.int x t, .int y u] n) :: news, p.1 < r) (l2 : ∀ p ∈ (src, listOf #[.int x t, .int y u] n) :: news, p.1 < ty) (l3 : ∀ p ∈ (src, listOf #[.int x t, .int y u] n) :: news, p.1 < nl)
    (l4 : ∀ p ∈ (src, listOf #[.int x t, .int y u] n) :: news, p.1 < hl) (hx : 0 ≤ x') (hy : 0 ≤ y') (hy2 : y' < 2147483647) (hk : d.depth ≤ K) (hz : d.size < 2 ^ K) : Q (.ref r) { s with heap := h', toks := tk' } :=
  made_fin (T := .ref ty x1 x2 t0 d) hret F N hs hn h1 h2 h2 h3 h4 l1 l2 l3 l4 l2 hx hy hy2 (fun _ k a _ => .ref a (hd.mono k)) (by simp only [Ty.depth]; omega) (by simp only [Ty.size, Nat.pow_succ]; omega)
theorem made_box (hret : MadeRet s Q h₀ L src m n K news keep x y t u) (F : Fr h₀ L h' m) (N : News h₀ L h' led) (hs : (src, listOf #[.int x' t', .int y' u'] n) ∈ led) (hn : ∀ p ∈ news, p ∈ led)
    (h1 : (r, tupO #[.ref ty, .ref nl, .ref hl]) ∈ led) (h2 : (ty, tupO #[S "box" t0, .ref d.addr]) ∈ led) (hd : TyIn keep (.ref d.addr) d) (h3 : (nl, listOf d.names.toArray n1) ∈ led) (h4 : (hl, listOf d.held.toArray n2) ∈ led)
    (l1 : ∀ p ∈ (src, listOf #[.int x t, .int y u] n) :: news, p.1 < r) (l2 : ∀ p ∈ (src, listOf #[.int x t, .int y u] n) :: news, p.1 < ty) (l3 : ∀ p ∈ (src, listOf #[.int x t, .int y u] n) :: news, p.1 < nl)
    (l4 : ∀ p ∈ (src, listOf #[.int x t, .int y u] n) :: news, p.1 < hl) (hx : 0 ≤ x') (hy : 0 ≤ y') (hy2 : y' < 2147483647) (hk : d.depth ≤ K) (hz : d.size < 2 ^ K) : Q (.ref r) { s with heap := h', toks := tk' } :=
  made_fin (T := .box ty t0 d) hret F N hs hn h1 h2 h2 h3 h4 l1 l2 l3 l4 l2 hx hy hy2 (fun _ k a _ => .box a (hd.mono k)) (by simp only [Ty.depth]; omega) (by simp only [Ty.size, Nat.pow_succ]; omega)
theorem made_arr (hret : MadeRet s Q h₀ L src m n K news keep x y t u) (F : Fr h₀ L h' m) (N : News h₀ L h' led) (hs : (src, listOf #[.int x' t', .int y' u'] n) ∈ led) (hn : ∀ p ∈ news, p ∈ led)
    (h1 : (r, tupO #[.ref ty, .ref nl, .ref hl]) ∈ led) (h2 : (ty, tupO #[S "array" t0, .ref d.addr, x1]) ∈ led) (hd : TyIn keep (.ref d.addr) d) (h3 : (nl, listOf d.names.toArray n1) ∈ led) (h4 : (hl, listOf d.held.toArray n2) ∈ led)
    (l1 : ∀ p ∈ (src, listOf #[.int x t, .int y u] n) :: news, p.1 < r) (l2 : ∀ p ∈ (src, listOf #[.int x t, .int y u] n) :: news, p.1 < ty) (l3 : ∀ p ∈ (src, listOf #[.int x t, .int y u] n) :: news, p.1 < nl)
    (l4 : ∀ p ∈ (src, listOf #[.int x t, .int y u] n) :: news, p.1 < hl) (hx : 0 ≤ x') (hy : 0 ≤ y') (hy2 : y' < 2147483647) (hk : d.depth ≤ K) (hz : d.size < 2 ^ K) : Q (.ref r) { s with heap := h', toks := tk' } :=
  made_fin (T := .arr ty x1 t0 d) hret F N hs hn h1 h2 h2 h3 h4 l1 l2 l3 l4 l2 hx hy hy2 (fun _ k a _ => .arr a (hd.mono k)) (by simp only [Ty.depth]; omega) (by simp only [Ty.size, Nat.pow_succ]; omega)
theorem made_tup0 (hret : MadeRet s Q h₀ L src m n K news keep x y t u) (F : Fr h₀ L h' m) (N : News h₀ L h' led) (hs : (src, listOf #[.int x' t', .int y' u'] n) ∈ led) (hn : ∀ p ∈ news, p ∈ led)
    (h1 : (r, tupO #[.ref ty, .ref nl, .ref hl]) ∈ led) (h2 : (ty, tupO #[S "tuple" t0, .ref b]) ∈ led) (hb : (b, tupO #[]) ∈ led) (h3 : (nl, listOf (List.toArray ([] : List Value)) n1) ∈ led) (h4 : (hl, listOf (List.toArray ([] : List Value)) n2) ∈ led)
    (l1 : ∀ p ∈ (src, listOf #[.int x t, .int y u] n) :: news, p.1 < r) (l2 : ∀ p ∈ (src, listOf #[.int x t, .int y u] n) :: news, p.1 < ty) (l3 : ∀ p ∈ (src, listOf #[.int x t, .int y u] n) :: news, p.1 < nl)
    (l4 : ∀ p ∈ (src, listOf #[.int x t, .int y u] n) :: news, p.1 < hl) (lb : ∀ p ∈ (src, listOf #[.int x t, .int y u] n) :: news, p.1 < b) (hx : 0 ≤ x') (hy : 0 ≤ y') (hy2 : y' < 2147483647) : Q (.ref r) { s with heap := h', toks := tk' } := by
  have hK1 := Nat.two_pow_pos K
  exact made_fin (T := .tup0 ty b t0) hret F N hs hn h1 h2 hb h3 h4 l1 l2 l3 l4 lb hx hy hy2 (fun _ k a c => .tup0 a c) (by simp only [Ty.depth]; omega) (by simp only [Ty.size, Nat.pow_succ]; omega)
theorem made_tup1 (hret : MadeRet s Q h₀ L src m n K news keep x y t u) (F : Fr h₀ L h' m) (N : News h₀ L h' led) (hs : (src, listOf #[.int x' t', .int y' u'] n) ∈ led) (hn : ∀ p ∈ news, p ∈ led)
    (h1 : (r, tupO #[.ref ty, .ref nl, .ref hl]) ∈ led) (h2 : (ty, tupO #[S "tuple" t0, .ref b]) ∈ led) (hb : (b, tupO #[.ref d.addr]) ∈ led) (hd : TyIn keep (.ref d.addr) d) (h3 : (nl, listOf (List.toArray d.names) n1) ∈ led) (h4 : (hl, listOf (List.toArray (d.held : List Value)) n2) ∈ led)
    (l1 : ∀ p ∈ (src, listOf #[.int x t, .int y u] n) :: news, p.1 < r) (l2 : ∀ p ∈ (src, listOf #[.int x t, .int y u] n) :: news, p.1 < ty) (l3 : ∀ p ∈ (src, listOf #[.int x t, .int y u] n) :: news, p.1 < nl)
    (l4 : ∀ p ∈ (src, listOf #[.int x t, .int y u] n) :: news, p.1 < hl) (lb : ∀ p ∈ (src, listOf #[.int x t, .int y u] n) :: news, p.1 < b) (hx : 0 ≤ x') (hy : 0 ≤ y') (hy2 : y' < 2147483647) (hk : d.depth ≤ K) (hz : d.size < 2 ^ K) : Q (.ref r) { s with heap := h', toks := tk' } := by
  have hK1 := Nat.two_pow_pos K
  exact made_fin (T := .tup1 ty b t0 d) hret F N hs hn h1 h2 hb h3 h4 l1 l2 l3 l4 lb hx hy hy2 (fun _ k a c => .tup1 a c (hd.mono k)) (by simp only [Ty.depth]; omega) (by simp only [Ty.size, Nat.pow_succ]; omega)
theorem made_tup2 (hret : MadeRet s Q h₀ L src m n K news keep x y t u) (F : Fr h₀ L h' m) (N : News h₀ L h' led) (hs : (src, listOf #[.int x' t', .int y' u'] n) ∈ led) (hn : ∀ p ∈ news, p ∈ led)
    (h1 : (r, tupO #[.ref ty, .ref nl, .ref hl]) ∈ led) (h2 : (ty, tupO #[S "tuple" t0, .ref b]) ∈ led) (hb : (b, tupO #[.ref d.addr, .ref e.addr]) ∈ led) (hd : TyIn keep (.ref d.addr) d) (he : TyIn keep (.ref e.addr) e) (h3 : (nl, listOf (List.toArray (d.names ++ e.names)) n1) ∈ led) (h4 : (hl, listOf (List.toArray ((d.held ++ e.held) : List Value)) n2) ∈ led)
    (l1 : ∀ p ∈ (src, listOf #[.int x t, .int y u] n) :: news, p.1 < r) (l2 : ∀ p ∈ (src, listOf #[.int x t, .int y u] n) :: news, p.1 < ty) (l3 : ∀ p ∈ (src, listOf #[.int x t, .int y u] n) :: news, p.1 < nl)
    (l4 : ∀ p ∈ (src, listOf #[.int x t, .int y u] n) :: news, p.1 < hl) (lb : ∀ p ∈ (src, listOf #[.int x t, .int y u] n) :: news, p.1 < b) (hx : 0 ≤ x') (hy : 0 ≤ y') (hy2 : y' < 2147483647) (hk : d.depth ≤ K) (hz : d.size < 2 ^ K) (hk2 : e.depth ≤ K) (hz2 : e.size < 2 ^ K) : Q (.ref r) { s with heap := h', toks := tk' } := by
  have hK1 := Nat.two_pow_pos K
  exact made_fin (T := .tup2 ty b t0 d e) hret F N hs hn h1 h2 hb h3 h4 l1 l2 l3 l4 lb hx hy hy2 (fun _ k a c => .tup2 a c (hd.mono k) (he.mono k)) (by simp only [Ty.depth]; omega) (by simp only [Ty.size, Nat.pow_succ]; omega)
theorem made_adt0 (hret : MadeRet s Q h₀ L src m n K news keep x y t u) (F : Fr h₀ L h' m) (N : News h₀ L h' led) (hs : (src, listOf #[.int x' t', .int y' u'] n) ∈ led) (hn : ∀ p ∈ news, p ∈ led)
    (h1 : (r, tupO #[.ref ty, .ref nl, .ref hl]) ∈ led) (h2 : (ty, tupO #[S "adt" t0, x1, x2, .ref b]) ∈ led) (hb : (b, tupO #[]) ∈ led) (h3 : (nl, listOf (List.toArray ([] : List Value)) n1) ∈ led) (h4 : (hl, listOf (List.toArray (.ref ty :: [] : List Value)) n2) ∈ led)
    (l1 : ∀ p ∈ (src, listOf #[.int x t, .int y u] n) :: news, p.1 < r) (l2 : ∀ p ∈ (src, listOf #[.int x t, .int y u] n) :: news, p.1 < ty) (l3 : ∀ p ∈ (src, listOf #[.int x t, .int y u] n) :: news, p.1 < nl)
    (l4 : ∀ p ∈ (src, listOf #[.int x t, .int y u] n) :: news, p.1 < hl) (lb : ∀ p ∈ (src, listOf #[.int x t, .int y u] n) :: news, p.1 < b) (hx : 0 ≤ x') (hy : 0 ≤ y') (hy2 : y' < 2147483647) : Q (.ref r) { s with heap := h', toks := tk' } := by
  have hK1 := Nat.two_pow_pos K
  exact made_fin (T := .adt0 ty b x1 x2 t0) hret F N hs hn h1 h2 hb h3 h4 l1 l2 l3 l4 lb hx hy hy2 (fun _ k a c => .adt0 a c) (by simp only [Ty.depth]; omega) (by simp only [Ty.size, Nat.pow_succ]; omega)
theorem made_adt1 (hret : MadeRet s Q h₀ L src m n K news keep x y t u) (F : Fr h₀ L h' m) (N : News h₀ L h' led) (hs : (src, listOf #[.int x' t', .int y' u'] n) ∈ led) (hn : ∀ p ∈ news, p ∈ led)
    (h1 : (r, tupO #[.ref ty, .ref nl, .ref hl]) ∈ led) (h2 : (ty, tupO #[S "adt" t0, x1, x2, .ref b]) ∈ led) (hb : (b, tupO #[.ref d.addr]) ∈ led) (hd : TyIn keep (.ref d.addr) d) (h3 : (nl, listOf (List.toArray d.names) n1) ∈ led) (h4 : (hl, listOf (List.toArray (.ref ty :: d.held : List Value)) n2) ∈ led)
    (l1 : ∀ p ∈ (src, listOf #[.int x t, .int y u] n) :: news, p.1 < r) (l2 : ∀ p ∈ (src, listOf #[.int x t, .int y u] n) :: news, p.1 < ty) (l3 : ∀ p ∈ (src, listOf #[.int x t, .int y u] n) :: news, p.1 < nl)
    (l4 : ∀ p ∈ (src, listOf #[.int x t, .int y u] n) :: news, p.1 < hl) (lb : ∀ p ∈ (src, listOf #[.int x t, .int y u] n) :: news, p.1 < b) (hx : 0 ≤ x') (hy : 0 ≤ y') (hy2 : y' < 2147483647) (hk : d.depth ≤ K) (hz : d.size < 2 ^ K) : Q (.ref r) { s with heap := h', toks := tk' } := by
  have hK1 := Nat.two_pow_pos K
  exact made_fin (T := .adt1 ty b x1 x2 t0 d) hret F N hs hn h1 h2 hb h3 h4 l1 l2 l3 l4 lb hx hy hy2 (fun _ k a c => .adt1 a c (hd.mono k)) (by simp only [Ty.depth]; omega) (by simp only [Ty.size, Nat.pow_succ]; omega)
theorem made_adt2 (hret : MadeRet s Q h₀ L src m n K news keep x y t u) (F : Fr h₀ L h' m) (N : News h₀ L h' led) (hs : (src, listOf #[.int x' t', .int y' u'] n) ∈ led) (hn : ∀ p ∈ news, p ∈ led)
    (h1 : (r, tupO #[.ref ty, .ref nl, .ref hl]) ∈ led) (h2 : (ty, tupO #[S "adt" t0, x1, x2, .ref b]) ∈ led) (hb : (b, tupO #[.ref d.addr, .ref e.addr]) ∈ led) (hd : TyIn keep (.ref d.addr) d) (he : TyIn keep (.ref e.addr) e) (h3 : (nl, listOf (List.toArray (d.names ++ e.names)) n1) ∈ led) (h4 : (hl, listOf (List.toArray (.ref ty :: (d.held ++ e.held) : List Value)) n2) ∈ led)
    (l1 : ∀ p ∈ (src, listOf #[.int x t, .int y u] n) :: news, p.1 < r) (l2 : ∀ p ∈ (src, listOf #[.int x t, .int y u] n) :: news, p.1 < ty) (l3 : ∀ p ∈ (src, listOf #[.int x t, .int y u] n) :: news, p.1 < nl)
    (l4 : ∀ p ∈ (src, listOf #[.int x t, .int y u] n) :: news, p.1 < hl) (lb : ∀ p ∈ (src, listOf #[.int x t, .int y u] n) :: news, p.1 < b) (hx : 0 ≤ x') (hy : 0 ≤ y') (hy2 : y' < 2147483647) (hk : d.depth ≤ K) (hz : d.size < 2 ^ K) (hk2 : e.depth ≤ K) (hz2 : e.size < 2 ^ K) : Q (.ref r) { s with heap := h', toks := tk' } := by
  have hK1 := Nat.two_pow_pos K
  exact made_fin (T := .adt2 ty b x1 x2 t0 d e) hret F N hs hn h1 h2 hb h3 h4 l1 l2 l3 l4 lb hx hy hy2 (fun _ k a c => .adt2 a c (hd.mono k) (he.mono k)) (by simp only [Ty.depth]; omega) (by simp only [Ty.size, Nat.pow_succ]; omega)
end
theorem lines_09_8 : True := by
  k_with "m:lt1" => (refine lts_cons ?_ ?_; (focus k_extra "m:lt0"); (focus first | exact lt_of_all (by assumption) | k_extra "m:lts"))
  k_with "m:endR" => ((case zzhs => k_mem); (case zzhn => (intro p9 h9; simp only [List.mem_cons]; simp only [h9, or_true]; done)); (case zzh3 => k_mem); (case zzh4 => k_mem); (case zzl1 => k_extra "m:lt1"); (case zzl2 => k_extra "m:lt1"); (case zzl3 => k_extra "m:lt1"); (case zzl4 => k_extra "m:lt1"); (case zzhx => assumption); (case zzhy => assumption); (case zzhy2 => assumption))
  k_with "m:row_ref" => (refine' made_ref ‹MadeRet _ _ _ _ _ _ _ _ _ _ _ _ _ _› ?zzF ?zzN ?zzhs ?zzhn ?zzh1 ?zzh2 ?zzhd ?zzh3 ?zzh4 ?zzl1 ?zzl2 ?zzl3 ?zzl4 ?zzhx ?zzhy ?zzhy2 ?zzhk ?zzhz; (case zzF => assumption); (case zzN => assumption); (case zzh1 => k_mem); (case zzh2 => k_mem); (case zzhd => assumption); (case zzhk => assumption); (case zzhz => assumption); k_extra "m:endR")
  k_with "m:row_box" => (refine' made_box ‹MadeRet _ _ _ _ _ _ _ _ _ _ _ _ _ _› ?zzF ?zzN ?zzhs ?zzhn ?zzh1 ?zzh2 ?zzhd ?zzh3 ?zzh4 ?zzl1 ?zzl2 ?zzl3 ?zzl4 ?zzhx ?zzhy ?zzhy2 ?zzhk ?zzhz; (case zzF => assumption); (case zzN => assumption); (case zzh1 => k_mem); (case zzh2 => k_mem); (case zzhd => assumption); (case zzhk => assumption); (case zzhz => assumption); k_extra "m:endR")
  k_with "m:row_arr" => (refine' made_arr ‹MadeRet _ _ _ _ _ _ _ _ _ _ _ _ _ _› ?zzF ?zzN ?zzhs ?zzhn ?zzh1 ?zzh2 ?zzhd ?zzh3 ?zzh4 ?zzl1 ?zzl2 ?zzl3 ?zzl4 ?zzhx ?zzhy ?zzhy2 ?zzhk ?zzhz; (case zzF => assumption); (case zzN => assumption); (case zzh1 => k_mem); (case zzh2 => k_mem); (case zzhd => assumption); (case zzhk => assumption); (case zzhz => assumption); k_extra "m:endR")
  k_with "m:row_tup0" => (refine' made_tup0 ‹MadeRet _ _ _ _ _ _ _ _ _ _ _ _ _ _› ?zzF ?zzN ?zzhs ?zzhn ?zzh1 ?zzh2 ?zzhb ?zzh3 ?zzh4 ?zzl1 ?zzl2 ?zzl3 ?zzl4 ?zzlb ?zzhx ?zzhy ?zzhy2; (case zzF => assumption); (case zzN => assumption); (case zzh1 => k_mem); (case zzh2 => k_mem); (case zzhb => k_mem); k_extra "m:endR"; (case zzlb => k_extra "m:lt1"))
  k_with "m:row_tup1" => (refine' made_tup1 ‹MadeRet _ _ _ _ _ _ _ _ _ _ _ _ _ _› ?zzF ?zzN ?zzhs ?zzhn ?zzh1 ?zzh2 ?zzhb ?zzhd ?zzh3 ?zzh4 ?zzl1 ?zzl2 ?zzl3 ?zzl4 ?zzlb ?zzhx ?zzhy ?zzhy2 ?zzhk ?zzhz; (case zzF => assumption); (case zzN => assumption); (case zzh1 => k_mem); (case zzh2 => k_mem); (case zzhb => k_mem); (case zzhd => assumption); (case zzhk => assumption); (case zzhz => assumption); k_extra "m:endR"; (case zzlb => k_extra "m:lt1"))
  k_with "m:row_tup2" => (refine' made_tup2 ‹MadeRet _ _ _ _ _ _ _ _ _ _ _ _ _ _› ?zzF ?zzN ?zzhs ?zzhn ?zzh1 ?zzh2 ?zzhb ?zzhd ?zzhe ?zzh3 ?zzh4 ?zzl1 ?zzl2 ?zzl3 ?zzl4 ?zzlb ?zzhx ?zzhy ?zzhy2 ?zzhk ?zzhz ?zzhk2 ?zzhz2; (case zzF => assumption); (case zzN => assumption); (case zzh1 => k_mem); (case zzh2 => k_mem); (case zzhb => k_mem); (case zzhd => assumption); (case zzhe => assumption); (case zzhk => assumption); (case zzhz => assumption); (case zzhk2 => assumption); (case zzhz2 => assumption); k_extra "m:endR"; (case zzlb => k_extra "m:lt1"))
  k_with "m:row_adt0" => (refine' made_adt0 ‹MadeRet _ _ _ _ _ _ _ _ _ _ _ _ _ _› ?zzF ?zzN ?zzhs ?zzhn ?zzh1 ?zzh2 ?zzhb ?zzh3 ?zzh4 ?zzl1 ?zzl2 ?zzl3 ?zzl4 ?zzlb ?zzhx ?zzhy ?zzhy2; (case zzF => assumption); (case zzN => assumption); (case zzh1 => k_mem); (case zzh2 => k_mem); (case zzhb => k_mem); k_extra "m:endR"; (case zzlb => k_extra "m:lt1"))
  k_with "m:row_adt1" => (refine' made_adt1 ‹MadeRet _ _ _ _ _ _ _ _ _ _ _ _ _ _› ?zzF ?zzN ?zzhs ?zzhn ?zzh1 ?zzh2 ?zzhb ?zzhd ?zzh3 ?zzh4 ?zzl1 ?zzl2 ?zzl3 ?zzl4 ?zzlb ?zzhx ?zzhy ?zzhy2 ?zzhk ?zzhz; (case zzF => assumption); (case zzN => assumption); (case zzh1 => k_mem); (case zzh2 => k_mem); (case zzhb => k_mem); (case zzhd => assumption); (case zzhk => assumption); (case zzhz => assumption); k_extra "m:endR"; (case zzlb => k_extra "m:lt1"))
  k_with "m:row_adt2" => (refine' made_adt2 ‹MadeRet _ _ _ _ _ _ _ _ _ _ _ _ _ _› ?zzF ?zzN ?zzhs ?zzhn ?zzh1 ?zzh2 ?zzhb ?zzhd ?zzhe ?zzh3 ?zzh4 ?zzl1 ?zzl2 ?zzl3 ?zzl4 ?zzlb ?zzhx ?zzhy ?zzhy2 ?zzhk ?zzhz ?zzhk2 ?zzhz2; (case zzF => assumption); (case zzN => assumption); (case zzh1 => k_mem); (case zzh2 => k_mem); (case zzhb => k_mem); (case zzhd => assumption); (case zzhe => assumption); (case zzhk => assumption); (case zzhz => assumption); (case zzhk2 => assumption); (case zzhz2 => assumption); k_extra "m:endR"; (case zzlb => k_extra "m:lt1"))
  exact trivial
set_option maxRecDepth 100000 in
set_option maxHeartbeats 8000000 in
theorem made_spec : ∀ (w : World) (mean : ExcName → Option Value) (mg mb : Str → Option Value)
    (dp un : Nat) (gd : Option (List Code)) (cn : Str) (cs : Scope) (a : Addr) (ccd : Value) (cl : List (Str × Addr)) (outer : List Env) (A₀ : Around) (base h₀ : Heap) (L : Addr) (m : Str → Option Value) (news : List (Addr × Obj)) (s : Shared)
    (src lst : Addr) (keep : List (Addr × Obj)) (vs : Array Value) (K : Nat) (x y : Int) (t u : Tok) (n k : Nat) (Q E : Value → Shared → Prop)
    (B : Below A₀ base outer h₀) (F : Fr h₀ L s.heap m) (X : (Mine.hd.heap_1 w.params).In h₀) (N : News h₀ L s.heap ((src, listOf #[.int x t, .int y u] n) :: news)) (T : Top vw lz mean mg mb h₀) (hk : cs.kind = .function)
    (hsep : ∀ p ∈ news, p.1 ≠ src) (hl : (lst, listOf vs k) ∈ news) (hs1 : 1 < vs.size) (hs2 : vs.size ≤ 100) (hS : ∀ p ∈ keep, p ∈ news) (hR : ∀ v ∈ vs.toList, RowIn keep v K) (hK : K ≤ 8)
    (hx : 0 ≤ x) (hy : 0 ≤ y) (hy2 : y < 2147483647) (hd : dp + 20 < recursionLimit) (hu : un + 160 < cLine)
    (hret : ∀ r tl x' y' t' u' h' tk', Fr h₀ L h' m → News h₀ L h' ((src, listOf #[.int x' t', .int y' u'] n) :: (tl ++ news)) → NewTo ((src, listOf #[.int x t, .int y u] n) :: news) tl → RowIn (tl ++ keep) r (K + 1) → 0 ≤ x' → 0 ≤ y' → y' < 2147483647 → Q r { s with heap := h', toks := tk' }),
    wpAny (model PySem.Challenge.rw_xm0579_01.row.prog w) (ktrTop dp un gd cn cs L a ccd cl outer) (call (.ref 134) [.ref src, .ref lst]) Q E s := by
  k_fill
  intro w mean mg mb dp un gd cn cs a ccd cl outer A₀ base h₀ L m news s src lst keep vs K x y t u n k Q E B F X N T hk hsep hl hs1 hs2 hS hR hK hx hy hy2 hd hu hret
  replace hret : MadeRet s Q h₀ L src m n K news keep x y t u := hret
  refine wpAny_call ?_
  k_dflt (k_extra "m:enterC")
  k_steps
  · k_extra "m:row_ref"
  · k_extra "m:row_box"
  · k_extra "m:row_arr"
  · k_extra "m:row_tup0"
  · k_extra "m:row_adt0"
  · k_extra "m:row_tup1"
  · k_extra "m:row_adt1"
  · k_extra "m:row_tup2"
  · k_extra "m:row_adt2"
theorem off_10 : True := by
  w_top off
  exact trivial
theorem names_tell (w : World) (mean : ExcName → Option Value) (mg mb : Str → Option Value) (D : Ty) : NamesTell w mean mg mb D := by
  have key : ∀ n, ∀ D : Ty, D.size = n → NamesTell w mean mg mb D := by
    intro n
    induction n using Nat.strongRecOn with
    | ind n ih => exact fun D hD => names_step w mean mg mb D fun D' h' => ih D'.size (hD ▸ h') D' rfl
  exact key _ D rfl
theorem names_use2 {w : World} {mean : ExcName → Option Value} {mg mb : Str → Option Value} {D : Ty}
    {dp un : Nat} {gd : Option (List Code)} {cn : Str} {cs : Scope} {a : Addr} {ccd : Value} {cl : List (Str × Addr)} {outer : List Env} {A₀ : Around} {base h₀ : Heap} {L : Addr} {m : Str → Option Value} {news : List (Addr × Obj)} {s : Shared}
    {v : Value} {Q E : Value → Shared → Prop}
    (B : Below A₀ base outer h₀) (F : Fr h₀ L s.heap m) (X : (Mine.hd.heap_1 w.params).In h₀) (N : News h₀ L s.heap news) (T : Top vw lz mean mg mb h₀) (hk : cs.kind = .function)
    (hR : TyIn news v D) (hsz : D.size ≤ 1000) (hdp : D.depth ≤ 9) (hd : dp + 40 < recursionLimit) (hu : un + 300 < cLine)
    (hret : ∀ l n h' tk', Fr h₀ L h' m → News h₀ L h' ((l, listOf D.names.toArray n) :: news) → (∀ p ∈ news, p.1 < l) → Q (.ref l) { s with heap := h', toks := tk' }) :
    wpAny (model PySem.Challenge.rw_xm0579_01.row.prog w) (ktrTop dp un gd cn cs L a ccd cl outer) (call (.ref 94) [v]) Q E s :=
  names_tell w mean mg mb D dp un gd cn cs a ccd cl outer A₀ base h₀ L m news s v Q E B F X N T hk hR hsz (by omega) (by omega) hret
theorem adts_use {w : World} {mean : ExcName → Option Value} {mg mb : Str → Option Value} {D : Ty}
    {dp un : Nat} {gd : Option (List Code)} {cn : Str} {cs : Scope} {a : Addr} {ccd : Value} {cl : List (Str × Addr)} {outer : List Env} {A₀ : Around} {base h₀ : Heap} {L : Addr} {m : Str → Option Value} {news : List (Addr × Obj)} {s : Shared}
    {v : Value} {Q E : Value → Shared → Prop}
    (B : Below A₀ base outer h₀) (F : Fr h₀ L s.heap m) (X : (Mine.hd.heap_1 w.params).In h₀) (N : News h₀ L s.heap news) (T : Top vw lz mean mg mb h₀) (hk : cs.kind = .function)
    (hR : TyIn news v D) (hsz : D.size ≤ 1000) (hd : dp + 8 < recursionLimit) (hu : un + 64 < cLine)
    (hret : ∀ l n h' tk', Fr h₀ L h' m → News h₀ L h' ((l, listOf D.held.toArray n) :: news) → (∀ p ∈ news, p.1 < l) → Q (.ref l) { s with heap := h', toks := tk' }) :
    wpAny (model PySem.Challenge.rw_xm0579_01.row.prog w) (ktrTop dp un gd cn cs L a ccd cl outer) (call (.ref 101) [v]) Q E s :=
  adts_spec w mean mg mb D dp un gd cn cs a ccd cl outer A₀ base h₀ L m news s v Q E B F X N T hk hR hsz hd hu hret
theorem off_11 : True := by
  w_top off
  exact trivial
theorem Pick.app {d : Addr} {o : Obj} {r r' : List (Addr × Obj)} (h : Pick d o r r') : ∀ t : List (Addr × Obj), Pick d o (t ++ r) (t ++ r')
  | [] => h
  | _ :: t => .tail (h.app t)
theorem lines_11_1 : True := by
  k_with "m:pick" => (with_reducible refine' Pick.app ?zzp _; (case zzp => k_extra "m:pick"))
  exact trivial
theorem rangeRest_inv {prog : Program} {w : World} {A : Around} {E : Value → Shared → Prop} {h₀ : Heap} {env : Env} {x : Str} {body : List Stmt} {Q : Flow → Shared → Prop} {s : Shared} {I : Addr} {a : Int} {n : Nat}
    (J : Nat → (Str → Option Value) → List (Addr × Obj) → Prop)
    (turn : ∀ i m news t h tk, i < n → J i m news → Fr h₀ env.locals h (fun y => if y = x then some (.int (a + (i : Int)) t) else m y) →
      News h₀ env.locals h ((I, itR (a + ((i + 1 : Nat) : Int)) ((n : Int) - ((i + 1 : Nat) : Int))) :: news) →
      wpAny (model prog w) A (execs body env) (UnrPost h₀ env.locals { s with heap := h, toks := tk } I (itR (a + ((i + 1 : Nat) : Int)) ((n : Int) - ((i + 1 : Nat) : Int))) (J (i + 1)) Q) E { s with heap := h, toks := tk })
    (done : ∀ m news h tk, J n m news → Fr h₀ env.locals h m → News h₀ env.locals h news → Q .next { s with heap := h, toks := tk }) :
    ∀ k i m news, i + k = n → J i m news → RangeRest prog w A E h₀ env x body Q s I a n k i m news := by
  intro k
  induction k with
  | zero =>
    intro i m news hi hJ
    obtain rfl : i = n := hi
    exact RangeRest.zero fun h tk F N => done m news h tk hJ F N
  | succ k ih =>
    intro i m news hi hJ
    refine RangeRest.succ fun t h tk F N => wpAny_mono (turn i m news t h tk (by omega) hJ F N) (fun f s₂ p => ?_) fun _ _ e => e
    have fin : UnrEnd h₀ env.locals { s with heap := h, toks := tk } I (itR (a + ((i + 1 : Nat) : Int)) ((n : Int) - ((i + 1 : Nat) : Int))) (J (i + 1)) s₂ →
        UnrEnd h₀ env.locals { s with heap := h, toks := tk } I (itR (a + ((i + 1 : Nat) : Int)) ((n : Int) - ((i + 1 : Nat) : Int))) (RangeRest prog w A E h₀ env x body Q s I a n k (i + 1)) s₂ := by
      rintro ⟨h', tk', m', news', e, F', N', o, r⟩
      exact ⟨h', tk', m', news', e, F', N', o, ih (i + 1) m' news' (by omega) r⟩
    cases f with
    | ret v => exact p
    | brk => exact p
    | next => exact fin p
    | cont => exact fin p
theorem iter_range_inv {prog : Program} {w : World} {A : Around} {E : Value → Shared → Prop} {h₀ : Heap} {env : Env} {x : Str} {body : List Stmt} {Q : Flow → Shared → Prop} {s : Shared} {r : Addr} {d : Int} {t₀ u₀ v₀ : Tok} {m₀ : Str → Option Value} {news : List (Addr × Obj)}
    (J : Addr → Nat → (Str → Option Value) → List (Addr × Obj) → Prop)
    (hh : A.handled = none) (hr : IsRange s.heap r 0 d 1 t₀ u₀ v₀) (h1 : 0 ≤ d) (h2 : d ≤ 4) (F : Fr h₀ env.locals s.heap m₀) (N : News h₀ env.locals s.heap news)
    (init : ∀ I : Addr, (∀ p ∈ news, p.1 < I) → J I 0 m₀ news)
    (turn : ∀ (I : Addr) (n i : Nat) m news t h tk, (n : Int) = d → i < n → J I i m news → Fr h₀ env.locals h (fun y => if y = x then some (.int (0 + (i : Int)) t) else m y) →
      News h₀ env.locals h ((I, itR (0 + ((i + 1 : Nat) : Int)) ((n : Int) - ((i + 1 : Nat) : Int))) :: news) →
      wpAny (model prog w) A (execs body env) (UnrPost h₀ env.locals { s with heap := h, toks := tk } I (itR (0 + ((i + 1 : Nat) : Int)) ((n : Int) - ((i + 1 : Nat) : Int))) (J I (i + 1)) Q) E { s with heap := h, toks := tk })
    (done : ∀ (I : Addr) (n : Nat) m news h tk, (n : Int) = d → J I n m news → Fr h₀ env.locals h m → News h₀ env.locals h news → Q .next { s with heap := h, toks := tk }) :
    wpAny (model prog w) A (pyIter (.ref r)) (fun it s₂ => LoopAtV prog w A h₀ env x body Q E it s₂) E s := by
  have hd : (d.toNat : Int) = d := Int.toNat_of_nonneg h1
  refine iter_rangeUnr (n := d.toNat) hh hr ?_ ?_ F N fun I l1 => rangeRest_inv (J I) (fun i m news t h tk => turn I d.toNat i m news t h tk hd) (fun m news h tk => done I d.toNat m news h tk hd) _ _ _ _ (by omega) (init I l1)
  · rcases (show d = 0 ∨ d = 1 ∨ d = 2 ∨ d = 3 ∨ d = 4 by omega) with rfl | rfl | rfl | rfl | rfl <;> decide
  · rcases (show d = 0 ∨ d = 1 ∨ d = 2 ∨ d = 3 ∨ d = 4 by omega) with rfl | rfl | rfl | rfl | rfl <;> decide
section
variable {prog : Program} {w : World} {A : Around} {E : Value → Shared → Prop} {h₀ : Heap} {L : Addr} {m : Str → Option Value} {news : List (Addr × Obj)}
theorem slice_tail {value slice : PySem.Expr} {l : Addr} {its : Array Value} {k : Nat} {x : Int} {u : Tok} {Q : Value → Shared → Prop} {hp : Heap} {g : Array GenState} {dr : Drawn} {tk : Nat} {os : OsState}
    (F : Fr h₀ L hp m) (N : News h₀ L hp news) (hm : (l, listOf its k) ∈ news) (hx : x < 0) (hz : its.size ≤ 10000)
    (h : ∀ D ws h', Fr h₀ L h' m → News h₀ L h' ((D, listOf (List.toArray ws) 0) :: news) → (∀ p ∈ news, p.1 < D) → (∀ v ∈ (List.toArray ws).toList, v ∈ its.toList) → ws.length = min its.size (-x).toNat → Q (.ref D) ⟨h', g, dr, tk, os⟩)
    (hs : subscripted slice false (.ref l) (.ref hp.objs.size) = operate [.ref hp.objs.size, .ref l] (getItem (.ref l) (.ref hp.objs.size))) (ht : ∀ r, letTemporaryGo value (.ref l) r = pure ()) :
    wpAny (model prog w) A (subscriptTail value slice (.ref l) (.ref hp.objs.size)) Q E ⟨hp.push { cls := .type "slice", data := .fields #[.int x u, .none, .none] }, g, dr, tk, os⟩ := by
  refine kms_slice_lit (s := ⟨hp, g, dr, tk, os⟩) (lo := some x) (hi := none) F N (isList_of N hm) (by kmk_part) (by kmk_part) rfl (fun D h' F' N' l1 => h D _ h' F' N' l1 ?_ ?_) hs ht (by rw [PySem.sizeLine_eq]; omega)
  · intro v hv
    exact List.mem_of_mem_drop (List.mem_of_mem_take hv)
  · simp only [kms_pick, kms_lo, kms_hi, if_pos hx, List.length_take, List.length_drop, Array.length_toList]
    omega
theorem last_mem {s : Shared} {value slice : PySem.Expr} {l : Addr} {its : Array Value} {k : Nat} {u : Tok} {Q : Value → Shared → Prop}
    (N : News h₀ L s.heap news) (hm : (l, listOf its k) ∈ news) (hz : 0 < its.size) (h : ∀ v ∈ its.toList, Q v s)
    (hs : subscripted slice false (.ref l) (.int (-1) u) = operate [.ref l, .int (-1) u] (getItem (.ref l) (.int (-1) u)) := by with_unfolding_all rfl) :
    wpAny (model prog w) A (subscriptTail value slice (.ref l) (.int (-1) u)) Q E s := by
  have hl := isList_of N hm
  have hx : its[its.size - 1]? = some its[its.size - 1] := by simp [hz]
  refine tail_any hl.typeIs slot_list_getitem.lookup (wpAny_getItem_list_neg hl (by decide) (by omega) (by decide) ?_ (h its[its.size - 1] (by simp))) hs
  rw [← hx]
  congr 1
  omega
theorem last_row {s : Shared} {value slice : PySem.Expr} {l : Addr} {its : Array Value} {k K : Nat} {u : Tok} {Q : Value → Shared → Prop} {kp : List (Addr × Obj)}
    (hR : ∀ v ∈ its.toList, RowIn kp v K) (hS : ∀ p ∈ kp, p ∈ news) (N : News h₀ L s.heap news) (hm : (l, listOf its k) ∈ news) (hz : 0 < its.size) (hK : K ≤ 8)
    (h : ∀ a T nl hl n1 n2, (a, tupO #[.ref (Ty.addr T), .ref nl, .ref hl]) ∈ news → TyIn news (.ref T.addr) T → (nl, listOf T.names.toArray n1) ∈ news → (hl, listOf T.held.toArray n2) ∈ news → T.depth ≤ 8 → T.size ≤ 300 → Q (.ref a) s)
    (hs : subscripted slice false (.ref l) (.int (-1) u) = operate [.ref l, .int (-1) u] (getItem (.ref l) (.int (-1) u)) := by with_unfolding_all rfl) :
    wpAny (model prog w) A (subscriptTail value slice (.ref l) (.int (-1) u)) Q E s :=
  last_mem N hm hz (fun v hv => by
    obtain ⟨a, t, T, nl, hl, n1, n2, h1, h2, h3, h4, h5, h6, h7⟩ := hR v hv
    have ht := h3.isRef
    subst h1 ht
    have h8 : 2 ^ K ≤ 2 ^ 8 := Nat.pow_le_pow_right (by decide) hK
    exact h a T nl hl n1 n2 (hS _ h2) (h3.mono hS) (hS _ h4) (hS _ h5) (by omega) (by omega)) hs
theorem rows_sub {kp : List (Addr × Obj)} {A B : Array Value} {K : Nat} (h : ∀ v ∈ A.toList, RowIn kp v K) (hs : ∀ v ∈ B.toList, v ∈ A.toList) : ∀ v ∈ B.toList, RowIn kp v K := fun v hv => h v (hs v hv)
theorem eq_same {s : Shared} {a b : Addr} {its : Array Value} {k k2 : Nat} {Q : Value → Shared → Prop}
    (N : News h₀ L s.heap news) (ha : (a, listOf its k) ∈ news) (hb : (b, listOf its k2) ∈ news) (hu : A.units < cLine) (h : Q (.bool true) s) :
    wpAny (model prog w) A (compareOp .Eq (.ref a) (.ref b)) Q E s := by
  refine PySem.SeqAt.eq_listAt (e := fun _ => true) (isList_of N ha) (isList_of N hb) rfl hu (fun j _ _ => PySem.SeqAt.EqAt.same _) ?_
  have : (List.range its.size).all (fun _ => true) = true := by simp
  rw [this]
  exact h
theorem eq_at {s : Shared} {a b : Addr} {its its2 : Array Value} {k k2 : Nat} {Q : Value → Shared → Prop}
    (N : News h₀ L s.heap news) (ha : (a, listOf its k) ∈ news) (hb : (b, listOf its2 k2) ∈ news) (e : its = its2) (hu : A.units < cLine) (h : Q (.bool true) s) :
    wpAny (model prog w) A (compareOp .Eq (.ref a) (.ref b)) Q E s := by
  subst e
  exact eq_same N ha hb hu h
end
theorem base_use {w : World} {mean : ExcName → Option Value} {mg mb : Str → Option Value}
    {dp un : Nat} {gd : Option (List Code)} {cn : Str} {cs : Scope} {a : Addr} {ccd : Value} {cl : List (Str × Addr)} {outer : List Env} {A₀ : Around} {base h₀ : Heap} {L : Addr} {m : Str → Option Value} {led news : List (Addr × Obj)} {s : Shared}
    {src : Addr} {x y : Int} {t u : Tok} {n : Nat} {Q E : Value → Shared → Prop}
    (B : Below A₀ base outer h₀) (F : Fr h₀ L s.heap m) (X : (Mine.hd.heap_1 w.params).In h₀) (N : News h₀ L s.heap led) (P : Pick src (listOf #[.int x t, .int y u] n) led news) (T : Top vw lz mean mg mb h₀) (hk : cs.kind = .function)
    (hsep : ∀ p ∈ news, p.1 ≠ src)
    (hx : 0 ≤ x) (hy : 0 ≤ y) (hy2 : y < 2147483647) (hd : dp + 12 < recursionLimit) (hu : un + 100 < cLine)
    (hret : ∀ r tl x' y' t' u' h' tk', Fr h₀ L h' m → News h₀ L h' ((src, listOf #[.int x' t', .int y' u'] n) :: (tl ++ news)) → NewTo ((src, listOf #[.int x t, .int y u] n) :: news) tl → RowIn (tl ++ news) r 1 → 0 ≤ x' → 0 ≤ y' → y' < 2147483647 → Q r { s with heap := h', toks := tk' }) :
    wpAny (model PySem.Challenge.rw_xm0579_01.row.prog w) (ktrTop dp un gd cn cs L a ccd cl outer) (call (.ref 129) [.ref src]) Q E s :=
  base_spec w mean mg mb dp un gd cn cs a ccd cl outer A₀ base h₀ L m news s src x y t u n Q E B F X (P.news N) T hk hsep hx hy hy2 hd hu hret
theorem lines_11_2 : True := by
  k_with "call ref" => (k_here; (with_reducible show wpAny _ _ (call (Value.ref 129) _) _ _ _); k_dflt (
        refine' base_use ?zzkB ?zzkF ?zzkX ?zzkN ?zzkP ?zzkT ?zzkK ?zzksep ?zzkx ?zzky ?zzky2 ?zzkd ?zzku ?_
        (case zzkB => k_asm)
        (case zzkF => k_asm)
        (case zzkX => k_asm)
        (case zzkN => k_asm)
        (case zzkP => k_extra "m:pick")
        (case zzkT => k_asm)
        (case zzkK => first | exact rfl | assumption)
        (case zzksep => k_all)
        (case zzkx => k_extra "m:le0")
        (case zzky => k_extra "m:le0")
        (case zzky2 => k_extra "m:le0")
        (case zzkd => ktr_room)
        (case zzku => ktr_units)
        (intro r' tl' x' y' t' u' h' tk' F' N' nt' hR' hx' hy' hy2')
        (try k_fold)))
  exact trivial
theorem made_use {w : World} {mean : ExcName → Option Value} {mg mb : Str → Option Value}
    {dp un : Nat} {gd : Option (List Code)} {cn : Str} {cs : Scope} {a : Addr} {ccd : Value} {cl : List (Str × Addr)} {outer : List Env} {A₀ : Around} {base h₀ : Heap} {L : Addr} {m : Str → Option Value} {led news : List (Addr × Obj)} {s : Shared}
    {src lst : Addr} {keep : List (Addr × Obj)} {vs : Array Value} {K : Nat} {x y : Int} {t u : Tok} {n k : Nat} {Q E : Value → Shared → Prop}
    (hR : ∀ v ∈ vs.toList, RowIn keep v K) (hl : (lst, listOf vs k) ∈ news)
    (B : Below A₀ base outer h₀) (F : Fr h₀ L s.heap m) (X : (Mine.hd.heap_1 w.params).In h₀) (N : News h₀ L s.heap led) (P : Pick src (listOf #[.int x t, .int y u] n) led news) (T : Top vw lz mean mg mb h₀) (hk : cs.kind = .function)
    (hsep : ∀ p ∈ news, p.1 ≠ src) (hs1 : 1 < vs.size) (hs2 : vs.size ≤ 100) (hS : ∀ p ∈ keep, p ∈ news) (hK : K ≤ 8)
    (hx : 0 ≤ x) (hy : 0 ≤ y) (hy2 : y < 2147483647) (hd : dp + 20 < recursionLimit) (hu : un + 160 < cLine)
    (hret : ∀ r tl x' y' t' u' h' tk', Fr h₀ L h' m → News h₀ L h' ((src, listOf #[.int x' t', .int y' u'] n) :: (tl ++ news)) → NewTo ((src, listOf #[.int x t, .int y u] n) :: news) tl → RowIn (tl ++ keep) r (K + 1) → 0 ≤ x' → 0 ≤ y' → y' < 2147483647 → Q r { s with heap := h', toks := tk' }) :
    wpAny (model PySem.Challenge.rw_xm0579_01.row.prog w) (ktrTop dp un gd cn cs L a ccd cl outer) (call (.ref 134) [.ref src, .ref lst]) Q E s :=
  made_spec w mean mg mb dp un gd cn cs a ccd cl outer A₀ base h₀ L m news s src lst keep vs K x y t u n k Q E B F X (P.news N) T hk hsep hl hs1 hs2 hS hR hK hx hy hy2 hd hu hret
theorem lines_11_3 : True := by
  k_with "call ref" => (k_here; (with_reducible show wpAny _ _ (call (Value.ref 134) _) _ _ _); k_dflt (
        refine' made_use ?zzkR ?zzkl ?zzkB ?zzkF ?zzkX ?zzkN ?zzkP ?zzkT ?zzkK ?zzksep ?zzks1 ?zzks2 ?zzkS ?zzkk ?zzkx ?zzky ?zzky2 ?zzkd ?zzku ?_
        (case zzkR => exact rows_sub (by assumption) (by assumption))
        (case zzkB => k_asm)
        (case zzkF => k_asm)
        (case zzkX => k_asm)
        (case zzkN => k_asm)
        (case zzkP => k_extra "m:pick")
        (case zzkT => k_asm)
        (case zzkK => first | exact rfl | assumption)
        (case zzkl => k_mem)
        (case zzksep => k_all)
        (case zzks1 => k_extra "m:size")
        (case zzks2 => k_extra "m:size")
        (case zzkS => k_extra "m:kpS")
        (case zzkk => omega)
        (case zzkx => k_extra "m:le0")
        (case zzky => k_extra "m:le0")
        (case zzky2 => k_extra "m:le0")
        (case zzkd => ktr_room)
        (case zzku => ktr_units)
        (intro r' tl' x' y' t' u' h' tk' F' N' nt' hR' hx' hy' hy2')
        (try k_fold)))
  k_with "call ref" => (k_here; (with_reducible show wpAny _ _ (call (Value.ref 94) _) _ _ _); k_dflt (
        refine' names_use2 ?zzkB ?zzkF ?zzkX ?zzkN ?zzkT ?zzkK ?zzkR ?zzks ?zzkp ?zzkd ?zzku ?_
        (case zzkB => k_asm)
        (case zzkF => k_asm)
        (case zzkX => k_asm)
        (case zzkN => k_asm)
        (case zzkT => k_asm)
        (case zzkK => first | exact rfl | assumption)
        (case zzkR => k_extra "m:ty")
        (case zzks => omega)
        (case zzkp => omega)
        (case zzkd => ktr_room)
        (case zzku => ktr_units)
        (intro l' n' h' tk' F' N' l1)
        (try k_lt l1)
        (try k_fold)))
  k_with "call ref" => (k_here; (with_reducible show wpAny _ _ (call (Value.ref 101) _) _ _ _); k_dflt (
        refine' adts_use ?zzkB ?zzkF ?zzkX ?zzkN ?zzkT ?zzkK ?zzkR ?zzks ?zzkd ?zzku ?_
        (case zzkB => k_asm)
        (case zzkF => k_asm)
        (case zzkX => k_asm)
        (case zzkN => k_asm)
        (case zzkT => k_asm)
        (case zzkK => first | exact rfl | assumption)
        (case zzkR => k_extra "m:ty")
        (case zzks => omega)
        (case zzkd => ktr_room)
        (case zzku => ktr_units)
        (intro l' n' h' tk' F' N' l1)
        (try k_lt l1)
        (try k_fold)))
  k_with "m:kpS" => (intro p9 h9; simp only [List.mem_append, List.mem_cons]; simp only [h9, true_or, or_true]; done)
  k_with "m:off" => (refine' off_new ?zzh9 ?zzm9; (case zzh9 => assumption); (case zzm9 => k_mem))
  k_with "m:all" => k_extra "m:off"
  k_with "subscriptTail Name Slice ref ref" => (k_here; (with_reducible show wpAny _ _ (subscriptTail _ (PySem.Expr.Slice _ _ none _) (Value.ref _) (Value.ref _)) _ _ _); k_dflt (refine' slice_tail ?zzF ?zzN ?zzhm ?zzx ?zzz ?_ ?zzhs ?zzhg; (case zzF => k_asm); (case zzN => k_asm); (case zzhm => k_mem); (case zzx => decide); (case zzz => k_extra "m:size"); (case zzhs => with_unfolding_all rfl); (case zzhg => kmk_pure)); (intro D' ws' h' F' N' l1 hw' hz'); (try k_lt l1); (try k_sweep))
  k_with "subscriptTail" => (k_here; (with_reducible show wpAny _ _ (subscriptTail _ _ (Value.ref _) (Value.int (-1) _)) _ _ _); k_dflt (refine' last_row ?zzR ?zzS ?zzN ?zzm ?zzc ?zzK ?_; (case zzR => assumption); (case zzN => k_asm); (case zzS => k_extra "m:kpS"); (case zzm => k_mem); (case zzc => k_extra "m:le0"); (case zzK => omega); k_whole; (intro a' T' nl' hl' n1' n2' ha' hT' hn' hh' hdp' hsz')))
  k_with "compareOp Eq ref ref" => (k_here; (with_reducible show wpAny _ _ (compareOp CmpOp.Eq (Value.ref _) (Value.ref _)) _ _ _); k_dflt (refine' eq_at ?zzN ?zza ?zzb ?zze ?zzu ?_; (case zzN => k_asm); (case zza => k_mem); (case zzb => k_mem); (case zze => rfl); (case zzu => ktr_units); k_whole))
  k_with "pyIter ref" => (k_here; (with_reducible show wpAny _ _ (pyIter (Value.ref _)) (fun it s₂ => LoopAtV _ _ _ _ _ _ _ _ _ it s₂) _ _); refine Held.intro ?_)
  exact trivial
noncomputable def TInv (rows src : Addr) (n : Nat) (news : List (Addr × Obj)) (I : Addr) (i : Nat) (m : Str → Option Value) (led : List (Addr × Obj)) : Prop :=
  ∃ kp vs k x y t u, led = (src, listOf #[.int x t, .int y u] n) :: (rows, listOf vs k) :: kp ∧ (∀ p ∈ news, p ∈ kp) ∧ m (Str.ofString "rows") = some (.ref rows) ∧ m (Str.ofString "source") = some (.ref src) ∧ 0 ≤ x ∧ 0 ≤ y ∧ y < 2147483647 ∧
    vs.size = i + 2 ∧ (∀ v ∈ vs.toList, RowIn kp v (i + 1)) ∧ (∀ p ∈ kp, p.1 ≠ src) ∧ (∀ p ∈ kp, p.1 ≠ rows) ∧ (∀ p ∈ kp, p.1 ≠ I) ∧ rows ≠ src ∧ rows ≠ I ∧ src ≠ I
theorem rows_push {kp tl : List (Addr × Obj)} {vs : Array Value} {r : Value} {K : Nat} (h : ∀ v ∈ vs.toList, RowIn kp v K) (hr : RowIn (tl ++ kp) r (K + 1)) : ∀ v ∈ (vs.push r).toList, RowIn (tl ++ kp) v (K + 1) := by
  intro v hv
  rw [Array.toList_push, List.mem_append, List.mem_singleton] at hv
  rcases hv with hv | rfl
  · exact (h v hv).mono (fun p hp => List.mem_append_right _ hp) (Nat.le_succ _)
  · exact hr
theorem lines_11_4 : True := by
  k_with "call type:range" => (k_here; (with_reducible show wpAny _ _ (call (Value.type _) [Value.int _ _]) (fun xv s₁ => wpAny _ _ (pyIter xv) (fun it s₂ => LoopAtV _ _ _ _ _ _ _ _ _ it s₂) _ s₁) _ _); (rename Fr _ _ _ _ => F'); (rename News _ _ _ _ => N'); (with_unfolding_all refine range1_rows F' N' ?_); intro _ _ _ _ _ _ _ _ _)
  k_with "UnrEnd" => (refine Held.intro ?_)
  exact trivial
theorem News.sub2 {h₀ h : Heap} {L a b : Addr} {o1 o2 : Obj} {led kp : List (Addr × Obj)} (N : News h₀ L h led) (h1 : (a, o1) ∈ led) (h2 : (b, o2) ∈ led) (h3 : ∀ p ∈ kp, p ∈ led) : News h₀ L h ((a, o1) :: (b, o2) :: kp) := news3 N h1 h2 h3
theorem rows_two {kp : List (Addr × Obj)} {a b : Value} {K : Nat} (ha : RowIn kp a K) (hb : RowIn kp b K) : ∀ v ∈ (#[a, b] : Array Value).toList, RowIn kp v K := by
  intro v hv
  simp only [List.mem_cons, List.not_mem_nil, or_false] at hv
  rcases hv with rfl | rfl
  · exact ha
  · exact hb
theorem tinv_end {rows src I : Addr} {n i k tk : Nat} {news kp tl led : List (Addr × Obj)} {m' : Str → Option Value} {vs : Array Value} {r : Value} {x y : Int} {t u : Tok} {h₀ h' : Heap} {L : Addr} {it : Obj} {s₁ : Shared}
    (hR : ∀ v ∈ vs.toList, RowIn kp v (i + 1)) (hr : RowIn (tl ++ kp) r (i + 1 + 1)) (F : Fr h₀ L h' m') (N : News h₀ L h' led) (hI : (I, it) ∈ led) (hs : (src, listOf #[.int x t, .int y u] n) ∈ led) (hrow : (rows, listOf (vs.push r) k) ∈ led)
    (hkp : ∀ p ∈ tl ++ kp, p ∈ led) (hnews : ∀ p ∈ news, p ∈ kp) (m1 : m' (Str.ofString "rows") = some (.ref rows)) (m2 : m' (Str.ofString "source") = some (.ref src)) (hx : 0 ≤ x) (hy : 0 ≤ y) (hy2 : y < 2147483647)
    (hsz : vs.size = i + 2) (o1 : ∀ p ∈ tl ++ kp, p.1 ≠ src) (o2 : ∀ p ∈ tl ++ kp, p.1 ≠ rows) (o3 : ∀ p ∈ tl ++ kp, p.1 ≠ I) (ne1 : rows ≠ src) (ne2 : rows ≠ I) (ne3 : src ≠ I) :
    UnrEnd h₀ L s₁ I it (TInv rows src n news I (i + 1)) { s₁ with heap := h', toks := tk } := by
  refine ⟨h', tk, m', _, rfl, F, fun p hp => ?_, fun p hp => ?_, tl ++ kp, vs.push r, k, x, y, t, u, rfl, fun p hp => List.mem_append_right _ (hnews p hp), m1, m2, hx, hy, hy2, by rw [Array.size_push, hsz], rows_push hR hr, o1, o2, o3, ne1, ne2, ne3⟩
  · rcases List.mem_cons.mp hp with rfl | hp
    · exact N _ hI
    · rcases List.mem_cons.mp hp with rfl | hp
      · exact N _ hs
      · rcases List.mem_cons.mp hp with rfl | hp
        · exact N _ hrow
        · exact N _ (hkp _ hp)
  · rcases List.mem_cons.mp hp with rfl | hp
    · exact ne3
    · rcases List.mem_cons.mp hp with rfl | hp
      · exact ne2
      · exact o3 _ hp
theorem end_src {h₀ h : Heap} {L a : Addr} {o : Obj} {led news : List (Addr × Obj)} (N : News h₀ L h led) (h1 : (a, o) ∈ led) (h3 : ∀ p ∈ news, p ∈ led) : News h₀ L h ((a, o) :: news) := fun p hp => by
  rcases List.mem_cons.mp hp with rfl | hp
  · exact N _ h1
  · exact N _ (h3 _ hp)
theorem lines_11_5 : True := by
  k_with "m:kpN" => (intro p9 h9; have h8 := (‹∀ p ∈ _, p ∈ _› : ∀ p ∈ _, p ∈ _) p9 h9; simp only [List.mem_append, List.mem_cons]; simp only [h8, true_or, or_true]; done)
  exact trivial
set_option maxRecDepth 100000 in
set_option maxHeartbeats 8000000 in
theorem types_spec : ∀ (w : World) (mean : ExcName → Option Value) (mg mb : Str → Option Value)
    (dp un : Nat) (gd : Option (List Code)) (cn : Str) (cs : Scope) (a : Addr) (ccd : Value) (cl : List (Str × Addr)) (outer : List Env) (A₀ : Around) (base h₀ : Heap) (L : Addr) (m : Str → Option Value) (news : List (Addr × Obj)) (s : Shared)
    (src : Addr) (x y : Int) (t u : Tok) (n : Nat) (Q E : Value → Shared → Prop)
    (B : Below A₀ base outer h₀) (F : Fr h₀ L s.heap m) (X : (Mine.hd.heap_1 w.params).In h₀) (N : News h₀ L s.heap ((src, listOf #[.int x t, .int y u] n) :: news)) (T : Top vw lz mean mg mb h₀) (hk : cs.kind = .function)
    (hsep : ∀ p ∈ news, p.1 ≠ src)
    (hx : 0 ≤ x) (hy : 0 ≤ y) (hy2 : y < 2147483647) (hd : dp + 60 < recursionLimit) (hu : un + 600 < cLine)
    (hret : ∀ x' y' t' u' h' tk', Fr h₀ L h' m → News h₀ L h' ((src, listOf #[.int x' t', .int y' u'] n) :: news) → 0 ≤ x' → 0 ≤ y' → y' < 2147483647 → Q (.bool true) { s with heap := h', toks := tk' }),
    wpAny (model PySem.Challenge.rw_xm0579_01.row.prog w) (ktrTop dp un gd cn cs L a ccd cl outer) (call (.ref 141) [.ref src]) Q E s := by
  k_fill
  intro w mean mg mb dp un gd cn cs a ccd cl outer A₀ base h₀ L m news s src x y t u n Q E B F X N T hk hsep hx hy hy2 hd hu hret
  refine wpAny_call ?_
  k_dflt ktr_enter
  k_steps
  refine held ?_
  refine' iter_range_inv (TInv ?rows src n news) rfl (by assumption) (by assumption) (by omega) (by assumption) (news := (src, _) :: (?rows, _) :: ?kp) ?N ?init ?turn ?done
  case N => assumption
  case init =>
    intro I l1
    have h1 := List.forall_mem_cons.mp l1
    have h2 := List.forall_mem_cons.mp h1.2
    refine ⟨_, _, _, _, _, _, _, rfl, ?j1, by rfl, by rfl, by assumption, by assumption, by assumption, rfl, ?j2, ?j3, ?j4, fun p hp => Nat.ne_of_lt (h2.2 p hp), ?j5, Nat.ne_of_lt h2.1, Nat.ne_of_lt h1.1⟩
    case j1 => (intro p hp; simp only [List.mem_append]; simp only [hp, or_true])
    case j2 => exact rows_two (RowIn.mono (by assumption) (by intro p hp; exact List.mem_append_right _ hp) (Nat.le_refl _)) (by assumption)
    case j3 =>
      refine List.forall_mem_append.mpr ⟨?_, List.forall_mem_append.mpr ⟨?_, ?_⟩⟩
      · exact off_new (by assumption) (by k_mem)
      · exact off_new (by assumption) (by k_mem)
      · assumption
    case j4 =>
      refine List.forall_mem_append.mpr ⟨?_, List.forall_mem_append.mpr ⟨?_, ?_⟩⟩
      · exact off_lt (by assumption)
      · exact off_lt (by assumption)
      · exact off_lt (by assumption)
    case j5 => (refine neN ?_; (try dsimp only); omega)
  case turn =>
    intro I n i m led t h tk hn hi hJ F N
    obtain ⟨kp, vs, k, x, y, t9, u9, rfl, hsub, hm1, hm2, hx, hy, hy2, hvs, hR, o1, o2, o3, ne1, ne2, ne3⟩ := hJ
    k_steps
    refine held (tinv_end (i := i) hR (by assumption) (by assumption) (by assumption) (by k_mem) (by k_mem) (by k_mem) (by (intro p9 h9; simp only [List.mem_append, List.mem_cons] at h9 ⊢; rcases h9 with h9 | h9 <;> simp only [h9, true_or, or_true])) hsub ?e1 ?e2 (by assumption) (by assumption) (by assumption) hvs ?e3 ?e4 ?e5 ne1 ne2 ne3)
    case e1 => exact (if_neg (by decide)).trans hm1
    case e2 => exact (if_neg (by decide)).trans hm2
    case e3 =>
      refine List.forall_mem_append.mpr ⟨?_, ?_⟩
      · exact off_new (by assumption) (by k_mem)
      · exact o1
    case e4 =>
      refine List.forall_mem_append.mpr ⟨?_, ?_⟩
      · exact off_new (by assumption) (by k_mem)
      · exact o2
    case e5 =>
      refine List.forall_mem_append.mpr ⟨?_, ?_⟩
      · exact off_new (by assumption) (by k_mem)
      · exact o3
  case done =>
    intro I n m led h tk hn hJ F N
    obtain ⟨kp, vs, k, x, y, t9, u9, rfl, hsub, hm1, hm2, hx, hy, hy2, hvs, hR, o1, o2, o3, ne1, ne2, ne3⟩ := hJ
    k_steps
    exact hret _ _ _ _ _ _ (by assumption) (end_src (by assumption) (by k_mem) (by k_extra "m:kpN")) (by assumption) (by assumption) (by assumption)
theorem off_12 : True := by
  w_top off
  exact trivial
section
open Builtin Builtin.ObjectAttr Builtin.Getset_descriptor
set_option maxRecDepth 100000
noncomputable abbrev nfCd : ClassData := { name := Str.ofString "NameFault", bases := [Value.ref 32], mro := [Value.ref 45, Value.ref 32, Value.type "Exception", Value.type "BaseException", Value.type "object"], ns := 44, qualname := Str.ofString "NameFault" }
noncomputable abbrev nfSl : Array (Option Value) := #[some (Value.ref 36), none, some (Value.str (Str.ofString "NameFault") 221), some (Value.str (Str.ofString "NameFault") 229), some (Value.builtin "Exception.__new__"), some (Value.bool true)]
noncomputable abbrev nfObj : Obj := { cls := .type "type", data := .cls nfCd, slots := nfSl }
structure XC (M : Model) (h : Heap) (C : Addr) : Prop where
  obj : ∃ oc od cd sl, h.get? C = some ⟨oc, od, .cls cd, sl⟩ ∧ cd.abstract = false ∧ cd.hasDel = false ∧ cd.mro.isEmpty = false
  made : Looks M h (Bind.madeBy (.ref C)) (some "Exception.__new__")
  base : Looks M h (Bind.staticBase (.ref C)) (.ref C)
  self : Looks M h (isSubtype (.ref C) (.ref C)) true
  exc : Looks M h (isSubtype (.ref C) (.type "Exception")) true
  bexc : Looks M h (isSubtype (.ref C) (.type "BaseException")) true
  attr : Looks M h (isSubtype (.ref C) (.type "AttributeError")) false
  name : Looks M h (isSubtype (.ref C) (.type "NameError")) false
  call : Looks M h (specialOf (.ref C) "__call__") (some (.builtin "type.__call__"))
  typ : Looks M h (isInstance (.ref C) (.type "type")) true
  init : Looks M h (typeLookup (.ref C) "__init__") (some (.ref 29))
  bind : ∀ self, Looks M h (bindSpecial (.ref 29) self) (.ref 29, [self])
  mro : Looks M h (mroOf (.ref C)) [.ref 45, .ref 32, .type "Exception", .type "BaseException", .type "object"]
theorem xc_of {w : World} {h : Heap} (X : (Mine.hd.heap_1 w.params).In h) : XC (model PySem.Challenge.rw_xm0579_01.row.prog w) h 45 := by
  refine ⟨?a1, ?a2, ?a3, ?a4, ?a5, ?a6, ?a7, ?a8, ?a9, ?b1, ?b2, ?b3, ?b4⟩
  case a1 => exact ⟨_, _, nfCd, nfSl, X 45 nfObj (by kernel_rfl), rfl, rfl, rfl⟩
  case a2 => exact Looks.of_peek X (by kernel_rfl)
  case a3 => exact Looks.of_peek X (by kernel_rfl)
  case a4 => exact looks_mroIn X (by kernel_rfl)
  case a5 => exact looks_mroIn X (by kernel_rfl)
  case a6 => exact looks_mroIn X (by kernel_rfl)
  case a7 => exact looks_mroIn X (by kernel_rfl)
  case a8 => exact looks_mroIn X (by kernel_rfl)
  case a9 => exact looks_specialIn X (by kernel_rfl)
  case b1 => exact looks_instIn X (by kernel_rfl)
  case b2 => exact looks_findIn X (by kernel_rfl)
  case b3 => exact fun self => bind_fn X self (by kernel_rfl)
  case b4 => exact (looks_clsIn X (cd := nfCd) (by kernel_rfl)).andThen .now
section
variable {prog : Program} {w : World} {A : Around} {C : Addr} {R : Result → Shared → Prop} {h : Heap} {g : Array GenState} {d : Drawn} {t : Nat} {os : OsState}
noncomputable abbrev excObj (C t : Addr) (dx : Option Addr) : Obj := { cls := .ref C, dict := dx, data := .fields #[.ref t, .none, .none, .none, .bool false, .none] }
noncomputable abbrev seqT (vs : List Value) : Obj := { cls := .type "tuple", data := .seq vs.toArray }
theorem xc_new {rest : List Value} (Y : XC (model prog w) h C) (hrest : rest.length ≤ 1000)
    (hq : R (.ok (.ret (.ref (h.objs.size + 1)))) ⟨(h.push (seqT rest)).push (excObj C h.objs.size none), g, d, t, os⟩) :
    codeAny (model prog w) A (.call (.builtin "Exception.__new__") ⟨.ref C :: rest, []⟩) R ⟨h, g, d, t, os⟩ := by
  obtain ⟨⟨oc, od, cd, sl, hC, e1, e2, e4⟩, made, base, self, exc, bexc, attr, name, call, typ, init, bind, mro⟩ := Y
  have F := PySem.F.excBase_Exception
  have hends := F.ends
  refine codeAny_call_builtin_code (Code.quiet_builtin _ F.quiet) ?_
  have hstar := F.noStar
  have here : Looks (model prog w) h (Bind.madeHere "Exception.__new__" (.ref C)) () := base.andThen (made.andThen (Looks.of_pure (by simp only [Option.map_some, bne_self_eq_false, Bool.false_eq_true, if_false])))
  simp only [checkBuiltinCall, F.newKind, F.newSplit, F.newRow]
  repeat (first | simp only [bne_self_eq_false, Bool.false_eq_true, if_false] | lk)
  refine codeAny_builtinAt F.entry ?_
  unfold Builtin.«BaseException.__new__»
  refine PySem.wpAt_bind ?_
  show PySem.wpAt _ _ _ (stack >>= _) _ _ _
  refine PySem.wpAt_bind (PySem.wpAt_stack fun p below => PySem.wpAt_of_wpAny ?_)
  wp_walk
  refine PySem.wpAt_of_wpAny ?_
  rw [F.owner]
  repeat (first | with_reducible refine Looks.at (by assumption) ?_ | wp_step)
  rw [if_neg (by rw [PySem.sizeLine_eq]; simp; omega)]
  have made1 := made.keeps (fun b o (e : h.get? b = some o) => Heap.get?_push_of_some (seqT rest) e)
  have hC1 := Heap.get?_push_of_some (seqT rest) hC
  repeat (first | with_reducible refine Looks.at (by assumption) ?_ | wp_step | (with_reducible refine wpAny_loadPart_at hC1 ?_) | rw [e2])
  show R _ _
  rw [Heap.size_push]
  exact hq
theorem xc_core {rest : List Value} (Y : XC (model prog w) h C) (hrest : rest.length ≤ 1000)
    (hq : codeAny (model prog w) (A.under (.builtin "type.__call__" ⟨.ref C :: rest, []⟩)) (.call (.ref 29) ⟨.ref (h.objs.size + 1) :: rest, []⟩) (InitBack (h.objs.size + 1) R) ⟨(h.push (seqT rest)).push (excObj C h.objs.size none), g, d, t, os⟩) :
    codeAny (model prog w) A (.call (.ref C) ⟨rest, []⟩) R ⟨h, g, d, t, os⟩ := by
  have Y' := Y
  obtain ⟨⟨oc, od, cd, sl, hC, e1, e2, e4⟩, made, base, self, exc, bexc, attr, name, call, typ, init, bind, mro⟩ := Y
  refine codeAny_of_tree ?_
  show wpAny _ _ (callAny (.ref C) _) _ _ _
  refine nd_load hC ?_
  show wpAny _ _ (callAny.viaDunder (.ref C) _) _ _ _
  unfold callAny.viaDunder
  refine wpAny_bind (call.at ?_)
  dsimp only
  rw [tc_bind]
  refine wpAny_bind (wpAny_pure (wpAny_bind (wpAny_pure ?_)))
  refine wpAny_pure (a := Fin.again (.call (.builtin "type.__call__") ⟨.ref C :: rest, []⟩)) (And.intro rfl ?_)
  refine codeAny_call_builtin_at (Code.quiet_builtin _ (by decide +kernel)) entry_typeCall (check_slot tc_kind tc_split typ (tc_args _ _ _) ?_)
  unfold Builtin.«type.__call__»
  have hm : Looks (model prog w) h (mroOf (.ref C)) cd.mro := ((Looks.ld (part := none) hC).andThen .now).andThen .now
  repeat (first | simp only [e4, Bool.false_eq_true, if_false] | with_reducible refine wpAny_call ?_ | lk)
  refine xc_new Y' hrest ?_
  have k : ∀ b o, h.get? b = some o → ((h.push (seqT rest)).push (excObj C h.objs.size none)).get? b = some o := fun b o e => Heap.get?_push_of_some _ (Heap.get?_push_of_some _ e)
  have hx : ((h.push (seqT rest)).push (excObj C h.objs.size none)).get? (h.objs.size + 1) = some (excObj C h.objs.size none) := by heap_get
  have t1 : Looks (model prog w) ((h.push (seqT rest)).push (excObj C h.objs.size none)) (typeOf (.ref (h.objs.size + 1))) (.ref C) := (Looks.ld hx).andThen .now
  have s1 := self.keeps k
  have i1 := init.keeps k
  have b1 := (bind (.ref (h.objs.size + 1))).keeps k
  unfold isInstance callSpecial? specialOf
  repeat (first | with_reducible refine wpAny_call ?_ | lk)
  refine codeAny_mono hq fun r s' z => ?_
  rcases r with e | (v | _ | _ | _) <;> first | exact z | exact z.elim | skip
  obtain ⟨rfl, z⟩ := z
  exact wpAny_pure (wpAny_pure z)
end
section
variable {prog : Program} {w : World} {A : Around} {C : Addr} {s : Shared} {h₀ : Heap} {L : Addr} {m : Str → Option Value} {news : List (Addr × Obj)} {E Q : Value → Shared → Prop}
theorem xc_call {w : World} {rest : List Value} (F : Fr h₀ L s.heap m) (N : News h₀ L s.heap news) (X : (Mine.hd.heap_1 w.params).In h₀) (hrest : rest.length ≤ 1000)
    (h : ∀ e t h', Fr h₀ L h' m → News h₀ L h' ((e, excObj 45 t none) :: (t, seqT rest) :: news) → (∀ p ∈ news, p.1 < t) → t < e →
      codeAny (model PySem.Challenge.rw_xm0579_01.row.prog w) (A.under (.builtin "type.__call__" ⟨.ref 45 :: rest, []⟩)) (.call (.ref 29) ⟨.ref e :: rest, []⟩) (InitBack e (fun r s' => match r with | .ok (.ret v) => Q v s' | .ok _ => False | .error e => E e s')) { s with heap := h' }) :
    wpAny (model PySem.Challenge.rw_xm0579_01.row.prog w) A (call (.ref 45) rest) Q E s := by
  obtain ⟨hh, g, d, t, os⟩ := s
  refine wpAny_call (codeAny_mono (xc_core (R := fun r s' => match r with | .ok (.ret v) => Q v s' | .ok _ => False | .error e => E e s') (xc_of (Frag.In.keeps X F.keep)) hrest ?_) fun r s' z => ?_)
  · have N1 := (N.push F (seqT rest)).push (F.push _) (excObj 45 hh.objs.size none)
    rw [Heap.size_push] at N1
    exact h _ hh.objs.size _ ((F.push _).push _) N1 (fun p hp => Heap.lt_size (N p hp).1) (Nat.lt_succ_self _)
  · rcases r with e | (v | _ | _ | _) <;> exact z
end
noncomputable abbrev PG : Program := PySem.Challenge.rw_xm0579_01.row.prog
section
variable {w : World} {A : Around} {E : Value → Shared → Prop} {s : Shared} {h₀ : Heap} {L e t dx : Addr} {m : Str → Option Value} {rest : List (Addr × Obj)} {v : Value}
theorem xe_inst {h : Heap} {o : Option Addr} {od : Option Obj} (h1 : h.get? e = some (excObj 45 t o)) (h2 : match o, od with | some dx, some ob => h.get? dx = some ob | none, none => True | _, _ => False) : InstAt h e (excObj 45 t o) 45 od :=
  ⟨h1, rfl, rfl, by cases o <;> cases od <;> exact h2⟩
set_option maxHeartbeats 200000 in
theorem x_init {o : Option Addr} {Q : Value → Shared → Prop} (F : Fr h₀ L s.heap m) (N : News h₀ L s.heap ((e, excObj 45 t o) :: rest)) (off : ∀ p ∈ rest, p.1 ≠ e) (X : (Mine.hd.heap_1 w.params).In h₀)
    (h : ∀ t' h', Fr h₀ L h' m → News h₀ L h' ((e, excObj 45 t' o) :: (t', seqT [v]) :: rest) → (∀ p ∈ (e, excObj 45 t o) :: rest, p.1 < t') → Q .none { s with heap := h' }) :
    wpAny (model PG w) A (call (.builtin "Exception.__init__") [.ref e, v]) Q E s := by
  obtain ⟨hh, g, d, tk, os⟩ := s
  have Y := xc_of (Frag.In.keeps X F.keep)
  have F9 := PySem.F.excBase_Exception
  have he := (N _ (.head _)).1
  have L0 : Looks (model PG w) hh (typeOf (.ref e)) (.ref 45) := (Looks.ld he).andThen .now
  have hshort := F9.noStar
  have LI : Looks (model PG w) hh (isInstance (.ref e) (.type "Exception")) true := L0.andThen Y.exc
  have hC : hh.get? 45 = some nfObj := Frag.In.keeps X F.keep 45 nfObj (by kernel_rfl)
  have ck : ∀ {B : Around} {Q' : Unit → Shared → Prop} {E' : Value → Shared → Prop}, Q' () ⟨hh, g, d, tk, os⟩ → wpAny (model PG w) B (checkBuiltinCall "Exception.__init__" ⟨[.ref e, v], []⟩) Q' E' ⟨hh, g, d, tk, os⟩ := by
    intro B Q' E' hq
    simp only [checkBuiltinCall, F9.initKind, F9.initSplit, F9.initRow]
    repeat (first | with_reducible refine Looks.at (by assumption) ?_ | with_reducible refine wpAny_load hC ?_ | wp_step)
    exact hq
  refine wpAny_call (codeAny_call_builtin F9.init.plain F9.initEntry (ck ?_))
  have hsz : ¬ ([v] : List Value).toArray.size > sizeLine := by rw [PySem.sizeLine_eq]; simp
  have he1 := Heap.get?_push_of_some (seqT [v]) he
  wp_walk
  have N1 := N.push F (seqT [v])
  have F1 := F.push (seqT [v])
  have N2 : News h₀ L (hh.push (seqT [v])) ([] ++ (e, excObj 45 t o) :: (hh.objs.size, seqT [v]) :: rest) := fun p hp => by
    rcases List.mem_cons.mp hp with rfl | hp
    · exact N1 _ (.tail _ (.head _))
    · rcases List.mem_cons.mp hp with rfl | hp
      · exact N1 _ (.head _)
      · exact N1 _ (.tail _ (.tail _ hp))
  obtain ⟨U1, U2⟩ := news_upd (f := Obj.mapFields (·.setIfInBounds 0 (.ref hh.objs.size))) (o' := excObj 45 hh.objs.size o) F1 N2 (by simp) (fun p hp => by
    rcases List.mem_cons.mp hp with rfl | hp
    · exact Nat.ne_of_gt (Heap.lt_size he)
    · exact off p hp) rfl rfl
  exact h _ _ U1 U2 fun p hp => Heap.lt_size (N p hp).1
theorem xs_open {o : Option Addr} {od : Option Obj} {name : Str} {Q : Unit → Shared → Prop} (X : (Mine.hd.heap_1 w.params).In s.heap) (I : InstAt s.heap e (excObj 45 t o) 45 od) (ht : findIn (Mine.hd.heap_1 w.params) (.ref 45) name = some none)
    (h : ∀ B : Around, B.handled = A.handled → wpAny (model PG w) B (storeInOwnDict (.ref e) (.ref 45) (.str name s.toks) name v false)
      (fun fin s' => match fin with | .done (.ret _) => Q () s' | _ => False) E { s with toks := s.toks + 1 }) :
    wpAny (model PG w) A (setAttr (.ref e) name v) Q E s := by
  have SF := PySem.F.store_object
  refine set_plain X I (by kernel_rfl) ?_
  have sub : Looks (model PG w) s.heap (isInstance (.ref e) (.type "object")) true := I.type.andThen (looks_mroIn X (by kernel_rfl))
  refine codeAny_call_builtin SF.slot.plain SF.entry (@check_slot (model PG w) _ _ { s with toks := s.toks + 1 } "object.__setattr__" "object" "__setattr__" (.ref e) [.str name s.toks, v] [] _ SF.kind SF.split sub (SF.args (.ref e) (.str name s.toks) v) ?_)
  have hm : Looks (model PG w) s.heap (mroOf (.ref 45)) nfCd.mro := (looks_clsIn X (cd := nfCd) (by kernel_rfl)).andThen .now
  have L3 : Looks (model PG w) s.heap (storeTaker? none) none := .now
  rw [osa_eq, refuse_eq]
  refine wpAny_bind (wpAny_bind (I.type.here (s := { s with toks := s.toks + 1 }) (wpAny_bind (hm.here (s := { s with toks := s.toks + 1 }) ?_))))
  rw [refuseLoop_ref, refuseLoop_ref, PySem.F.store_Exception.passes]
  refine wpAny_pure (wpAny_bind (I.type.here (s := { s with toks := s.toks + 1 }) (wpAny_bind ((looks_findIn X ht).here (s := { s with toks := s.toks + 1 }) (wpAny_bind (L3.here (s := { s with toks := s.toks + 1 }) ?_))))))
  refine wpAny_mono (h A.in1 rfl) (fun fin s' z => ?_) fun _ _ z => z
  rcases fin with (_ | _ | _ | _) | _ <;> first | exact z | exact z.elim
theorem xs_none {name : Str} {od : Obj} {es : List DictEntry} {n : Nat} {Q : Unit → Shared → Prop} (F : Fr h₀ L s.heap m) (N : News h₀ L s.heap ((e, excObj 45 t none) :: rest)) (off : ∀ p ∈ rest, p.1 ≠ e) (X₀ : (Mine.hd.heap_1 w.params).In h₀)
    (ht : findIn (Mine.hd.heap_1 w.params) (.ref 45) name = some none) (e1 : Obj.putName name (PyData.keyHash w.params name) (.str name (s.toks + 1)) v emptyDict = od) (e2 : od.data = .dict es.toArray n) (hz : es.length ≤ 1000)
    (h : ∀ dx h', Fr h₀ L h' m → News h₀ L h' ((e, excObj 45 t (some dx)) :: (dx, od) :: rest) → (∀ p ∈ (e, excObj 45 t none) :: rest, p.1 < dx) → Q () { s with heap := h', toks := s.toks + 1 + 1 }) :
    wpAny (model PG w) A (setAttr (.ref e) name v) Q E s := by
  have X := Frag.In.keeps X₀ F.keep
  have he := (N _ (.head _)).1
  refine xs_open X (od := none) (xe_inst he trivial) ht fun B hB => ?_
  obtain ⟨hh, g, dr, tk, os⟩ := s
  have hC : hh.get? 45 = some nfObj := X 45 nfObj (by kernel_rfl)
  have LC : Looks (model PG w) hh (classData 45) nfCd := looks_clsIn X (by kernel_rfl)
  have he' : hh.get? e = some (excObj 45 t none) := he
  have he1 := Heap.get?_push_of_some emptyDict he'
  have ne : e ≠ hh.objs.size := Nat.ne_of_lt (Heap.lt_size he')
  have hd0 : ((hh.push emptyDict).update e fun o => { o with dict := some hh.objs.size }).get? hh.objs.size = some emptyDict := by
    rw [Heap.get?_update_other _ _ ne]
    exact Heap.get?_push_size _ rfl
  dsimp only
  refine wpAny_bind (wpAny_pure (wpAny_bind (wpAny_bind (wpAny_loadPart he' (wpAny_bind (LC.here (s := ⟨hh, g, dr, tk + 1, os⟩) ?_))))))
  repeat (first | lk | refine wpAny_update he1 ?_)
  have N1 := N.push F emptyDict
  have F1 := F.push emptyDict
  have N2 : News h₀ L (hh.push emptyDict) ([] ++ (e, excObj 45 t none) :: (hh.objs.size, emptyDict) :: rest) := fun p hp => by
    rcases List.mem_cons.mp hp with rfl | hp
    · exact N1 _ (.tail _ (.head _))
    · rcases List.mem_cons.mp hp with rfl | hp
      · exact N1 _ (.head _)
      · exact N1 _ (.tail _ (.tail _ hp))
  obtain ⟨U1, U2⟩ := news_upd (f := fun o => { o with dict := some hh.objs.size }) (o' := excObj 45 t (some hh.objs.size)) F1 N2 (by simp) (fun p hp => by
    rcases List.mem_cons.mp hp with rfl | hp
    · exact Ne.symm ne
    · exact off p hp) rfl rfl
  obtain ⟨V1, V2⟩ := news_upd (pre := [(e, excObj 45 t (some hh.objs.size))]) (post := rest) (d := hh.objs.size) (o := emptyDict) (f := Obj.putName name (PyData.keyHash w.params name) (.str name (tk + 1)) v) (o' := od) U1 U2 (fun p hp => by
    rw [List.mem_singleton.mp hp]; exact ne) (fun p hp => Nat.ne_of_lt (Heap.lt_size (N p (.tail _ hp)).1)) e1 (by obtain ⟨_, _, dd, _⟩ := od; cases e2; rfl)
  have D' := (V2 (hh.objs.size, od) (by simp)).1
  refine wpAny_updatePart hd0 ?_
  refine wpAny_bind (wpAny_lookBehind D' (by rw [e2]; exact pastItsLine_dict (by rw [List.size_toArray, PySem.sizeLine_eq]; omega)) ?_)
  exact wpAny_pure (h _ _ V1 V2 fun p hp => Heap.lt_size (N p hp).1)
theorem xs_some {name n1 : Str} {od' : Obj} {es : List DictEntry} {n k1 : Nat} {hs1 : Int} {t1 : Tok} {v1 : Value} {Q : Unit → Shared → Prop} (F : Fr h₀ L s.heap m) (N : News h₀ L s.heap ((e, excObj 45 t (some dx)) :: (dx, { cls := .type "dict", data := .dict #[⟨hs1, .str n1 t1, v1⟩] k1 }) :: rest)) (off : ∀ p ∈ rest, p.1 ≠ dx) (ne : e ≠ dx) (X₀ : (Mine.hd.heap_1 w.params).In h₀)
    (ht : findIn (Mine.hd.heap_1 w.params) (.ref 45) name = some none) (e1 : Obj.putName name (PyData.keyHash w.params name) (.str name (s.toks + 1)) v { cls := .type "dict", data := .dict #[⟨hs1, .str n1 t1, v1⟩] k1 } = od') (e2 : od'.data = .dict es.toArray n) (hz : es.length ≤ 1000)
    (h : ∀ h', Fr h₀ L h' m → News h₀ L h' ((e, excObj 45 t (some dx)) :: (dx, od') :: rest) → Q () { s with heap := h', toks := s.toks + 1 + 1 }) :
    wpAny (model PG w) A (setAttr (.ref e) name v) Q E s := by
  have X := Frag.In.keeps X₀ F.keep
  have he := (N _ (.head _)).1
  have hd0 := (N _ (.tail _ (.head _))).1
  refine xs_open X (od := some _) (xe_inst he hd0) ht fun B hB => ?_
  obtain ⟨hh, g, dr, tk, os⟩ := s
  have LC : Looks (model PG w) hh (classData 45) nfCd := looks_clsIn X (by kernel_rfl)
  have he' : hh.get? e = some (excObj 45 t (some dx)) := he
  have hd1 : hh.get? dx = some { cls := .type "dict", data := .dict #[⟨hs1, .str n1 t1, v1⟩] k1 } := hd0
  unfold storeInOwnDict
  dsimp only
  refine wpAny_bind (wpAny_pure (wpAny_bind (wpAny_bind (wpAny_loadPart he' (wpAny_bind (LC.here (s := ⟨hh, g, dr, tk + 1, os⟩) ?_))))))
  obtain ⟨V1, V2⟩ := news_upd (pre := [(e, excObj 45 t (some dx))]) (post := rest) (d := dx) (f := Obj.putName name (PyData.keyHash w.params name) (.str name (tk + 1)) v) (o' := od') F N (fun p hp => by
    rw [List.mem_singleton.mp hp]; exact ne) off e1 (by obtain ⟨_, _, dd, _⟩ := od'; cases e2; rfl)
  have D' := (V2 (dx, od') (by simp)).1
  refine wpAny_pure (a := some dx) (wpAny_bind (wpAny_pure (wpAny_bind ?_)))
  unfold nsSet
  refine wpAny_bind (wpAny_bind (wpAny_askSetting (wpAny_pure (wpAny_bind (wpAny_mkText (wpAny_bind (wpAny_loadPart hd1 ?_)))))))
  have c : (!(#[⟨hs1, .str n1 t1, v1⟩] : Array DictEntry).any (·.key.isStr name) && (#[⟨hs1, .str n1 t1, v1⟩] : Array DictEntry).any (·.refKey)) = false := by
    rw [show (#[⟨hs1, .str n1 t1, v1⟩] : Array DictEntry).any (·.refKey) = false from by simp [DictEntry.refKey], Bool.and_false]
  dsimp only
  rw [aRefKeyMayBeTheName_at, c]
  refine wpAny_updatePart hd1 ?_
  refine wpAny_bind (wpAny_lookBehind D' (by rw [e2]; exact pastItsLine_dict (by rw [List.size_toArray, PySem.sizeLine_eq]; omega)) ?_)
  exact wpAny_pure (h _ V1 V2)
theorem xg_value {ox od : Obj} {name : Str} {expr : Bool} {val : Value} {Q : Value → Shared → Prop} (X : (Mine.hd.heap_1 w.params).In s.heap) (I : InstAt s.heap e ox 45 (some od))
    (hf : findObj (Mine.hd.heap_1 w.params) 45 (some od) name = some (.value val)) (hh : handedIn val = true) (h : Q val { s with toks := s.toks + 1 }) :
    wpAny (model PG w) A (getAttr (.ref e) name expr) Q E s := by
  obtain ⟨hp, g, d, tk, os⟩ := s
  have L0 := I.type (M := model PG w)
  have L1 : Looks (model PG w) hp (typeLookup (.ref 45) "__getattribute__") (some (.builtin "BaseException.__getattribute__")) := looks_findIn X (by kernel_rfl)
  have L2 := looks_find (M := model PG w) X I hf
  unfold getAttr getAttrBy
  refine wpAny_bind (wpAny_mkText (wpAny_holding (wpAny_bind (L0.at (wpAny_bind (L1.at ?_))))))
  have L3 : Looks (model PG w) hp (typeLookup (.ref 45) "__getattr__") none := looks_findIn X (by kernel_rfl)
  have f3 := PySem.F.attr_Exception.ga.bind (.ref e)
  have hx0 : (expr && onTheHeap (Value.builtin "BaseException.__getattribute__")) = false := by cases expr <;> rfl
  have hx2 : (Value.builtin "BaseException.__getattribute__" == Value.builtin "object.__getattribute__") = false := by decide +kernel
  have hx1 : (onTheHeap (Value.ref 45) && Value.builtin "BaseException.__getattribute__" == Value.builtin "object.__getattribute__") = false := by rw [hx2]; rfl
  repeat (any_goals (first | assumption | with_reducible refine Looks.at (by assumption) ?_ | wp_step))
  have hk : builtinKind "BaseException.__getattribute__" = some .slot := by decide +kernel
  have hsplit : splitId "BaseException.__getattribute__" = some ("BaseException", "__getattribute__") := by decide +kernel
  have sub : Looks (model PG w) hp (isInstance (.ref e) (.type "BaseException")) true := L0.andThen (xc_of X).bexc
  refine codeAny_call_builtin PySem.F.attr_Exception.ga.plain PySem.F.entry_bexc_ga (@check_slot (model PG w) _ _ ⟨hp, g, d, tk + 1, os⟩ "BaseException.__getattribute__" "BaseException" "__getattribute__" (.ref e) [.str name tk] [] _ hk hsplit sub (PySem.F.args_bexc_ga _ _) ?_)
  unfold Builtin.«object.__getattribute__»
  repeat (any_goals (first | assumption | with_reducible refine Looks.at (by assumption) ?_ | wp_step))
  show wpAny _ _ (handedOut val) _ _ _
  rw [handedOut_of hh]
  exact wpAny_pure h
end
theorem x_raise {w : World} {A : Around} {E : Value → Shared → Prop} {s : Shared} {env : Env} {x : PySem.Expr} {pos : Pos} {Q : Flow → Shared → Prop} (hh : A.handled = none)
    (h : wpAny (model PG w) A (eval x env) (fun v s₁ => ∃ e t o, v = .ref e ∧ (Mine.hd.heap_1 w.params).In s₁.heap ∧ s₁.heap.get? e = some (excObj 45 t o) ∧ E (.ref e) s₁) E s) :
    wpAny (model PG w) A (exec (.Raise (some x) none pos) env) Q E s := by
  rw [arm_exec_Raise]
  refine wpAny_bind (wpAny_standAt ?_)
  show wpAny _ _ (raiseStmt env (some (eval x env >>= fun v => standAt pos >>= fun _ => pure v)) none) _ _ _
  unfold raiseStmt
  refine wpAny_bind (wpAny_bind (wpAny_mono h (fun v s₁ h₁ => wpAny_bind (wpAny_standAt (wpAny_pure ?_))) fun _ _ x => x))
  obtain ⟨e, t, o, rfl, X, he, hE⟩ := h₁
  obtain ⟨hp, g, d, tk, os⟩ := s₁
  have Y := xc_of X
  have L0 : Looks (model PG w) hp (typeOf (.ref e)) (.ref 45) := (Looks.ld he).andThen .now
  have LB := Y.bexc
  have LT : Looks (model PG w) hp (typeOf (.ref 45)) (.type "type") := (Looks.ld (X 45 nfObj (by kernel_rfl))).andThen .now
  have LS : Looks (model PG w) hp (isSubtype (.ref 45) (.type "type")) false := looks_mroIn X (by kernel_rfl)
  repeat (any_goals (first | assumption | with_reducible refine Looks.at (by assumption) ?_ | wp_step))
  exact wpAny_raiseNew_none hh hE
noncomputable def Fly (B : Heap) (l : List Env) (e dx : Addr) (fl : Value) (h : Heap) : Prop :=
  B.StaysIn h ∧ B.get? e = none ∧ h.FunFrames B l ∧ ∃ oe vs T oT ts, h.get? e = some oe ∧ (oe.cls = .ref 45 ∧ oe.dict = some dx) ∧ oe.data = .fields vs ∧ vs[1]? = some (.ref T) ∧ B.get? T = none ∧ T ≠ e ∧ h.get? T = some oT ∧ oT.data = .fields ts ∧ ts[3]? = some fl
theorem Fly.obj {B h : Heap} {l : List Env} {e dx : Addr} {fl : Value} (x : Fly B l e dx fl h) : ∃ oe vs, h.get? e = some oe ∧ oe.cls = .ref 45 ∧ oe.dict = some dx ∧ oe.data = .fields vs := by
  obtain ⟨_, _, _, oe, vs, _, _, _, h1, ⟨h2, h3⟩, h4, _⟩ := x
  exact ⟨oe, vs, h1, h2, h3, h4⟩
section
variable {M : Model} {A : Around} {E : Value → Shared → Prop} {s : Shared} {B : Heap} {env : Env} {outer l : List Env} {L e dx : Addr}
theorem fly_note {oe : Obj} {vs : Array Value} {head : Value} {hadNext : Bool} {Q : Unit → Shared → Prop} (hfr : A.frames = some (env :: outer)) (hf : env.frame = some L)
    (k : B.StaysIn s.heap) (hen : B.get? e = none) (hl : s.heap.FunFrames B (env :: outer)) (he : s.heap.get? e = some oe) (hc : oe.cls = .ref 45 ∧ oe.dict = some dx) (hd : oe.data = .fields vs) (hz : 1 < vs.size)
    (h : ∀ h', Fly B (env :: outer) e dx (rawInt L) h' → s.heap.UpToSlots h' → Q () { s with heap := h' }) :
    wpAny M A (do let a ← frameOf env; let pl ← entryPlaceOf L hadNext; let b ← EntryCells.newEntry head a .none (rawInt L) .none pl; setField (.ref e) 1 b) Q E s := by
  have e_off : e ∉ (env :: outer).filterMap (·.frame) := fun hm => by
    obtain ⟨_, o, ho, hnf⟩ := hl.mem hm
    obtain rfl : oe = o := Option.some.inj (he.symm.trans ho)
    exact hnf vs hd
  refine wpAny_bind (wpAny_frameOf_fun hfr hl hf fun g hs => wpAny_bind (wpAny_entryPlaceOf fun pl hpl => ?_))
  unfold EntryCells.newEntry newFields
  refine wpAny_bind (wpAny_newObj_type ?_ (hpl.sizeOk5 _ _ _ _ _))
  generalize hT : ({ cls := .type "traceback", dict := none, data := .fields ([head, .ref L, .none, rawInt L, .none] ++ (if pl.isEmpty then List.replicate 6 Value.none else pl)).toArray } : Obj) = oT
  have he1 : g.get? e = some oe := (hs.2.1 e e_off).trans he
  have eT : e ≠ g.objs.size := Nat.ne_of_lt (Heap.lt_size he1)
  have k1 : B.StaysIn g := fun b o q => (hs.2.1 b fun hm => by rw [(hl.mem hm).1] at q; cases q).trans (k b o q)
  refine wpAny_setField (Heap.get?_push_of_some oT he1) hd hz (h _ ⟨?_, hen, ?_, ?_⟩ ?_)
  · intro b o q
    rw [Heap.get?_update_other _ _ (fun z => by rw [← z, hen] at q; cases q)]
    exact Heap.get?_push_of_some _ (k1 b o q)
  · refine hl.of_keeps fun b o hb hn => ?_
    obtain ⟨sl, q⟩ := hs.2.2 b o hb
    refine ⟨_, (Heap.get?_update_other _ _ fun z => ?_).trans (Heap.get?_push_of_some _ q), rfl⟩
    rw [← z, he] at hb
    obtain rfl := Option.some.inj hb
    exact hn vs hd
  · have fresh : B.get? g.objs.size = none := k1.fresh
    have oTd : oT.data = .fields ([head, .ref L, .none, rawInt L, .none] ++ (if pl.isEmpty then List.replicate 6 Value.none else pl)).toArray := by rw [← hT]
    refine ⟨Obj.mapFields (·.setIfInBounds 1 (.ref g.objs.size)) oe, vs.setIfInBounds 1 (.ref g.objs.size), g.objs.size, oT, _, Heap.get?_update_self _ (Heap.get?_push_of_some oT he1) (Obj.isFreed_of_fields (Obj.data_mapFields hd _)), ?_, Obj.data_mapFields hd _, by simp [hz], fresh, Ne.symm eT, ?_, oTd, ?_⟩
    · obtain ⟨c, d, dd, sl⟩ := oe
      dsimp only at hd hc
      subst hd
      exact hc
    · rw [Heap.get?_update_other _ _ eT]
      exact Heap.get?_push_size _ (by rw [← hT]; rfl)
    · first | (simp; done) | (rcases hpl with rfl | ⟨_, _, _, _, _, _, _, rfl⟩ <;> simp)
  · intro b o hb hn
    obtain ⟨sl, q⟩ := hs.2.2 b o hb
    refine ⟨sl, (Heap.get?_update_other _ _ fun z => ?_).trans (Heap.get?_push_of_some _ q)⟩
    rw [← z, he] at hb
    obtain rfl := Option.some.inj hb
    exact hn vs hd
theorem fly_land {fl : Value} {Q : Unit → Shared → Prop} (x : Fly B l e dx fl s.heap) (h : ∀ h', Fly B l e dx .none h' → s.heap.UpToSlots h' → Q () { s with heap := h' }) : wpAny M A (setFlight (.ref e) none) Q E s := by
  obtain ⟨k, hen, hl, oe, vs, T, oT, ts, he, hc, hd, h1, hn, hne, hT, hdT, h3⟩ := x
  have hz : 3 < ts.size := (Array.getElem?_eq_some_iff.mp h3).1
  have other : ∀ b o, s.heap.get? b = some o → (∀ vs, o.data ≠ .fields vs) → T ≠ b := fun b o hb hf z => by
    rw [← z, hT] at hb
    obtain rfl := Option.some.inj hb
    exact hf ts hdT
  unfold setFlight
  refine wpAny_bind (wpAny_field he hd h1 ?_)
  rw [if_pos (show (Value.ref T != Value.none) = true from by simp)]
  refine wpAny_setField hT hdT hz (h _ ⟨fun b o q => (Heap.get?_update_other _ _ fun z => ?_).trans (k b o q), hen, ?_, oe, vs, T, _, _, (Heap.get?_update_other _ _ hne).trans he, hc, hd, h1, hn, hne,
    Heap.get?_update_self _ hT (Obj.isFreed_of_fields (Obj.data_mapFields hdT _)), Obj.data_mapFields hdT _, by simp [hz]⟩ fun b o hb hf => ⟨o.slots, (Heap.get?_update_other _ _ (other b o hb hf)).trans hb⟩)
  · rw [← z, hn] at q; cases q
  · exact hl.of_keeps fun b o hb hf => ⟨o, (Heap.get?_update_other _ _ (other b o hb hf)).trans hb, rfl⟩
theorem fly_first {oe : Obj} {vs : Array Value} {Q : Unit → Shared → Prop} (hfr : A.frames = some (env :: outer)) (hf : env.frame = some L)
    (k : B.StaysIn s.heap) (hen : B.get? e = none) (hl : s.heap.FunFrames B (env :: outer)) (he : s.heap.get? e = some oe) (hc : oe.cls = .ref 45 ∧ oe.dict = some dx) (hd : oe.data = .fields vs) (h1 : vs[1]? = some .none)
    (h : ∀ h', Fly B outer e dx .none h' → s.heap.UpToSlots h' → Q () { s with heap := h' }) : wpAny M A (leaving env (.ref e)) Q E s := by
  unfold leaving noteFrame
  simp only [hf]
  refine wpAny_bind (wpAny_bind (wpAny_field he hd h1 ?_))
  rw [if_neg (by decide)]
  refine fly_note hfr hf k hen hl he hc hd (Array.getElem?_eq_some_iff.mp h1).1 fun g x u => fly_land (s := { s with heap := g }) x fun h' y u' => h h' ?_ (u.trans u')
  obtain ⟨y1, y2, ⟨_, _, y3⟩, y4⟩ := y
  exact ⟨y1, y2, y3, y4⟩
theorem fly_again {Q : Unit → Shared → Prop} (hfr : A.frames = some (env :: outer)) (hf : env.frame = some L) (x : Fly B (env :: outer) e dx .none s.heap)
    (h : ∀ h', Fly B (env :: outer) e dx (rawInt L) h' → s.heap.UpToSlots h' → Q () { s with heap := h' }) : wpAny M A (noteFrame (.ref e) env) Q E s := by
  obtain ⟨k, hen, hl, oe, vs, T, oT, ts, he, hc, hd, h1, hn, hne, hT, hdT, h3⟩ := x
  have other : ∀ b o, s.heap.get? b = some o → (∀ vs, o.data ≠ .fields vs) → T ≠ b := fun b o hb hf z => by
    rw [← z, hT] at hb
    obtain rfl := Option.some.inj hb
    exact hf ts hdT
  unfold noteFrame
  simp only [hf]
  refine wpAny_bind (wpAny_field he hd h1 ?_)
  rw [if_pos (show (Value.ref T != Value.none) = true from by simp)]
  refine wpAny_bind (wpAny_field hT hdT h3 ?_)
  rw [if_neg (show ¬ ((Value.none == rawInt L) = true) from by simp [rawInt])]
  refine wpAny_bind (wpAny_setField hT hdT (Array.getElem?_eq_some_iff.mp h3).1 ?_)
  have u0 : s.heap.UpToSlots (s.heap.update T (Obj.mapFields (·.setIfInBounds 3 Value.none))) := fun b o hb hf => ⟨o.slots, (Heap.get?_update_other _ _ (other b o hb hf)).trans hb⟩
  refine fly_note (s := { s with heap := s.heap.update T (Obj.mapFields (·.setIfInBounds 3 Value.none)) }) hfr hf (fun b o q => (Heap.get?_update_other _ _ fun z => ?_).trans (k b o q)) hen ?_ ((Heap.get?_update_other _ _ hne).trans he) hc hd (Array.getElem?_eq_some_iff.mp h1).1 fun h' y u => h h' y (u0.trans u)
  · rw [← z, hn] at q; cases q
  · exact hl.of_keeps fun b o hb hf => ⟨o, (Heap.get?_update_other _ _ (other b o hb hf)).trans hb, rfl⟩
end
end
theorem off_13 : True := by
  w_top off
  exact trivial
theorem xt_exc : typeOf (.type "Exception") = pure (.type "type") := by kernel_rfl
theorem lines_13_1 : True := by
  k_with "getMethod type:Exception" => (k_here; refine' method_type ?zzF ?zzX ?zzm (by decide +kernel) ?zze ?zzh ?_; (case zzF => k_asm); (case zzX => k_asm); (case zzm => exact xt_exc); (case zze => k_dflt k_is); (case zzh => k_handed))
  exact trivial
theorem xi_use {w : World} {A : Around} {E : Value → Shared → Prop} {s : Shared} {h₀ : Heap} {L e t : Addr} {m : Str → Option Value} {led rest : List (Addr × Obj)} {v : Value} {o : Option Addr} {Q : Value → Shared → Prop} (F : Fr h₀ L s.heap m) (N : News h₀ L s.heap led) (P : Pick e (excObj 45 t o) led rest) (off : ∀ p ∈ rest, p.1 ≠ e) (X : (Mine.hd.heap_1 w.params).In h₀)
    (h : ∀ t' h', Fr h₀ L h' m → News h₀ L h' ((e, excObj 45 t' o) :: (t', seqT [v]) :: rest) → (∀ p ∈ (e, excObj 45 t o) :: rest, p.1 < t') → Q .none { s with heap := h' }) :
    wpAny (model PG w) A (call (.builtin "Exception.__init__") [.ref e, v]) Q E s := x_init F (P.news N) off X h
theorem lines_13_2 : True := by
  k_with "call builtin:Exception.__init__" => (k_here; k_dflt (refine' xi_use ?zzF ?zzN ?zzP ?zzo ?zzX ?_; (case zzF => k_asm); (case zzN => k_asm); (case zzP => k_extra "m:pick"); (case zzo => k_all); (case zzX => k_asm); k_whole); (intro t' h' F' N' l1); (try k_lt l1); (try k_sweep))
  exact trivial
noncomputable abbrev dct1 (h1 : Int) (n1 : Str) (t1 : Tok) (v1 : Value) : Obj := { cls := .type "dict", data := .dict #[⟨h1, .str n1 t1, v1⟩] 1 }
noncomputable abbrev dct2 (h1 : Int) (n1 : Str) (t1 : Tok) (v1 : Value) (h2 : Int) (n2 : Str) (t2 : Tok) (v2 : Value) : Obj := { cls := .type "dict", data := .dict #[⟨h1, .str n1 t1, v1⟩, ⟨h2, .str n2 t2, v2⟩] 2 }
theorem xsn_use {w : World} {A : Around} {E : Value → Shared → Prop} {s : Shared} {h₀ : Heap} {L e t : Addr} {m : Str → Option Value} {led rest : List (Addr × Obj)} {v : Value} {Q : Unit → Shared → Prop} (F : Fr h₀ L s.heap m) (N : News h₀ L s.heap led) (P : Pick e (excObj 45 t none) led rest) (off : ∀ p ∈ rest, p.1 ≠ e) (X : (Mine.hd.heap_1 w.params).In h₀)
    (h : ∀ dx tk h', Fr h₀ L h' m → News h₀ L h' ((e, excObj 45 t (some dx)) :: (dx, dct1 (PyData.keyHash w.params "message") "message" tk v) :: rest) → (∀ p ∈ (e, excObj 45 t none) :: rest, p.1 < dx) → Q () { s with heap := h', toks := s.toks + 1 + 1 }) :
    wpAny (model PG w) A (setAttr (.ref e) "message" v) Q E s :=
  xs_none (es := [⟨PyData.keyHash w.params "message", .str "message" (s.toks + 1), v⟩]) F (P.news N) off X (by kernel_rfl) rfl rfl (by simp) fun dx h' F' N' l => h dx _ h' F' N' l
theorem xss_use {w : World} {A : Around} {E : Value → Shared → Prop} {s : Shared} {h₀ : Heap} {L e t dx : Addr} {m : Str → Option Value} {led rest rest' : List (Addr × Obj)} {v v1 : Value} {tk : Tok} {Q : Unit → Shared → Prop} (F : Fr h₀ L s.heap m) (N : News h₀ L s.heap led) (P : Pick e (excObj 45 t (some dx)) led rest) (P2 : Pick dx (dct1 (PyData.keyHash w.params "message") "message" tk v1) rest rest') (off : ∀ p ∈ rest', p.1 ≠ dx) (ne : e ≠ dx) (X : (Mine.hd.heap_1 w.params).In h₀)
    (h : ∀ tk' h', Fr h₀ L h' m → News h₀ L h' ((e, excObj 45 t (some dx)) :: (dx, dct2 (PyData.keyHash w.params "message") "message" tk v1 (PyData.keyHash w.params "spot") "spot" tk' v) :: rest') → Q () { s with heap := h', toks := s.toks + 1 + 1 }) :
    wpAny (model PG w) A (setAttr (.ref e) "spot" v) Q E s := by
  have N1 := P.news N
  have N2 := P2.news (fun p hp => N1 p (.tail _ hp))
  have N3 : News h₀ L s.heap ((e, excObj 45 t (some dx)) :: (dx, dct1 (PyData.keyHash w.params "message") "message" tk v1) :: rest') := fun p hp => by
    rcases List.mem_cons.mp hp with rfl | hp
    · exact N1 _ (.head _)
    · exact N2 _ hp
  exact xs_some (es := [⟨PyData.keyHash w.params "message", .str "message" tk, v1⟩, ⟨PyData.keyHash w.params "spot", .str "spot" (s.toks + 1), v⟩]) F N3 off ne X (by kernel_rfl) rfl rfl (by simp) fun h' F' N' => h _ h' F' N'
theorem lines_13_3 : True := by
  k_with "setAttr ref" => (k_here; (with_reducible show wpAny _ _ (setAttr (Value.ref _) (PySem.Str.ofString "message") _) _ _ _); k_dflt (refine' xsn_use ?zzF ?zzN ?zzP ?zzo ?zzX ?_; (case zzF => k_asm); (case zzN => k_asm); (case zzP => k_extra "m:pick"); (case zzo => k_all); (case zzX => k_asm); k_whole); (intro dx' tk' h' F' N' l1); (try k_lt l1); (try k_sweep))
  k_with "setAttr ref" => (k_here; (with_reducible show wpAny _ _ (setAttr (Value.ref _) (PySem.Str.ofString "spot") _) _ _ _); k_dflt (refine' xss_use ?zzF ?zzN ?zzP ?zzP2 ?zzo ?zzn ?zzX ?_; (case zzF => k_asm); (case zzN => k_asm); (case zzP => k_extra "m:pick"); (case zzP2 => k_extra "m:pick"); (case zzo => k_all); (case zzn => k_extra "m:ne"); (case zzX => k_asm); k_whole); (intro tk' h' F' N'); (try k_sweep))
  k_with "m:enterD" => (refine' code_def ?zzk1 ?zzk2 ?zzk3 ?zzk4 ?zzk5 ?zzkA ?zzkF ?zzkK ?zzk6 ?zzk7 ?zzk8 ?zzk9 ?zzkB ?_ ?zzc2 ?zzc3 ?zzc4 ?zzc5; (case zzkA => exact rfl); (case zzkF => exact rfl); (case zzkK => first | exact rfl | assumption); (case zzk1 => k_asm); (case zzk2 => k_asm); (case zzk3 => k_asm); (case zzk4 => k_asm); (case zzk5 => k_asm); (case zzk6 => k_is); (case zzk7 => k_is); (case zzk8 => ktr_room); (case zzk9 => first | exact BindsTo.of_eq rfl | exact binds_K (by k_in) rfl (by k_is) rfl rfl rfl); (case zzc5 => decide); (case zzkB => exact locs rfl); (case zzc2 => exact rfl); (case zzc3 => exact rfl); (case zzc4 => exact rfl); k_whole; intro g' L' h' FG' F' N' B' X' T'; (try dsimp only); (try k_fold))
  exact trivial
theorem end_pair {h₀ h : Heap} {L a b : Addr} {o1 o2 : Obj} {led news : List (Addr × Obj)} (N : News h₀ L h led) (h1 : (a, o1) ∈ led) (h2 : (b, o2) ∈ led) (h3 : ∀ p ∈ news, p ∈ led) : News h₀ L h ((a, o1) :: (b, o2) :: news) := news3 N h1 h2 h3
set_option maxRecDepth 100000 in
set_option maxHeartbeats 8000000 in
theorem exc_spec : ∀ (w : World) (mean : ExcName → Option Value) (mg mb : Str → Option Value)
    (dp un : Nat) (gd : Option (List Code)) (cn : Str) (cs : Scope) (a : Addr) (ccd : Value) (cl : List (Str × Addr)) (outer : List Env) (A₀ : Around) (base h₀ : Heap) (L : Addr) (m : Str → Option Value) (news : List (Addr × Obj)) (s : Shared)
    (x : Str) (y : Int) (t u : Tok) (Q E : Value → Shared → Prop)
    (B : Below A₀ base outer h₀) (F : Fr h₀ L s.heap m) (X : (Mine.hd.heap_1 w.params).In h₀) (N : News h₀ L s.heap news) (T : Top vw lz mean mg mb h₀) (hk : cs.kind = .function)
    (hd : dp + 12 < recursionLimit) (hu : un + 100 < cLine)
    (hret : ∀ e tt dx tk1 tk2 h' tk', Fr h₀ L h' m → News h₀ L h' ((e, excObj 45 tt (some dx)) :: (dx, dct2 (PyData.keyHash w.params "message") "message" tk1 (.str x t) (PyData.keyHash w.params "spot") "spot" tk2 (.int y u)) :: news) → (∀ p ∈ news, p.1 < e) → e < dx → Q (.ref e) { s with heap := h', toks := tk' }),
    wpAny (model PySem.Challenge.rw_xm0579_01.row.prog w) (ktrTop dp un gd cn cs L a ccd cl outer) (call (.ref 45) [.str x t, .int y u]) Q E s := by
  k_fill
  intro w mean mg mb dp un gd cn cs a ccd cl outer A₀ base h₀ L m news s x y t u Q E B F X N T hk hd hu hret
  refine xc_call F N X (by simp) ?_
  intro e t1 h' F' N' l1 l2
  have l3 : ∀ p ∈ news, p.1 < e := fun p hp => Nat.lt_trans (l1 p hp) l2
  have l4 := l3
  (try k_lt l1)
  (try k_lt l3)
  k_lt2 l2
  k_dflt (k_extra "m:enterD")
  k_steps
  exact hret _ _ _ _ _ _ _ (by assumption) (end_pair (by assumption) (by k_mem) (by k_mem) (by intro p hp; simp [hp])) l4 (by assumption)
theorem off_14 : True := by
  w_top off
  exact trivial
noncomputable abbrev sv (l : List (Str × Tok)) : List Value := l.map fun p => .str p.1 p.2
theorem sv_mem {l : List (Str × Tok)} {y : Value} (h : y ∈ (sv l).toArray) : ∃ p ∈ l, y = .str p.1 p.2 := by
  simp only [List.mem_toArray, List.mem_map] at h
  obtain ⟨p, hp, rfl⟩ := h
  exact ⟨p, hp, rfl⟩
noncomputable def isS (x : Str) (y : Value) : Bool := match y with | .str z _ => z == x | _ => false
theorem sv_any (l : List (Str × Tok)) (x : Str) : (sv l).toArray.any (isS x) = l.any fun p => p.1 == x := by
  rw [← Array.any_toList]
  simp only [List.any_map]
  rfl
theorem sv_count (l : List (Str × Tok)) (x : Str) : (sv l).countP (isS x) = l.countP fun p => p.1 == x := by
  rw [List.countP_map]
  rfl
section
variable {prog : Program} {w : World} {A : Around} {E : Value → Shared → Prop} {s : Shared} {h₀ : Heap} {L a b : Addr} {m : Str → Option Value} {news : List (Addr × Obj)} {l : List (Str × Tok)} {x : Str} {t : Tok} {k k2 : Nat} {its its2 : Array Value} {vs ws : List Value} {Q : Value → Shared → Prop}
theorem tup_of (N : News h₀ L s.heap news) (hm : (a, tupO its) ∈ news) : s.heap.IsTuple a its := ⟨_, (N _ hm).1, rfl, _, rfl⟩
theorem in_svT (N : News h₀ L s.heap news) (hm : (a, tupO (sv l).toArray) ∈ news) (h : Q (.bool (l.any fun p => p.1 == x)) s) : wpAny (model prog w) A (compareOp .In (.str x t) (.ref a)) Q E s := by
  refine PySem.SeqAt.in_tupleAt (isS x) (tup_of N hm) (fun y hy => ?_) (by rw [sv_any]; exact h)
  obtain ⟨p, _, rfl⟩ := sv_mem hy
  exact PySem.SeqAt.EqAt.str_str _ _ _ _
theorem in_svL (N : News h₀ L s.heap news) (hm : (a, listOf (sv l).toArray k) ∈ news) (h : Q (.bool (l.any fun p => p.1 == x)) s) : wpAny (model prog w) A (compareOp .In (.str x t) (.ref a)) Q E s := by
  refine PySem.SeqAt.in_listAt (isS x) (isList_of N hm) (fun y hy => ?_) (by rw [sv_any]; exact h)
  obtain ⟨p, _, rfl⟩ := sv_mem hy
  exact PySem.SeqAt.EqAt.str_str _ _ _ _
theorem count_svT (N : News h₀ L s.heap news) (hm : (a, tupO (sv l).toArray) ∈ news) (h : Q (.int (l.countP fun p => p.1 == x : Nat) s.toks) { s with toks := s.toks + 1 }) : wpAny (model prog w) A (call (.builtin "tuple.count") [.ref a, .str x t]) Q E s := by
  have z := (N _ hm).1
  refine call_meets PySem.F.slot_tuple_count ⟨_, z, rfl⟩ PySem.F.entry_tuple_count (PySem.F.args_tuple_count_2 _ _) (PySem.SeqAt.tuple_countAt a _ _ _ _ (.str x t) (isS x)) ⟨z, fun y hy => ?_, ?_⟩
  · obtain ⟨p, _, rfl⟩ := sv_mem hy
    exact PySem.SeqAt.EqAt.str_str _ _ _ _
  · show Q (.int ((sv l).countP (isS x) : Nat) s.toks) _
    rw [sv_count]
    exact h
theorem count_svL (N : News h₀ L s.heap news) (hm : (a, listOf (sv l).toArray k) ∈ news) (h : Q (.int (l.countP fun p => p.1 == x : Nat) s.toks) { s with toks := s.toks + 1 }) : wpAny (model prog w) A (call (.builtin "list.count") [.ref a, .str x t]) Q E s := by
  have z := (N _ hm).1
  refine call_meets PySem.F.slot_list_count ⟨_, z, rfl⟩ PySem.F.entry_list_count (PySem.F.args_list_count_2 _ _) (PySem.SeqAt.list_countAt a _ _ _ _ (.str x t) (isS x)) ⟨z, fun y hy => ?_, ?_⟩
  · obtain ⟨p, _, rfl⟩ := sv_mem hy
    exact PySem.SeqAt.EqAt.str_str _ _ _ _
  · show Q (.int ((sv l).countP (isS x) : Nat) s.toks) _
    rw [sv_count]
    exact h
theorem tuple_ofL (F : Fr h₀ L s.heap m) (N : News h₀ L s.heap news) (hm : (a, listOf its k) ∈ news) (hz : its.size ≤ 10000)
    (h : ∀ D h', Fr h₀ L h' m → News h₀ L h' ((D, tupO its) :: news) → (∀ p ∈ news, p.1 < D) → Q (.ref D) { s with heap := h' }) : wpAny (model prog w) A (call (.type "tuple") [.ref a]) Q E s :=
  kde_tupleOf F N (isList_of N hm) (by omega) rfl fun D h' F' N' l => h D h' F' (by simpa using N') l
theorem tuple_ofT (N : News h₀ L s.heap news) (hm : (a, tupO its) ∈ news) (h : Q (.ref a) s) : wpAny (model prog w) A (call (.type "tuple") [.ref a]) Q E s := call_tuple_same (tup_of N hm) h
theorem tuple_ofE {d : Addr} {od : Obj} {sub : List (Addr × Obj)} (F : Fr h₀ L s.heap m) (N : News h₀ L s.heap news) (hm : (∃ k, (a, listOf its k) ∈ sub) ∨ (a, tupO its) ∈ sub) (hS : ∀ p ∈ sub, p ∈ news) (hne : a ≠ d) (hd : (d, od) ∈ news) (hz : its.size ≤ 10000)
    (h : ∀ D h', Fr h₀ L h' m → News h₀ L h' ((D, tupO its) :: news) → D ≠ d → Q (.ref D) { s with heap := h' }) : wpAny (model prog w) A (call (.type "tuple") [.ref a]) Q E s := by
  rcases hm with ⟨k, hm⟩ | hm
  · exact tuple_ofL F N (hS _ hm) hz fun D h' F' N' l => h D h' F' N' (Nat.ne_of_gt (l _ hd))
  · exact tuple_ofT N (hS _ hm) (h a s.heap F (news_cons (hS _ hm) N) hne)
theorem list_ofT (F : Fr h₀ L s.heap m) (N : News h₀ L s.heap news) (hm : (a, tupO its) ∈ news) (hz : its.size ≤ 10000)
    (h : ∀ D c h', Fr h₀ L h' m → News h₀ L h' ((D, listOf its c) :: news) → (∀ p ∈ news, p.1 < D) → Q (.ref D) { s with heap := h' }) : wpAny (model prog w) A (call (.type "list") [.ref a]) Q E s :=
  list_copyKT F N (News.isTup N hm) h (by rw [PySem.sizeLine_eq]; omega)
theorem list_ofL (F : Fr h₀ L s.heap m) (N : News h₀ L s.heap news) (hm : (a, listOf its k) ∈ news) (hz : its.size ≤ 10000)
    (h : ∀ D c h', Fr h₀ L h' m → News h₀ L h' ((D, listOf its c) :: news) → (∀ p ∈ news, p.1 < D) → Q (.ref D) { s with heap := h' }) : wpAny (model prog w) A (call (.type "list") [.ref a]) Q E s :=
  list_copyK F N (isList_of N hm) h (by rw [PySem.sizeLine_eq]; omega)
theorem add_svT (F : Fr h₀ L s.heap m) (N : News h₀ L s.heap news) (ha : (a, tupO vs.toArray) ∈ news) (hb : (b, tupO ws.toArray) ∈ news) (hz : vs.length ≤ 1000) (hz2 : ws.length ≤ 1000)
    (h : ∀ D h', Fr h₀ L h' m → News h₀ L h' ((D, tupO (vs ++ ws).toArray) :: news) → Q (.ref D) { s with heap := h' }) : wpAny (model prog w) A (binaryOp .Add (.ref a) (.ref b)) Q E s := by
  refine add_tuples F N (News.isTup N ha) (News.isTup N hb) (fun e => ?_) (fun _ e => ?_) (fun _ _ h' F' N' => h _ h' F' N') (by rw [PySem.sizeLine_eq]; omega)
  · subst e
    exact h b s.heap F (news_cons hb N)
  · subst e
    refine h a s.heap F ?_
    rw [List.append_nil]
    exact news_cons ha N
theorem add_svL (F : Fr h₀ L s.heap m) (N : News h₀ L s.heap news) (ha : (a, listOf vs.toArray k) ∈ news) (hb : (b, listOf ws.toArray k2) ∈ news) (hz : vs.length ≤ 1000) (hz2 : ws.length ≤ 1000)
    (h : ∀ D h', Fr h₀ L h' m → News h₀ L h' ((D, listOf (vs ++ ws).toArray 0) :: news) → (∀ p ∈ news, p.1 < D) → Q (.ref D) { s with heap := h' }) : wpAny (model prog w) A (binaryOp .Add (.ref a) (.ref b)) Q E s :=
  add_lists F N (isList_of N ha) (isList_of N hb) (fun h' F' N' => h _ h' F' N' fun p hp => Heap.lt_size (N p hp).1) (by rw [PySem.sizeLine_eq]; omega)
end
theorem lines_14_1 : True := by
  k_with "m:size" => (simp only [List.size_toArray, List.length_map, List.length_append, List.length_cons, List.length_nil]; omega)
  k_with "call type:tuple" => (k_here; (with_reducible show wpAny _ _ (call (Value.type _) [Value.ref _]) _ _ _); k_dflt (first
        | (refine' tuple_ofE ?zzF ?zzN ?zzm ?zzS ?zzn ?zzd ?zzz ?_; (case zzm => assumption); (case zzn => assumption); (case zzF => k_asm); (case zzN => k_asm); (case zzS => k_extra "m:kpS"); (case zzd => k_mem); (case zzz => k_extra "m:size"); k_whole; (intro D' h' F' N' ne'); (try k_sweep))
        | (refine' tuple_ofT ?zzN ?zzm ?_; (case zzN => k_asm); (case zzm => k_mem); k_whole)
        | (refine' tuple_ofL ?zzF ?zzN ?zzm ?zzz ?_; (case zzF => k_asm); (case zzN => k_asm); (case zzm => k_mem); (case zzz => k_extra "m:size"); k_whole; (intro D' h' F' N' l1); (try k_lt l1); (try k_sweep))))
  k_with "call type:list" => (k_here; (with_reducible show wpAny _ _ (call (Value.type _) [Value.ref _]) _ _ _); k_dflt (first
        | (refine' list_ofL ?zzF ?zzN ?zzm ?zzz ?_; (case zzF => k_asm); (case zzN => k_asm); (case zzm => k_mem); (case zzz => k_extra "m:size"); k_whole)
        | (refine' list_ofT ?zzF ?zzN ?zzm ?zzz ?_; (case zzF => k_asm); (case zzN => k_asm); (case zzm => k_mem); (case zzz => k_extra "m:size"); k_whole)); (intro D' c' h' F' N' l1); (try k_lt l1); (try k_sweep))
  exact trivial
theorem news4 {h₀ h : Heap} {L a b c d : Addr} {o1 o2 o3 o4 : Obj} {led news : List (Addr × Obj)} (N : News h₀ L h led) (h1 : (a, o1) ∈ led) (h2 : (b, o2) ∈ led) (h3 : (c, o3) ∈ led) (h4 : (d, o4) ∈ led) (h5 : ∀ p ∈ news, p ∈ led) : News h₀ L h ((a, o1) :: (b, o2) :: (c, o3) :: (d, o4) :: news) := fun p hp => by
  simp only [List.mem_cons] at hp
  rcases hp with rfl | rfl | rfl | rfl | hp
  · exact N _ h1
  · exact N _ h2
  · exact N _ h3
  · exact N _ h4
  · exact N _ (h5 _ hp)
noncomputable abbrev scD (w : World) (t1 t2 t3 t4 : Tok) (v1 v2 v3 v4 : Value) : Obj := dictOf [⟨PyData.keyHash w.params "module", .str "module" t1, v1⟩, ⟨PyData.keyHash w.params "regions", .str "regions" t2, v2⟩, ⟨PyData.keyHash w.params "params", .str "params" t3, v3⟩, ⟨PyData.keyHash w.params "self_type", .str "self_type" t4, v4⟩] 4
set_option maxRecDepth 100000 in
set_option maxHeartbeats 8000000 in
theorem scope_spec : ∀ (w : World) (mean : ExcName → Option Value) (mg mb : Str → Option Value)
    (dp un : Nat) (gd : Option (List Code)) (cn : Str) (cs : Scope) (a : Addr) (ccd : Value) (cl : List (Str × Addr)) (outer : List Env) (A₀ : Around) (base h₀ : Heap) (L : Addr) (m : Str → Option Value) (news : List (Addr × Obj)) (s : Shared)
    (x : Str) (t : Tok) (o ty : Addr) (os : Array Value) (ts : Array Value) (k2 : Nat) (inner : Value) (Q E : Value → Shared → Prop)
    (B : Below A₀ base outer h₀) (F : Fr h₀ L s.heap m) (X : (Mine.hd.heap_1 w.params).In h₀) (N : News h₀ L s.heap news) (T : Top vw lz mean mg mb h₀) (hk : cs.kind = .function)
    (ho : (∃ k, (o, listOf os k) ∈ news) ∨ (o, tupO os) ∈ news) (ht : (ty, listOf ts k2) ∈ news) (hz : os.size ≤ 100) (hz2 : ts.size ≤ 100)
    (hd : dp + 12 < recursionLimit) (hu : un + 100 < cLine)
    (hret : ∀ e d R P c t1 t2 t3 t4 h' tk', Fr h₀ L h' m → News h₀ L h' ((e, instObj 83 d) :: (d, scD w t1 t2 t3 t4 (.str x t) (.ref R) (.ref P) inner) :: (R, tupO os) :: (P, listOf ts c) :: news) → (∀ p ∈ news, p.1 < e) → Q (.ref e) { s with heap := h', toks := tk' }),
    wpAny (model PySem.Challenge.rw_xm0579_01.row.prog w) (ktrTop dp un gd cn cs L a ccd cl outer) (call (.ref 83) [.str x t, .ref o, .ref ty, inner]) Q E s := by
  k_fill
  intro w mean mg mb dp un gd cn cs a ccd cl outer A₀ base h₀ L m news s x t o ty os ts k2 inner Q E B F X N T hk ho ht hz hz2 hd hu hret
  refine' call_cls ?k1 ?k2 ?k3 ?k4 ?k5 ?k6 ?_
  (case k1 => k_asm)
  (case k2 => k_asm)
  (case k3 => k_asm)
  (case k4 => k_is)
  (case k5 => k_is)
  (case k6 => k_is)
  intro x' d' h' F' N' l1 l2
  have l3 : ∀ p ∈ news, p.1 < x' := fun p hp => Nat.lt_trans (l1 p hp) l2
  have hod : o ≠ d' := by
    rcases ho with ⟨_, ho⟩ | ho
    · exact Nat.ne_of_lt (l1 _ ho)
    · exact Nat.ne_of_lt (l1 _ ho)
  k_lt l1
  k_lt2 l2
  k_dflt (k_extra "m:enterD")
  k_steps
  exact hret _ _ _ _ _ _ _ _ _ _ _ (by assumption) (news4 (by assumption) (by k_mem) (by k_mem) (by k_mem) (by k_mem) (by intro p hp; simp [hp])) l3
theorem off_15 : True := by
  w_top off
  exact trivial
noncomputable abbrev Row : Type := Addr × Str × Tok × Value
noncomputable abbrev rv (l : List Row) : List Value := l.map fun p => .ref p.1
noncomputable abbrev nmv (l : List Row) : List (Str × Tok) := l.map fun p => (p.2.1, p.2.2.1)
noncomputable def RowsIn (l : List (Addr × Obj)) (ts : List Row) : Prop := ∀ p ∈ ts, (p.1, tupO #[.str p.2.1 p.2.2.1, p.2.2.2]) ∈ l
theorem RowsIn.mono {l l' : List (Addr × Obj)} {ts : List Row} (h : RowsIn l ts) (hs : ∀ p ∈ l, p ∈ l') : RowsIn l' ts := fun p hp => hs _ (h p hp)
section
variable {prog : Program} {w : World} {A : Around} {s₁ : Shared} {h₀ : Heap} {L ax : Addr} {m : Str → Option Value} {env : Env} {news : List (Addr × Obj)} {x : Str} {p2 pc ps : Pos} {kd k : Nat} {scope : Scope} {cl : List (Str × Addr)} {ts : List Row}
theorem compRest_rows {s : Shared} {Fin : List Value → List (Addr × Obj) → Prop} (hm : (ax, listOf (rv ts).toArray k) ∈ news) (hrow : RowsIn news ts) (hkind : scope.kind = .function) (hx : scope.names.lookup x = some .local) (hd : (x == ("__debug__" : Str)) = false) (hf : Fin (sv (nmv ts)) news) :
    ∀ j i ys, i + j = ts.length → ys = sv (nmv (ts.take i)) → LCg.CompRest prog w A h₀ L m env (.Subscript (.Name x p2) (.Constant (.int 0) kd pc) ps) x scope cl s (LCg.SrcAt h₀ ax (rv ts).toArray) (fun i v => (rv ts).toArray[i]? = some v) Fin j i ys news := by
  intro j
  induction j with
  | zero =>
    intro i ys hi hy
    refine LCg.CompRest.zero ?_
    obtain rfl : i = ts.length := by omega
    rw [List.take_length] at hy
    rw [hy]; exact hf
  | succ j ih =>
    intro i ys hi hy
    have hlt : i < ts.length := by omega
    refine LCg.CompRest.succ fun v I oI C oC D m₂ h tk E' hv hC hxv F N off ne => ?_
    obtain rfl : v = .ref ts[i].1 := by
      have : (rv ts).toArray[i]? = some (.ref ts[i].1) := by simp [hlt]
      rw [this] at hv
      exact (Option.some.inj hv).symm
    have hr := hrow _ (List.getElem_mem hlt)
    refine Subscript_ (ldVarK (hC.ns (N (C, oC) (.tail _ (.head _))).1) hxv (wpAny_Constant_int ?_) hkind (lookup_relabel_local hx) hd)
    refine tup_item0 (vs := #[.str ts[i].2.1 ts[i].2.2.1, ts[i].2.2.2]) N (.tail _ (.tail _ (.tail _ hr))) rfl ?_
    refine LCg.CompEnd.intro F N news (fun p hp => hp) off (.inr ⟨_, hm, rfl, _, rfl⟩) (ih (i + 1) _ (by omega) ?_)
    have e : ts.take (i + 1) = ts.take i ++ [ts[i]] := by rw [List.take_add_one, List.getElem?_eq_getElem hlt]; rfl
    rw [hy, e]
    simp only [List.map_append, List.map_cons, List.map_nil]
    rfl
theorem comp_rows {Fin : Shared → List Value → List (Addr × Obj) → Prop} (hh : A.handled = none) (F : Fr h₀ L s₁.heap m) (N : News h₀ L s₁.heap news) (hm : (ax, listOf (rv ts).toArray k) ∈ news) (hrow : RowsIn news ts) (hz : ts.length ≤ 1000)
    (hkind : scope.kind = .function) (hx : scope.names.lookup x = some .local) (hd : (x == ("__debug__" : Str)) = false) (hf : ∀ g, Fin { s₁ with heap := g } (sv (nmv ts)) news) :
    LCg.CompSrc prog w A h₀ L m env (.Subscript (.Name x p2) (.Constant (.int 0) kd pc) ps) x scope cl Fin (.ref ax) s₁ :=
  LCg.CompSrc.ledger hh F N hm (by rw [PySem.sizeLine_eq]; simp; omega) fun g => by
    have := compRest_rows (prog := prog) (w := w) (A := A) (h₀ := h₀) (L := L) (m := m) (env := env) (p2 := p2) (pc := pc) (ps := ps) (kd := kd) (cl := cl) (s := { s₁ with heap := g }) (Fin := Fin { s₁ with heap := g }) hm hrow hkind hx hd (hf g) ts.length 0 [] (by simp) (by simp)
    simpa using this
end
theorem rowsIn_sub {l l' : List (Addr × Obj)} {ts : List Row} (h : RowsIn l ts) (hs : ∀ p ∈ l, p ∈ l') : RowsIn l' ts := h.mono hs
theorem lines_15_1 : True := by
  k_with "m:rows" => first | assumption | (refine' rowsIn_sub ?zzh9 ?zzs9; (case zzh9 => assumption); (case zzs9 => (intro p9 h9; simp only [List.mem_append, List.mem_cons]; simp only [h9, true_or, or_true]; done)))
  k_with "CompSrc" => (k_here; k_dflt (refine' comp_rows ?zzh ?zzF ?zzN ?zzm ?zzr ?zzz ?zzk ?zzx ?zzd ?_; (case zzh => rfl); (case zzF => k_asm); (case zzN => k_asm); (case zzm => k_mem); (case zzr => k_extra "m:rows"); (case zzz => omega); (case zzk => rfl); (case zzx => rfl); (case zzd => decide); (intro g')))
  k_with "FinE" => ((unfold LCg.FinE); intro D' h' tk' F' N' o1'; (try simp only [LCg.Off1, and_true] at o1'); (try dsimp only))
  exact trivial
set_option maxRecDepth 100000 in
set_option maxHeartbeats 8000000 in
theorem nms_spec : ∀ (w : World) (mean : ExcName → Option Value) (mg mb : Str → Option Value)
    (dp un : Nat) (gd : Option (List Code)) (cn : Str) (cs : Scope) (a : Addr) (ccd : Value) (cl : List (Str × Addr)) (outer : List Env) (A₀ : Around) (base h₀ : Heap) (L : Addr) (m : Str → Option Value) (news : List (Addr × Obj)) (s : Shared)
    (sc d P : Addr) (t1 t2 t3 t4 : Tok) (v1 v2 v4 : Value) (ts : List Row) (k : Nat) (Q E : Value → Shared → Prop)
    (B : Below A₀ base outer h₀) (F : Fr h₀ L s.heap m) (X : (Mine.hd.heap_1 w.params).In h₀) (N : News h₀ L s.heap news) (T : Top vw lz mean mg mb h₀) (hk : cs.kind = .function)
    (h1 : (sc, instObj 83 d) ∈ news) (h2 : (d, scD w t1 t2 t3 t4 v1 v2 (.ref P) v4) ∈ news) (h3 : (P, listOf (rv ts).toArray k) ∈ news) (h4 : RowsIn news ts) (hz : ts.length ≤ 100)
    (hd : dp + 12 < recursionLimit) (hu : un + 100 < cLine)
    (hret : ∀ D h' tk', Fr h₀ L h' m → News h₀ L h' ((D, listOf (sv (nmv ts)).toArray (sv (nmv ts)).length) :: news) → Q (.ref D) { s with heap := h', toks := tk' }),
    wpAny (model PySem.Challenge.rw_xm0579_01.row.prog w) (ktrTop dp un gd cn cs L a ccd cl outer) (call (.ref 73) [.ref sc]) Q E s := by
  k_fill
  intro w mean mg mb dp un gd cn cs a ccd cl outer A₀ base h₀ L m news s sc d P t1 t2 t3 t4 v1 v2 v4 ts k Q E B F X N T hk h1 h2 h3 h4 hz hd hu hret
  refine wpAny_call ?_
  k_dflt ktr_enter
  k_steps
  exact hret _ _ _ (by assumption) (by assumption)
theorem off_16 : True := by
  w_top off
  exact trivial
section
set_option maxRecDepth 100000
theorem turn_nil {h₀ h₀' h : Heap} {L : Addr} {m : Str → Option Value} (T : KtsTurn [] h₀ h₀') (F : Fr h₀' L h m) : Fr h₀ L h m := ⟨F.ns, fun b o e => F.keep b o (T.other b o e (fun q => nomatch q)), by rw [← T.size]; exact F.above⟩
theorem turn_nilN {h₀ h₀' h : Heap} {L : Addr} {l : List (Addr × Obj)} (T : KtsTurn [] h₀ h₀') (N : News h₀' L h l) : News h₀ L h l := fun p hp => ⟨(N p hp).1, (N p hp).2.1, by
  cases q : h₀.get? p.1 with
  | none => rfl
  | some o =>
    have := T.other _ _ q (fun z => nomatch z)
    rw [(N p hp).2.2] at this; cases this⟩
noncomputable def LeaveT (A₀ : Around) (base : Heap) (outer : List Env) (env : Env) (h₀ : Heap) (L : Addr) (m : Str → Option Value) (g : Heap) (R : Result → Shared → Prop) (v : Value) (s' : Shared) : Prop :=
  ∃ g' L' m' news', KtsTurn ((env :: outer).filterMap (·.frame)) g g' ∧ Fr g' L' s'.heap m' ∧ News g' L' s'.heap news' ∧
    ∀ h₀', KtsTurn (outer.filterMap (·.frame)) h₀ h₀' → Fr h₀' L s'.heap m → News h₀' L s'.heap news' → Below A₀ base outer h₀' → R (.ok (.ret v)) s'
section
variable {prog : Program} {w : World} {A₀ A : Around} {s : Shared} {base h₀ : Heap} {outer : List Env} {L : Addr} {m : Str → Option Value} {env : Env} {news : List (Addr × Obj)} {R : Result → Shared → Prop}
theorem groundT (B : Below A₀ base outer h₀) (F : Fr h₀ L s.heap m) (N : News h₀ L s.heap news) (hA : A.frames = some (env :: outer)) (hf : env.frame = some L) (hke : env.scope.kind = .function) :
    Fr h₀ L (hideAll s.heap (news.map (·.1))) m ∧ Below A base (env :: outer) (hideAll s.heap (news.map (·.1))) ∧ h₀.StaysIn (hideAll s.heap (news.map (·.1))) ∧
      ∀ v s', LeaveT A₀ base outer env h₀ L m (hideAll s.heap (news.map (·.1))) R v s' → R (.ok (.ret v)) s' := by
  obtain ⟨FG, BG, st, _⟩ := groundX (R := R) B F N hA hf hke
  refine ⟨FG, BG, st, fun v s' hl => ?_⟩
  obtain ⟨g', L', m', news', T', F', N', k⟩ := hl
  generalize hG : hideAll s.heap (news.map (·.1)) = G at FG BG st T'
  obtain ⟨oL, es, ep, hL, hLd, hLk, hLf⟩ := FG.ns
  have nL₀ : h₀.get? L = none := kts_self F
  have inFs : ∀ {b}, b ∈ (env :: outer).filterMap (·.frame) → b = L ∨ b ∈ outer.filterMap (·.frame) := fun {b} hm => by
    rw [List.filterMap_cons, hf] at hm
    exact List.mem_cons.mp hm
  obtain ⟨sl, hs⟩ := T'.up hL
  obtain ⟨T₁, S₁⟩ := kts_turn_at (h := s'.heap) (fs := outer.filterMap (·.frame)) (g := h₀)
    (fun b hb => (B.frames.mem hb).2.imp fun o h => h.1)
    (fun b o e nm => F'.keep b o (T'.other b o (st b o e) (fun q => (inFs q).elim (fun z => by rw [z, nL₀] at e; cases e) nm)))
    (fun b o e _ => (T'.up (st b o e)).imp fun sl' hs' => F'.keep _ _ hs')
  have B₁ : Below A₀ base outer (ktsHeap s'.heap (outer.filterMap (·.frame)) h₀) :=
    ⟨B.stack, fun b o e => T₁.other b o (B.stays b o e) (fun hm => by rw [(B.frames.mem hm).1] at e; cases e), B.frames.of_keeps fun b o e _ => let ⟨sl', hs'⟩ := T₁.up e; ⟨_, hs', rfl⟩⟩
  refine k _ T₁ ⟨⟨_, es, ep, F'.keep _ _ hs, hLd, hLk, hLf⟩, S₁, by rw [T₁.size]; exact F.above⟩ (fun p hp => ⟨(N' p hp).1, fun q => ?_, ?_⟩) B₁
  · have := (N' p hp).2.2; rw [q, hs] at this; cases this
  · refine T₁.none_ _ ?_
    cases q : h₀.get? p.1 with
    | none => rfl
    | some o =>
      obtain ⟨sl', hs'⟩ := T'.up (st _ _ q)
      have := (N' p hp).2.2
      rw [hs'] at this; cases this
end
section
variable {prog : Program} {w : World} {A₀ A : Around} {s : Shared} {base h₀ : Heap} {outer : List Env} {L : Addr} {m : Str → Option Value} {env : Env} {news : List (Addr × Obj)} {K : Frag} {p : Program} {loose : List Str} {mean : ExcName → Option Value} {mg mb : Str → Option Value}
  {R : Result → Shared → Prop} {name qual : Str} {params : Arguments} {body : List Stmt} {scope : Scope} {dV kV doc pm cdv ct oc : Value} {an od : Option Addr} {osl : Array (Option Value)} {f : Addr} {args : Args} {binds : List (Str × Value)}
theorem callT_plain (B : Below A₀ base outer h₀) (F : Fr h₀ L s.heap m) (X₀ : K.In h₀) (N : News h₀ L s.heap news) (T : Top p loose mean mg mb h₀) (hA : A.frames = some (env :: outer)) (hf : env.frame = some L) (hke : env.scope.kind = .function)
    (ho : K.lookup f = some ⟨oc, od, .func (fnOf name qual params body scope dV kV doc pm an cdv ct), osl⟩) (hcd : codeIn K cdv qual = true) (hroom : A.depth < recursionLimit)
    (hbind : BindsTo s (fnOf name qual params body scope dV kV doc pm an cdv ct) args binds) (hloc : ∀ y ∈ binds, scope.names.lookup y.1 = some .local)
    (h : ∀ g L' h₁, Fr h₀ L g m → Fr g L' h₁ (fun y => binds.reverse.lookup y) → News g L' h₁ news → Below A base (env :: outer) g → K.In g → Top p loose mean mg mb g →
      wpAny (model prog w) (A.deeper (envOf qual scope L' f cdv)) (execs body (envOf qual scope L' f cdv))
        (fun fl s' => LeaveT A₀ base outer env h₀ L m g R (match fl with | .ret v => v | _ => .none) s')
        (fun e s' => wpAny (model prog w) (A.deeper (envOf qual scope L' f cdv)) (leaving (envOf qual scope L' f cdv) e) (fun _ s'' => R (.error e) s'') (fun e' s'' => R (.error e') s'') s')
        { s with heap := h₁, toks := s.toks + binds.length })
    (hcell : ∀ x ∈ scope.names, x.2 ≠ .cell) (hco : scope.isCoroutine = false) (hgen : scope.isGenerator = false) (hk : scope.kind = .function) : codeAny (model prog w) A (.call (.ref f) args) R s := by
  obtain ⟨FG, BG, st, lv⟩ := groundT (R := R) B F N hA hf hke
  refine codeAny_call_def (fd := fnOf name qual params body scope dV kV doc pm an cdv ct) (body := body) (binds := binds) hroom ((X₀.keeps F.keep) _ _ ho) rfl (T.nolimit.keeps F.keep) (codeRec_of (X₀.keeps F.keep) hcd) rfl hbind hcell hloc (fun h₁ hns hk₁ => ?_) hco hgen hk
  refine wpAny_mono (h _ s.heap.objs.size h₁ FG ⟨hns, fun b o e => hk₁ b o (of_hideAll _ e), Nat.le_of_eq (hideAll_size _ _)⟩ (fun p hp => ⟨hk₁ _ _ (N p hp).1, Nat.ne_of_lt (Heap.lt_size (N p hp).1), hideAll_none _ (List.mem_map_of_mem hp)⟩) BG (X₀.keeps st) (T.keeps st)) (fun fl s' hl => lv _ _ hl) fun _ _ y => y
theorem callT_cells (B : Below A₀ base outer h₀) (F : Fr h₀ L s.heap m) (X₀ : K.In h₀) (N : News h₀ L s.heap news) (T : Top p loose mean mg mb h₀) (hA : A.frames = some (env :: outer)) (hf : env.frame = some L) (hke : env.scope.kind = .function)
    (ho : K.lookup f = some ⟨oc, od, .func (fnOf name qual params body scope dV kV doc pm an cdv ct), osl⟩) (hcd : codeIn K cdv qual = true) (hroom : A.depth < recursionLimit)
    (hbind : BindsTo s (fnOf name qual params body scope dV kV doc pm an cdv ct) args binds) (hkind : (binds.all fun y => scope.names.lookup y.1 == some .local || scope.names.lookup y.1 == some .cell) = true)
    (hnd : ((cellsFrom 0 scope.names []).map (·.1)).Nodup)
    (h : ∀ g L' h₁ tk cells, Fr h₀ L g m → Fr g L' h₁ (bindL (envOfC qual scope L' f cdv).kindOf binds fun _ => none) → News g L' h₁ (cells ++ news) →
      CellsAre (bindC (envOfC qual scope L' f cdv).kindOf binds fun _ => none) (cellsFrom (L' + 1) scope.names []) cells → Below A base (env :: outer) g → K.In g → Top p loose mean mg mb g → (∀ p ∈ news, p.1 < L') →
      wpAny (model prog w) (A.deeper (envOfC qual scope L' f cdv)) (execs body (envOfC qual scope L' f cdv))
        (fun fl s' => LeaveT A₀ base outer env h₀ L m g R (match fl with | .ret v => v | _ => .none) s')
        (fun e s' => wpAny (model prog w) (A.deeper (envOfC qual scope L' f cdv)) (leaving (envOfC qual scope L' f cdv) e) (fun _ s'' => R (.error e) s'') (fun e' s'' => R (.error e') s'') s')
        { s with heap := h₁, toks := tk })
    (hco : scope.isCoroutine = false) (hgen : scope.isGenerator = false) (hk : scope.kind = .function) : codeAny (model prog w) A (.call (.ref f) args) R s := by
  obtain ⟨FG, BG, st, lv⟩ := groundT (R := R) B F N hA hf hke
  refine codeAny_call_function hroom ((X₀.keeps F.keep) _ _ ho) rfl hco hgen rfl (codeRec_of (X₀.keeps F.keep) hcd) (hbind _ _ _ _ ?_)
  refine wpAny_newFunctionEnv_cells hk (kindsX hkind _) fun env' he s' x => ?_
  subst he
  refine ⟨(T.nolimit.keeps F.keep).keeps x.toInCall.keep, codeAny_func ?_⟩
  obtain ⟨h₁, tk, rfl, _⟩ := x.done
  have hk₁ := x.toInCall.keep
  obtain ⟨cells, NC, Y⟩ := Cl.news (h₀ := s.heap) (Nat.le_refl _) fun n c hm => ⟨x.cell n c (lookup_of_mem_nodup (cellsFrom_names scope.names 0 (s.heap.objs.size + 1) [] [] rfl ▸ hnd) hm), x.above n c hm⟩
  refine wpAny_mono (h _ s.heap.objs.size h₁ tk cells FG ⟨x.toInCall.ns, fun b o e => hk₁ b o (of_hideAll _ e), Nat.le_of_eq (hideAll_size _ _)⟩ (fun p hp => ?_) Y BG (X₀.keeps st) (T.keeps st) (fun p hp => Heap.lt_size (N p hp).1)) (fun fl s' hl => lv _ _ hl) fun _ _ y => y
  rcases List.mem_append.mp hp with hp | hp
  · refine ⟨(NC p hp).1, (NC p hp).2.1, ?_⟩
    cases q : (hideAll s.heap (news.map (·.1))).get? p.1 with
    | none => rfl
    | some o => have := of_hideAll _ q; rw [(NC p hp).2.2] at this; cases this
  · exact ⟨hk₁ _ _ (N p hp).1, Nat.ne_of_lt (Heap.lt_size (N p hp).1), hideAll_none _ (List.mem_map_of_mem hp)⟩
end
noncomputable def RaisedG (base G : Heap) (l : List Env) (e dx : Addr) (news : List (Addr × Obj)) (h : Heap) : Prop :=
  ∃ B, base.StaysIn B ∧ (∀ b o, G.get? b = some o → b ∉ l.filterMap (·.frame) → B.get? b = some o) ∧ (∀ q ∈ news, B.get? q.1 = some q.2 ∧ G.get? q.1 = none) ∧ G.get? e = none ∧ Fly B l e dx .none h
section
variable {M : Model} {A : Around} {E : Value → Shared → Prop} {s' : Shared} {base g : Heap} {outer : List Env} {L a e t dx : Addr} {m : Str → Option Value} {name : Str} {scope : Scope} {cd : Value} {Q : Unit → Shared → Prop} {news : List (Addr × Obj)}
theorem leave_G (K : Below A base outer g) (F : Fr g L s'.heap m) (N : News g L s'.heap ((e, excObj 45 t (some dx)) :: news)) (off : ∀ p ∈ news, p.1 ≠ e)
    (hQ : ∀ h', RaisedG base g outer e dx news h' → g.UpToSlots h' → Q () { s' with heap := h' }) (hk : scope.kind = .function := by rfl) :
    wpAny M (A.deeper (envOf name scope L a cd)) (leaving (envOf name scope L a cd) (.ref e)) Q E s' := by
  have K' := K.push (name := name) (a := a) (cd := cd) F hk
  have gL : g.get? L = none := kts_self F
  have ge : g.get? e = none := (N _ (.head _)).2.2
  generalize hfs : (envOf name scope L a cd :: outer).filterMap (·.frame) = fs
  have inF : ∀ env ∈ (envOf name scope L a cd :: outer), ∀ b, env.frame = some b → b ∈ e :: fs := fun env he b hb => .tail _ (hfs ▸ List.mem_filterMap.mpr ⟨env, he, hb⟩)
  have st : base.StaysIn (hideAll s'.heap (e :: fs)) := fun b o q => hideAll_get _ (K'.stays b o q) fun hm => by
    rcases List.mem_cons.mp hm with rfl | hm
    · rw [fresh_of_stays K.stays ge] at q; cases q
    · rw [(K'.frames.mem (hfs ▸ hm)).1] at q; cases q
  have sg : ∀ b o, g.get? b = some o → b ∉ outer.filterMap (·.frame) → (hideAll s'.heap (e :: fs)).get? b = some o := fun b o q nm => hideAll_get _ (F.keep b o q) fun hm => by
    rcases List.mem_cons.mp hm with rfl | hm
    · rw [ge] at q; cases q
    · rcases kts_mem (hfs ▸ hm) with z | z
      · rw [z, gL] at q; cases q
      · exact nm z
  have keep : ∀ q ∈ news, (hideAll s'.heap (e :: fs)).get? q.1 = some q.2 ∧ g.get? q.1 = none := fun q hq => by
    have z := N q (.tail _ hq)
    refine ⟨hideAll_get _ z.1 fun hm => ?_, z.2.2⟩
    rcases List.mem_cons.mp hm with h | h
    · exact off q hq h
    · rcases kts_mem (hfs ▸ h) with y | y
      · exact z.2.1 y
      · obtain ⟨o', ho', _⟩ := (K.frames.mem y).2
        rw [z.2.2] at ho'; cases ho'
  refine fly_first (oe := excObj 45 t (some dx)) (dx := dx) K'.stack rfl (fun b o q => of_hideAll _ q) (hideAll_none _ (.head _)) (funFrames_hide K'.frames inF) (N _ (.head _)).1 ⟨rfl, rfl⟩ rfl rfl fun h' x u => ?_
  exact hQ h' ⟨_, st, sg, keep, ge, x⟩ ((Heap.UpToSlots.of_keeps F.keep).trans u)
end
section
variable {w : World} {A₀ : Around} {E : Value → Shared → Prop} {s' : Shared} {base g G : Heap} {outer : List Env} {L a e dx : Addr} {m : Str → Option Value} {name : Str} {scope : Scope} {cd : Value}
  {n : Str} {b₀ : Stmt} {suite : List Stmt} {pos np : Pos} {rest : List ExceptHandler} {Q : Flow → Shared → Prop} {news : List (Addr × Obj)}
  {p : Program} {loose : List Str} {mean : ExcName → Option Value} {mg mb : Str → Option Value}
theorem caught_G (R : RaisedG base G (envOf name scope L a cd :: outer) e dx news s'.heap) (F : Fr g L G m) (K : Below A₀ base outer g) (hsm : G.UpToSlots s'.heap)
    (XB : (Mine.hd.heap_1 w.params).In base) (TB : Top p loose mean mg mb base)
    (k : ∀ g' h' tk oe, KtsTurn (outer.filterMap (·.frame)) g g' → Fr g' L h' (fun y => if y = n then some (.ref e) else m y) → News g' L h' ((e, oe) :: news) → Below A₀ base outer g' → (Mine.hd.heap_1 w.params).In g' → Top p loose mean mg mb g' →
      oe.cls = .ref 45 → oe.dict = some dx → notCls oe = true →
      wpAny (model PG w) ((A₀.deeper (envOf name scope L a cd)).mark (some (.ref e))) (execs (b₀ :: suite) (envOf name scope L a cd))
        (fun f s₄ => wpAny (model PG w) (A₀.deeper (envOf name scope L a cd)) (do bindName (envOf name scope L a cd) n .none; unbindBehindTheSuite (envOf name scope L a cd) n pos) (fun _ s₅ => Q f s₅) E s₄)
        (AsSuiteRaised (model PG w) ((A₀.deeper (envOf name scope L a cd)).mark (some (.ref e))) (envOf name scope L a cd) n pos (notedBy (model PG w) ((A₀.deeper (envOf name scope L a cd)).mark (some (.ref e))) (envOf name scope L a cd) (cameBackBy (model PG w) (A₀.deeper (envOf name scope L a cd)) (envOf name scope L a cd) E)))
        { s' with heap := h', toks := tk })
    (hk : scope.kind = .function := by rfl) (hlo : (envOf name scope L a cd).kindOf n = some .local := by rfl) (hx : (envOf name scope L a cd).kindOf "NameFault" = some .globalImplicit := by rfl) :
    wpAny (model PG w) (A₀.deeper (envOf name scope L a cd)) (noteFrame (.ref e) (envOf name scope L a cd))
      (fun _ s₂ => wpAny (model PG w) (A₀.deeper (envOf name scope L a cd)) (setFlight (.ref e) none) (fun _ s₃ =>
        wpAny (model PG w) (A₀.deeper (envOf name scope L a cd)) (handleBy (.ref e) (envOf name scope L a cd) (.ExceptHandler (some (.Name "NameFault" np)) (some n) (b₀ :: suite) pos :: rest)) Q E s₃) E s₂) E s' := by
  obtain ⟨B, hB, hG, hl, hGe, hfl⟩ := R
  refine fly_again (Around.frames_deeper K.stack) rfl hfl fun g₁ x₁ u₁ => ?_
  refine fly_land (s := { s' with heap := g₁ }) x₁ fun g₂ x₂ u₂ => ?_
  obtain ⟨gc, Tc, Fc, Kc⟩ := kts_ground K F hG x₂.1 (hsm.trans (u₁.trans u₂))
  obtain ⟨oe, vs, he, hc, hd, hdd⟩ := x₂.obj
  have Xc := XB.keeps Kc.stays
  refine wpAny_handleBy_cons (codeAny_handlers_test (name_K (v := .ref 45) Fc Xc (topRead_of (TB.keeps Kc.stays)) (by kernel_rfl) ?_ hk hx (by decide))) (by intro q; cases q)
  have hC : g₂.get? 45 = some nfObj := Fc.keep 45 _ (Xc 45 nfObj (by kernel_rfl))
  refine wpAny_excMatches_sub_self (bm := [.ref 32, .type "Exception", .type "BaseException", .type "object"]) hC he hc (by decide +kernel) (codeAny_handlers_suite_as ?_)
  refine fly_land (s := { s' with heap := g₂ }) x₂ fun g₃ x₃ u₃ => ?_
  obtain ⟨g', T', F', K'⟩ := kts_ground K F hG x₃.1 ((hsm.trans (u₁.trans u₂)).trans u₃)
  obtain ⟨oe', vs', he', hc', hd', hdd'⟩ := x₃.obj
  obtain ⟨oL, _, _, hLG, _⟩ := F.ns
  have N₃ : News g' L g₃ ((e, oe') :: news) := fun q hq => by
    rcases List.mem_cons.mp hq with rfl | hq
    · refine ⟨he', ?_, T'.none_ _ (kts_none F.keep hGe)⟩
      intro z
      have z' : e = L := z
      rw [z', hLG] at hGe; cases hGe
    · refine ⟨x₃.1 _ _ (hl q hq).1, ?_, T'.none_ _ (kts_none F.keep (hl q hq).2)⟩
      intro z
      have y := (hl q hq).2
      rw [z, hLG] at y; cases y
  refine stN F' N₃ (fun h₇ F₇ N₇ => ?_) hk hlo
  exact k g' h₇ _ oe' T' F₇ N₇ K' (XB.keeps K'.stays) (TB.keeps K'.stays) hc' hd' (by unfold notCls; rw [hdd'])
end
end
theorem off_17 : True := by
  w_top off
  exact trivial
theorem iter_tup_inv {prog : Program} {w : World} {A : Around} {E : Value → Shared → Prop} {s : Shared} {env : Env} {h₀ : Heap} {target : PySem.Expr} {body : List Stmt} {Q : Flow → Shared → Prop} {ax : Addr} {vs : List Value} {m₀ : Str → Option Value} {news : List (Addr × Obj)}
    (J : Addr → List Value → List Value → (Str → Option Value) → List (Addr × Obj) → Prop)
    (hh : A.handled = none) (F : Fr h₀ env.locals s.heap m₀) (N : News h₀ env.locals s.heap news) (hm : (ax, tupO vs.toArray) ∈ news)
    (init : ∀ I : Addr, (∀ p ∈ news, p.1 < I) → J I [] vs m₀ news)
    (turn : ∀ (I : Addr) oI pre v rest m led h tk, oI.cls = .type "tuple_iterator" → J I pre (v :: rest) m led → Fr h₀ env.locals h m → News h₀ env.locals h ((I, oI) :: led) →
      wpAny (model prog w) A (assign target env v) (fun _ s₂ => wpAny (model prog w) A (execs body env) (UnrPostW h₀ env.locals { s with heap := h, toks := tk } [(I, oI)] (fun m' n' => SubL [(ax, tupO vs.toArray)] n' ∧ J I (pre ++ [v]) rest m' n') Q) E s₂) E { s with heap := h, toks := tk })
    (done : ∀ (I : Addr) pre m led h tk, J I pre [] m led → Fr h₀ env.locals h m → News h₀ env.locals h led → Q .next { s with heap := h, toks := tk }) :
    wpAny (model prog w) A (pyIter (.ref ax)) (fun it s₂ => TurnsAt prog w A h₀ env target body Q E it s₂) E s := by
  refine iter_tupTurns (vs := vs) hh F N hm rfl rfl fun I l1 => ?_
  have key : ∀ rest pre m led, J I pre rest m led → ItemsRest prog w A E h₀ env target body Q s [(I, "tuple_iterator")] [(ax, tupO vs.toArray)] (rest.map .val) m led := by
    intro rest
    induction rest with
    | nil => exact fun pre m led hJ => ItemsRest.zero fun h tk F N => done I pre m led h tk hJ F N
    | cons v rest ih =>
      intro pre m led hJ
      refine ItemsRest.val fun h tk F oI hI N => wpAny_mono (turn I oI pre v rest m led h tk hI hJ F N) (fun _ s₂ z => wpAny_mono z (fun f s₃ p => ?_) fun _ _ e => e) fun _ _ e => e
      have fin : UnrEndW h₀ env.locals { s with heap := h, toks := tk } [(I, oI)] (fun m' n' => SubL [(ax, tupO vs.toArray)] n' ∧ J I (pre ++ [v]) rest m' n') s₃ →
          UnrEndW h₀ env.locals { s with heap := h, toks := tk } [(I, oI)] (fun m' n' => SubL [(ax, tupO vs.toArray)] n' ∧ ItemsRest prog w A E h₀ env target body Q s [(I, "tuple_iterator")] [(ax, tupO vs.toArray)] (rest.map .val) m' n') s₃ := by
        rintro ⟨h', tk', m', news', e, F', N', o, r1, r2⟩
        exact ⟨h', tk', m', news', e, F', N', o, r1, ih _ _ _ r2⟩
      cases f with
      | ret v => exact p
      | brk => exact p
      | next => exact fin p
      | cont => exact fin p
  exact key vs [] m₀ news (init I l1)
theorem lines_17_1 : True := by
  k_with "exec For Name Name cons nil" => (k_here; (rename Fr _ _ _ _ => lF'); (with_unfolding_all refine' For_turns lF' ?_; k_whole))
  k_with "exec For Tuple Name cons nil" => (k_here; (rename Fr _ _ _ _ => lF'); (with_unfolding_all refine' For_turns lF' ?_; k_whole))
  k_with "pyIter ref" => (k_here; (with_reducible show wpAny _ _ (pyIter (Value.ref _)) (fun it s₂ => TurnsAt _ _ _ _ _ _ _ _ _ it s₂) _ _); refine Held.intro ?_)
  k_with "compareOp In str ref" => (k_here; (with_reducible show wpAny _ _ (compareOp CmpOp.In (Value.str _ _) (Value.ref _)) _ _ _); k_dflt (first
        | (refine' in_svT ?zzN ?zzm ?_; (case zzN => k_asm); (case zzm => k_mem); k_whole)
        | (refine' in_svL ?zzN ?zzm ?_; (case zzN => k_asm); (case zzm => k_mem); k_whole)))
  k_with "call builtin:tuple.count" => (k_here; k_dflt (refine' count_svT ?zzN ?zzm ?_; (case zzN => k_asm); (case zzm => k_mem); k_whole))
  k_with "call builtin:list.count" => (k_here; k_dflt (refine' count_svL ?zzN ?zzm ?_; (case zzN => k_asm); (case zzm => k_mem); k_whole))
  k_with "call ref" => (k_here; (with_reducible show wpAny _ _ (call (Value.ref 80) _) _ _ _); k_dflt (refine wpAny_call ?_; k_extra "m:enterD"))
  exact trivial
noncomputable def bad1 (os rs : List (Str × Tok)) (x : Str) : Bool := (os.any fun p => p.1 == x) || decide (1 < rs.countP fun p => p.1 == x) || x == Str.ofString "'static"
noncomputable def bad2 (ts : List Row) (x : Str) : Bool := (nmv ts).any fun p => p.1 == x
theorem tupMethod {prog : Program} {w : World} {A : Around} {E : Value → Shared → Prop} {s : Shared} {h₀ : Heap} {L D : Addr} {news : List (Addr × Obj)} {its : Array Value} {pl : Sem Bool} {Q : Value × List Value → Shared → Prop} (N : News h₀ L s.heap news) (hm : (D, tupO its) ∈ news)
    (h : Q (.builtin "tuple.count", [.ref D]) s) : wpAny (model prog w) A (getMethod (.ref D) "count" pl) Q E s :=
  getMethod_builtin ⟨_, (N _ hm).1, rfl⟩ PySem.F.plainAttrs_tuple PySem.F.slot_tuple_count PySem.F.type_tuple_count (fun a e => by cases e; exact ⟨_, (N _ hm).1, rfl⟩) h
theorem lines_17_2 : True := by
  k_with "getMethod ref" => (k_here; (with_reducible show wpAny _ _ (getMethod (Value.ref _) (PySem.Str.ofString "count") _) _ _ _); k_dflt (first
        | (refine' tupMethod ?zzN ?zzm ?_; (case zzN => k_asm); (case zzm => k_mem))
        | (refine' listMethod_K ?zzN ?zzm PySem.F.slot_list_count PySem.F.type_list_count ?_; (case zzN => k_asm); (case zzm => k_mem))))
  exact trivial
noncomputable def XRaised (w : World) (E : Value → Shared → Prop) (v : Value) (s₁ : Shared) : Prop := ∃ e t o, v = .ref e ∧ (Mine.hd.heap_1 w.params).In s₁.heap ∧ s₁.heap.get? e = some (excObj 45 t o) ∧ E (.ref e) s₁
section
variable {w : World} {A : Around} {E : Value → Shared → Prop} {s : Shared} {h₀ : Heap} {L : Addr} {m : Str → Option Value} {led : List (Addr × Obj)}
theorem xr_use {env : Env} {x : PySem.Expr} {pos : Pos} {Q : Flow → Shared → Prop} (hh : A.handled = none) (h : wpAny (model PG w) A (eval x env) (XRaised w E) E s) : wpAny (model PG w) A (exec (.Raise (some x) none pos) env) Q E s := x_raise hh h
theorem xr_of {e t : Addr} {o : Option Addr} (X : (Mine.hd.heap_1 w.params).In h₀) (F : Fr h₀ L s.heap m) (N : News h₀ L s.heap led) (hm : (e, excObj 45 t o) ∈ led) (h : E (.ref e) s) : XRaised w E (.ref e) s :=
  ⟨e, t, o, rfl, Frag.In.keeps X F.keep, (N _ hm).1, h⟩
theorem leave_use {M : Model} {base g : Heap} {outer : List Env} {a e t dx : Addr} {name : Str} {scope : Scope} {cd : Value} {Q : Unit → Shared → Prop} {rest : List (Addr × Obj)} (K : Below A base outer g) (F : Fr g L s.heap m) (N : News g L s.heap led) (P : Pick e (excObj 45 t (some dx)) led rest) (off : ∀ p ∈ rest, p.1 ≠ e)
    (hQ : ∀ h', RaisedG base g outer e dx rest h' → g.UpToSlots h' → Q () { s with heap := h' }) (hk : scope.kind = .function := by rfl) :
    wpAny M (A.deeper (envOf name scope L a cd)) (leaving (envOf name scope L a cd) (.ref e)) Q E s := leave_G K F (P.news N) off hQ hk
theorem xg_inst {e dx : Addr} {oe od : Obj} (N : News h₀ L s.heap led) (h1 : (e, oe) ∈ led) (hc : oe.cls = .ref 45) (hd : oe.dict = some dx) (hn : notCls oe = true) (h2 : (dx, od) ∈ led) : W.InstAt s.heap e oe 45 (some od) :=
  ⟨(N _ h1).1, hc, hn, by rw [hd]; exact (N _ h2).1⟩
theorem xg_msg {e dx : Addr} {oe : Obj} {k1 k2 : Tok} {v1 v2 : Value} {expr : Bool} {Q : Value → Shared → Prop} (X : (Mine.hd.heap_1 w.params).In h₀) (F : Fr h₀ L s.heap m) (N : News h₀ L s.heap led) (h1 : (e, oe) ∈ led) (hc : oe.cls = .ref 45) (hd : oe.dict = some dx) (hn : notCls oe = true)
    (h2 : (dx, dct2 (PyData.keyHash w.params "message") "message" k1 v1 (PyData.keyHash w.params "spot") "spot" k2 v2) ∈ led) (hh : handedIn v1 = true) (h : Q v1 { s with toks := s.toks + 1 }) : wpAny (model PG w) A (getAttr (.ref e) "message" expr) Q E s :=
  xg_value (Frag.In.keeps X F.keep) (xg_inst N h1 hc hd hn h2) (by kernel_rfl) hh h
theorem xg_spot {e dx : Addr} {oe : Obj} {k1 k2 : Tok} {v1 v2 : Value} {expr : Bool} {Q : Value → Shared → Prop} (X : (Mine.hd.heap_1 w.params).In h₀) (F : Fr h₀ L s.heap m) (N : News h₀ L s.heap led) (h1 : (e, oe) ∈ led) (hc : oe.cls = .ref 45) (hd : oe.dict = some dx) (hn : notCls oe = true)
    (h2 : (dx, dct2 (PyData.keyHash w.params "message") "message" k1 v1 (PyData.keyHash w.params "spot") "spot" k2 v2) ∈ led) (hh : handedIn v2 = true) (h : Q v2 { s with toks := s.toks + 1 }) : wpAny (model PG w) A (getAttr (.ref e) "spot" expr) Q E s :=
  xg_value (Frag.In.keeps X F.keep) (xg_inst N h1 hc hd hn h2) (by kernel_rfl) hh h
end
theorem exc_use {w : World} {mean : ExcName → Option Value} {mg mb : Str → Option Value}
    {dp un : Nat} {gd : Option (List Code)} {cn : Str} {cs : Scope} {a : Addr} {ccd : Value} {cl : List (Str × Addr)} {outer : List Env} {A₀ : Around} {base h₀ : Heap} {L : Addr} {m : Str → Option Value} {news : List (Addr × Obj)} {s : Shared}
    {x : Str} {y : Int} {t u : Tok} {Q E : Value → Shared → Prop}
    (B : Below A₀ base outer h₀) (F : Fr h₀ L s.heap m) (X : (Mine.hd.heap_1 w.params).In h₀) (N : News h₀ L s.heap news) (T : Top vw lz mean mg mb h₀) (hk : cs.kind = .function)
    (hd : dp + 12 < recursionLimit) (hu : un + 100 < cLine)
    (hret : ∀ e tt dx tk1 tk2 h' tk', Fr h₀ L h' m → News h₀ L h' ((e, excObj 45 tt (some dx)) :: (dx, dct2 (PyData.keyHash w.params "message") "message" tk1 (.str x t) (PyData.keyHash w.params "spot") "spot" tk2 (.int y u)) :: news) → (∀ p ∈ news, p.1 < e) → e < dx → Q (.ref e) { s with heap := h', toks := tk' }) :
    wpAny (model PySem.Challenge.rw_xm0579_01.row.prog w) (ktrTop dp un gd cn cs L a ccd cl outer) (call (.ref 45) [.str x t, .int y u]) Q E s :=
  exc_spec w mean mg mb dp un gd cn cs a ccd cl outer A₀ base h₀ L m news s x y t u Q E B F X N T hk hd hu hret
theorem lines_17_3 : True := by
  k_with "call ref" => (k_here; (with_reducible show wpAny _ _ (call (Value.ref 45) _) _ _ _); k_dflt (
        refine' exc_use ?zzkB ?zzkF ?zzkX ?zzkN ?zzkT ?zzkK ?zzkd ?zzku ?_
        (case zzkB => k_asm)
        (case zzkF => k_asm)
        (case zzkX => k_asm)
        (case zzkN => k_asm)
        (case zzkT => k_asm)
        (case zzkK => first | exact rfl | assumption)
        (case zzkd => ktr_room)
        (case zzku => ktr_units)
        (intro e' tt' dx' k1' k2' h' tk' F' N' l1 l2)
        (try k_lt l1)
        (try k_lt2 l2)
        (try k_fold)))
  k_with "exec Raise some none" => (k_here; (with_reducible show wpAny _ _ (exec (Stmt.Raise (some (Expr.Call (Expr.Name _ _) _ _ _)) none _) _) _ _ _); k_dflt (refine' xr_use ?zzh ?_; (case zzh => rfl)))
  k_with "XRaised" => (k_dflt (refine' xr_of ?zzX ?zzF ?zzN ?zzm ?_; (case zzF => assumption); (case zzX => k_asm); (case zzN => assumption); (case zzm => k_mem)))
  k_with "leaving ref" => (k_here; k_dflt (refine' leave_use ?zzK ?zzF ?zzN ?zzP ?zzo ?_; (case zzF => assumption); (case zzK => assumption); (case zzN => assumption); (case zzP => k_extra "m:pick"); (case zzo => k_all); k_whole); (intro h' R' U'); (try dsimp only at R' U' ⊢))
  k_with "noteFrame ref" => (k_here; (rename RaisedG _ _ _ _ _ _ _ => rkX); k_dflt (refine' caught_G rkX ?zzF ?zzK ?zzu ?zzX ?zzT ?_; (case zzu => assumption); (case zzF => assumption); (case zzK => assumption); (case zzX => assumption); (case zzT => assumption)); (intro g' h' tk' oe' T' F' N' K' X' P' hc' hd' hn'); (try k_sweep))
  k_with "LeaveT" => (k_here; (refine' ⟨_, _, _, _, ?zzT, ?zzF, ?zzN, ?_⟩; (case zzF => assumption); (case zzN => assumption); (case zzT => first | assumption | exact KtsTurn.refl)); (intro h₀' kT kF kN kB); k_whole)
  k_with "m:enterT" => (refine' callT_plain ?zzk1 ?zzk2 ?zzk3 ?zzk4 ?zzk5 ?zzkA ?zzkF ?zzkK ?zzk6 ?zzk7 ?zzk8 ?zzk9 ?zzkB ?_ ?zzc5 ?zzc2 ?zzc3 ?zzc4; (case zzkA => exact rfl); (case zzkF => exact rfl); (case zzkK => first | exact rfl | assumption); (case zzk1 => k_asm); (case zzk2 => k_asm); (case zzk3 => k_asm); (case zzk4 => k_asm); (case zzk5 => k_asm); (case zzk6 => k_is); (case zzk7 => k_is); (case zzk8 => ktr_room); (case zzk9 => exact BindsTo.of_eq rfl); (case zzc5 => decide); (case zzkB => exact locs rfl); (case zzc2 => exact rfl); (case zzc3 => exact rfl); (case zzc4 => exact rfl); k_whole; intro g' L' h' FG' F' N' B' X' T'; (try dsimp only); (try k_fold))
  k_with "getAttr ref" => (k_here; (with_reducible show wpAny _ _ (getAttr (Value.ref _) (PySem.Str.ofString "message") _) _ _ _); k_dflt (refine' xg_msg ?zzX ?zzF ?zzN ?zzh1 ?zzhc ?zzhd ?zzhn ?zzh2 ?zzhh ?_; (case zzhc => assumption); (case zzX => k_asm); (case zzF => k_asm); (case zzN => k_asm); (case zzh1 => k_mem); (case zzhd => assumption); (case zzhn => assumption); (case zzh2 => k_mem); (case zzhh => rfl)))
  k_with "getAttr ref" => (k_here; (with_reducible show wpAny _ _ (getAttr (Value.ref _) (PySem.Str.ofString "spot") _) _ _ _); k_dflt (refine' xg_spot ?zzX ?zzF ?zzN ?zzh1 ?zzhc ?zzhd ?zzhn ?zzh2 ?zzhh ?_; (case zzhc => assumption); (case zzX => k_asm); (case zzF => k_asm); (case zzN => k_asm); (case zzh1 => k_mem); (case zzhd => assumption); (case zzhn => assumption); (case zzh2 => k_mem); (case zzhh => rfl)))
  exact trivial
noncomputable def W1 (sc rg pa : Addr) (spot : Int) (u : Tok) (os rs : List (Str × Tok)) (led0 : List (Addr × Obj)) (I : Addr) (pre rest : List Value) (m : Str → Option Value) (led : List (Addr × Obj)) : Prop :=
  ∃ ps zs, pre = sv ps ∧ rest = sv zs ∧ rs = ps ++ zs ∧ (∀ p ∈ ps, bad1 os rs p.1 = false) ∧ led = led0 ∧ m (Str.ofString "self") = some (.ref sc) ∧ m (Str.ofString "spot") = some (.int spot u) ∧ m (Str.ofString "regions") = some (.ref rg) ∧ m (Str.ofString "params") = some (.ref pa) ∧ (∀ p ∈ led0, p.1 ≠ I)
theorem bad1_1 {os rs : List (Str × Tok)} {x : Str} (h : (os.any fun p => p.1 == x) = true) : bad1 os rs x = true := by simp only [bad1, h, Bool.true_or]
theorem bad1_2 {os rs : List (Str × Tok)} {x : Str} (h : (1 : Int) < ((rs.countP fun p => p.1 == x : Nat) : Int)) : bad1 os rs x = true := by
  have : 1 < rs.countP fun p => p.1 == x := by omega
  simp only [bad1, this, decide_true, Bool.true_or, Bool.or_true]
theorem bad1_3 {os rs : List (Str × Tok)} {x : Str} (h : (x == Str.ofString "'static") = true) : bad1 os rs x = true := by simp only [bad1, h, Bool.or_true]
theorem bad1_0 {os rs : List (Str × Tok)} {x : Str} (h1 : (os.any fun p => p.1 == x) = false) (h2 : ¬ (1 : Int) < ((rs.countP fun p => p.1 == x : Nat) : Int)) (h3 : (x == Str.ofString "'static") = false) : bad1 os rs x = false := by
  have : ¬ 1 < rs.countP fun p => p.1 == x := by omega
  simp only [bad1, h1, h3, this, decide_false, Bool.or_false]
theorem news_end1 {h₀ h : Heap} {L a : Addr} {o1 : Obj} {led news : List (Addr × Obj)} (N : News h₀ L h led) (h1 : (a, o1) ∈ led) (h3 : ∀ p ∈ news, p ∈ led) : News h₀ L h ((a, o1) :: news) := fun p hp => by
  rcases List.mem_cons.mp hp with rfl | hp
  · exact N _ h1
  · exact N _ (h3 _ hp)
theorem nms_use {w : World} {mean : ExcName → Option Value} {mg mb : Str → Option Value}
    {dp un : Nat} {gd : Option (List Code)} {cn : Str} {cs : Scope} {a : Addr} {ccd : Value} {cl : List (Str × Addr)} {outer : List Env} {A₀ : Around} {base h₀ : Heap} {L : Addr} {m : Str → Option Value} {news : List (Addr × Obj)} {s : Shared}
    {sc d P : Addr} {t1 t2 t3 t4 : Tok} {v1 v2 v4 : Value} {ts : List Row} {k : Nat} {Q E : Value → Shared → Prop}
    (h1 : (sc, instObj 83 d) ∈ news) (h2 : (d, scD w t1 t2 t3 t4 v1 v2 (.ref P) v4) ∈ news) (h3 : (P, listOf (rv ts).toArray k) ∈ news) (h4 : RowsIn news ts) (hz : ts.length ≤ 100)
    (B : Below A₀ base outer h₀) (F : Fr h₀ L s.heap m) (X : (Mine.hd.heap_1 w.params).In h₀) (N : News h₀ L s.heap news) (T : Top vw lz mean mg mb h₀) (hk : cs.kind = .function)
    (hd : dp + 12 < recursionLimit) (hu : un + 100 < cLine)
    (hret : ∀ D h' tk', Fr h₀ L h' m → News h₀ L h' ((D, listOf (sv (nmv ts)).toArray (sv (nmv ts)).length) :: news) → Q (.ref D) { s with heap := h', toks := tk' }) :
    wpAny (model PySem.Challenge.rw_xm0579_01.row.prog w) (ktrTop dp un gd cn cs L a ccd cl outer) (call (.ref 73) [.ref sc]) Q E s :=
  nms_spec w mean mg mb dp un gd cn cs a ccd cl outer A₀ base h₀ L m news s sc d P t1 t2 t3 t4 v1 v2 v4 ts k Q E B F X N T hk h1 h2 h3 h4 hz hd hu hret
theorem lines_17_4 : True := by
  k_with "call ref" => (k_here; (with_reducible show wpAny _ _ (call (Value.ref 73) _) _ _ _); k_dflt (
        refine' nms_use ?zzh1 ?zzh2 ?zzh3 ?zzh4 ?zzhz ?zzkB ?zzkF ?zzkX ?zzkN ?zzkT ?zzkK ?zzkd ?zzku ?_
        (case zzkF => k_asm)
        (case zzkN => k_asm)
        (case zzh1 => k_mem)
        (case zzh2 => k_mem)
        (case zzh3 => k_mem)
        (case zzh4 => k_extra "m:rows")
        (case zzkB => k_asm)
        (case zzkX => k_asm)
        (case zzkT => k_asm)
        (case zzkK => first | exact rfl | assumption)
        (case zzkd => ktr_room)
        (case zzku => ktr_units)
        (case zzhz => omega)
        (intro D' h' tk' F' N')
        (try k_fold)))
  k_with "binaryOp Add ref ref" => (k_here; (with_reducible show wpAny _ _ (binaryOp _ (Value.ref _) (Value.ref _)) _ _ _); k_dflt (first
        | (refine' add_svT ?zzF ?zzN ?zza ?zzb ?zzz ?zzz2 ?_; (case zzF => k_asm); (case zzN => k_asm); (case zza => k_mem); (case zzb => k_mem); (case zzz => k_extra "m:size"); (case zzz2 => k_extra "m:size"); (intro D' h' F' N'); (try k_sweep))
        | (refine' add_svL ?zzF ?zzN ?zza ?zzb ?zzz ?zzz2 ?_; (case zzF => k_asm); (case zzN => k_asm); (case zza => k_mem); (case zzb => k_mem); (case zzz => k_extra "m:size"); (case zzz2 => k_extra "m:size"); (intro D' h' F' N' l1); (try k_lt l1); (try k_sweep))))
  exact trivial
theorem scope_use {w : World} {mean : ExcName → Option Value} {mg mb : Str → Option Value}
    {dp un : Nat} {gd : Option (List Code)} {cn : Str} {cs : Scope} {a : Addr} {ccd : Value} {cl : List (Str × Addr)} {outer : List Env} {A₀ : Around} {base h₀ : Heap} {L : Addr} {m : Str → Option Value} {news : List (Addr × Obj)} {s : Shared}
    {x : Str} {t : Tok} {o ty : Addr} {os : Array Value} {ts : Array Value} {k2 : Nat} {inner : Value} {Q E : Value → Shared → Prop}
    (ho : (o, tupO os) ∈ news) (ht : (ty, listOf ts k2) ∈ news) (hz : os.size ≤ 100) (hz2 : ts.size ≤ 100)
    (B : Below A₀ base outer h₀) (F : Fr h₀ L s.heap m) (X : (Mine.hd.heap_1 w.params).In h₀) (N : News h₀ L s.heap news) (T : Top vw lz mean mg mb h₀) (hk : cs.kind = .function)
    (hd : dp + 12 < recursionLimit) (hu : un + 100 < cLine)
    (hret : ∀ e d R P c t1 t2 t3 t4 h' tk', Fr h₀ L h' m → News h₀ L h' ((e, instObj 83 d) :: (d, scD w t1 t2 t3 t4 (.str x t) (.ref R) (.ref P) inner) :: (R, tupO os) :: (P, listOf ts c) :: news) → (∀ p ∈ news, p.1 < e) → Q (.ref e) { s with heap := h', toks := tk' }) :
    wpAny (model PySem.Challenge.rw_xm0579_01.row.prog w) (ktrTop dp un gd cn cs L a ccd cl outer) (call (.ref 83) [.str x t, .ref o, .ref ty, inner]) Q E s :=
  scope_spec w mean mg mb dp un gd cn cs a ccd cl outer A₀ base h₀ L m news s x t o ty os ts k2 inner Q E B F X N T hk (.inr ho) ht hz hz2 hd hu hret
theorem lines_17_5 : True := by
  k_with "call ref" => (k_here; (with_reducible show wpAny _ _ (call (Value.ref 83) _) _ _ _); k_dflt (
        refine' scope_use ?zzho ?zzht ?zzhz ?zzhz2 ?zzkB ?zzkF ?zzkX ?zzkN ?zzkT ?zzkK ?zzkd ?zzku ?_
        (case zzkF => k_asm)
        (case zzkN => k_asm)
        (case zzho => k_mem)
        (case zzht => k_mem)
        (case zzkB => k_asm)
        (case zzkX => k_asm)
        (case zzkT => k_asm)
        (case zzkK => first | exact rfl | assumption)
        (case zzkd => ktr_room)
        (case zzku => ktr_units)
        (case zzhz => k_extra "m:size")
        (case zzhz2 => k_extra "m:size")
        (intro e' d' R' P' c' t1' t2' t3' t4' h' tk' F' N' l1)
        (try k_lt l1)
        (try k_fold)))
  exact trivial
local macro_rules | `(tactic| k_handed) => `(tactic| assumption)
noncomputable def W2 (sc rg pa : Addr) (spot : Int) (u : Tok) (ts qs : List Row) (led0 : List (Addr × Obj)) (I : Addr) (pre rest : List Value) (m : Str → Option Value) (led : List (Addr × Obj)) : Prop :=
  ∃ ps zs, pre = rv ps ∧ rest = rv zs ∧ qs = ps ++ zs ∧ (∀ p ∈ ps, bad2 ts p.2.1 = false) ∧ led = led0 ∧ m (Str.ofString "self") = some (.ref sc) ∧ m (Str.ofString "spot") = some (.int spot u) ∧ m (Str.ofString "regions") = some (.ref rg) ∧ m (Str.ofString "params") = some (.ref pa) ∧ (∀ p ∈ led0, p.1 ≠ I)
set_option maxRecDepth 100000 in
set_option maxHeartbeats 8000000 in
theorem tried_spec : ∀ (w : World) (mean : ExcName → Option Value) (mg mb : Str → Option Value)
    (dp un : Nat) (gd : Option (List Code)) (cn : Str) (cs : Scope) (a : Addr) (ccd : Value) (cl : List (Str × Addr)) (outer : List Env) (A₀ : Around) (base h₀ : Heap) (L : Addr) (m : Str → Option Value) (news : List (Addr × Obj)) (s : Shared)
    (sc d R P rg pa : Addr) (t1 t2 t3 t4 tm u : Tok) (md : Str) (inner : Value) (os rs : List (Str × Tok)) (ts qs : List Row) (k : Nat) (spot : Int) (Q E : Value → Shared → Prop)
    (XB : (Mine.hd.heap_1 w.params).In base) (TB : Top vw lz mean mg mb base)
    (B : Below A₀ base outer h₀) (F : Fr h₀ L s.heap m) (X : (Mine.hd.heap_1 w.params).In h₀) (N : News h₀ L s.heap news) (T : Top vw lz mean mg mb h₀) (hk : cs.kind = .function)
    (g1 : (sc, instObj 83 d) ∈ news) (g2 : (d, scD w t1 t2 t3 t4 (.str md tm) (.ref R) (.ref P) inner) ∈ news) (g3 : (R, tupO (sv os).toArray) ∈ news) (g4 : (P, listOf (rv ts).toArray k) ∈ news) (g5 : RowsIn news ts)
    (g6 : (rg, tupO (sv rs).toArray) ∈ news) (g7 : (pa, tupO (rv qs).toArray) ∈ news) (g8 : RowsIn news qs) (z1 : os.length ≤ 10) (z2 : rs.length ≤ 10) (z3 : ts.length ≤ 10) (z4 : qs.length ≤ 10)
    (y1 : ∀ p ∈ rs, p.1.length ≤ 100) (y2 : ∀ p ∈ qs, p.2.1.length ≤ 100)
    (hin : handedIn inner = true)
    (hd : dp + 20 < recursionLimit) (hu : un + 300 < cLine)
    (hretA : ∀ h₀' pre x t post D tk1 h' tk', rs = pre ++ (x, t) :: post → (∀ p ∈ pre, bad1 os rs p.1 = false) → bad1 os rs x = true → KtsTurn (outer.filterMap (·.frame)) h₀ h₀' → Below A₀ base outer h₀' → (Mine.hd.heap_1 w.params).In h₀' → Top vw lz mean mg mb h₀' → Fr h₀' L h' m → News h₀' L h' ((D, tupO #[.str (Str.ofString "the region " ++ x ++ Str.ofString " is told twice") tk1, .int spot u]) :: news) → Q (.ref D) { s with heap := h', toks := tk' })
    (hretB : ∀ h₀' pre p post D tk1 h' tk', (∀ p ∈ rs, bad1 os rs p.1 = false) → qs = pre ++ p :: post → (∀ q ∈ pre, bad2 ts q.2.1 = false) → bad2 ts p.2.1 = true → KtsTurn (outer.filterMap (·.frame)) h₀ h₀' → Below A₀ base outer h₀' → (Mine.hd.heap_1 w.params).In h₀' → Top vw lz mean mg mb h₀' → Fr h₀' L h' m → News h₀' L h' ((D, tupO #[.str (Str.ofString "the generic " ++ p.2.1 ++ Str.ofString " is told twice") tk1, .int spot u]) :: news) → Q (.ref D) { s with heap := h', toks := tk' })
    (hretC : ∀ h₀' e d2 R2 P2 c q1 q2 q3 q4 h' tk', (∀ p ∈ rs, bad1 os rs p.1 = false) → (∀ q ∈ qs, bad2 ts q.2.1 = false) → KtsTurn (outer.filterMap (·.frame)) h₀ h₀' → Below A₀ base outer h₀' → (Mine.hd.heap_1 w.params).In h₀' → Top vw lz mean mg mb h₀' → Fr h₀' L h' m → News h₀' L h' ((e, instObj 83 d2) :: (d2, scD w q1 q2 q3 q4 (.str md tm) (.ref R2) (.ref P2) inner) :: (R2, tupO (sv os ++ sv rs).toArray) :: (P2, listOf (rv ts ++ rv qs).toArray c) :: news) → Q (.ref e) { s with heap := h', toks := tk' }),
    wpAny (model PySem.Challenge.rw_xm0579_01.row.prog w) (ktrTop dp un gd cn cs L a ccd cl outer) (call (.ref 148) [.ref sc, .int spot u, .ref rg, .ref pa]) Q E s := by
  k_fill
  intro w mean mg mb dp un gd cn cs a ccd cl outer A₀ base h₀ L m news s sc d R P rg pa t1 t2 t3 t4 tm u md inner os rs ts qs k spot Q E XB TB B F X N T hk g1 g2 g3 g4 g5 g6 g7 g8 z1 z2 z3 z4 y1 y2 hin hd hu hretA hretB hretC
  refine wpAny_call ?_
  k_dflt (k_extra "m:enterT")
  k_steps
  refine held ?_
  refine' iter_tup_inv (W1 sc rg pa spot u os rs news) rfl (by assumption) (by assumption) (by k_mem) ?init1 ?turn1 ?done1
  case init1 => exact fun I l1 => ⟨[], rs, rfl, rfl, rfl, (fun _ h => nomatch h), rfl, rfl, rfl, rfl, rfl, fun p hp => Nat.ne_of_lt (l1 p hp)⟩
  case turn1 =>
    rintro I oI pre v rest m led h tk hI ⟨ps, zs, rfl, hz, hrs, hps, rfl, m1, m2, m3, m4, offI⟩ F N
    obtain ⟨x, t, tl, rfl, rfl, rfl⟩ : ∃ x t tl, zs = (x, t) :: tl ∧ v = .str x t ∧ rest = sv tl := by
      cases zs with
      | nil => cases hz
      | cons p tl =>
        obtain ⟨h1, h2⟩ := List.cons.inj hz
        exact ⟨p.1, p.2, tl, rfl, h1, h2⟩
    have hlen : x.length ≤ 100 := y1 (x, t) (by rw [hrs]; simp)
    k_steps
    iterate 3
      (rename KtsTurn _ h₀ _ => kT1
       refine' hretA _ ps x t tl _ _ _ _ hrs hps ?bad kT1 ?B ?X ?P ?F ?N
       (case bad => first | (refine bad1_1 ?_; assumption) | (refine bad1_2 ?_; assumption) | (refine bad1_3 ?_; assumption))
       (case B => assumption)
       (case F => assumption)
       (case N => (refine' news_end1 ?N ?m ?s; (case N => assumption); (case m => k_mem); (case s => (intro p hp; simp [hp]))))
       (case X => (rename Below _ _ _ _ => kB1; exact XB.keeps kB1.stays))
       (case P => (rename Below _ _ _ _ => kB1; exact TB.keeps kB1.stays)))
    refine endW (by assumption) (by assumption) .head offI ⟨⟨g6, trivial⟩, ps ++ [(x, t)], tl, by simp, rfl, by simp [hrs], ?_, rfl, ?_, ?_, ?_, ?_, offI⟩
    · intro p hp
      rcases List.mem_append.mp hp with hp | hp
      · exact hps p hp
      · obtain rfl := List.mem_singleton.mp hp
        exact bad1_0 (by assumption) (by assumption) (by assumption)
    · exact (if_neg (by decide)).trans m1
    · exact (if_neg (by decide)).trans m2
    · exact (if_neg (by decide)).trans m3
    · exact (if_neg (by decide)).trans m4
  case done1 =>
    rintro I pre m led h tk ⟨ps, zs, rfl, hz, hrs, hps, rfl, m1, m2, m3, m4, offI⟩ F N
    obtain rfl : zs = [] := by cases zs with | nil => rfl | cons => cases hz
    obtain rfl : rs = ps := by simpa using hrs
    k_steps
    refine held ?_
    refine' iter_tup_inv (W2 sc rg pa spot u ts qs led) rfl (by assumption) (by assumption) (by k_mem) ?init2 ?turn2 ?done2
    case init2 => exact fun I l1 => ⟨[], qs, rfl, rfl, rfl, (fun _ h => nomatch h), rfl, m1, m2, m3, m4, fun p hp => Nat.ne_of_lt (l1 p hp)⟩
    case turn2 =>
      rintro I oI pre v rest m led h tk hI ⟨ps, zs, rfl, hz, hqs, hqs0, rfl, m1, m2, m3, m4, offI⟩ F N
      obtain ⟨y, x, t, bv, tl, rfl, rfl, rfl⟩ : ∃ y x t bv tl, zs = (y, x, t, bv) :: tl ∧ v = .ref y ∧ rest = rv tl := by
        cases zs with
        | nil => cases hz
        | cons p tl =>
          obtain ⟨h1, h2⟩ := List.cons.inj hz
          exact ⟨p.1, p.2.1, p.2.2.1, p.2.2.2, tl, rfl, h1, h2⟩
      have hlen : x.length ≤ 100 := y2 (y, x, t, bv) (by rw [hqs]; simp)
      have hrow := g8 (y, x, t, bv) (by rw [hqs]; simp)
      dsimp only at hrow
      k_steps
      · (rename KtsTurn _ h₀ _ => kT1)
        (rename Below _ _ _ _ => kB1)
        refine' hretB _ ps (y, x, t, bv) tl _ _ _ _ hps hqs hqs0 ?bad kT1 kB1 (XB.keeps kB1.stays) (TB.keeps kB1.stays) ?F ?N
        (case bad => assumption)
        (case F => assumption)
        (case N => (refine' news_end1 ?N ?m ?s; (case N => assumption); (case m => k_mem); (case s => (intro p hp; simp [hp]))))
      · refine endW (led := (I, oI) :: led) (by assumption) (by (refine' news_end1 ?N ?m ?s; (case N => assumption); (case m => k_mem); (case s => (intro p hp; simp [hp])))) .head offI ⟨⟨g7, trivial⟩, ps ++ [(y, x, t, bv)], tl, by simp, rfl, by simp [hqs], ?_, rfl, ?_, ?_, ?_, ?_, offI⟩
        · intro p hp
          rcases List.mem_append.mp hp with hp | hp
          · exact hqs0 p hp
          · obtain rfl := List.mem_singleton.mp hp
            assumption
        · exact (if_neg (by decide)).trans ((if_neg (by decide)).trans m1)
        · exact (if_neg (by decide)).trans ((if_neg (by decide)).trans m2)
        · exact (if_neg (by decide)).trans ((if_neg (by decide)).trans m3)
        · exact (if_neg (by decide)).trans ((if_neg (by decide)).trans m4)
    case done2 =>
      rintro I pre m led h tk ⟨ps, zs, rfl, hz, hqs, hqs0, rfl, m1, m2, m3, m4, offI⟩ F N
      obtain rfl : zs = [] := by cases zs with | nil => rfl | cons => cases hz
      obtain rfl : qs = ps := by simpa using hqs
      k_steps
      (rename KtsTurn _ h₀ _ => kT1)
      (rename Below _ _ _ _ => kB1)
      refine' hretC _ _ _ _ _ _ _ _ _ _ _ _ hps hqs0 kT1 kB1 (XB.keeps kB1.stays) (TB.keeps kB1.stays) ?F ?N
      (case F => assumption)
      (case N => (refine' news4 ?N ?m1 ?m2 ?m3 ?m4 ?s; (case N => assumption); (case m1 => k_mem); (case m2 => k_mem); (case m3 => k_mem); (case m4 => k_mem); (case s => (intro p hp; simp [hp]))))
theorem off_18 : True := by
  w_top off
  exact trivial
theorem allLt_up {d : Addr} : ∀ {l : List (Addr × Obj)}, AllLt d l → AllLt (d + 1) l
  | [], _ => trivial
  | _ :: _, h => ⟨Nat.lt_succ_of_lt h.1, allLt_up h.2⟩
theorem lines_18_1 : True := by
  k_with "m:enterTC" => (refine' callT_cells ?zzk1 ?zzk2 ?zzk3 ?zzk4 ?zzk5 ?zzkA ?zzkF ?zzkK ?zzk6 ?zzk7 ?zzk8 ?zzk9 ?zzkB ?zzkD ?_ ?zzc2 ?zzc3 ?zzc4; (case zzkA => exact rfl); (case zzkF => exact rfl); (case zzkK => assumption); (case zzk1 => k_asm); (case zzk2 => k_asm); (case zzk3 => k_asm); (case zzk4 => k_asm); (case zzk5 => k_asm); (case zzk6 => k_is); (case zzk7 => k_is); (case zzk8 => ktr_room); (case zzk9 => exact BindsTo.of_eq rfl); (case zzkB => exact rfl); (case zzkD => decide +kernel); (case zzc2 => exact rfl); (case zzc3 => exact rfl); (case zzc4 => exact rfl); k_whole; intro g' L' h' tk' cells' FG' F' N' Y' B' X' T' l1; (try k_lt l1); (have l2 := allLt_up l1); (have l3 := allLt_up l2); (have l4 := allLt_up l3); (have l5 := allLt_up l4); k_cells Y'; (try simp only [List.cons_append, List.nil_append] at N'); (try dsimp only); (try k_fold))
  exact trivial
section
variable {prog : Program} {w : World} {A : Around} {s : Shared} {h₀ : Heap} {L : Addr} {m : Str → Option Value} {env : Env} {elt : PySem.Expr} {x : Str} {scope : Scope} {cl : List (Str × Addr)} {S : List (Addr × Obj) → Prop} {P : Nat → Value → Prop} {Fin : List Value → List (Addr × Obj) → Prop} {n : Nat} {led0 : List (Addr × Obj)}
theorem compRest_inv (J : Nat → List Value → List (Addr × Obj) → Prop) (init : J 0 [] led0)
    (turn : ∀ i ys led v I oI C oC D m₂ h tk (E' : Value → Shared → Prop), i < n → J i ys led → P i v → LCg.NsObj oC m₂ → m₂ x = some v → Fr h₀ L h m → News h₀ L h ((I, oI) :: (C, oC) :: (D, LCg.lst ys) :: led) → LCg.Off3 I C D led → ((@Ne Nat I C) ∧ (@Ne Nat I D) ∧ (@Ne Nat C D)) →
      wpAny (model prog w) A (eval elt (compEnvC scope cl C env)) (LCg.CompEnd h₀ L m { s with heap := h, toks := tk } I oI C oC D (LCg.lst ys) S (fun y news' => J (i + 1) (ys ++ [y]) news')) E' { s with heap := h, toks := tk })
    (done : ∀ ys led, J n ys led → Fin ys led) : LCg.CompRest prog w A h₀ L m env elt x scope cl s S P Fin n 0 [] led0 := by
  have key : ∀ k i ys led, i + k = n → J i ys led → LCg.CompRest prog w A h₀ L m env elt x scope cl s S P Fin k i ys led := by
    intro k
    induction k with
    | zero => exact fun i ys led hi hJ => LCg.CompRest.zero (done ys led (by rw [show n = i from by omega]; exact hJ))
    | succ k ih =>
      intro i ys led hi hJ
      refine LCg.CompRest.succ fun v I oI C oC D m₂ h tk E' hv hC hx F N off ne => ?_
      refine wpAny_mono (turn i ys led v I oI C oC D m₂ h tk E' (by omega) hJ hv hC hx F N off ne) (fun y s₂ z => ?_) fun _ _ e => e
      obtain ⟨h', tk', news', e, F', N', o', hS, r⟩ := z
      exact ⟨h', tk', news', e, F', N', o', hS, ih _ _ _ (by omega) r⟩
  exact key n 0 [] led0 (by omega) init
end
theorem own3 {h₀ h : Heap} {L src a b c : Addr} {osrc : Obj} {led r1 : List (Addr × Obj)} {p1 p2 p3 p4 : Addr × Obj} {A B C : List (Str × Tok)} {ka kb kc : Nat} {G : Value → Prop}
    (N : News h₀ L h led) (P : Pick src osrc led (p1 :: p2 :: p3 :: p4 :: r1)) 
    (ha : (a, listOf (sv A).toArray ka) ∈ p1 :: p2 :: p3 :: p4 :: r1) (hb : (b, listOf (sv B).toArray kb) ∈ p1 :: p2 :: p3 :: p4 :: r1) (hc : (c, listOf (sv C).toArray kc) ∈ p1 :: p2 :: p3 :: p4 :: r1)
    (z : A.length ≤ 2 ∧ B.length ≤ 2 ∧ C.length ≤ 2) (la : ∀ p ∈ (src, osrc) :: r1, p.1 < a) (lb : ∀ p ∈ (src, osrc) :: r1, p.1 < b) (lc : ∀ p ∈ (src, osrc) :: r1, p.1 < c)
    (k : ∀ o os k, News h₀ L h ((o, listOf (sv os).toArray k) :: (src, osrc) :: r1) → (∀ p ∈ (src, osrc) :: r1, p.1 < o) → os.length ≤ 2 → G (.ref o)) : ∀ v, v ∈ (#[Value.ref a, .ref b, .ref c]).toList → G v := by
  intro v hv
  have N1 := P.news N
  have N2 : ∀ {o : Addr} {x : Obj}, (o, x) ∈ p1 :: p2 :: p3 :: p4 :: r1 → News h₀ L h ((o, x) :: (src, osrc) :: r1) := fun {o x} hm p hp => by
    rcases List.mem_cons.mp hp with rfl | hp
    · exact N1 _ (.tail _ hm)
    · rcases List.mem_cons.mp hp with rfl | hp
      · exact N1 _ (.head _)
      · exact N1 _ (.tail _ (.tail _ (.tail _ (.tail _ (.tail _ hp)))))
  simp only [List.mem_cons, List.not_mem_nil, or_false] at hv
  rcases hv with rfl | rfl | rfl
  · exact k _ _ _ (N2 ha) la z.1
  · exact k _ _ _ (N2 hb) lb z.2.1
  · exact k _ _ _ (N2 hc) lc z.2.2
theorem rows1 {l : List (Addr × Obj)} {a : Addr} {x : Str} {t : Tok} {b : Value} (h : (a, tupO #[.str x t, b]) ∈ l) : RowsIn l [(a, x, t, b)] := fun p hp => by
  obtain rfl := List.mem_singleton.mp hp
  exact h
theorem rows2 {l : List (Addr × Obj)} {a a' : Addr} {x x' : Str} {t t' : Tok} {b b' : Value} (h : (a, tupO #[.str x t, b]) ∈ l) (h' : (a', tupO #[.str x' t', b']) ∈ l) : RowsIn l [(a, x, t, b), (a', x', t', b')] := fun p hp => by
  rcases List.mem_cons.mp hp with rfl | hp
  · exact h
  · obtain rfl := List.mem_singleton.mp hp
    exact h'
theorem off1_of {d : Addr} : ∀ {l : List (Addr × Obj)}, (∀ p ∈ l, p.1 ≠ d) → LCg.Off1 d l
  | [], _ => trivial
  | _ :: _, h => ⟨h _ (.head _), off1_of fun p hp => h p (.tail _ hp)⟩
theorem types3 {h₀ h : Heap} {L src a b c o1 a1 a2 a3 a4 : Addr} {osrc x1 y1 y2 y3 y4 : Obj} {led news : List (Addr × Obj)} {q0 q1 q2 q3 d0 d1 d2 d3 d4 d5 : Addr × Obj} {A B : List Row} {ka kb kc : Nat} {G : Value → Prop}
    (N : News h₀ L h led) (P : Pick src osrc led (q0 :: q1 :: q2 :: d0 :: d1 :: q3 :: d2 :: d3 :: d4 :: d5 :: (o1, x1) :: (a1, y1) :: (a2, y2) :: (a3, y3) :: (a4, y4) :: news))
    (ha : (a, listOf (rv A).toArray ka) ∈ led) (hb : (b, listOf (rv B).toArray kb) ∈ led) (hc : (c, listOf (rv ([] : List Row)).toArray kc) ∈ led)
    (RA : RowsIn [d0, d1, d2, d3, d4, d5] A) (RB : RowsIn [d0, d1, d2, d3, d4, d5] B) (z : A.length ≤ 2 ∧ B.length ≤ 2)
    (la : ∀ p ∈ [(src, osrc), (o1, x1), (a1, y1), (a2, y2), (a3, y3), (a4, y4)], p.1 < a) (lb : ∀ p ∈ [(src, osrc), (o1, x1), (a1, y1), (a2, y2), (a3, y3), (a4, y4)], p.1 < b) (lc : ∀ p ∈ [(src, osrc), (o1, x1), (a1, y1), (a2, y2), (a3, y3), (a4, y4)], p.1 < c) (hn : NewTo [(src, osrc), (o1, x1), (a1, y1), (a2, y2), (a3, y3), (a4, y4)] [d0, d1, d2, d3, d4, d5])
    (f0 : ∀ p ∈ news, p.1 ≠ src) (f5 : ∀ p ∈ news, p.1 ≠ o1) (f1 : ∀ p ∈ news, p.1 ≠ a1) (f2 : ∀ p ∈ news, p.1 ≠ a2) (f3 : ∀ p ∈ news, p.1 ≠ a3) (f4 : ∀ p ∈ news, p.1 ≠ a4)
    (k : ∀ o ts k nw, News h₀ L h ((o, listOf (rv ts).toArray k) :: (src, osrc) :: (o1, x1) :: (a1, y1) :: (a2, y2) :: (a3, y3) :: (a4, y4) :: nw) → (∀ p ∈ [(src, osrc), (o1, x1), (a1, y1), (a2, y2), (a3, y3), (a4, y4)], p.1 < o) →
      (∀ p ∈ news, p ∈ nw) → RowsIn nw ts → ts.length ≤ 2 → LCg.Off1 src nw → LCg.Off1 o1 nw → LCg.Off1 a1 nw → LCg.Off1 a2 nw → LCg.Off1 a3 nw → LCg.Off1 a4 nw → G (.ref o)) : ∀ v, v ∈ (#[Value.ref a, .ref b, .ref c]).toList → G v := by
  intro v hv
  have N1 := P.news N
  have N2 : ∀ {o : Addr} {x : Obj}, (o, x) ∈ led → News h₀ L h ((o, x) :: (src, osrc) :: (o1, x1) :: (a1, y1) :: (a2, y2) :: (a3, y3) :: (a4, y4) :: (news ++ [d0, d1, d2, d3, d4, d5])) := fun {o x} hm p hp => by
    rcases List.mem_cons.mp hp with rfl | hp
    · exact N _ hm
    · refine N1 p ?_
      simp only [List.mem_append, List.mem_cons, List.not_mem_nil, or_false] at hp ⊢
      rcases hp with h | h | h | h | h | h | h | h | h | h | h | h | h <;> simp only [h, true_or, or_true]
  have off : ∀ {x : Addr} {ox : Obj}, (x, ox) ∈ [(src, osrc), (o1, x1), (a1, y1), (a2, y2), (a3, y3), (a4, y4)] → (∀ p ∈ news, p.1 ≠ x) → LCg.Off1 x (news ++ [d0, d1, d2, d3, d4, d5]) := fun {x ox} hm f => off1_of fun p hp => (List.mem_append.mp hp).elim (f p) fun q => Nat.ne_of_gt (hn p q _ hm)
  have fin : ∀ {o : Addr} {ts : List Row} {k : Nat}, (o, listOf (rv ts).toArray k) ∈ led → (∀ p ∈ [(src, osrc), (o1, x1), (a1, y1), (a2, y2), (a3, y3), (a4, y4)], p.1 < o) → RowsIn [d0, d1, d2, d3, d4, d5] ts → ts.length ≤ 2 → G (.ref o) := fun {o ts kk} hm l R z =>
    k _ _ _ _ (N2 hm) l (fun p hp => List.mem_append_left _ hp) (R.mono fun p hp => List.mem_append_right _ hp) z (off (.head _) f0) (off (.tail _ (.head _)) f5) (off (.tail _ (.tail _ (.head _))) f1) (off (.tail _ (.tail _ (.tail _ (.head _)))) f2) (off (.tail _ (.tail _ (.tail _ (.tail _ (.head _))))) f3) (off (.tail _ (.tail _ (.tail _ (.tail _ (.tail _ (.head _)))))) f4)
  simp only [List.mem_cons, List.not_mem_nil, or_false] at hv
  rcases hv with rfl | rfl | rfl
  · exact fin ha la RA z.1
  · exact fin hb lb RB z.2
  · exact fin hc lc (fun p hp => nomatch hp) (Nat.zero_le _)
theorem lines_18_2 : True := by
  k_with "subscriptTail" => (k_here; (with_reducible show wpAny _ _ (subscriptTail (Expr.List _ _) _ (Value.ref _) (Value.int _ _)) _ _ _); refine Held.intro ?_)
  exact trivial
theorem one_useS {w : World} {mean : ExcName → Option Value} {mg mb : Str → Option Value}
    {dp un : Nat} {gd : Option (List Code)} {cn : Str} {cs : Scope} {a : Addr} {ccd : Value} {cl : List (Str × Addr)} {outer : List Env} {A₀ : Around} {base h₀ : Heap} {L : Addr} {m : Str → Option Value} {led news : List (Addr × Obj)} {s : Shared}
    {src lst : Addr} {vs : Array Value} {x y : Int} {t u : Tok} {n k : Nat} {Q E : Value → Shared → Prop}
    (B : Below A₀ base outer h₀) (F : Fr h₀ L s.heap m) (X : (Mine.hd.heap_1 w.params).In h₀) (N : News h₀ L s.heap led) (P : Pick src (listOf #[.int x t, .int y u] n) led news) (T : Top vw lz mean mg mb h₀) (hk : cs.kind = .function)
    (hsep : ∀ p ∈ news, p.1 ≠ src) (hl : (lst, listOf vs k) ∈ news) (hs1 : 1 < vs.size) (hs2 : vs.size ≤ 100) (hS : ∀ v ∈ vs.toList, ∃ z r, v = .str z r ∧ z.length ≤ 10)
    (hx : 0 ≤ x) (hy : 0 ≤ y) (hy2 : y < 2147483647) (hd : dp + 8 < recursionLimit) (hu : un + 64 < cLine)
    (hret : ∀ z r, z.length ≤ 10 → ∀ x' y' t' u' h' tk', Fr h₀ L h' m → News h₀ L h' ((src, listOf #[.int x' t', .int y' u'] n) :: news) → 0 ≤ x' → 0 ≤ y' → y' < 2147483647 → Q (.str z r) { s with heap := h', toks := tk' }) :
    wpAny (model PySem.Challenge.rw_xm0579_01.row.prog w) (ktrTop dp un gd cn cs L a ccd cl outer) (call (.ref 122) [.ref src, .ref lst]) Q E s :=
  one_use B F X N P T hk hsep hl hs1 hs2 hx hy hy2 hd hu fun v hv => by
    obtain ⟨z, r, rfl, hz⟩ := hS v hv
    exact hret z r hz
theorem one_useH {w : World} {mean : ExcName → Option Value} {mg mb : Str → Option Value}
    {dp un : Nat} {gd : Option (List Code)} {cn : Str} {cs : Scope} {a : Addr} {ccd : Value} {cl : List (Str × Addr)} {outer : List Env} {A₀ : Around} {base h₀ : Heap} {L : Addr} {m : Str → Option Value} {led news : List (Addr × Obj)} {s : Shared}
    {src lst : Addr} {b : Addr} {x y : Int} {t u : Tok} {n k : Nat} {Q E : Value → Shared → Prop}
    (B : Below A₀ base outer h₀) (F : Fr h₀ L s.heap m) (X : (Mine.hd.heap_1 w.params).In h₀) (N : News h₀ L s.heap led) (P : Pick src (listOf #[.int x t, .int y u] n) led news) (T : Top vw lz mean mg mb h₀) (hk : cs.kind = .function)
    (hsep : ∀ p ∈ news, p.1 ≠ src) (hl : (lst, listOf #[.none, .ref b] k) ∈ news)
    (hx : 0 ≤ x) (hy : 0 ≤ y) (hy2 : y < 2147483647) (hd : dp + 8 < recursionLimit) (hu : un + 64 < cLine)
    (hret : ∀ v, handedIn v = true → ∀ x' y' t' u' h' tk', Fr h₀ L h' m → News h₀ L h' ((src, listOf #[.int x' t', .int y' u'] n) :: news) → 0 ≤ x' → 0 ≤ y' → y' < 2147483647 → Q v { s with heap := h', toks := tk' }) :
    wpAny (model PySem.Challenge.rw_xm0579_01.row.prog w) (ktrTop dp un gd cn cs L a ccd cl outer) (call (.ref 122) [.ref src, .ref lst]) Q E s :=
  one_use B F X N P T hk hsep hl (by simp) (by simp) hx hy hy2 hd hu fun v hv => by
    simp only [List.mem_cons, List.not_mem_nil, or_false] at hv
    exact hret v (by rcases hv with rfl | rfl <;> rfl)
theorem lines_18_3 : True := by
  k_with "m:strs" => ((intro v9 hv9); (simp only [List.mem_cons, List.not_mem_nil, or_false] at hv9); (rcases hv9 with rfl | rfl | rfl | rfl | rfl) <;> exact ⟨_, _, rfl, by decide⟩)
  k_with "m:strs" => ((intro v9 hv9); (simp only [List.mem_cons, List.not_mem_nil, or_false] at hv9); (rcases hv9 with rfl | rfl | rfl | rfl) <;> exact ⟨_, _, rfl, by decide⟩)
  k_with "m:strs" => ((intro v9 hv9); (simp only [List.mem_cons, List.not_mem_nil, or_false] at hv9); (rcases hv9 with rfl | rfl) <;> exact ⟨_, _, rfl, by decide⟩)
  k_with "call ref" => (k_here; (with_reducible show wpAny _ _ (call (Value.ref 122) _) _ _ _); k_dflt (first
        | (refine' one_useS ?zzkB ?zzkF ?zzkX ?zzkN ?zzkP ?zzkT ?zzkK ?zzksep ?zzkl ?zzks1 ?zzks2 ?zzkS ?zzkx ?zzky ?zzky2 ?zzkd ?zzku ?_
           (case zzkB => k_asm)
           (case zzkF => k_asm)
           (case zzkX => k_asm)
           (case zzkN => k_asm)
           (case zzkP => k_extra "m:pick")
           (case zzkT => k_asm)
           (case zzkK => first | exact rfl | assumption)
           (case zzksep => k_all)
           (case zzkl => k_mem)
           (case zzks1 => simp)
           (case zzks2 => simp)
           (case zzkS => k_extra "m:strs")
           (case zzkx => k_extra "m:le0")
           (case zzky => k_extra "m:le0")
           (case zzky2 => k_extra "m:le0")
           (case zzkd => ktr_room)
           (case zzku => ktr_units)
           (intro z' r' hz' x' y' t' u' h' tk' F' N' hx' hy' hy2')
           (try k_fold))
        | (refine' one_useH ?zzkB ?zzkF ?zzkX ?zzkN ?zzkP ?zzkT ?zzkK ?zzksep ?zzkl ?zzkx ?zzky ?zzky2 ?zzkd ?zzku ?_
           (case zzkB => k_asm)
           (case zzkF => k_asm)
           (case zzkX => k_asm)
           (case zzkN => k_asm)
           (case zzkP => k_extra "m:pick")
           (case zzkT => k_asm)
           (case zzkK => first | exact rfl | assumption)
           (case zzksep => k_all)
           (case zzkl => k_mem)
           (case zzkx => k_extra "m:le0")
           (case zzky => k_extra "m:le0")
           (case zzky2 => k_extra "m:le0")
           (case zzkd => ktr_room)
           (case zzku => ktr_units)
           (intro v' hv' x' y' t' u' h' tk' F' N' hx' hy' hy2')
           (try k_fold))))
  exact trivial
theorem scope_useL {w : World} {mean : ExcName → Option Value} {mg mb : Str → Option Value}
    {dp un : Nat} {gd : Option (List Code)} {cn : Str} {cs : Scope} {a : Addr} {ccd : Value} {cl : List (Str × Addr)} {outer : List Env} {A₀ : Around} {base h₀ : Heap} {L : Addr} {m : Str → Option Value} {news : List (Addr × Obj)} {s : Shared}
    {x : Str} {t : Tok} {o ty : Addr} {os : Array Value} {ts : Array Value} {k k2 : Nat} {inner : Value} {Q E : Value → Shared → Prop}
    (ho : (o, listOf os k) ∈ news) (ht : (ty, listOf ts k2) ∈ news) (hz : os.size ≤ 100) (hz2 : ts.size ≤ 100)
    (B : Below A₀ base outer h₀) (F : Fr h₀ L s.heap m) (X : (Mine.hd.heap_1 w.params).In h₀) (N : News h₀ L s.heap news) (T : Top vw lz mean mg mb h₀) (hk : cs.kind = .function)
    (hd : dp + 12 < recursionLimit) (hu : un + 100 < cLine)
    (hret : ∀ e d R P c t1 t2 t3 t4 h' tk', Fr h₀ L h' m → News h₀ L h' ((e, instObj 83 d) :: (d, scD w t1 t2 t3 t4 (.str x t) (.ref R) (.ref P) inner) :: (R, tupO os) :: (P, listOf ts c) :: news) → (∀ p ∈ news, p.1 < e) → Q (.ref e) { s with heap := h', toks := tk' }) :
    wpAny (model PySem.Challenge.rw_xm0579_01.row.prog w) (ktrTop dp un gd cn cs L a ccd cl outer) (call (.ref 83) [.str x t, .ref o, .ref ty, inner]) Q E s :=
  scope_spec w mean mg mb dp un gd cn cs a ccd cl outer A₀ base h₀ L m news s x t o ty os ts k2 inner Q E B F X N T hk (.inl ⟨k, ho⟩) ht hz hz2 hd hu hret
theorem lines_18_4 : True := by
  k_with "call ref" => (k_here; (with_reducible show wpAny _ _ (call (Value.ref 83) _) _ _ _); k_dflt (
        refine' scope_useL ?zzho ?zzht ?zzhz ?zzhz2 ?zzkB ?zzkF ?zzkX ?zzkN ?zzkT ?zzkK ?zzkd ?zzku ?_
        (case zzkF => k_asm)
        (case zzkN => k_asm)
        (case zzho => k_mem)
        (case zzht => k_mem)
        (case zzkB => k_asm)
        (case zzkX => k_asm)
        (case zzkT => k_asm)
        (case zzkK => first | exact rfl | assumption)
        (case zzkd => ktr_room)
        (case zzku => ktr_units)
        (case zzhz => k_extra "m:size")
        (case zzhz2 => k_extra "m:size")
        (intro e' d' R' P' c' t1' t2' t3' t4' h' tk' F' N' l1)
        (try k_lt l1)
        refine Held.intro ?_))
  k_with "CompSrc" => (k_here; (first
        | (with_reducible show LCg.CompSrc _ _ _ _ _ _ _ (PySem.Expr.Call _ _ _ _) _ _ _ _ _ _)
        | (with_reducible show LCg.CompSrc _ _ _ _ _ _ _ (PySem.Expr.Tuple _ _ _) _ _ _ _ _ _)); refine Held.intro ?_)
  k_with "CompEnd" => (k_here; refine Held.intro ?_)
  k_with "m:subl" => first
        | (refine List.forall_mem_cons.mpr ⟨?_, ?_⟩; (focus k_mem); (focus k_extra "m:subl"))
        | (intro p9 h9; simp only [List.mem_cons]; simp only [h9, true_or, or_true]; done)
  exact trivial
noncomputable def RJ (src : Addr) (n : Nat) (kp : List (Addr × Obj)) (i : Nat) (ys : List Value) (led : List (Addr × Obj)) : Prop :=
  ∃ zs x y t u, ys = sv zs ∧ led = (src, listOf #[.int x t, .int y u] n) :: kp ∧ 0 ≤ x ∧ 0 ≤ y ∧ y < 2147483647 ∧ zs.length = i ∧ ∀ p ∈ zs, p.1.length ≤ 10
section
variable {prog : Program} {w : World} {A : Around} {h₀ : Heap} {L : Addr} {m : Str → Option Value} {env : Env}
theorem src_rangeP {elt : PySem.Expr} {x : Str} {scope : Scope} {cl : List (Str × Addr)} {Fin : Shared → List Value → List (Addr × Obj) → Prop} {r src : Addr} {osrc : Obj} {d : Int} {t u v : Tok} {led news : List (Addr × Obj)} {s₁ : Shared}
    (hh : A.handled = none) (F : Fr h₀ L s₁.heap m) (N : News h₀ L s₁.heap led) (P : Pick src osrc led news) (hr : IsRange s₁.heap r 0 d 1 t u v) (h1 : 0 ≤ d) (h2 : d ≤ 4)
    (h : ∀ n : Nat, (n : Int) = d → ∀ g, LCg.CompRest prog w A h₀ L m env elt x scope cl { s₁ with heap := g } (fun _ => True) (fun i v => ∃ t, v = .int (0 + (i : Int)) t) (Fin { s₁ with heap := g }) n 0 [] ((src, osrc) :: news)) :
    LCg.CompSrc prog w A h₀ L m env elt x scope cl Fin (.ref r) s₁ := src_range hh F (P.news N) hr h1 h2 h
end

theorem sepS {h₀ h : Heap} {L e d R P src : Addr} {oe : Obj} {es} {ke : Nat} {A : Array Value} {ts : List Row} {c n : Nat} {x y : Int} {t u : Tok} {led : List (Addr × Obj)}
    (N : News h₀ L h ((e, oe) :: (d, dictOf es ke) :: (R, tupO A) :: (P, listOf (rv ts).toArray c) :: led)) (hs : (src, listOf #[.int x t, .int y u] n) ∈ led) : d ≠ src ∧ R ≠ src ∧ P ≠ src := by
  have hS := (N _ (.tail _ (.tail _ (.tail _ (.tail _ hs))))).1
  refine ⟨fun q => ?_, fun q => ?_, fun q => ?_⟩
  · have h1 := (N _ (.tail _ (.head _))).1
    rw [q, hS] at h1; simp at h1
  · have h1 := (N _ (.tail _ (.tail _ (.head _)))).1
    rw [q, hS] at h1; simp at h1
  · have h1 := (N _ (.tail _ (.tail _ (.tail _ (.head _))))).1
    rw [q, hS] at h1
    cases ts with
    | nil => cases h1
    | cons p tl => simp at h1
theorem sepC {h₀ h : Heap} {L e d R P src : Addr} {oe oc : Obj} {es} {ke : Nat} {A : Array Value} {B : Array Value} {c : Nat} {led : List (Addr × Obj)} {v : Option Value}
    (N : News h₀ L h ((e, oe) :: (d, dictOf es ke) :: (R, tupO A) :: (P, listOf B c) :: led)) {nw : List (Addr × Obj)} (he : LCg.Off1 src nw) (hs : (src, oc) ∈ led) (hd : oc.data = .cell v) : d ≠ src ∧ R ≠ src ∧ P ≠ src := by
  have hS := (N _ (.tail _ (.tail _ (.tail _ (.tail _ hs))))).1
  refine ⟨fun q => ?_, fun q => ?_, fun q => ?_⟩
  · have h1 := (N _ (.tail _ (.head _))).1
    rw [q, hS] at h1; injection h1 with h1; dsimp only at h1; rw [h1] at hd; cases hd
  · have h1 := (N _ (.tail _ (.tail _ (.head _)))).1
    rw [q, hS] at h1; injection h1 with h1; dsimp only at h1; rw [h1] at hd; cases hd
  · have h1 := (N _ (.tail _ (.tail _ (.tail _ (.head _))))).1
    rw [q, hS] at h1; injection h1 with h1; dsimp only at h1; rw [h1] at hd; cases hd
theorem off_19 : True := by
  w_top off
  exact trivial
noncomputable def TestEnd (h₀ : Heap) (L : Addr) (m : Str → Option Value) (s : Shared) (all : List (Addr × Obj)) (b ok : Bool) (s' : Shared) : Prop :=
  ok = b ∧ ∃ h' tk', s' = { s with heap := h', toks := tk' } ∧ Fr h₀ L h' m ∧ News h₀ L h' all
section
variable {prog : Program} {w : World} {A : Around} {E : Value → Shared → Prop} {R : Result → Shared → Prop} {s : Shared} {h₀ : Heap} {L : Addr} {m : Str → Option Value}
theorem loopPT {x x2 : Str} {px px2 tp pe : Pos} {tk1} {iter ct : PySem.Expr} {scope : Scope} {cl : List (Str × Addr)} {pos : Pos} {env : Env} {I D C ax : Addr} {qs : List Row} {c : Row → Bool} {m0 : Str → Option Value} {news : List (Addr × Obj)} {k : Nat}
    (hh : A.handled = none) (hk : scope.kind = .function) (hx : scope.names.lookup x = some .local) (hx2 : scope.names.lookup x2 = some .local) (hxx : x ≠ x2) (hd : (x == ("__debug__" : Str)) = false)
    (hit : s.heap.IsListIter I ax 0) (hn : s.heap.Ns C m0) (F : Fr h₀ L s.heap m) (N : News h₀ L s.heap ((D, LCg.lst []) :: news)) (hax : (ax, listOf (rv qs).toArray k) ∈ news) (hq : RowsIn news qs)
    (off : LCg.Off3 I C D news) (IC : I ≠ C) (ID : I ≠ D) (CD : C ≠ D) (hI₀ : h₀.get? I = none) (hC₀ : h₀.get? C = none) (hD₀ : h₀.get? D = none) (IL : L ≠ I) (CL : C ≠ L) (DL : D ≠ L) (hz : qs.length ≤ 1000)
    (test : ∀ p ∈ qs, ∀ oI oC ys m₂ h tk (E' : Value → Shared → Prop), LCg.NsObj oC m₂ → m₂ x = some (.str p.2.1 p.2.2.1) → Fr h₀ L h m → News h₀ L h ((I, oI) :: (C, oC) :: (D, LCg.lst ys) :: news) →
      wpAny (model prog w) A (isTrue ct (compEnvC scope cl C env) (eval ct (compEnvC scope cl C env))) (TestEnd h₀ L m { s with heap := h, toks := tk } ((I, oI) :: (C, oC) :: (D, LCg.lst ys) :: news) (c p)) E' { s with heap := h, toks := tk })
    (hR : ∀ h tk m', Fr h₀ L h m → News h₀ L h ((D, LCg.lst (sv (nmv (qs.filter c)))) :: news) → h.Ns C m' → R (.ok .next) { s with heap := h, toks := tk }) :
    codeAny (model prog w) A (.compLoop (.ListComp (.Name x pe) [⟨.Tuple [.Name x px, .Name x2 px2] tk1 tp, iter, [ct], 0⟩] scope pos) 0 (.ref I) (.ref D) (compEnvC scope cl C env)) R s := by
  refine codeAny_loop rfl (fun n s' => ∃ h' tk i m', s' = { s with heap := h', toks := tk } ∧ i ≤ qs.length ∧ n = qs.length + 1 - i ∧ h'.IsListIter I ax i ∧ Fr h₀ L h' m ∧
      News h₀ L h' ((D, LCg.lst (sv (nmv ((qs.take i).filter c)))) :: news) ∧ h'.Ns C m') ?_ (qs.length + 1)
    ⟨s.heap, s.toks, 0, m0, rfl, Nat.zero_le _, rfl, hit, F, by simpa using N, hn⟩
  rintro n s' ⟨h', tk, i, m', rfl, hi, rfl, hit', F', N', hn'⟩
  have off3 := off.mem
  show wpAny _ A ((compTurn (.ListComp (.Name x pe) [⟨.Tuple [.Name x px, .Name x2 px2] tk1 tp, iter, [ct], 0⟩] scope pos) 0 (.ref I) (.ref D) (compEnvC scope cl C env)).onRaise (fun x => do noteFrame x (compEnvC scope cl C env); theTreesLotGoes x)) _ _ _
  refine wpAny_noted ?_
  rw [compTurn_list]
  refine wpAny_bind (wpAny_standAt (wpAny_bind ?_))
  have hl' : h'.IsList ax (rv qs).toArray := isList_of N' (.tail _ hax)
  by_cases hlt : i < qs.length
  · refine wpAny_pyNext_list_item hit' hl' (x := .ref qs[i].1) (by simp [hlt]) fun h₂ hit₂ hs₂ => ?_
    have hk₂ : ∀ b o, b ∉ [I] → h'.get? b = some o → h₂.get? b = some o := fun b o hb e => hs₂.extBut b o (by simpa using hb) e
    have F₂ := LCg.fr_but F' hk₂ IL hI₀
    have N₂ : News h₀ L h₂ ((D, LCg.lst (sv (nmv ((qs.take i).filter c)))) :: news) := LCg.news_but N' hk₂ fun p hp => by
      rcases List.mem_cons.mp hp with rfl | hp
      · exact Ne.symm ID
      · exact (off3 p hp).1
    have hrow := hq _ (List.getElem_mem hlt)
    have ht : IsTup h₂ qs[i].1 #[.str qs[i].2.1 qs[i].2.2.1, qs[i].2.2.2] := ⟨_, (N₂ _ (.tail _ hrow)).1, rfl, _, rfl⟩
    refine wpAny_bind (wpAny_letOwnedTupleGo_listiter hit₂ (wpAny_bind ?_))
    refine assign_Tuple_tuple hh ht rfl rfl fun h₅ he => ?_
    have he' : ∀ b o, h₂.get? b = some o → h₅.get? b = some o := fun b o e => he b o (Nat.ne_of_lt (Heap.lt_size e)) e
    have hkf : ∀ (y : Str), scope.names.lookup y = some .local → (compEnvC scope cl C env).kindOf y = some .local := fun y hy => lookup_relabel_local hy
    refine assignInOrder_cons (wpAny_assign_Name (wpAny_storeName_local (hkf _ hx) ((hn'.at' fun o e => hk₂ _ o (by simpa using Ne.symm IC) e).at' fun o e => he' _ o e) (fun h₆ hn₆ hs₆ => ?_) (by simp [compEnvC, relabel, hk])))
    refine assignInOrder_cons (wpAny_assign_Name (wpAny_storeName_local (hkf _ hx2) hn₆ (fun h₃ hn₃ hs₃ => ?_) (by simp [compEnvC, relabel, hk])))
    refine assignInOrder_nil ?_
    have keep₃ : ∀ b o, b ≠ C → h₂.get? b = some o → h₃.get? b = some o := fun b o hb e => hs₃.extBut b o hb (hs₆.extBut b o hb (he' b o e))
    have hit₃ : h₃.IsListIter I ax (i + 1) := hit₂.at fun o e => keep₃ _ o IC e
    obtain ⟨oI, heI, rI⟩ := hit₃
    obtain ⟨oC, heC, hoC⟩ := LCg.ns_obj hn₃
    have F₃ : Fr h₀ L h₃ m := ((F₂.keeps he').change hs₆ CL hC₀).change hs₃ CL hC₀
    have N₃ : News h₀ L h₃ ((I, oI) :: (C, oC) :: (D, LCg.lst (sv (nmv ((qs.take i).filter c)))) :: news) := fun p hp => by
      rcases List.mem_cons.mp hp with rfl | hp
      · exact ⟨heI, Ne.symm IL, hI₀⟩
      · rcases List.mem_cons.mp hp with rfl | hp
        · exact ⟨heC, CL, hC₀⟩
        · refine ⟨keep₃ _ _ ?_ (N₂ p hp).1, (N₂ p hp).2⟩
          rcases List.mem_cons.mp hp with rfl | hp
          · exact Ne.symm CD
          · exact (off3 p hp).2.1
    refine wpAny_bind (wpAny_mono (wpAny_tests_one (test qs[i] (List.getElem_mem hlt) oI oC _ _ h₃ _ _ hoC (by simp [hxx]) F₃ N₃)) (fun ok s₄ h₄ => ?_) fun _ _ e => e)
    obtain ⟨rfl, h₄, tk₄, rfl, F₄, N₄⟩ := h₄
    have e1 : qs.take (i + 1) = qs.take i ++ [qs[i]] := by rw [List.take_add_one, List.getElem?_eq_getElem hlt]; rfl
    have hit₄ : h₄.IsListIter I ax (i + 1) := ⟨_, (N₄ _ (.head _)).1, rI⟩
    have hn₄ := hoC.ns (N₄ _ (.tail _ (.head _))).1
    have N₄' : News h₀ L h₄ ((D, LCg.lst (sv (nmv ((qs.take i).filter c)))) :: news) := fun p hp => N₄ p (.tail _ (.tail _ hp))
    cases hc : c qs[i] with
    | false =>
      refine wpAny_pure ⟨rfl, qs.length + 1 - (i + 1), by omega, h₄, tk₄, i + 1, _, rfl, hlt, rfl, hit₄, F₄, ?_, hn₄⟩
      rw [e1, List.filter_append, List.filter_cons_of_neg (by simp [hc]), List.filter_nil, List.append_nil]
      exact N₄'
    | true =>
      refine wpAny_bind (wpAny_bind (ldVarK hn₄ (v := .str qs[i].2.1 qs[i].2.2.1) (by simp [hxx]) ?_ hk (hkf _ hx) hd))
      have hlen : (sv (nmv ((qs.take i).filter c))).length ≤ 1000 := by
        simp only [List.length_map]
        exact Nat.le_trans (List.length_filter_le _ _) (by rw [List.length_take]; omega)
      refine wpAny_bind (append_at (hsz := by rw [List.size_toArray, PySem.sizeLine_eq]; omega) (N₄' _ (.head _)).1 fun h₅ hs₅ hD₅ => ?_)
      refine wpAny_pure (wpAny_pure ⟨rfl, qs.length + 1 - (i + 1), by omega, h₅, _, i + 1, _, rfl, hlt, rfl, hit₄.at fun o e => hs₅.extBut _ _ ID e, F₄.change hs₅ DL hD₀, fun p hp => ?_, hn₄.sameBut hs₅ CD⟩)
      rcases List.mem_cons.mp hp with rfl | hp
      · refine ⟨hD₅.trans ?_, DL, hD₀⟩
        rw [LCg.lst_snoc, e1, List.filter_append, List.filter_cons_of_pos (by simp [hc]), List.filter_nil]
        simp only [List.map_append, List.map_cons, List.map_nil]
      · exact ⟨hs₅.extBut _ _ (off3 p hp).2.2 (N₄' p (.tail _ hp)).1, (N₄' p (.tail _ hp)).2⟩
  · obtain rfl : i = qs.length := Nat.le_antisymm hi (Nat.not_lt.mp hlt)
    refine wpAny_pyNext_list_end hh hit' hl' (by simp) fun h₂ he₂ => ?_
    have hk₂ : ∀ b o, b ∉ [I] → h'.get? b = some o → h₂.get? b = some o := fun b o hb e => he₂ b o (by simpa using hb) e
    refine wpAny_pure (hR h₂ _ m' (LCg.fr_but F' hk₂ IL hI₀) (LCg.news_but (by simpa using N') hk₂ fun p hp => ?_) (hn'.at' fun o e => he₂ _ o (Ne.symm IC) e))
    rcases List.mem_cons.mp hp with rfl | hp
    · exact Ne.symm ID
    · exact (off3 p hp).1
theorem Assign_PT {x x2 y : Str} {px px2 tp pe py : Pos} {tk1} {iter ct : PySem.Expr} {scope : Scope} {cl : List (Str × Addr)} {pos spos : Pos} {env : Env} {ax : Addr} {qs : List Row} {c : Row → Bool} {news : List (Addr × Obj)} {k : Nat} {Q : Flow → Shared → Prop}
    (F₀ : Fr h₀ L s.heap m) (hLe : env.locals = L) (hh : A.handled = none)
    (hsw : swapsWith (.ListComp (.Name x pe) [⟨.Tuple [.Name x px, .Name x2 px2] tk1 tp, iter, [ct], 0⟩] scope pos) (some (.Name y py)) spos.line env = pure true)
    (hclos : closureFor scope env = pure cl) (hcell : ∀ z ∈ scope.names, z.2 ≠ .cell) (hkind : scope.kind = .function)
    (hnames : ∀ z ∈ scope.names, z.2 = .local → scope.names.lookup z.1 = some .local) (hx : scope.names.lookup x = some .local) (hx2 : scope.names.lookup x2 = some .local)
    (hxx : x ≠ x2) (hd : (x == ("__debug__" : Str)) = false)
    (hy : env.kindOf y = some .local) (hp : (env.scope.kind == .class || (env.scope.kind == .module && env.locals != env.globals)) = false)
    (hs : ∀ x, foldedSetIterable iter env x = pure x)
    (hit : ∀ Q' : Value → Shared → Prop, Q' (.ref ax) s → wpAny (model prog w) A (eval iter env) Q' E s)
    (N : News h₀ L s.heap news) (hax : (ax, listOf (rv qs).toArray k) ∈ news) (hq : RowsIn news qs) (hz : qs.length ≤ 1000)
    (test : ∀ p ∈ qs, ∀ I oI C oC D ys m₂ h tk (E' : Value → Shared → Prop), LCg.NsObj oC m₂ → m₂ x = some (.str p.2.1 p.2.2.1) → Fr h₀ L h m → News h₀ L h ((I, oI) :: (C, oC) :: (D, LCg.lst ys) :: news) →
      wpAny (model prog w) A (isTrue ct (compEnvC scope cl C env) (eval ct (compEnvC scope cl C env))) (TestEnd h₀ L m { s with heap := h, toks := tk } ((I, oI) :: (C, oC) :: (D, LCg.lst ys) :: news) (c p)) E' { s with heap := h, toks := tk })
    (h : ∀ D h' tk, Fr h₀ L h' (fun z => if z = y then some (.ref D) else m z) → News h₀ L h' ((D, LCg.lst (sv (nmv (qs.filter c)))) :: news) → (∀ p ∈ news, p.1 < D) → Q .next { s with heap := h', toks := tk }) :
    wpAny (model prog w) A (exec (.Assign [.Name y py] (.ListComp (.Name x pe) [⟨.Tuple [.Name x px, .Name x2 px2] tk1 tp, iter, [ct], 0⟩] scope pos) spos) env) Q E s := by
  subst hLe
  rw [exec_Assign_Name_used _ _ _ _ hsw]
  refine wpAny_bind (wpAny_standAt (wpAny_bind ?_))
  show wpAny _ A (do let _ ← comprehension (.ListComp (.Name x pe) [⟨.Tuple [.Name x px, .Name x2 px2] tk1 tp, iter, [ct], 0⟩] scope pos) scope env _ (newList []) false (eval iter env) (some (assign (.Name y py) env))) _ _ s
  refine wpAny_bind (wpAny_mono (wpAny_comprehension_free (use := some (assign (.Name y py) env)) (Q := fun _ s' => Q .next s') rfl hs hclos hkind hnames (hit _ ?_)) (fun _ s' hq => wpAny_pure (wpAny_pure hq)) fun _ _ e => e)
  have hl : s.heap.IsList ax (rv qs).toArray := isList_of N hax
  refine wpAny_pyIter_list hl ?_
  have zt : ∀ {a o}, (a, o) ∈ news → s.heap.get? a = some o := fun hm => (N _ hm).1
  have lt : ∀ {a o}, s.heap.get? a = some o → @LT.lt Nat _ a s.heap.objs.size := fun e => Heap.lt_size e
  refine wpAny_newObj_type (wpAny_newFunctionEnv hcell (by intro y hy; simp at hy) (fun h₁ hns₁ hsb₁ => ?_) hkind)
  dsimp only at hns₁ hsb₁ ⊢
  generalize hH1 : s.heap.push { cls := .type "list_iterator", data := .fields #[.ref ax, .int 0 0] } = H1 at hns₁ hsb₁ ⊢
  have hD1 : H1.objs.size = s.heap.objs.size + 1 := by rw [← hH1, Heap.size_push]
  generalize hH2 : H1.push { cls := .type "list", dict := none, data := .seq ([] : List Value).toArray } = H2 at hns₁ hsb₁ ⊢
  have hC1 : H2.objs.size = s.heap.objs.size + 2 := by rw [← hH2, Heap.size_push, hD1]
  have up1 : ∀ {a o}, s.heap.get? a = some o → H1.get? a = some o := fun e => hH1 ▸ Heap.get?_push_of_some _ e
  have up2 : ∀ {a o}, H1.get? a = some o → (H2.push { cls := .type "dict", data := .dict #[] }).get? a = some o := fun e => Heap.get?_push_of_some _ (hH2 ▸ Heap.get?_push_of_some _ e)
  have ltC : ∀ {a : Nat}, a < s.heap.objs.size + 2 → a ≠ H2.objs.size := fun h => by rw [hC1]; exact Nat.ne_of_lt h
  have keep1 : ∀ a o, H1.get? a = some o → a ≠ H2.objs.size → h₁.get? a = some o := fun a o e h => hsb₁.extBut _ _ h (up2 e)
  have ltn : ∀ {a o}, s.heap.get? a = some o → a ≠ s.heap.objs.size ∧ a ≠ H2.objs.size ∧ a ≠ H1.objs.size := fun e => by
    have := lt e
    exact ⟨Nat.ne_of_lt this, by rw [hC1]; exact Nat.ne_of_lt (Nat.lt_succ_of_lt (Nat.lt_succ_of_lt this)), by rw [hD1]; exact Nat.ne_of_lt (Nat.lt_succ_of_lt this)⟩
  have old : ∀ a o, s.heap.get? a = some o → h₁.get? a = some o := fun a o e => keep1 _ _ (up1 e) (ltn e).2.1
  have hI₁ : h₁.get? s.heap.objs.size = some { cls := .type "list_iterator", data := .fields #[.ref ax, .int 0 0] } := keep1 _ _ (hH1 ▸ Heap.get?_push_size _ rfl) (ltC (by omega))
  have hD₁ : h₁.get? H1.objs.size = some (LCg.lst []) := hsb₁.extBut _ _ (ltC (by rw [hD1]; omega)) (Heap.get?_push_of_some _ (hH2 ▸ Heap.get?_push_size _ rfl))
  have hIC : s.heap.objs.size ≠ H2.objs.size := ltC (by omega)
  have hID : s.heap.objs.size ≠ H1.objs.size := by rw [hD1]; omega
  have hCD : H2.objs.size ≠ H1.objs.size := by rw [hD1, hC1]; omega
  have fresh₀ : ∀ a, s.heap.objs.size ≤ a → h₀.get? a = none := fun a ha => by
    cases e : h₀.get? a with
    | none => rfl
    | some o' => exact absurd (Heap.lt_size (F₀.keep a o' e)) (Nat.not_lt.mpr ha)
  have hL₀ : h₀.get? env.locals = none := Heap.get?_none_of_le F₀.above
  have hLlt : @LT.lt Nat _ env.locals s.heap.objs.size := F₀.ns.lt
  have hCL : H2.objs.size ≠ env.locals := by rw [hC1]; exact Nat.ne_of_gt (Nat.lt_of_lt_of_le hLlt (Nat.le_add_right _ 2))
  have hDL : H1.objs.size ≠ env.locals := by rw [hD1]; exact Nat.ne_of_gt (Nat.lt_succ_of_lt hLlt)
  have hC₀ := fresh₀ H2.objs.size (by rw [hC1]; exact Nat.le_add_right _ 2)
  have hD₀ := fresh₀ H1.objs.size (by rw [hD1]; exact Nat.le_succ _)
  have F₁ : Fr h₀ env.locals h₁ m := F₀.keeps old
  have N₁ : News h₀ env.locals h₁ ((H1.objs.size, LCg.lst []) :: news) := fun p hp => by
    rcases List.mem_cons.mp hp with rfl | hp
    · exact ⟨hD₁, hDL, hD₀⟩
    · exact ⟨old _ _ (N p hp).1, (N p hp).2⟩
  have loop : ∀ s₃ : Shared, s₃ = { s with heap := h₁, toks := s.toks + ([] : List (Str × Value)).length } →
      codeAny (model prog w) A (.compLoop (.ListComp (.Name x pe) [⟨.Tuple [.Name x px, .Name x2 px2] tk1 tp, iter, [ct], 0⟩] scope pos) 0 (.ref s.heap.objs.size) (.ref H1.objs.size) (compEnvC scope cl H2.objs.size env))
        (compPost (model prog w) A E (some (assign (.Name y py) env)) (fun _ s' => Q .next s') (.ref H1.objs.size) H2.objs.size) s₃ := by
    rintro s₃ rfl
    refine loopPT (c := c) hh hkind hx hx2 hxx hd ⟨_, hI₁, rfl, rfl⟩ hns₁ F₁ N₁ hax hq (LCg.Off3.of fun p hp => ⟨(ltn (N p hp).1).1, (ltn (N p hp).1).2.1, (ltn (N p hp).1).2.2⟩) hIC hID hCD (fresh₀ _ (Nat.le_refl _)) hC₀ hD₀ (Nat.ne_of_lt hLlt) hCL hDL hz
      (fun p hp oI oC ys m₂ h tk E' => test p hp _ oI _ oC _ ys m₂ h tk E') ?_
    intro h' tk m' F' N' hn'
    show wpAny _ A (assign (.Name y py) env (.ref H1.objs.size)) _ _ _
    refine wpAny_assign_Name (wpAny_storeName_local hy F'.ns (fun h₂ hn₂ hs₂ => ?_) hp)
    have F₂ : Fr h₀ env.locals h₂ (fun z => if z = y then some (.ref H1.objs.size) else m z) := ⟨hn₂, fun b o e => hs₂.extBut b o (fun q => by rw [q, hL₀] at e; cases e) (F'.keep b o e), F'.above⟩
    refine ⟨m', hn'.sameBut hs₂ hCL, fun h'' hs'' => h _ h'' _ (F₂.change hs'' hCL hC₀) (fun p hp => ?_) (fun p hp => by rw [hD1]; exact Nat.lt_succ_of_lt (lt (N p hp).1))⟩
    refine ⟨hs''.extBut _ _ ?_ (hs₂.extBut _ _ (N' p hp).2.1 (N' p hp).1), (N' p hp).2⟩
    rcases List.mem_cons.mp hp with rfl | hp
    · exact Ne.symm hCD
    · exact (ltn (N p hp).1).2.1
  exact codeAny_compStart_list (loop _ rfl) (wpAny_pyIter_listiter ⟨_, hI₁, rfl, rfl⟩ (loop _ rfl))
theorem filterT {x : Str} {pe : Pos} {ct : PySem.Expr} {scope : Scope} {cl : List (Str × Addr)} {env : Env} {Fin : Shared → List Value → List (Addr × Obj) → Prop} {ax : Addr} {rs : List (Str × Tok)} {c : Str × Tok → Bool} {k : Nat} {news : List (Addr × Obj)}
    (hh : A.handled = none) (F : Fr h₀ L s.heap m) (N : News h₀ L s.heap news) (hm : (ax, listOf (sv rs).toArray k) ∈ news) (hz : rs.length ≤ 1000) (hk : scope.kind = .function) (hx : scope.names.lookup x = some .local) (hd : (x == ("__debug__" : Str)) = false)
    (test : ∀ p ∈ rs, ∀ I oI C oC D ys m₂ (g : Heap) h tk (E' : Value → Shared → Prop), LCg.NsObj oC m₂ → m₂ x = some (.str p.1 p.2) → Fr h₀ L h m → News h₀ L h ((I, oI) :: (C, oC) :: (D, LCg.lst ys) :: news) →
      wpAny (model prog w) A (isTrue ct (compEnvC scope cl C env) (eval ct (compEnvC scope cl C env))) (TestEnd h₀ L m { s with heap := h, toks := tk } ((I, oI) :: (C, oC) :: (D, LCg.lst ys) :: news) (c p)) E' { s with heap := h, toks := tk })
    (fin : ∀ g, Fin { s with heap := g } (sv (rs.filter c)) news) :
    LCt.CompSrcT prog w A h₀ L m env ct (.Name x pe) x scope cl Fin (.ref ax) s := by
  refine LCt.CompSrcT.ledger hh F N hm (by rw [PySem.sizeLine_eq]; simp; omega) fun g => ?_
  have key : ∀ j i ys, i + j = rs.length → ys = sv ((rs.take i).filter c) → LCt.CompRestT prog w A h₀ L m env ct (.Name x pe) x scope cl { s with heap := g } (LCg.SrcAt h₀ ax (sv rs).toArray) (fun i v => (sv rs).toArray[i]? = some v) (Fin { s with heap := g }) j i ys news := by
    intro j
    induction j with
    | zero =>
      intro i ys hi hy
      refine LCt.CompRestT.zero ?_
      obtain rfl : i = rs.length := by omega
      rw [hy, List.take_length]; exact fin g
    | succ j ih =>
      intro i ys hi hy
      have hlt : i < rs.length := by omega
      refine LCt.CompRestT.succ fun v I oI C oC D m₂ h tk E' hv hC hxv F N off ne => ?_
      obtain rfl : v = .str rs[i].1 rs[i].2 := by
        have : (sv rs).toArray[i]? = some (.str rs[i].1 rs[i].2) := by simp [hlt]
        rw [this] at hv
        exact (Option.some.inj hv).symm
      have e : rs.take (i + 1) = rs.take i ++ [rs[i]] := by rw [List.take_add_one, List.getElem?_eq_getElem hlt]; rfl
      refine wpAny_mono (test rs[i] (List.getElem_mem hlt) I oI C oC D ys m₂ g h tk _ hC hxv F N) (fun ok s' z => ?_) fun _ _ e => e
      obtain ⟨rfl, h', tk', rfl, F', N'⟩ := z
      cases hc : c rs[i] with
      | true =>
        simp only [if_true]
        refine ldVarK (hC.ns (N' (C, oC) (.tail _ (.head _))).1) hxv ?_ hk (lookup_relabel_local hx) hd
        refine LCg.CompEnd.intro F' N' news (fun p hp => hp) off (.inr ⟨_, hm, rfl, _, rfl⟩) (ih (i + 1) _ (by omega) ?_)
        rw [hy, e, List.filter_append, List.filter_cons_of_pos (by simp [hc]), List.filter_nil]
        simp only [List.map_append, List.map_cons, List.map_nil]
      | false =>
        simp only [Bool.false_eq_true, if_false]
        refine LCg.CompEnd.intro F' N' news (fun p hp => hp) off (.inr ⟨_, hm, rfl, _, rfl⟩) (ih (i + 1) _ (by omega) ?_)
        rw [hy, e, List.filter_append, List.filter_cons_of_neg (by simp [hc]), List.filter_nil, List.append_nil]
  have := key rs.length 0 [] (by simp) (by simp)
  simpa using this
end
section
variable {prog : Program} {w : World} {A : Around} {E : Value → Shared → Prop} {s : Shared} {h₀ : Heap} {L a b : Addr} {led : List (Addr × Obj)} {Q : Value → Shared → Prop}
theorem allT : ∀ n, (List.range n).all (fun _ => true) = true := fun n => by simp
theorem eqAt_tups {B : Around} {as bs : Array Value} (N : News h₀ L s.heap led) (ha : (a, tupO as) ∈ led) (hb : (b, tupO bs) ∈ led) (e : as = bs) (hu : B.units < cLine) : PySem.SeqAt.EqAt B s (.ref a) (.ref b) true := by
  subst e
  by_cases h : a = b
  · subst h; exact PySem.SeqAt.EqAt.same _
  · refine PySem.SeqAt.EqAt.of_refs h ?_
    have := PySem.SeqAt.RcAt.tuples (s := s) (A := B) (e := fun _ => true) (l := a) (b := b) ⟨_, (N _ ha).1, rfl, _, rfl⟩ ⟨_, (N _ hb).1, rfl, _, rfl⟩ hu (fun j h1 h2 => PySem.SeqAt.EqAt.same _)
    simp only [allT, Nat.min_self, beq_self_eq_true, Bool.and_self] at this
    exact this
theorem eqAt_lists {B : Around} {as bs : Array Value} {k k2 : Nat} (N : News h₀ L s.heap led) (ha : (a, listOf as k) ∈ led) (hb : (b, listOf bs k2) ∈ led) (e : as = bs) (hu : B.units < cLine) : PySem.SeqAt.EqAt B s (.ref a) (.ref b) true := by
  subst e
  by_cases h : a = b
  · subst h; exact PySem.SeqAt.EqAt.same _
  · refine PySem.SeqAt.EqAt.of_refs h ?_
    have := PySem.SeqAt.RcAt.lists (s := s) (A := B) (e := fun _ => true) (l := a) (b := b) (isList_of N ha) (isList_of N hb) rfl hu (fun j h1 h2 => PySem.SeqAt.EqAt.same _)
    simp only [allT] at this
    exact this
theorem ne_row {x : Str} {t t' : Tok} {R R' P P' : Addr} {v : Value} {as bs cs ds : Array Value} {k k2 : Nat}
    (N : News h₀ L s.heap led) (ha : (a, tupO #[.str x t, .ref R, .ref P, v]) ∈ led) (hb : (b, tupO #[.str x t', .ref R', .ref P', v]) ∈ led) (hR : (R, tupO as) ∈ led) (hR' : (R', tupO bs) ∈ led) (hP : (P, listOf cs k) ∈ led) (hP' : (P', listOf ds k2) ∈ led)
    (e1 : as = bs) (e2 : cs = ds) (hu : A.units + 1 < cLine) (h : Q (.bool false) s) : wpAny (model prog w) A (compareOp .NotEq (.ref a) (.ref b)) Q E s := by
  refine PySem.SeqAt.RcNeAt.tuples (e := fun _ => true) ⟨_, (N _ ha).1, rfl, _, rfl⟩ ⟨_, (N _ hb).1, rfl, _, rfl⟩ (Nat.lt_of_succ_lt hu) (fun j h1 h2 => ?_) prog w E Q (by rw [allT]; exact h)
  have hj : j < 4 := h1
  match j, hj with
  | 0, _ => have := PySem.SeqAt.EqAt.str_str (A := A.in1) (s := s) x t x t'; simpa using this
  | 1, _ => exact eqAt_tups N hR hR' e1 (by simpa [Around.in1] using hu)
  | 2, _ => exact eqAt_lists N hP hP' e2 (by simpa [Around.in1] using hu)
  | 3, _ => exact PySem.SeqAt.EqAt.same _
theorem eq_msg {x x' : Str} {t t' u u' : Tok} {n : Int} (N : News h₀ L s.heap led) (ha : (a, tupO #[.str x t, .int n u]) ∈ led) (hb : (b, tupO #[.str x' t', .int n u']) ∈ led) (e : x = x') (hu : A.units < cLine) (h : Q (.bool true) s) :
    wpAny (model prog w) A (compareOp .Eq (.ref a) (.ref b)) Q E s := by
  subst e
  refine PySem.SeqAt.eq_tupleAt (e := fun _ => true) ⟨_, (N _ ha).1, rfl, _, rfl⟩ ⟨_, (N _ hb).1, rfl, _, rfl⟩ hu (fun j h1 h2 => ?_) (by rw [allT]; exact h)
  have hj : j < 2 := h1
  match j, hj with
  | 0, _ => have := PySem.SeqAt.EqAt.str_str (A := A.in1) (s := s) x t x t'; simpa using this
  | 1, _ => have := PySem.SeqAt.EqAt.int_int (A := A.in1) (s := s) n u n u'; simpa using this
theorem ne_nil {vs : List Value} {n k : Nat} (N : News h₀ L s.heap led) (ha : (a, listOf vs.toArray n) ∈ led) (hb : (b, listOf #[] k) ∈ led) (hu : A.units < cLine) (h : Q (.bool (!vs.isEmpty)) s) : wpAny (model prog w) A (compareOp .NotEq (.ref a) (.ref b)) Q E s := by
  cases vs with
  | nil => exact PySem.SeqAt.RcNeAt.lists (e := fun _ => true) (isList_of N ha) (isList_of N hb) rfl hu (fun j h1 _ => absurd h1 (by simp)) prog w E Q h
  | cons v tl => exact PySem.SeqAt.RcNeAt.lists_lengths (isList_of N ha) (isList_of N hb) (by simp) hu prog w E Q h
theorem head_list {v : Value} {tl : List Value} {k : Nat} {u : Tok} {value slice : PySem.Expr} (N : News h₀ L s.heap led) (hm : (a, listOf (v :: tl).toArray k) ∈ led) (h : Q v s)
    (hs : subscripted slice false (.ref a) (.int 0 u) = operate [.ref a, .int 0 u] (getItem (.ref a) (.int 0 u)) := by with_unfolding_all rfl) :
    wpAny (model prog w) A (subscriptTail value slice (.ref a) (.int 0 u)) Q E s := by
  have hl := isList_of N hm
  exact tail_any hl.typeIs slot_list_getitem.lookup (wpAny_getItem_list hl (Int.le_refl 0) (by decide) (x := v) (by simp) h) hs
end
noncomputable def cn1 (os rs : List (Str × Tok)) (t : Tok) (p : Str × Tok) : Bool := decide ((1 : Int) < (((os ++ rs ++ [(Str.ofString "'static", t)]).countP fun q => q.1 == p.1 : Nat) : Int))
theorem cn1_bad {os rs : List (Str × Tok)} {t : Tok} {p : Str × Tok} (h : p ∈ rs) : cn1 os rs t p = bad1 os rs p.1 := by
  have h1 : 0 < rs.countP fun q => q.1 == p.1 := List.countP_pos_iff.mpr ⟨p, h, by simp⟩
  have h2 : (os.any fun q => q.1 == p.1) = decide (0 < os.countP fun q => q.1 == p.1) := by
    rw [Bool.eq_iff_iff]
    simp [List.countP_pos_iff]
  have h3 : ([(Str.ofString "'static", t)].countP fun q => q.1 == p.1) = if p.1 == Str.ofString "'static" then 1 else 0 := by
    rw [List.countP_cons, List.countP_nil]
    simp only [Nat.zero_add]
    have : (Str.ofString "'static" == p.1) = (p.1 == Str.ofString "'static") := by rw [Bool.eq_iff_iff]; simp only [beq_iff_eq]; exact eq_comm
    rw [this]
  unfold cn1 bad1
  rw [List.countP_append, List.countP_append, h2, h3]
  rw [Bool.eq_iff_iff]
  simp only [decide_eq_true_eq, Bool.or_eq_true]
  generalize (p.1 == Str.ofString "'static") = bb
  generalize (os.countP fun q => q.1 == p.1) = n1 at *
  generalize (rs.countP fun q => q.1 == p.1) = n2 at *
  cases bb <;> simp <;> omega
theorem filter_none {α : Type} {l : List α} {c : α → Bool} (h : ∀ p ∈ l, c p = false) : l.filter c = [] := List.filter_eq_nil_iff.mpr fun p hp => by simp [h p hp]
theorem filter_first {α : Type} {l pre post : List α} {a : α} {c : α → Bool} (e : l = pre ++ a :: post) (h : ∀ p ∈ pre, c p = false) (ha : c a = true) : ∃ tl, l.filter c = a :: tl := by
  subst e
  rw [List.filter_append, filter_none h, List.filter_cons_of_pos ha]
  exact ⟨_, rfl⟩
theorem count3 {prog : Program} {w : World} {A : Around} {E : Value → Shared → Prop} {s : Shared} {h₀ : Heap} {L a : Addr} {news : List (Addr × Obj)} {os rs : List (Str × Tok)} {x x0 : Str} {t t0 : Tok} {k : Nat} {Q : Value → Shared → Prop}
    (N : News h₀ L s.heap news) (hm : (a, listOf (sv os ++ sv rs ++ [Value.str x0 t0]).toArray k) ∈ news) (h : Q (.int ((os ++ rs ++ [(x0, t0)]).countP fun p => p.1 == x : Nat) s.toks) { s with toks := s.toks + 1 }) : wpAny (model prog w) A (call (.builtin "list.count") [.ref a, .str x t]) Q E s :=
  count_svL (l := os ++ rs ++ [(x0, t0)]) (k := k) N (by rw [show sv (os ++ rs ++ [(x0, t0)]) = sv os ++ sv rs ++ [Value.str x0 t0] by simp [sv]]; exact hm) h
inductive ToldIs (w : World) (md : Str) (tm u : Tok) (inner : Value) (spot : Int) (os rs : List (Str × Tok)) (ts qs : List Row) : Addr → List (Addr × Obj) → Prop
  | A {pre x t post D tk1} (e : rs = pre ++ (x, t) :: post) (h : ∀ p ∈ pre, bad1 os rs p.1 = false) (hb : bad1 os rs x = true) : ToldIs w md tm u inner spot os rs ts qs D [(D, tupO #[.str (Str.ofString "the region " ++ x ++ Str.ofString " is told twice") tk1, .int spot u])]
  | B {pre p post D tk1} (h1 : ∀ p ∈ rs, bad1 os rs p.1 = false) (e : qs = pre ++ p :: post) (h : ∀ q ∈ pre, bad2 ts q.2.1 = false) (hb : bad2 ts p.2.1 = true) : ToldIs w md tm u inner spot os rs ts qs D [(D, tupO #[.str (Str.ofString "the generic " ++ p.2.1 ++ Str.ofString " is told twice") tk1, .int spot u])]
  | C {e d2 R2 P2 c q1 q2 q3 q4} (h1 : ∀ p ∈ rs, bad1 os rs p.1 = false) (h2 : ∀ q ∈ qs, bad2 ts q.2.1 = false) : ToldIs w md tm u inner spot os rs ts qs e [(e, instObj 83 d2), (d2, scD w q1 q2 q3 q4 (.str md tm) (.ref R2) (.ref P2) inner), (R2, tupO (sv os ++ sv rs).toArray), (P2, listOf (rv (ts ++ qs)).toArray c)]
theorem tried_use {w : World} {mean : ExcName → Option Value} {mg mb : Str → Option Value}
    {dp un : Nat} {gd : Option (List Code)} {cn : Str} {cs : Scope} {a : Addr} {ccd : Value} {cl : List (Str × Addr)} {outer : List Env} {A₀ : Around} {base h₀ : Heap} {L : Addr} {m : Str → Option Value} {news : List (Addr × Obj)} {s : Shared}
    {sc d R P rg pa : Addr} {t1 t2 t3 t4 tm u : Tok} {md : Str} {inner : Value} {os rs : List (Str × Tok)} {ts qs : List Row} {k : Nat} {spot : Int} {Q E : Value → Shared → Prop}
    (F : Fr h₀ L s.heap m) (N : News h₀ L s.heap news) (B : Below A₀ base outer h₀)
    (XB : (Mine.hd.heap_1 w.params).In base) (TB : Top vw lz mean mg mb base)
    (X : (Mine.hd.heap_1 w.params).In h₀) (T : Top vw lz mean mg mb h₀) (hk : cs.kind = .function)
    (g1 : (sc, instObj 83 d) ∈ news) (g2 : (d, scD w t1 t2 t3 t4 (.str md tm) (.ref R) (.ref P) inner) ∈ news) (g3 : (R, tupO (sv os).toArray) ∈ news) (g4 : (P, listOf (rv ts).toArray k) ∈ news) (g5 : RowsIn news ts)
    (g6 : (rg, tupO (sv rs).toArray) ∈ news) (g7 : (pa, tupO (rv qs).toArray) ∈ news) (g8 : RowsIn news qs) (z1 : os.length ≤ 10) (z2 : rs.length ≤ 10) (z3 : ts.length ≤ 10) (z4 : qs.length ≤ 10)
    (y1 : ∀ p ∈ rs, p.1.length ≤ 100) (y2 : ∀ p ∈ qs, p.2.1.length ≤ 100)
    (hin : handedIn inner = true)
    (hd : dp + 20 < recursionLimit) (hu : un + 300 < cLine)
    (hret : ∀ h₀' D tl h' tk', ToldIs w md tm u inner spot os rs ts qs D tl → KtsTurn (outer.filterMap (·.frame)) h₀ h₀' → Below A₀ base outer h₀' → (Mine.hd.heap_1 w.params).In h₀' → Top vw lz mean mg mb h₀' → Fr h₀' L h' m → News h₀' L h' (tl ++ news) → Q (.ref D) { s with heap := h', toks := tk' }) :
    wpAny (model PySem.Challenge.rw_xm0579_01.row.prog w) (ktrTop dp un gd cn cs L a ccd cl outer) (call (.ref 148) [.ref sc, .int spot u, .ref rg, .ref pa]) Q E s :=
  tried_spec w mean mg mb dp un gd cn cs a ccd cl outer A₀ base h₀ L m news s sc d R P rg pa t1 t2 t3 t4 tm u md inner os rs ts qs k spot Q E XB TB B F X N T hk g1 g2 g3 g4 g5 g6 g7 g8 z1 z2 z3 z4 y1 y2 hin hd hu
    (fun h₀' pre x t post D tk1 h' tk' e h hb T' B' X' P' F' N' => hret h₀' D _ h' tk' (.A e h hb) T' B' X' P' F' N')
    (fun h₀' pre p post D tk1 h' tk' h1 e h hb T' B' X' P' F' N' => hret h₀' D _ h' tk' (.B h1 e h hb) T' B' X' P' F' N')
    (fun h₀' e d2 R2 P2 c q1 q2 q3 q4 h' tk' h1 h2 T' B' X' P' F' N' => hret h₀' e _ h' tk' (.C h1 h2) T' B' X' P' F' (by rw [show rv (ts ++ qs) = rv ts ++ rv qs from List.map_append]; exact N'))
set_option maxRecDepth 100000 in
set_option maxHeartbeats 8000000 in
theorem row_spec : ∀ (w : World) (mean : ExcName → Option Value) (mg mb : Str → Option Value)
    (dp un : Nat) (gd : Option (List Code)) (cn : Str) (cs : Scope) (a : Addr) (ccd : Value) (cl : List (Str × Addr)) (outer : List Env) (A₀ : Around) (base h₀ : Heap) (L : Addr) (m : Str → Option Value) (news : List (Addr × Obj)) (s : Shared)
    (sc d R P : Addr) (t1 t2 t3 t4 tm : Tok) (md : Str) (v4 : Value) (Q E : Value → Shared → Prop)
    (B : Below A₀ base outer h₀) (F : Fr h₀ L s.heap m) (X : (Mine.hd.heap_1 w.params).In h₀) (N : News h₀ L s.heap news) (T : Top vw lz mean mg mb h₀) (hk : cs.kind = .function)
    (h1 : (sc, instObj 83 d) ∈ news) (h2 : (d, scD w t1 t2 t3 t4 (.str md tm) (.ref R) (.ref P) v4) ∈ news) (hin : handedIn v4 = true)
    (hd : dp + 12 < recursionLimit) (hu : un + 100 < cLine)
    (hret : ∀ D h' tk', Fr h₀ L h' m → News h₀ L h' ((D, tupO #[.str md tm, .ref R, .ref P, v4]) :: news) → Q (.ref D) { s with heap := h', toks := tk' }),
    wpAny (model PySem.Challenge.rw_xm0579_01.row.prog w) (ktrTop dp un gd cn cs L a ccd cl outer) (call (.ref 155) [.ref sc]) Q E s := by
  k_fill
  intro w mean mg mb dp un gd cn cs a ccd cl outer A₀ base h₀ L m news s sc d R P t1 t2 t3 t4 tm md v4 Q E B F X N T hk h1 h2 hin hd hu hret
  refine wpAny_call ?_
  k_dflt ktr_enter
  k_steps
  exact hret _ _ _ (by assumption) (by assumption)
theorem row_use {w : World} {mean : ExcName → Option Value} {mg mb : Str → Option Value}
    {dp un : Nat} {gd : Option (List Code)} {cn : Str} {cs : Scope} {a : Addr} {ccd : Value} {cl : List (Str × Addr)} {outer : List Env} {A₀ : Around} {base h₀ : Heap} {L : Addr} {m : Str → Option Value} {news : List (Addr × Obj)} {s : Shared}
    {sc d R P : Addr} {t1 t2 t3 t4 tm : Tok} {md : Str} {v4 : Value} {Q E : Value → Shared → Prop}
    (F : Fr h₀ L s.heap m) (N : News h₀ L s.heap news) (h1 : (sc, instObj 83 d) ∈ news) (h2 : (d, scD w t1 t2 t3 t4 (.str md tm) (.ref R) (.ref P) v4) ∈ news)
    (B : Below A₀ base outer h₀) (X : (Mine.hd.heap_1 w.params).In h₀) (T : Top vw lz mean mg mb h₀) (hk : cs.kind = .function) (hin : handedIn v4 = true)
    (hd : dp + 12 < recursionLimit) (hu : un + 100 < cLine)
    (hret : ∀ D h' tk', Fr h₀ L h' m → News h₀ L h' ((D, tupO #[.str md tm, .ref R, .ref P, v4]) :: news) → Q (.ref D) { s with heap := h', toks := tk' }) :
    wpAny (model PySem.Challenge.rw_xm0579_01.row.prog w) (ktrTop dp un gd cn cs L a ccd cl outer) (call (.ref 155) [.ref sc]) Q E s :=
  row_spec w mean mg mb dp un gd cn cs a ccd cl outer A₀ base h₀ L m news s sc d R P t1 t2 t3 t4 tm md v4 Q E B F X N T hk h1 h2 hin hd hu hret
theorem lines_19_1 : True := by
  k_with "call ref" => (k_here; (with_reducible show wpAny _ _ (call (Value.ref 155) _) _ _ _); k_dflt (
        refine' row_use ?zzkF ?zzkN ?zzh1 ?zzh2 ?zzkB ?zzkX ?zzkT ?zzkK ?zzhin ?zzkd ?zzku ?_
        (case zzkF => k_asm)
        (case zzkN => k_asm)
        (case zzh1 => k_mem)
        (case zzh2 => k_mem)
        (case zzkB => k_asm)
        (case zzkX => k_asm)
        (case zzkT => k_asm)
        (case zzkK => first | exact rfl | assumption)
        (case zzhin => assumption)
        (case zzkd => ktr_room)
        (case zzku => ktr_units)
        (intro D' h' tk' F' N')
        (try k_fold)))
  k_with "call ref" => (k_here; (with_reducible show wpAny _ _ (call (Value.ref 148) _) _ _ _); k_dflt (
        refine' tried_use ?zzkF ?zzkN ?zzkB ?zzkXB ?zzkTB ?zzkX ?zzkT ?zzkK ?zzg1 ?zzg2 ?zzg3 ?zzg4 ?zzg5 ?zzg6 ?zzg7 ?zzg8 ?zzz1 ?zzz2 ?zzz3 ?zzz4 ?zzy1 ?zzy2 ?zzhin ?zzkd ?zzku ?_
        (case zzkF => k_asm)
        (case zzkN => k_asm)
        (case zzkB => k_asm)
        (case zzkXB => k_asm)
        (case zzkTB => k_asm)
        (case zzkX => k_asm)
        (case zzkT => k_asm)
        (case zzkK => first | exact rfl | assumption)
        (case zzg1 => k_mem)
        (case zzg2 => k_mem)
        (case zzg3 => k_mem)
        (case zzg4 => k_mem)
        (case zzg6 => k_mem)
        (case zzg7 => k_mem)
        (case zzg5 => k_extra "m:rows")
        (case zzg8 => k_extra "m:rows")
        (case zzz1 => k_extra "m:le0")
        (case zzz2 => k_extra "m:le0")
        (case zzz3 => k_extra "m:le0")
        (case zzz4 => k_extra "m:le0")
        (case zzy1 => assumption)
        (case zzy2 => assumption)
        (case zzhin => assumption)
        (case zzkd => ktr_room)
        (case zzku => ktr_units)
        refine Held.intro ?_))
  k_with "compareOp NotEq ref ref" => (k_here; (with_reducible show wpAny _ _ (compareOp CmpOp.NotEq (Value.ref _) (Value.ref _)) _ _ _); k_dflt (first
        | (refine' ne_row ?zzN ?zza ?zzb ?zzR ?zzR2 ?zzP ?zzP2 ?zze1 ?zze2 ?zzu ?_; (case zzN => k_asm); (case zza => k_mem); (case zzb => k_mem); (case zzR => k_mem); (case zzR2 => k_mem); (case zzP => k_mem); (case zzP2 => k_mem); (case zze1 => first | rfl | simp); (case zze2 => first | rfl | simp); (case zzu => ktr_units); k_whole)
        | (refine' ne_nil ?zzN ?zza ?zzb ?zzu ?_; (case zzN => k_asm); (case zza => k_mem); (case zzb => k_mem); (case zzu => ktr_units); k_whole)))
  k_with "call builtin:list.count" => (k_here; k_dflt (refine' count3 ?zzN ?zzm ?_; (case zzN => k_asm); (case zzm => k_mem); k_whole))
  k_with "compareOp Eq ref ref" => (k_here; (with_reducible show wpAny _ _ (compareOp CmpOp.Eq (Value.ref _) (Value.ref _)) _ _ _); k_dflt (refine' eq_msg ?zzN ?zza ?zzb ?zze ?zzu ?_; (case zzN => k_asm); (case zza => k_mem); (case zzb => k_mem); (case zze => rfl); (case zzu => ktr_units); k_whole))
  k_with "subscriptTail Name Constant ref int" => (k_here; (with_reducible show wpAny _ _ (subscriptTail _ _ (Value.ref _) (Value.int 0 _)) _ _ _); k_dflt (refine' head_list ?zzN ?zzm ?_; (case zzN => k_asm); (case zzm => k_mem); k_whole))
  k_with "TestEnd" => (refine Held.intro ?_)
  exact trivial
theorem add_rvL {prog : Program} {w : World} {A : Around} {E : Value → Shared → Prop} {s : Shared} {h₀ : Heap} {L a b : Addr} {m : Str → Option Value} {news : List (Addr × Obj)} {ts qs : List Row} {k k2 : Nat} {Q : Value → Shared → Prop}
    (F : Fr h₀ L s.heap m) (N : News h₀ L s.heap news) (ha : (a, listOf (rv ts).toArray k) ∈ news) (hb : (b, listOf (rv qs).toArray k2) ∈ news) (hz : ts.length ≤ 1000) (hz2 : qs.length ≤ 1000)
    (h : ∀ D h', Fr h₀ L h' m → News h₀ L h' ((D, listOf (rv (ts ++ qs)).toArray 0) :: news) → (∀ p ∈ news, p.1 < D) → Q (.ref D) { s with heap := h' }) : wpAny (model prog w) A (binaryOp .Add (.ref a) (.ref b)) Q E s :=
  add_svL F N ha hb (by simpa using hz) (by simpa using hz2) fun D h' F' N' l => h D h' F' (by rw [show rv (ts ++ qs) = rv ts ++ rv qs from List.map_append]; exact N') l
theorem lines_19_2 : True := by
  k_with "binaryOp Add ref ref" => (k_here; (with_reducible show wpAny _ _ (binaryOp _ (Value.ref _) (Value.ref _)) _ _ _); k_dflt (refine' add_rvL ?zzF ?zzN ?zza ?zzb ?zzz ?zzz2 ?_; (case zzF => k_asm); (case zzN => k_asm); (case zza => k_mem); (case zzb => k_mem); (case zzz => k_extra "m:le0"); (case zzz2 => k_extra "m:le0"); (intro D' h' F' N' l1); (try k_lt l1); (try k_sweep)))
  exact trivial
theorem stage1 {G : Prop} {h₀ h : Heap} {L src o ty cr c1 c2 c3 sc d R P' : Addr} {osrc ocr q1 q2 q3 : Obj} {led kp0 kp news : List (Addr × Obj)} {os : List (Str × Tok)} {ts : List Row} {ko kt c : Nat} {w : World} {t1 t2 t3 t4 tm : Tok} {md : Str} {inner : Value}
    (N : News h₀ L h led) (P : Pick src osrc led kp0) (P2' : Pick cr ocr kp0 kp ∧ ocr.data = .cell none) (f1 : ∀ p ∈ kp0, p.1 ≠ src) (f2 : ∀ p ∈ kp, p.1 ≠ cr)
    (e1 : q1.data = .cell (some (.ref src))) (e2 : q2.data = .cell (some (.ref o))) (e3 : q3.data = .cell (some (.ref ty))) (g1 : (c1, q1) ∈ kp) (g2 : (c2, q2) ∈ kp) (g3 : (c3, q3) ∈ kp)
    (g4 : (o, listOf (sv os).toArray ko) ∈ kp) (g5 : (ty, listOf (rv ts).toArray kt) ∈ kp) (g6 : (sc, instObj 83 d) ∈ kp) (g7 : (d, scD w t1 t2 t3 t4 (.str md tm) (.ref R) (.ref P') inner) ∈ kp) (g8 : (R, tupO (sv os).toArray) ∈ kp) (g9 : (P', listOf (rv ts).toArray c) ∈ kp) (g10 : RowsIn kp ts)
    (g11 : ∀ p ∈ news, p ∈ kp)
    (k : ∀ kp, News h₀ L h ((src, osrc) :: (cr, ocr) :: kp) → @Ne Nat cr src → (∀ p ∈ kp, p.1 ≠ src) → (∀ p ∈ kp, p.1 ≠ cr) → (c1, q1) ∈ kp → (c2, q2) ∈ kp → (c3, q3) ∈ kp → (o, listOf (sv os).toArray ko) ∈ kp → (ty, listOf (rv ts).toArray kt) ∈ kp → (sc, instObj 83 d) ∈ kp →
      (d, scD w t1 t2 t3 t4 (.str md tm) (.ref R) (.ref P') inner) ∈ kp → (R, tupO (sv os).toArray) ∈ kp → (P', listOf (rv ts).toArray c) ∈ kp → RowsIn kp ts → (∀ p ∈ news, p ∈ kp) → G) : G := by
  obtain ⟨P2, e0⟩ := P2'
  have N1 := P.news N
  have N2 := P2.news (fun p hp => N1 p (.tail _ hp))
  have hm : ∀ {l r : List (Addr × Obj)} {x : Addr} {o : Obj}, Pick x o l r → (x, o) ∈ l ∧ ∀ p ∈ r, p ∈ l := by
    intro l r x o hp
    induction hp with
    | head => exact ⟨.head _, fun p hp => .tail _ hp⟩
    | tail _ ih => exact ⟨.tail _ ih.1, fun p hp => (List.mem_cons.mp hp).elim (fun e => e ▸ .head _) fun hp => .tail _ (ih.2 p hp)⟩
  refine k kp (fun p hp => ?_) (f1 _ (hm P2).1) (fun p hp => f1 _ ((hm P2).2 p hp)) f2 g1 g2 g3 g4 g5 g6 g7 g8 g9 g10 g11
  rcases List.mem_cons.mp hp with rfl | hp
  · exact N1 _ (.head _)
  · exact N2 _ hp
noncomputable def PJ (src : Addr) (n : Nat) (kp : List (Addr × Obj)) (i : Nat) (ys : List Value) (led : List (Addr × Obj)) : Prop :=
  ∃ qs kp' x y t u, ys = rv qs ∧ led = (src, listOf #[.int x t, .int y u] n) :: kp' ∧ 0 ≤ x ∧ 0 ≤ y ∧ y < 2147483647 ∧ qs.length = i ∧ (∀ p ∈ qs, p.2.1.length ≤ 10) ∧ RowsIn kp' qs ∧ (∀ p ∈ kp, p ∈ kp') ∧ ∀ p ∈ kp', p.1 ≠ src
theorem stage2 {G : Prop} {h₀ h : Heap} {L src cr Dr : Addr} {osrc ocr : Obj} {led kp0 kp : List (Addr × Obj)} {rs : List (Str × Tok)} {k : Nat}
    (N : News h₀ L h led) (P : Pick src osrc led kp0) (f1 : ∀ p ∈ kp0, p.1 ≠ src) (e0 : ocr.data = .cell (some (.ref Dr))) (g1 : (cr, ocr) ∈ kp0) (g2 : (Dr, listOf (sv rs).toArray k) ∈ kp0) (g3 : ∀ p ∈ kp, p ∈ kp0)
    (k : ∀ kp', News h₀ L h ((src, osrc) :: kp') → (∀ p ∈ kp', p.1 ≠ src) → (cr, ocr) ∈ kp' → (Dr, listOf (sv rs).toArray k) ∈ kp' → (∀ p ∈ kp, p ∈ kp') → G) : G := k kp0 (P.news N) f1 g1 g2 g3
theorem stage3 {G : Prop} {h₀ h : Heap} {L Dp : Addr} {led kp tl : List (Addr × Obj)} {qs : List Row} {k : Nat} {ps : Addr × Obj}
    (N : News h₀ L h (tl ++ led)) (g1 : (Dp, listOf (rv qs).toArray k) ∈ led) (g2 : ∀ p ∈ kp, p ∈ led) (g3 : ps ∈ led)
    (k : ∀ kp', News h₀ L h kp' → (∀ p ∈ tl, p ∈ kp') → (∀ p ∈ kp, p ∈ kp') → (Dp, listOf (rv qs).toArray k) ∈ kp' → ps ∈ kp' → G) : G := k _ N (fun p hp => List.mem_append_left _ hp) (fun p hp => List.mem_append_right _ (g2 p hp)) (List.mem_append_right _ g1) (List.mem_append_right _ g3)
section
variable {prog : Program} {w : World} {A : Around} {s : Shared} {h₀ : Heap} {L : Addr} {m : Str → Option Value} {env : Env} {elt : PySem.Expr} {x0 : Str} {scope : Scope} {cl : List (Str × Addr)} {P : Nat → Value → Prop} {Fin : List Value → List (Addr × Obj) → Prop} {n n1 : Nat} {kp2 : List (Addr × Obj)} {src : Addr} {x y : Int} {t u : Tok}
theorem compRest_RJ (hx : 0 ≤ x) (hy : 0 ≤ y) (hy2 : y < 2147483647)
    (turn : ∀ i zs x y t u v I oI C oC D m₂ h tk (E' : Value → Shared → Prop), i < n → zs.length = i → (∀ p ∈ zs, p.1.length ≤ 10) → 0 ≤ x → 0 ≤ y → y < 2147483647 → P i v → LCg.NsObj oC m₂ → m₂ x0 = some v → Fr h₀ L h m →
      News h₀ L h ((I, oI) :: (C, oC) :: (D, LCg.lst (sv zs)) :: (src, listOf #[.int x t, .int y u] n1) :: kp2) → LCg.Off3 I C D ((src, listOf #[.int x t, .int y u] n1) :: kp2) → ((@Ne Nat I C) ∧ (@Ne Nat I D) ∧ (@Ne Nat C D)) →
      wpAny (model prog w) A (eval elt (compEnvC scope cl C env)) (LCg.CompEnd h₀ L m { s with heap := h, toks := tk } I oI C oC D (LCg.lst (sv zs)) (fun _ => True) (fun y news' => RJ src n1 kp2 (i + 1) (sv zs ++ [y]) news')) E' { s with heap := h, toks := tk })
    (done : ∀ zs x y t u, zs.length = n → (∀ p ∈ zs, p.1.length ≤ 10) → 0 ≤ x → 0 ≤ y → y < 2147483647 → Fin (sv zs) ((src, listOf #[.int x t, .int y u] n1) :: kp2)) :
    LCg.CompRest prog w A h₀ L m env elt x0 scope cl s (fun _ => True) P Fin n 0 [] ((src, listOf #[.int x t, .int y u] n1) :: kp2) := by
  refine compRest_inv (RJ src n1 kp2) ⟨[], x, y, t, u, rfl, rfl, hx, hy, hy2, rfl, fun _ h => nomatch h⟩ ?_ ?_
  · rintro i ys led v I oI C oC D m₂ h tk E' hi ⟨zs, x, y, t, u, rfl, rfl, hx, hy, hy2, hl, hz⟩ hv hC hxv F N off ne
    exact turn i zs x y t u v I oI C oC D m₂ h tk E' hi hl hz hx hy hy2 hv hC hxv F N off ne
  · rintro ys led ⟨zs, x, y, t, u, rfl, rfl, hx, hy, hy2, hl, hz⟩
    exact done zs x y t u hl hz hx hy hy2
theorem compRest_PJ (hx : 0 ≤ x) (hy : 0 ≤ y) (hy2 : y < 2147483647) (f : ∀ p ∈ kp2, p.1 ≠ src)
    (turn : ∀ i qs kp' x y t u v I oI C oC D m₂ h tk (E' : Value → Shared → Prop), i < n → qs.length = i → (∀ p ∈ qs, p.2.1.length ≤ 10) → RowsIn kp' qs → (∀ p ∈ kp2, p ∈ kp') → (∀ p ∈ kp', p.1 ≠ src) → 0 ≤ x → 0 ≤ y → y < 2147483647 → P i v → LCg.NsObj oC m₂ → m₂ x0 = some v → Fr h₀ L h m →
      News h₀ L h ((I, oI) :: (C, oC) :: (D, LCg.lst (rv qs)) :: (src, listOf #[.int x t, .int y u] n1) :: kp') → LCg.Off3 I C D ((src, listOf #[.int x t, .int y u] n1) :: kp') → ((@Ne Nat I C) ∧ (@Ne Nat I D) ∧ (@Ne Nat C D)) →
      wpAny (model prog w) A (eval elt (compEnvC scope cl C env)) (LCg.CompEnd h₀ L m { s with heap := h, toks := tk } I oI C oC D (LCg.lst (rv qs)) (fun _ => True) (fun y news' => PJ src n1 kp2 (i + 1) (rv qs ++ [y]) news')) E' { s with heap := h, toks := tk })
    (done : ∀ qs kp' x y t u, qs.length = n → (∀ p ∈ qs, p.2.1.length ≤ 10) → RowsIn kp' qs → (∀ p ∈ kp2, p ∈ kp') → (∀ p ∈ kp', p.1 ≠ src) → 0 ≤ x → 0 ≤ y → y < 2147483647 → Fin (rv qs) ((src, listOf #[.int x t, .int y u] n1) :: kp')) :
    LCg.CompRest prog w A h₀ L m env elt x0 scope cl s (fun _ => True) P Fin n 0 [] ((src, listOf #[.int x t, .int y u] n1) :: kp2) := by
  refine compRest_inv (PJ src n1 kp2) ⟨[], kp2, x, y, t, u, rfl, rfl, hx, hy, hy2, rfl, (fun _ h => nomatch h), (fun _ h => nomatch h), (fun _ h => h), f⟩ ?_ ?_
  · rintro i ys led v I oI C oC D m₂ h tk E' hi ⟨qs, kp', x, y, t, u, rfl, rfl, hx, hy, hy2, hl, hz, hr, hs, hf⟩ hv hC hxv F N off ne
    exact turn i qs kp' x y t u v I oI C oC D m₂ h tk E' hi hl hz hr hs hf hx hy hy2 hv hC hxv F N off ne
  · rintro ys led ⟨qs, kp', x, y, t, u, rfl, rfl, hx, hy, hy2, hl, hz, hr, hs, hf⟩
    exact done qs kp' x y t u hl hz hr hs hf hx hy hy2
variable {I C D : Addr} {oI oC oD : Obj} {h' : Heap} {all : List (Addr × Obj)} {i tk' : Nat} {o0 : Obj}
theorem endRJ {zs : List (Str × Tok)} {z : Str} {r : Tok} (off : LCg.Off3 I C D ((src, o0) :: kp2)) (hl : zs.length = i) (hzs : ∀ p ∈ zs, p.1.length ≤ 10) (F : Fr h₀ L h' m) (N : News h₀ L h' all) (mI : (I, oI) ∈ all) (mC : (C, oC) ∈ all) (mD : (D, oD) ∈ all) (ms : (src, listOf #[.int x t, .int y u] n1) ∈ all) (mk : ∀ p ∈ kp2, p ∈ all)
    (hz : z.length ≤ 10) (hx : 0 ≤ x) (hy : 0 ≤ y) (hy2 : y < 2147483647) : LCg.CompEnd h₀ L m s I oI C oC D oD (fun _ => True) (fun y news' => RJ src n1 kp2 (i + 1) (sv zs ++ [y]) news') (.str z r) { s with heap := h', toks := tk' } := by
  refine LCg.CompEnd.intro F N ((src, listOf #[.int x t, .int y u] n1) :: kp2) (fun p hp => ?_) ⟨off.1, off.2⟩ trivial ⟨zs ++ [(z, r)], x, y, t, u, by simp, rfl, hx, hy, hy2, by simp [hl], fun p hp => ?_⟩
  · simp only [List.mem_cons] at hp
    rcases hp with rfl | rfl | rfl | rfl | hp
    · exact mI
    · exact mC
    · exact mD
    · exact ms
    · exact mk _ hp
  · rcases List.mem_append.mp hp with hp | hp
    · exact hzs p hp
    · obtain rfl := List.mem_singleton.mp hp
      exact hz
theorem endPJ {qs : List Row} {kp' : List (Addr × Obj)} {z : Str} {r : Tok} {rw : Addr} {bv : Value} (off : LCg.Off3 I C D ((src, o0) :: kp')) (hl : qs.length = i) (hqs : ∀ p ∈ qs, p.2.1.length ≤ 10) (hr : RowsIn kp' qs) (hs : ∀ p ∈ kp2, p ∈ kp') (hf : ∀ p ∈ kp', p.1 ≠ src) (F : Fr h₀ L h' m) (N : News h₀ L h' all)
    (mr : (rw, tupO #[.str z r, bv]) ∈ all) (rI : rw ≠ I) (rC : rw ≠ C) (rD : rw ≠ D) (rS : rw ≠ src) (mI : (I, oI) ∈ all) (mC : (C, oC) ∈ all) (mD : (D, oD) ∈ all) (ms : (src, listOf #[.int x t, .int y u] n1) ∈ all) (mk : ∀ p ∈ kp', p ∈ all)
    (hz : z.length ≤ 10) (hx : 0 ≤ x) (hy : 0 ≤ y) (hy2 : y < 2147483647) : LCg.CompEnd h₀ L m s I oI C oC D oD (fun _ => True) (fun y news' => PJ src n1 kp2 (i + 1) (rv qs ++ [y]) news') (.ref rw) { s with heap := h', toks := tk' } := by
  refine LCg.CompEnd.intro F N ((src, listOf #[.int x t, .int y u] n1) :: (rw, tupO #[.str z r, bv]) :: kp') (fun p hp => ?_) ⟨off.1, ⟨rI, rC, rD⟩, off.2⟩ trivial ⟨qs ++ [(rw, z, r, bv)], _, x, y, t, u, by simp, rfl, hx, hy, hy2, by simp [hl], fun p hp => ?_, fun p hp => ?_, fun p hp => .tail _ (hs p hp), fun p hp => ?_⟩
  · simp only [List.mem_cons] at hp
    rcases hp with rfl | rfl | rfl | rfl | rfl | hp
    · exact mI
    · exact mC
    · exact mD
    · exact ms
    · exact mr
    · exact mk _ hp
  · rcases List.mem_append.mp hp with hp | hp
    · exact hqs p hp
    · obtain rfl := List.mem_singleton.mp hp
      exact hz
  · rcases List.mem_append.mp hp with hp | hp
    · exact .tail _ (hr p hp)
    · obtain rfl := List.mem_singleton.mp hp
      exact .head _
  · rcases List.mem_cons.mp hp with rfl | hp
    · exact rS
    · exact hf p hp
end
theorem pickC_tail {d : Addr} {o : Obj} {p : Addr × Obj} {r r' : List (Addr × Obj)} {X : Prop} (h : Pick d o r r' ∧ X) : Pick d o (p :: r) (p :: r') ∧ X := ⟨.tail h.1, h.2⟩
theorem lines_19_3 : True := by
  k_with "m:pickC" => first | exact ⟨Pick.head, by with_reducible assumption⟩ | exact ⟨Pick.head, by assumption⟩ | (refine' pickC_tail ?zzp9; (case zzp9 => k_extra "m:pickC"))
  k_with "m:sep1" => first
        | k_extra "m:ne0"
        | (refine neN ?_; (try dsimp only); omega)
  k_with "m:sep" => first
        | (refine' List.forall_mem_cons.mpr ⟨?zza9, ?zzb9⟩; (case zza9 => ((try dsimp only); k_extra "m:sep1")); (case zzb9 => k_extra "m:sep"))
        | exact List.forall_mem_nil _
        | with_reducible assumption
        | (refine off1D ?_; with_reducible assumption)
        | (refine off_lt ?_; with_reducible assumption)
  k_with "m:all" => with_reducible assumption
  k_with "CompSrcT" => (k_here; refine Held.intro ?_)
  k_with "exec Assign cons ListComp" => (k_here; (with_reducible show wpAny _ _ (exec (Stmt.Assign _ (PySem.Expr.ListComp _ [⟨PySem.Expr.Tuple _ _ _, _, [_], _⟩] _ _) _) _) _ _ _); refine Held.intro ?_)
  exact trivial
theorem newsSub {h₀ h : Heap} {L : Addr} {l l' : List (Addr × Obj)} (N : News h₀ L h l) (hs : ∀ p ∈ l', p ∈ l) : News h₀ L h l' := fun p hp => N p (hs p hp)
theorem not_nil_cons {v : Value} {l : List Value} : (!(v :: l).isEmpty) = true := rfl
theorem ne_cons {prog : Program} {w : World} {A : Around} {E : Value → Shared → Prop} {s : Shared} {h₀ : Heap} {L a b : Addr} {led : List (Addr × Obj)} {v : Value} {vs : List Value} {n k : Nat} {Q : Value → Shared → Prop}
    (N : News h₀ L s.heap led) (ha : (a, listOf (v :: vs).toArray n) ∈ led) (hb : (b, listOf #[] k) ∈ led) (hu : A.units < cLine) (h : Q (.bool true) s) : wpAny (model prog w) A (compareOp .NotEq (.ref a) (.ref b)) Q E s := ne_nil N ha hb hu h
theorem lines_19_4 : True := by
  k_with "compareOp NotEq ref ref" => (k_here; (with_reducible show wpAny _ _ (compareOp CmpOp.NotEq (Value.ref _) (Value.ref _)) _ _ _); k_dflt (first
        | (refine' ne_cons ?zzN ?zza ?zzb ?zzu ?_; (case zzN => k_asm); (case zza => k_mem); (case zzb => k_mem); (case zzu => ktr_units); k_whole)
        | (refine' ne_empty0 ?zzN ?zza ?zzb ?zzu ?_; (case zzN => k_asm); (case zza => k_mem); (case zzb => k_mem); (case zzu => ktr_units); k_whole)))
  k_with "callWith ref" => (k_here; (with_reducible show wpAny _ _ (callWith _ (Value.ref 73) _ (backTo _ (starEach [] _)) []) _ _ _); k_dflt (refine' callWith_K0 ?zzk1 ?zzk2 ?_; (case zzk1 => (refine' Frag.In.keeps ?zzkX (Fr.keep ?zzkF); (case zzkF => k_asm); (case zzkX => k_asm))); (case zzk2 => k_is); k_whole))
  exact trivial
theorem off_20 : True := by
  w_top off
  exact trivial
set_option maxRecDepth 100000 in
set_option maxHeartbeats 8000000 in
theorem right_spec : ∀ (w : World) (mean : ExcName → Option Value) (mg mb : Str → Option Value)
    (dp un : Nat) (gd : Option (List Code)) (cn : Str) (cs : Scope) (a : Addr) (ccd : Value) (cl : List (Str × Addr)) (A₀ : Around) (base h₀ : Heap) (L : Addr) (m : Str → Option Value) (news : List (Addr × Obj)) (s : Shared)
    (src : Addr) (x y : Int) (t u : Tok) (n : Nat) (Q E : Value → Shared → Prop)
    (XB : (Mine.hd.heap_1 w.params).In base) (TB : Top vw lz mean mg mb base)
    (B : Below A₀ base [] h₀) (F : Fr h₀ L s.heap m) (X : (Mine.hd.heap_1 w.params).In h₀) (N : News h₀ L s.heap ((src, listOf #[.int x t, .int y u] n) :: news)) (T : Top vw lz mean mg mb h₀) (hk : cs.kind = .function)
    (hsep : ∀ p ∈ news, p.1 ≠ src)
    (hx : 0 ≤ x) (hy : 0 ≤ y) (hy2 : y < 2147483647) (hd : dp + 60 < recursionLimit) (hu : un + 600 < cLine)
    (hret : ∀ x' y' t' u' h' tk', Fr h₀ L h' m → News h₀ L h' ((src, listOf #[.int x' t', .int y' u'] n) :: news) → 0 ≤ x' → 0 ≤ y' → y' < 2147483647 → Q (.bool true) { s with heap := h', toks := tk' }),
    wpAny (model PySem.Challenge.rw_xm0579_01.row.prog w) (ktrTop dp un gd cn cs L a ccd cl []) (call (.ref 160) [.ref src]) Q E s := by
  k_fill
  intro w mean mg mb dp un gd cn cs a ccd cl A₀ base h₀ L m news s src x y t u n Q E XB TB B F X N T hk hsep hx hy hy2 hd hu hret
  refine wpAny_call ?_
  k_dflt (k_extra "m:enterTC")
  k_steps
  refine held ?_
  k_dflt (refine' item_mem ?N ?m ?a ?b ?c ?_)
  (case N => k_asm)
  (case m => k_mem)
  (case a => k_extra "m:le0")
  (case b => k_extra "m:le0")
  (case c => k_extra "m:le0")
  refine' own3 (A := [(_, _), (_, _)]) (B := [(_, _)]) (C := []) ?N ?P ?ha ?hb ?hc (by simp) ?la ?lb ?lc ?_
  (case N => assumption)
  (case P => k_extra "m:pick")
  (case ha => k_mem)
  (case hb => k_mem)
  (case hc => k_mem)
  (case la => k_extra "m:lts")
  (case lb => k_extra "m:lts")
  (case lc => k_extra "m:lts")
  intro o os ko N1 lo zo
  k_lt lo
  k_sweep
  k_steps
  refine held ?_
  k_dflt (refine' item_mem ?N ?m ?a ?b ?c ?_)
  (case N => k_asm)
  (case m => k_mem)
  (case a => k_extra "m:le0")
  (case b => k_extra "m:le0")
  (case c => k_extra "m:le0")
  refine' types3 (A := [(_, _, _, _), (_, _, _, _)]) (B := [(_, _, _, _)]) ?N ?P ?ha ?hb ?hc ?RA ?RB (by simp) ?la ?lb ?lc ?hn ?f0 ?f5 ?f1 ?f2 ?f3 ?f4 ?_
  (case N => assumption)
  (case P => k_extra "m:pick")
  (case ha => k_mem)
  (case hb => k_mem)
  (case hc => k_mem)
  (case RA => exact rows2 (by k_mem) (by k_mem))
  (case RB => exact rows1 (by k_mem))
  (case la => k_extra "m:lts")
  (case lb => k_extra "m:lts")
  (case lc => k_extra "m:lts")
  (case hn => k_extra "m:new")
  (case f0 => with_reducible assumption)
  (case f5 => (refine off_lt ?_; with_reducible assumption))
  (case f1 => (refine off_lt ?_; with_reducible assumption))
  (case f2 => (refine off_lt ?_; with_reducible assumption))
  (case f3 => (refine off_lt ?_; with_reducible assumption))
  (case f4 => (refine off_lt ?_; with_reducible assumption))
  intro ty ts kt nw N1 lo2 hsub hrt zt e0 e5 e1 e2 e3 e4
  k_lt lo2
  k_sweep
  show wpAny _ _ (storeName _ _ _) _ _ _
  k_steps
  refine held ?_
  (rename News _ _ _ _ => NS)
  obtain ⟨ns1, ns2, ns3⟩ := sepS (src := src) NS (by k_mem)
  obtain ⟨nc1, nc2, nc3⟩ := sepC (v := none) NS e1 (by k_mem) (by assumption)
  k_steps
  refine held ?_
  refine' stage1 (src := src) (os := os) (o := o) (ty := ty) (ts := ts) (news := news) ?N ?P ?P2 ?f1 ?f2 ?e1 ?e2 ?e3 ?g1 ?g2 ?g3 ?g4 ?g5 ?g6 ?g7 ?g8 ?g9 ?g10 ?g11 ?_
  (case N => k_asm)
  (case P => k_extra "m:pick")
  (case P2 => k_extra "m:pickC")
  (case f1 => k_extra "m:sep")
  (case f2 => k_extra "m:sep")
  (case e1 => assumption)
  (case e2 => assumption)
  (case e3 => assumption)
  (case g1 => k_mem)
  (case g2 => k_mem)
  (case g3 => k_mem)
  (case g4 => k_mem)
  (case g5 => k_mem)
  (case g6 => k_mem)
  (case g7 => k_mem)
  (case g8 => k_mem)
  (case g9 => k_mem)
  (case g10 => k_extra "m:rows")
  (case g11 => k_extra "m:kpN")
  intro kp NK ncs f1 f2 c1 c2 c3 g4 g5 g6 g7 g8 g9 g10 g11
  k_dflt (refine' src_rangeP (src := src) ?h ?F ?N ?P ?hr ?a ?b ?_)
  (case h => exact rfl)
  (case F => k_asm)
  (case N => exact NK)
  (case P => exact Pick.head)
  (case hr => assumption)
  (case a => k_extra "m:le0")
  (case b => k_extra "m:le0")
  intro nr hnr gg
  refine' compRest_RJ (by assumption) (by assumption) (by assumption) ?turn1 ?done1
  case turn1 =>
    intro i zs x y t u v I oI C oC D m₂ h tk E' hi hl hz hx hy hy2 hv hC hxv F N off ne
    obtain ⟨t9, rfl⟩ := hv
    have off0 := off
    simp only [LCg.Off3, and_assoc] at off
    (repeat (have hm1' := And.left off; replace off := And.right off))
    (repeat (have hm1' := And.left ne; replace ne := And.right ne))
    k_steps
    refine held ?_
    refine' endRJ off0 hl hz ?F ?N ?mI ?mC ?mD ?ms ?mk ?z ?x ?y ?y2
    (case F => assumption)
    (case N => assumption)
    (case mI => k_mem)
    (case mC => k_mem)
    (case mD => k_mem)
    (case ms => k_mem)
    (case mk => k_extra "m:subl")
    (case z => assumption)
    (case x => assumption)
    (case y => assumption)
    (case y2 => assumption)
  case done1 =>
    intro rs x y t u hl hrs hx hy hy2
    k_steps
    (rename _ ∧ _ ∧ LCg.Off1 _ kp => nd)
    obtain ⟨nd1, nd2, nd3⟩ := nd
    k_steps
    refine held ?_
    refine' stage2 (src := src) (rs := rs) (kp := kp) ?N ?P ?f ?e0 ?g1 ?g2 ?g3 ?_
    (case N => k_asm)
    (case P => k_extra "m:pick")
    (case g2 => k_mem)
    (case e0 => assumption)
    (case g1 => k_mem)
    (case f => k_extra "m:sep")
    (case g3 => k_extra "m:subl")
    intro kp2 NK2 f3 c4 d1 hs2
    have c1' := hs2 _ c1
    k_dflt (refine' src_rangeP (src := src) ?h ?F ?N ?P ?hr ?a ?b ?_)
    (case h => exact rfl)
    (case F => k_asm)
    (case N => exact NK2)
    (case P => exact Pick.head)
    (case hr => assumption)
    (case a => k_extra "m:le0")
    (case b => k_extra "m:le0")
    intro nr2 hnr2 gg2
    refine' compRest_PJ (by assumption) (by assumption) (by assumption) f3 ?turn2 ?done2
    case turn2 =>
      intro i qs kq x y t u v I oI C oC D m₂ h tk E' hi hl hz hr hs hf hx hy hy2 hv hC hxv F N off ne
      obtain ⟨t9, rfl⟩ := hv
      have cq := hs _ c1'
      have off0 := off
      simp only [LCg.Off3, and_assoc] at off
      (repeat (have hm1' := And.left off; replace off := And.right off))
      (repeat (have hm1' := And.left ne; replace ne := And.right ne))
      k_steps
      refine held ?_
      refine' endPJ off0 hl hz hr hs hf ?F ?N ?mr ?rI ?rC ?rD ?rS ?mI ?mC ?mD ?ms ?mk ?z ?x ?y ?y2
      (case F => assumption)
      (case N => assumption)
      (case mr => k_mem)
      (case mI => k_mem)
      (case mC => k_mem)
      (case mD => k_mem)
      (case ms => k_mem)
      (case mk => k_extra "m:subl")
      (case rI => k_extra "m:sep1")
      (case rC => k_extra "m:sep1")
      (case rD => k_extra "m:sep1")
      (case rS => k_extra "m:sep1")
      (case z => assumption)
      (case x => assumption)
      (case y => assumption)
      (case y2 => assumption)
    case done2 =>
      intro qs kq x y t u hl2 hqs hr hs hf hx hy hy2
      have hq : ∀ p ∈ kp, p ∈ kq := fun p hp => hs _ (hs2 _ hp)
      have c1q := hq _ c1
      have c2q := hq _ c2
      have c3q := hq _ c3
      have c4q := hs _ c4
      have d1q := hs _ d1
      have g4q := hq _ g4
      have g5q := hq _ g5
      have g6q := hq _ g6
      have g7q := hq _ g7
      have g8q := hq _ g8
      have g9q := hq _ g9
      have g10q := g10.mono hq
      have hrs9 : ∀ p ∈ rs, p.1.length ≤ 100 := fun p hp => Nat.le_trans (hrs p hp) (by decide)
      have hqs9 : ∀ p ∈ qs, p.2.1.length ≤ 100 := fun p hp => Nat.le_trans (hqs p hp) (by decide)
      k_steps
      refine held ?_
      intro g₃ D₃ tl₃ h₃ tk₃ hT KT B₃ X₃ T₃ F₃ N₃
      refine' stage3 (kp := kq) (qs := qs) (ps := (src, listOf #[.int x t, .int y u] n)) N₃ ?g1 ?g2 ?g3 ?_
      (case g1 => k_mem)
      (case g2 => k_extra "m:subl")
      (case g3 => k_mem)
      intro kr NR ht hk dpr psr
      clear N₃
      have hnr : ∀ p ∈ news, p ∈ kr := fun p hp => hk _ (hq _ (g11 p hp))
      have c2r := hk _ c2q
      have c3r := hk _ c3q
      have c4r := hk _ c4q
      have d1r := hk _ d1q
      have g4r := hk _ g4q
      have g5r := hk _ g5q
      have g6r := hk _ g6q
      have g7r := hk _ g7q
      have g8r := hk _ g8q
      have g9r := hk _ g9q
      have g10r := g10q.mono hk
      have hrr := hr.mono hk
      clear c2q c3q c4q d1q g4q g5q g6q g7q g8q g9q g10q c2 c3 c1 g4 g5 g6 g7 g8 g9 g10
      k_steps
      refine held ?_
      (rename News _ _ _ _ => NT)
      refine' filterT (rs := rs) (c := fun p => bad1 os rs p.1) (news := kr) ?h ?F ?N ?m ?z ?k ?x ?d ?test ?fin
      (case h => exact rfl)
      (case F => k_asm)
      (case N => exact newsSub NT (fun p hp => .tail _ (.tail _ (.tail _ hp))))
      (case m => k_mem)
      (case z => k_extra "m:le0")
      (case k => exact rfl)
      (case x => exact rfl)
      (case d => decide)
      case test =>
        intro p hp I oI C oC D ys m₂ gg h tk E' hC hxv F N
        clear NT
        k_steps
        refine held ?_
        (rename News _ _ _ _ => NT)
        refine' ⟨cn1_bad hp, _, _, rfl, ?F, newsSub NT ?s⟩
        (case F => assumption)
        (case s => k_extra "m:subl")
      case fin =>
        intro gg
        clear NT
        k_steps
        refine held ?_
        k_dflt (refine' Assign_PT (c := fun p => bad2 ts p.2.1) (qs := qs) ?F ?k1 ?k2 ?k3 ?k4 ?k5 ?k6 ?k7 ?k8 ?k9 ?kA ?kB ?kC ?kD ?kE ?hit ?N ?hax ?hq ?hz ?test ?h)
        (case k1 => rfl)
        (case k2 => rfl)
        (case k3 => with_unfolding_all rfl)
        (case k4 => rfl)
        (case k5 => decide)
        (case k6 => rfl)
        (case k7 => decide)
        (case k8 => rfl)
        (case k9 => rfl)
        (case kA => decide)
        (case kB => decide)
        (case kC => rfl)
        (case kD => rfl)
        (case kE => (intro _; rfl))
        (case F => k_asm)
        (case hit => (intro Q9 h9; k_dflt (refine' nameX_L ?F9 ?v9 h9 ?a9 ?b9; (case F9 => k_asm); (case a9 => rfl); (case b9 => rfl); (case v9 => rfl))))
        (case N => k_asm)
        (case hax => k_mem)
        (case hq => k_extra "m:rows")
        (case hz => k_extra "m:le0")
        case test =>
          intro p hp I oI C oC D ys m₂ h tk E' hC hxv F N
          k_steps
          refine held ?_
          (rename News _ _ _ _ => NT)
          refine' ⟨rfl, _, _, rfl, ?F, newsSub NT ?s⟩
          (case F => assumption)
          (case s => k_extra "m:subl")
        case h =>
          intro D₄ h₄ tk₄ F₄ N₄ l₄
          dsimp only
          cases hT with
          | @A pre xs ts' post _ tk1 e hpre hb =>
            obtain ⟨tl2, hf⟩ := filter_first (c := fun p => bad1 os rs p.1) e hpre hb
            rw [hf] at N₄
            simp only [List.map_cons] at N₄
            have hD := ht _ (.head _)
            have hlen : xs.length ≤ 100 := hrs9 (xs, ts') (by rw [e]; simp)
            k_steps
            (rename KtsTurn _ h₀ _ => kT1)
            refine' hret x y t u _ _ (turn_nil kT1 ?F) (turn_nilN kT1 ?N) hx hy hy2
            (case F => assumption)
            (case N => ((rename News _ _ _ _ => NT); refine newsSub NT ?_; refine List.forall_mem_cons.mpr ⟨?_, fun p hp => ?_⟩; (focus k_mem); have h8 := hnr p hp; simp only [List.mem_cons]; simp only [h8, or_true]))
          | @B pre pr post _ tk1 h1 e hpre hb =>
            have hf0 := filter_none (c := fun p : Str × Tok => bad1 os rs p.1) h1
            obtain ⟨tl2, hf⟩ := filter_first (c := fun p : Row => bad2 ts p.2.1) e hpre hb
            rw [hf0, hf] at N₄
            simp only [List.map_cons, List.map_nil] at N₄
            have hD := ht _ (.head _)
            have hlen : pr.2.1.length ≤ 100 := hqs9 pr (by rw [e]; simp)
            k_steps
            (rename KtsTurn _ h₀ _ => kT1)
            refine' hret x y t u _ _ (turn_nil kT1 ?F) (turn_nilN kT1 ?N) hx hy hy2
            (case F => assumption)
            (case N => ((rename News _ _ _ _ => NT); refine newsSub NT ?_; refine List.forall_mem_cons.mpr ⟨?_, fun p hp => ?_⟩; (focus k_mem); have h8 := hnr p hp; simp only [List.mem_cons]; simp only [h8, or_true]))
          | @C e d2 R2 P2 c q1 q2 q3 q4 h1 h2 =>
            have hf0 := filter_none (c := fun p : Str × Tok => bad1 os rs p.1) h1
            have hf := filter_none (c := fun p : Row => bad2 ts p.2.1) h2
            rw [hf0, hf] at N₄
            simp only [List.map_nil] at N₄
            have hD1 := ht _ (.head _)
            have hD2 := ht _ (.tail _ (.head _))
            have hD3 := ht _ (.tail _ (.tail _ (.head _)))
            have hD4 := ht _ (.tail _ (.tail _ (.tail _ (.head _))))
            have hall : RowsIn kr (ts ++ qs) := fun p hp => (List.mem_append.mp hp).elim (g10r p) (hrr p)
            have hln : (ts ++ qs).length ≤ 100 := by rw [List.length_append]; omega
            k_steps
            (rename KtsTurn _ h₀ _ => kT1)
            refine' hret x y t u _ _ (turn_nil kT1 ?F) (turn_nilN kT1 ?N) hx hy hy2
            (case F => assumption)
            (case N => ((rename News _ _ _ _ => NT); refine newsSub NT ?_; refine List.forall_mem_cons.mpr ⟨?_, fun p hp => ?_⟩; (focus k_mem); have h8 := hnr p hp; simp only [List.mem_cons]; simp only [h8, or_true]))
theorem off_21 : True := by
  w_top off
  exact trivial
local macro_rules | `(tactic| k_qdec) => `(tactic| decide +kernel)
theorem lines_21_1 : True := by
  k_with "m:all" => (refine' List.forall_mem_cons.mpr ⟨?zza9, ?zzb9⟩; (case zza9 => (refine neN ?_; (try dsimp only); omega)); (case zzb9 => exact List.forall_mem_nil _))
  k_with "m:int0" => first
        | exact Int.fmod_nonneg_of_pos _ (by decide)
        | (split <;> split <;> omega)
        | omega
  exact trivial
theorem types_use {w : World} {mean : ExcName → Option Value} {mg mb : Str → Option Value}
    {dp un : Nat} {gd : Option (List Code)} {cn : Str} {cs : Scope} {a : Addr} {ccd : Value} {cl : List (Str × Addr)} {outer : List Env} {A₀ : Around} {base h₀ : Heap} {L : Addr} {m : Str → Option Value} {led news : List (Addr × Obj)} {s : Shared}
    {src : Addr} {x y : Int} {t u : Tok} {n : Nat} {Q E : Value → Shared → Prop}
    (F : Fr h₀ L s.heap m) (N : News h₀ L s.heap led) (P : Pick src (listOf #[.int x t, .int y u] n) led news) (B : Below A₀ base outer h₀) (X : (Mine.hd.heap_1 w.params).In h₀) (T : Top vw lz mean mg mb h₀) (hk : cs.kind = .function)
    (hsep : ∀ p ∈ news, p.1 ≠ src)
    (hx : 0 ≤ x) (hy : 0 ≤ y) (hy2 : y < 2147483647) (hd : dp + 60 < recursionLimit) (hu : un + 600 < cLine)
    (hret : ∀ x' y' t' u' h' tk', Fr h₀ L h' m → News h₀ L h' ((src, listOf #[.int x' t', .int y' u'] n) :: news) → 0 ≤ x' → 0 ≤ y' → y' < 2147483647 → Q (.bool true) { s with heap := h', toks := tk' }) :
    wpAny (model PySem.Challenge.rw_xm0579_01.row.prog w) (ktrTop dp un gd cn cs L a ccd cl outer) (call (.ref 141) [.ref src]) Q E s :=
  types_spec w mean mg mb dp un gd cn cs a ccd cl outer A₀ base h₀ L m news s src x y t u n Q E B F X (P.news N) T hk hsep hx hy hy2 hd hu hret
theorem right_use {w : World} {mean : ExcName → Option Value} {mg mb : Str → Option Value}
    {dp un : Nat} {gd : Option (List Code)} {cn : Str} {cs : Scope} {a : Addr} {ccd : Value} {cl : List (Str × Addr)} {A₀ : Around} {base h₀ : Heap} {L : Addr} {m : Str → Option Value} {led news : List (Addr × Obj)} {s : Shared}
    {src : Addr} {x y : Int} {t u : Tok} {n : Nat} {Q E : Value → Shared → Prop}
    (F : Fr h₀ L s.heap m) (N : News h₀ L s.heap led) (P : Pick src (listOf #[.int x t, .int y u] n) led news) (B : Below A₀ base [] h₀) (XB : (Mine.hd.heap_1 w.params).In base) (TB : Top vw lz mean mg mb base) (X : (Mine.hd.heap_1 w.params).In h₀) (T : Top vw lz mean mg mb h₀) (hk : cs.kind = .function)
    (hsep : ∀ p ∈ news, p.1 ≠ src)
    (hx : 0 ≤ x) (hy : 0 ≤ y) (hy2 : y < 2147483647) (hd : dp + 60 < recursionLimit) (hu : un + 600 < cLine)
    (hret : ∀ x' y' t' u' h' tk', Fr h₀ L h' m → News h₀ L h' ((src, listOf #[.int x' t', .int y' u'] n) :: news) → 0 ≤ x' → 0 ≤ y' → y' < 2147483647 → Q (.bool true) { s with heap := h', toks := tk' }) :
    wpAny (model PySem.Challenge.rw_xm0579_01.row.prog w) (ktrTop dp un gd cn cs L a ccd cl []) (call (.ref 160) [.ref src]) Q E s :=
  right_spec w mean mg mb dp un gd cn cs a ccd cl A₀ base h₀ L m news s src x y t u n Q E XB TB B F X (P.news N) T hk hsep hx hy hy2 hd hu hret
theorem lines_21_2 : True := by
  k_with "call ref" => (k_here; (with_reducible show wpAny _ _ (call (Value.ref 141) _) _ _ _); k_dflt (
        refine' types_use ?zzkF ?zzkN ?zzkP ?zzkB ?zzkX ?zzkT ?zzkK ?zzksep ?zzkx ?zzky ?zzky2 ?zzkd ?zzku ?_
        (case zzkF => k_asm)
        (case zzkN => k_asm)
        (case zzkP => k_extra "m:pick")
        (case zzkB => k_asm)
        (case zzkX => k_asm)
        (case zzkT => k_asm)
        (case zzkK => first | exact rfl | assumption)
        (case zzksep => k_all)
        (case zzkx => first | assumption | k_extra "m:int0")
        (case zzky => first | assumption | k_extra "m:int0")
        (case zzky2 => first | assumption | exact Int.fmod_lt_of_pos _ (by decide))
        (case zzkd => ktr_room)
        (case zzku => ktr_units)
        (intro x' y' t' u' h' tk' F' N' hx' hy' hy2')
        (try k_fold)))
  k_with "call ref" => (k_here; (with_reducible show wpAny _ _ (call (Value.ref 160) _) _ _ _); k_dflt (
        refine' right_use ?zzkF ?zzkN ?zzkP ?zzkB ?zzkXB ?zzkTB ?zzkX ?zzkT ?zzkK ?zzksep ?zzkx ?zzky ?zzky2 ?zzkd ?zzku ?_
        (case zzkF => k_asm)
        (case zzkN => k_asm)
        (case zzkP => k_extra "m:pick")
        (case zzkB => k_asm)
        (case zzkXB => k_asm)
        (case zzkTB => k_asm)
        (case zzkX => k_asm)
        (case zzkT => k_asm)
        (case zzkK => first | exact rfl | assumption)
        (case zzksep => k_all)
        (case zzkx => first | assumption | k_extra "m:int0")
        (case zzky => first | assumption | k_extra "m:int0")
        (case zzky2 => first | assumption | exact Int.fmod_lt_of_pos _ (by decide))
        (case zzkd => ktr_room)
        (case zzku => ktr_units)
        (intro x' y' t' u' h' tk' F' N' hx' hy' hy2')
        (try k_fold)))
  exact trivial
theorem ne_lists {prog : Program} {w : World} {A : Around} {E : Value → Shared → Prop} {s : Shared} {h₀ : Heap} {L a b : Addr} {led : List (Addr × Obj)} {Q : Value → Shared → Prop} {as bs : Array Value} {k k2 : Nat}
    (N : News h₀ L s.heap led) (ha : (a, listOf as k) ∈ led) (hb : (b, listOf bs k2) ∈ led) (e : as = bs) (hu : A.units < cLine) (h : Q (.bool false) s) : wpAny (model prog w) A (compareOp .NotEq (.ref a) (.ref b)) Q E s := by
  subst e
  refine PySem.SeqAt.RcNeAt.lists (e := fun _ => true) (isList_of N ha) (isList_of N hb) rfl hu (fun j _ _ => PySem.SeqAt.EqAt.same _) prog w E Q ?_
  have : (List.range as.size).all (fun _ => true) = true := by simp
  rw [this]
  exact h
theorem lines_21_3 : True := by
  k_with "compareOp NotEq ref ref" => (k_here; (with_reducible show wpAny _ _ (compareOp CmpOp.NotEq (Value.ref _) (Value.ref _)) _ _ _); k_dflt (refine' ne_lists ?zzN ?zza ?zzb ?zze ?zzu ?_; (case zzN => k_asm); (case zza => k_mem); (case zzb => k_mem); (case zze => rfl); (case zzu => ktr_units); k_whole))
  k_with "m:ty" => (refine' TyIn.tup2 ?zzh1 ?zzh2 (TyIn.adt0 ?zzh3 ?zzh4) (TyIn.adt0 ?zzh5 ?zzh6); (case zzh1 => k_mem); (case zzh2 => k_mem); (case zzh3 => k_mem); (case zzh4 => k_mem); (case zzh5 => k_mem); (case zzh6 => k_mem))
  k_with "call ref" => (k_here; (with_reducible show wpAny _ _ (call (Value.ref 101) _) _ _ _); k_dflt (
        refine' adts_use ?zzkB ?zzkF ?zzkX ?zzkN ?zzkT ?zzkK ?zzkR ?zzks ?zzkd ?zzku ?_
        (case zzkB => k_asm)
        (case zzkF => k_asm)
        (case zzkX => k_asm)
        (case zzkN => k_asm)
        (case zzkT => k_asm)
        (case zzkK => first | exact rfl | assumption)
        (case zzkR => k_extra "m:ty")
        (case zzks => (simp only [Ty.size]; omega))
        (case zzkd => ktr_room)
        (case zzku => ktr_units)
        (intro l' n' h' tk' F' N' l1)
        (try k_lt l1)
        (try k_fold)))
  exact trivial
noncomputable def LInv (sc : Addr) (I : Addr) (i : Nat) (m : Str → Option Value) (l : List (Addr × Obj)) : Prop := l = [] ∧ m (Str.ofString "script") = some (.ref sc)
set_option maxRecDepth 100000 in
set_option maxHeartbeats 8000000 in
theorem law_holds : PySem.Challenge.rw_xm0579_01.Holds := Mine.hd (by
  k_go0
  k_steps
  refine held ?_
  refine' iter_range_inv (LInv _) rfl (by assumption) ?h1 ?h2 (by assumption) (news := []) (fun _ hp => nomatch hp) ?init ?turn ?done
  case h1 => (split <;> (try split) <;> omega)
  case h2 => (split <;> (try split) <;> omega)
  case init => exact fun I l1 => ⟨rfl, by rfl⟩
  case turn =>
    rintro I n i m led t h tk hn hi ⟨rfl, hm⟩ F N
    k_steps
    all_goals
      (rename News _ _ _ _ => NE)
      refine' held ⟨_, _, _, [], rfl, ?F, ?N, (fun _ hp => nomatch hp), rfl, ?m⟩
      (case F => assumption)
      (case N => (intro p hp; obtain rfl := List.mem_singleton.mp hp; exact NE _ (.tail _ (.head _))))
      (case m => exact (if_neg (by decide)).trans ((if_neg (by decide)).trans hm))
  case done =>
    rintro I n m led h tk hn ⟨rfl, hm⟩ F N
    k_steps)
end Mine
theorem PySem.Challenge.cw_xm0579_01_holds : PySem.Challenge.rw_xm0579_01.Holds := by
  exact Mine.law_holds
